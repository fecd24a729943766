import PyProof.Rows.All
import Wide.All
import OpenK.AllK
import Wide.FinOn
import HandS.ForMost
import HandS.IsInst
import HandS.Wide
import HandS.Walk
import HandS.Ends
import HandS.TupAny
import KE.KTupSum
import HandS.Conv
import PyProof.ReprBulk
import PyProof.FitsInt
import KE.GoesMore
import HandS.Zip
import HandS.Star
import HandS.Style
import HandS.SortRule
import HandS.Property
import HandS.Codes
import HandS.SetKeys
import HandS.Dict
import HandS.Text
import HandS.SetFor
import HandS.WideMore
import KE.GoesZip
import KE.GoesEnum
import HandS.SortInts
import HandS.More
import HandS.TupMul
import KE.KDictZip
import HandS.DictTup
import HandS.ListItems
import PyProof.DictMoreH
import HandS.MakeKwOnly
import HandS.Flt
import KE.DatumOrd
import HandS.Deep
import HandS.OwnEq
import PyProof.InstNe
import PySem.Challenge.RW_queueloops_k00_devices_as_they_are_told
set_option Elab.async false
set_option linter.all false
set_option maxRecDepth 100000
set_option maxHeartbeats 8000000
namespace DL
open PySem L2
inductive D where
  | non | bl (b : Bool) | int (i : Int) | str (x : Str) | tup (xs : List D) | lst (xs : List D) | scr (xs : List D) | ob (f : Hp → V → Prop)
  | ins (c : Str) (ns : List Str) (xs : List D) | dk (ks : List Key) (xs : List D) | dt (ks : List (List Key)) (xs : List D)
/-- the class of that name -/
def clsA (K : PySem.W.Frag) (c : Str) : Addr := match PySem.W.nsIn K mainGlobals c with
  | some (some (.ref C)) => C
  | _ => 0
theorem clsA_of {K : PySem.W.Frag} {c : Str} {C : Addr} (h : PySem.W.nsIn K mainGlobals c = some (some (.ref C))) : clsA K c = C := by
  unfold clsA
  rw [h]
mutual
def Dq (K : PySem.W.Frag) (H : Hp) : D → V → Prop
  | .non, v => v = .non
  | .bl b, v => v = .bl b
  | .int i, v => v = .int i
  | .str x, v => v = .str x
  | .tup ds, v => ∃ a xs, v = .ref a ∧ SqT K H a xs ∧ DqA K H ds xs
  | .lst ds, v => ∃ a xs, v = .ref a ∧ H a = some (.lst xs) ∧ DqA K H ds xs
  | .scr ds, v => ∃ a xs, v = .ref a ∧ SqL K H a xs ∧ DqA K H ds xs
  | .ob f, v => ∀ H', Same H H' → f H' v
  | .ins C ns ds, v => ∃ a dx xs, v = .ref a ∧ H a = some (.ins (clsA K C) dx (ns.zip xs)) ∧ ns.length = ds.length ∧ DqA K H ds xs
  | .dk ks ds, v => ∃ a xs, v = .ref a ∧ H a = some (.dK (ks.zip xs)) ∧ ks.length = ds.length ∧ DqA K H ds xs
  | .dt ks ds, v => ∃ a xs, v = .ref a ∧ H a = some (.dT (ks.zip xs)) ∧ ks.length = ds.length ∧ DqA K H ds xs
def DqA (K : PySem.W.Frag) (H : Hp) : List D → List V → Prop
  | [], xs => xs = []
  | d :: ds, xs => ∃ x r, xs = x :: r ∧ Dq K H d x ∧ DqA K H ds r
end
section
variable {K : PySem.W.Frag} {H H' : Hp}
theorem Same.rd {a : Addr} {u : HO} (e : Same H H') (h : Rd H a u) : Rd H' a u := by
  rcases h with h | ⟨o, h⟩
  · exact .inl (e _ _ h)
  · exact .inr ⟨o, e _ _ h⟩
theorem Same.sqt {a : Addr} {xs : List V} (e : Same H H') (h : SqT K H a xs) : SqT K H' a xs := by
  rcases h with h | h
  · exact .inl (Same.rd e h)
  · exact .inr h
mutual
theorem Dq.mono (e : Same H H') : ∀ (d : D) (v : V), Dq K H d v → Dq K H' d v
  | .non, v, h => h
  | .bl b, v, h => h
  | .int i, v, h => h
  | .str x, v, h => h
  | .tup ds, v, h => by
    obtain ⟨a, xs, h1, h2, h3⟩ := h
    exact ⟨a, xs, h1, Same.sqt e h2, DqA.mono e ds xs h3⟩
  | .lst ds, v, h => by
    obtain ⟨a, xs, h1, h2, h3⟩ := h
    exact ⟨a, xs, h1, e _ _ h2, DqA.mono e ds xs h3⟩
  | .scr ds, v, h => by
    obtain ⟨a, xs, h1, h2, h3⟩ := h
    exact ⟨a, xs, h1, e.seq h2, DqA.mono e ds xs h3⟩
  | .ob f, v, h => fun H2 e2 => h H2 (e.trans e2)
  | .ins C ns ds, v, h => by
    obtain ⟨a, dx, xs, h1, h2, h3, h4⟩ := h
    exact ⟨a, dx, xs, h1, e _ _ h2, h3, DqA.mono e ds xs h4⟩
  | .dk ks ds, v, h => by
    obtain ⟨a, xs, h1, h2, h3, h4⟩ := h
    exact ⟨a, xs, h1, e _ _ h2, h3, DqA.mono e ds xs h4⟩
  | .dt ks ds, v, h => by
    obtain ⟨a, xs, h1, h2, h3, h4⟩ := h
    exact ⟨a, xs, h1, e _ _ h2, h3, DqA.mono e ds xs h4⟩
theorem DqA.mono (e : Same H H') : ∀ (ds : List D) (xs : List V), DqA K H ds xs → DqA K H' ds xs
  | [], xs, h => h
  | d :: ds, xs, h => by
    obtain ⟨x, r, h1, h2, h3⟩ := h
    exact ⟨x, r, h1, Dq.mono e d x h2, DqA.mono e ds r h3⟩
end
theorem DqA.length : ∀ {ds : List D} {xs : List V}, DqA K H ds xs → xs.length = ds.length
  | [], xs, h => by
    have e : xs = [] := h
    rw [e]
    rfl
  | d :: ds, xs, h => by
    obtain ⟨x, r, h1, h2, h3⟩ := h
    rw [h1, List.length_cons, List.length_cons, DqA.length h3]
theorem DqA.get : ∀ {ds : List D} {xs : List V} {i : Nat} {d : D}, DqA K H ds xs → ds[i]? = some d → ∃ x, xs[i]? = some x ∧ Dq K H d x
  | [], xs, i, d, h, e => by simp at e
  | d0 :: ds, xs, 0, d, h, e => by
    obtain ⟨x, r, h1, h2, h3⟩ := h
    simp at e
    subst e
    exact ⟨x, by rw [h1]; rfl, h2⟩
  | d0 :: ds, xs, i + 1, d, h, e => by
    obtain ⟨x, r, h1, h2, h3⟩ := h
    obtain ⟨y, e1, e2⟩ := DqA.get (i := i) h3 (by simpa using e)
    exact ⟨y, by rw [h1]; simpa using e1, e2⟩
theorem DqA.append : ∀ {ds es : List D} {xs ys : List V}, DqA K H ds xs → DqA K H es ys → DqA K H (ds ++ es) (xs ++ ys)
  | [], es, xs, ys, h, q => by
    have e2 : xs = [] := h
    rw [e2]
    exact q
  | d :: ds, es, xs, ys, h, q => by
    obtain ⟨x, r, h1, h2, h3⟩ := h
    subst h1
    exact ⟨x, r ++ ys, rfl, h2, DqA.append h3 q⟩
theorem DqA.set : ∀ {ds : List D} {xs : List V} {i : Nat} {d : D} {x : V}, DqA K H ds xs → Dq K H d x → DqA K H (ds.set i d) (xs.set i x)
  | [], xs, i, d, x, h, q => by
    have e2 : xs = [] := h
    rw [e2]
    rfl
  | d0 :: ds, xs, 0, d, x, h, q => by
    obtain ⟨y, r, h1, h2, h3⟩ := h
    subst h1
    exact ⟨x, r, rfl, q, h3⟩
  | d0 :: ds, xs, i + 1, d, x, h, q => by
    obtain ⟨y, r, h1, h2, h3⟩ := h
    subst h1
    exact ⟨y, r.set i x, rfl, h2, DqA.set h3 q⟩
theorem DqA.drop : ∀ {ds : List D} {xs : List V} (n : Nat), DqA K H ds xs → DqA K H (ds.drop n) (xs.drop n)
  | ds, xs, 0, h => h
  | [], xs, n + 1, h => by
    have e2 : xs = [] := h
    rw [e2]
    rfl
  | d :: ds, xs, n + 1, h => by
    obtain ⟨x, r, h1, h2, h3⟩ := h
    subst h1
    exact DqA.drop n h3
theorem DqA.take : ∀ {ds : List D} {xs : List V} (n : Nat), DqA K H ds xs → DqA K H (ds.take n) (xs.take n)
  | ds, xs, 0, h => by
    rw [List.take_zero, List.take_zero]
    rfl
  | [], xs, n + 1, h => by
    have e2 : xs = [] := h
    rw [e2]
    rfl
  | d :: ds, xs, n + 1, h => by
    obtain ⟨x, r, h1, h2, h3⟩ := h
    subst h1
    exact ⟨x, r.take n, rfl, h2, DqA.take n h3⟩
theorem dqa_ints : ∀ (ns : List Int), DqA K H (ns.map D.int) (ns.map V.int)
  | [] => rfl
  | n :: ns => ⟨.int n, ns.map V.int, rfl, rfl, dqa_ints ns⟩
theorem of_dqa_ints : ∀ (ns : List Int) (xs : List V), DqA K H (ns.map D.int) xs → xs = ns.map V.int
  | [], xs, h => h
  | n :: ns, xs, h => by
    obtain ⟨x, r, h1, h2, h3⟩ := h
    have e : x = .int n := h2
    rw [h1, e, of_dqa_ints ns r h3]
    rfl
theorem of_dqa_bls : ∀ (ns : List Bool) (xs : List V), DqA K H (ns.map D.bl) xs → xs = ns.map V.bl
  | [], xs, h => h
  | n :: ns, xs, h => by
    obtain ⟨x, r, h1, h2, h3⟩ := h
    have e : x = .bl n := h2
    rw [h1, e, of_dqa_bls ns r h3]
    rfl
end
/-- the kind of a node -/
inductive NK where
  | ins (c : Str) (dx : Addr) (ns : List Str)
  | dk (ks : List Key)
  | dt (ks : List (List Key))
  | ls
def NK.cell (K : PySem.W.Frag) : NK → List V → HO
  | .ins C dx ns, vs => .ins (clsA K C) dx (ns.zip vs)
  | .dk ks, vs => .dK (ks.zip vs)
  | .dt ks, vs => .dT (ks.zip vs)
  | .ls, vs => .lst vs
def NK.lenOk : NK → Nat → Prop
  | .ins _ _ ns, n => ns.length = n
  | .dk ks, n => ks.length = n ∧ ks.Nodup
  | .dt ks, n => ks.length = n ∧ ks.Nodup
  | .ls, _ => True
def NK.dxs : NK → List Addr
  | .ins _ dx _ => [dx]
  | _ => []
def NK.dxOk (H : Hp) (p : Addr) : NK → Prop
  | .ins _ dx _ => H dx = some (.own p)
  | _ => True
def NK.d : NK → List D → D
  | .ins C _ ns, ds => .ins C ns ds
  | .dk ks, ds => .dk ks ds
  | .dt ks, ds => .dt ks ds
  | .ls, ds => .lst ds
inductive Sl where
  | no
  | pu (d : D)
  | ow (p : Addr) (xs : List D)
  | nd (p : Addr) (k : NK) (ts : List Sl)
abbrev Ss := List Sl
mutual
def Sl.d : Sl → D
  | .no => .ob fun _ _ => True
  | .pu d => d
  | .ow _ xs => .lst xs
  | .nd _ k ts => k.d (dsA ts)
def dsA : List Sl → List D
  | [] => []
  | t :: ts => t.d :: dsA ts
end
theorem dsA_len : ∀ ts : List Sl, (dsA ts).length = ts.length
  | [] => by
    unfold dsA
    rfl
  | t :: ts => by
    unfold dsA
    rw [List.length_cons, List.length_cons, dsA_len ts]
mutual
/-- its own objects -/
def fp : Sl → List Addr
  | .no => []
  | .pu _ => []
  | .ow p _ => [p]
  | .nd p k ts => p :: (k.dxs ++ fpA ts)
def fpA : List Sl → List Addr
  | [] => []
  | t :: ts => fp t ++ fpA ts
end
mutual
def SlOk (K : PySem.W.Frag) (F H : Hp) : Sl → Option V → Prop
  | .no, _ => True
  | .pu d, o => ∃ v, o = some v ∧ Dq K F d v
  | .ow p xs, o => o = some (.ref p) ∧ F p = none ∧ ∃ vs, H p = some (.lst vs) ∧ DqA K F xs vs
  | .nd p k ts, o => o = some (.ref p) ∧ F p = none ∧ (∀ x, x ∈ k.dxs → F x = none) ∧ k.dxOk H p ∧ k.lenOk ts.length ∧ ∃ vs, H p = some (k.cell K vs) ∧ SlOkA K F H ts vs
def SlOkA (K : PySem.W.Frag) (F H : Hp) : List Sl → List V → Prop
  | [], xs => xs = []
  | t :: ts, xs => ∃ x r, xs = x :: r ∧ SlOk K F H t (some x) ∧ SlOkA K F H ts r
end
def Own (s : Ss) (p : Addr) : Prop := ∃ (i : Nat) (l : Sl), s[i]? = some l ∧ p ∈ fp l
structure StOk (K : PySem.W.Frag) (F H : Hp) (σ : L2.St) (s : Ss) : Prop where
  le : Same F H
  len : σ.length = s.length
  ok : ∀ (i : Nat) (l : Sl) (o : Option V), s[i]? = some l → σ[i]? = some o → SlOk K F H l o
  un : ∀ (i j : Nat) (l m : Sl) (p : Addr), s[i]? = some l → s[j]? = some m → p ∈ fp l → p ∈ fp m → i = j
  nd : ∀ (i : Nat) (l : Sl), s[i]? = some l → (fp l).Nodup
/-- from the state s with F, H to s' with F', H' -/
structure Step (K : PySem.W.Frag) (s : Ss) (F H : Hp) (s' : Ss) (F' H' : Hp) (σ' : L2.St) : Prop where
  st : StOk K F' H' σ' s'
  f : Same F F'
  k : ∀ a o, H a = some o → ¬ Own s a → H' a = some o
  t : ∀ a, H' a = none → H a = none
  n : ∀ a, F' a ≠ none → F a ≠ none ∨ H a = none ∨ Own s a
  o : ∀ p, Own s' p → Own s p ∨ H p = none
/-- a result -/
structure Rs (K : PySem.W.Frag) (s : Ss) (H F' H' : Hp) (s' : Ss) (r : Sl) (v : V) : Prop where
  ok : SlOk K F' H' r (some v)
  fr : ∀ p, p ∈ fp r → (H p = none ∨ Own s p) ∧ ¬ Own s' p
  nd : (fp r).Nodup
/-- new objects alone -/
structure Lf (K : PySem.W.Frag) (F H : Hp) (r : Sl) (v : V) (F' H' : Hp) : Prop where
  f : Same F F'
  h : Same H H'
  le : Same F' H'
  n : ∀ a, F' a ≠ none → F a ≠ none ∨ H a = none
  ok : SlOk K F' H' r (some v)
  fr : ∀ p, p ∈ fp r → H p = none
  nd : (fp r).Nodup
section
variable {K : PySem.W.Frag} {F H F' H' F1 H1 F2 H2 : Hp} {s s' s1 s2 : Ss} {σ σ' σ1 σ2 : L2.St} {r : Sl} {v : V}
theorem fp_pu (d : D) : fp (.pu d) = [] := by unfold fp; rfl
theorem fp_no : fp .no = [] := by unfold fp; rfl
theorem fp_ow (p : Addr) (xs : List D) : fp (.ow p xs) = [p] := by unfold fp; rfl
theorem fp_nd (p : Addr) (k : NK) (ts : List Sl) : fp (.nd p k ts) = p :: (k.dxs ++ fpA ts) := by rw [fp]
theorem mem_ow {p q : Addr} {xs : List D} : q ∈ fp (.ow p xs) ↔ q = p := by rw [fp_ow, List.mem_singleton]
theorem slok_pu {d : D} {o : Option V} : SlOk K F H (.pu d) o ↔ ∃ v, o = some v ∧ Dq K F d v := by rw [SlOk]
theorem slok_ow {p : Addr} {xs : List D} {o : Option V} : SlOk K F H (.ow p xs) o ↔ o = some (.ref p) ∧ F p = none ∧ ∃ vs, H p = some (.lst vs) ∧ DqA K F xs vs := by rw [SlOk]
theorem slok_nd {p : Addr} {k : NK} {ts : List Sl} {o : Option V} : SlOk K F H (.nd p k ts) o ↔ o = some (.ref p) ∧ F p = none ∧ (∀ x, x ∈ k.dxs → F x = none) ∧ k.dxOk H p ∧ k.lenOk ts.length ∧ ∃ vs, H p = some (k.cell K vs) ∧ SlOkA K F H ts vs := by rw [SlOk]
mutual
theorem SlOk.mono : ∀ (r : Sl) {o : Option V}, Same F F' → (∀ p, p ∈ fp r → ∀ u, F p = none → H p = some u → F' p = none ∧ H' p = some u) → SlOk K F H r o → SlOk K F' H' r o
  | .no, o, e, h, q => by
    unfold SlOk
    trivial
  | .pu d, o, e, h, q => by
    rw [slok_pu] at q ⊢
    obtain ⟨v, h1, h2⟩ := q
    exact ⟨v, h1, Dq.mono e _ _ h2⟩
  | .ow p xs, o, e, h, q => by
    rw [slok_ow] at q ⊢
    obtain ⟨h1, h2, vs, h3, h4⟩ := q
    obtain ⟨g1, g2⟩ := h p (mem_ow.mpr rfl) _ h2 h3
    exact ⟨h1, g1, vs, g2, DqA.mono e _ _ h4⟩
  | .nd p k ts, o, e, h, q => by
    rw [slok_nd] at q ⊢
    obtain ⟨h1, h2, h5, h6, h7, vs, h3, h4⟩ := q
    have hf := fp_nd p k ts
    obtain ⟨g1, g2⟩ := h p (by rw [hf]; exact List.mem_cons_self) _ h2 h3
    have hx : ∀ x, x ∈ k.dxs → x ∈ fp (.nd p k ts) := fun x hx => by
      rw [hf]
      exact List.mem_cons_of_mem _ (List.mem_append_left _ hx)
    refine ⟨h1, g1, ?_, ?_, h7, vs, g2, SlOkA.mono ts e (fun q hq => h q (by rw [hf]; exact List.mem_cons_of_mem _ (List.mem_append_right _ hq))) h4⟩
    · intro x hm
      cases k with
      | ins C dx ns =>
        cases List.mem_singleton.mp hm
        exact (h _ (hx _ hm) _ (h5 _ hm) h6).1
      | dk ks => cases hm
      | dt ks => cases hm
      | ls => cases hm
    · cases k with
      | ins C dx ns => exact (h dx (hx _ (List.mem_singleton.mpr rfl)) _ (h5 _ (List.mem_singleton.mpr rfl)) h6).2
      | dk ks => trivial
      | dt ks => trivial
      | ls => trivial
theorem SlOkA.mono : ∀ (ts : List Sl) {vs : List V}, Same F F' → (∀ p, p ∈ fpA ts → ∀ u, F p = none → H p = some u → F' p = none ∧ H' p = some u) → SlOkA K F H ts vs → SlOkA K F' H' ts vs
  | [], vs, e, h, q => by
    rw [SlOkA] at q ⊢
    exact q
  | t :: ts, vs, e, h, q => by
    rw [SlOkA] at q ⊢
    obtain ⟨x, r, h1, h2, h3⟩ := q
    exact ⟨x, r, h1, SlOk.mono t e (fun p hp => h p (by rw [fpA]; exact List.mem_append_left _ hp)) h2, SlOkA.mono ts e (fun p hp => h p (by rw [fpA]; exact List.mem_append_right _ hp)) h3⟩
end
mutual
/-- what it owns stands, and is not frozen -/
theorem SlOk.own : ∀ (r : Sl) {o : Option V} {p : Addr}, SlOk K F H r o → p ∈ fp r → F p = none ∧ ∃ u, H p = some u
  | .no, o, p, q, h => by
    rw [fp_no] at h
    cases h
  | .pu d, o, p, q, h => by
    rw [fp_pu] at h
    cases h
  | .ow a xs, o, p, q, h => by
    rw [slok_ow] at q
    obtain ⟨h1, h2, vs, h3, h4⟩ := q
    cases mem_ow.mp h
    exact ⟨h2, _, h3⟩
  | .nd a k ts, o, p, q, h => by
    rw [slok_nd] at q
    obtain ⟨h1, h2, h5, h6, h7, vs, h3, h4⟩ := q
    rw [fp_nd] at h
    rcases List.mem_cons.mp h with z | z
    · subst z
      exact ⟨h2, _, h3⟩
    · rcases List.mem_append.mp z with y | y
      · refine ⟨h5 _ y, ?_⟩
        cases k with
        | ins C dx ns =>
          cases List.mem_singleton.mp y
          exact ⟨_, h6⟩
        | dk ks => cases y
        | dt ks => cases y
        | ls => cases y
      · exact SlOkA.own ts h4 y
theorem SlOkA.own : ∀ (ts : List Sl) {vs : List V} {p : Addr}, SlOkA K F H ts vs → p ∈ fpA ts → F p = none ∧ ∃ u, H p = some u
  | [], vs, p, q, h => by
    rw [fpA] at h
    cases h
  | t :: ts, vs, p, q, h => by
    rw [SlOkA] at q
    obtain ⟨x, r, h1, h2, h3⟩ := q
    rw [fpA] at h
    rcases List.mem_append.mp h with z | z
    · exact SlOk.own t h2 z
    · exact SlOkA.own ts h3 z
end
mutual
/-- frozen -/
theorem SlOk.frz : ∀ (r : Sl) {v : V}, Same F F' → (∀ p, p ∈ fp r → ∀ u, H p = some u → F' p = some u) → SlOk K F H r (some v) → Dq K F' r.d v
  | .no, v, e, h, q => by
    unfold Sl.d Dq
    exact fun _ _ => trivial
  | .pu d, v, e, h, q => by
    rw [slok_pu] at q
    obtain ⟨w, h1, h2⟩ := q
    cases h1
    unfold Sl.d
    exact Dq.mono e _ _ h2
  | .ow p xs, v, e, h, q => by
    rw [slok_ow] at q
    obtain ⟨h1, h2, vs, h3, h4⟩ := q
    cases h1
    unfold Sl.d Dq
    exact ⟨p, vs, rfl, h p (mem_ow.mpr rfl) _ h3, DqA.mono e _ _ h4⟩
  | .nd p k ts, v, e, h, q => by
    rw [slok_nd] at q
    obtain ⟨h1, h2, h5, h6, h7, vs, h3, h4⟩ := q
    cases h1
    have hf := fp_nd p k ts
    have hp := h p (by rw [hf]; exact List.mem_cons_self) _ h3
    have ih := SlOkA.frz ts e (fun q hq => h q (by rw [hf]; exact List.mem_cons_of_mem _ (List.mem_append_right _ hq))) h4
    unfold Sl.d
    cases k with
    | ins C dx ns =>
      unfold NK.d Dq
      exact ⟨p, dx, vs, rfl, hp, by rw [dsA_len]; exact h7, ih⟩
    | dk ks =>
      unfold NK.d Dq
      exact ⟨p, vs, rfl, hp, by rw [dsA_len]; exact h7.1, ih⟩
    | dt ks =>
      unfold NK.d Dq
      exact ⟨p, vs, rfl, hp, by rw [dsA_len]; exact h7.1, ih⟩
    | ls =>
      unfold NK.d Dq
      exact ⟨p, vs, rfl, hp, ih⟩
theorem SlOkA.frz : ∀ (ts : List Sl) {vs : List V}, Same F F' → (∀ p, p ∈ fpA ts → ∀ u, H p = some u → F' p = some u) → SlOkA K F H ts vs → DqA K F' (dsA ts) vs
  | [], vs, e, h, q => by
    rw [SlOkA] at q
    unfold dsA DqA
    exact q
  | t :: ts, vs, e, h, q => by
    rw [SlOkA] at q
    obtain ⟨x, r, h1, h2, h3⟩ := q
    unfold dsA DqA
    exact ⟨x, r, h1, SlOk.frz t e (fun p hp => h p (by rw [fpA]; exact List.mem_append_left _ hp)) h2, SlOkA.frz ts e (fun p hp => h p (by rw [fpA]; exact List.mem_append_right _ hp)) h3⟩
end
theorem StOk.get (ok : StOk K F H σ s) {i : Nat} {l : Sl} (h : s[i]? = some l) : ∃ o, σ[i]? = some o ∧ SlOk K F H l o := by
  have hi : i < s.length := (List.getElem?_eq_some_iff.mp h).1
  have hi2 : i < σ.length := by
    rw [ok.len]
    exact hi
  have e : σ[i]? = some σ[i] := List.getElem?_eq_getElem hi2
  exact ⟨_, e, ok.ok i l _ h e⟩
theorem StOk.own (ok : StOk K F H σ s) {p : Addr} (h : Own s p) : F p = none ∧ ∃ o, H p = some o := by
  obtain ⟨i, l, e, hp⟩ := h
  obtain ⟨o, _, h1⟩ := ok.get e
  exact SlOk.own l h1 hp
theorem Step.refl (ok : StOk K F H σ s) : Step K s F H s F H σ where
  st := ok
  f := Same.refl F
  k := fun _ _ h _ => h
  t := fun _ h => h
  n := fun _ h => .inl h
  o := fun _ h => .inl h
theorem Step.trans (a : Step K s F H s1 F1 H1 σ1) (b : Step K s1 F1 H1 s2 F2 H2 σ2) : Step K s F H s2 F2 H2 σ2 where
  st := b.st
  f := a.f.trans b.f
  k := fun x o h hn => b.k x o (a.k x o h hn) fun q => by
    rcases a.o x q with z | z
    · exact hn z
    · rw [h] at z
      cases z
  t := fun x h => a.t x (b.t x h)
  n := fun x h => by
    rcases b.n x h with z | z | z
    · exact a.n x z
    · exact .inr (.inl (a.t x z))
    · rcases a.o x z with y | y
      · exact .inr (.inr y)
      · exact .inr (.inl y)
  o := fun x h => by
    rcases b.o x h with z | z
    · exact a.o x z
    · exact .inr (a.t x z)
/-- what is not owned and stands, stands unfrozen behind a step -/
theorem Step.unf (b : Step K s1 F1 H1 s2 F2 H2 σ2) {p : Addr} {u : HO} (h1 : F1 p = none) (h2 : H1 p = some u) (hn : ¬ Own s1 p) : F2 p = none ∧ H2 p = some u := by
  refine ⟨?_, b.k p _ h2 hn⟩
  cases q : F2 p with
  | none => rfl
  | some o =>
    rcases b.n p (by rw [q]; intro z; cases z) with z | z | z
    · exact absurd h1 z
    · rw [h2] at z
      cases z
    · exact absurd z hn
/-- a result stays through a further step -/
theorem Rs.keep (r1 : Rs K s H F1 H1 s1 r v) (b : Step K s1 F1 H1 s2 F2 H2 σ2) : Rs K s H F2 H2 s2 r v where
  ok := SlOk.mono r b.f (fun p hp u h1 h2 => b.unf h1 h2 (r1.fr p hp).2) r1.ok
  fr := fun p hp => by
    refine ⟨(r1.fr p hp).1, fun q => ?_⟩
    rcases b.o p q with z | z
    · exact (r1.fr p hp).2 z
    · obtain ⟨_, u, h3⟩ := SlOk.own r r1.ok hp
      rw [h3] at z
      cases z
  nd := r1.nd
/-- F with the objects of a tree, as they stand in H -/
def frzF (F H : Hp) (l : List Addr) : Hp := fun b => if b ∈ l then H b else F b
theorem frzF_in {l : List Addr} {b : Addr} (h : b ∈ l) : frzF F H l b = H b := by
  unfold frzF
  rw [if_pos h]
theorem frzF_out {l : List Addr} {b : Addr} (h : b ∉ l) : frzF F H l b = F b := by
  unfold frzF
  rw [if_neg h]
theorem same_frz (hf : ∀ p, p ∈ fp r → F p = none) : Same F (frzF F H (fp r)) := fun b o q => by
  by_cases hb : b ∈ fp r
  · rw [hf b hb] at q
    cases q
  · rw [frzF_out hb]
    exact q
theorem frz_same (le : Same F H) {l : List Addr} : Same (frzF F H l) H := fun b o q => by
  by_cases hb : b ∈ l
  · rw [frzF_in hb] at q
    exact q
  · rw [frzF_out hb] at q
    exact le b o q
/-- a new tree is from now on a value -/
theorem Step.freeze (a : Step K s F H s1 F1 H1 σ1) (r1 : Rs K s H F1 H1 s1 r v) : ∃ F2, Step K s F H s1 F2 H1 σ1 ∧ Same F1 F2 ∧ Dq K F2 r.d v := by
  have e1 : Same F1 (frzF F1 H1 (fp r)) := same_frz fun p hp => (SlOk.own r r1.ok hp).1
  refine ⟨frzF F1 H1 (fp r), ⟨⟨frz_same a.st.le, a.st.len, fun i l o q1 q2 => ?_, a.st.un, a.st.nd⟩, a.f.trans e1, a.k, a.t, fun b hb => ?_, a.o⟩, e1, SlOk.frz r e1 (fun p hp u h => by rw [frzF_in hp]; exact h) r1.ok⟩
  · refine SlOk.mono l e1 (fun q hq us z1 z2 => ⟨?_, z2⟩) (a.st.ok i l o q1 q2)
    rw [frzF_out fun z => (r1.fr q z).2 ⟨i, l, q1, hq⟩]
    exact z1
  · by_cases hb2 : b ∈ fp r
    · rcases (r1.fr b hb2).1 with z | z
      · exact .inr (.inl z)
      · exact .inr (.inr z)
    · rw [frzF_out hb2] at hb
      exact a.n b hb
/-- new objects behind a step -/
theorem Step.leaf (a : Step K s F H s1 F1 H1 σ1) (b : Lf K F1 H1 r v F2 H2) : Step K s F H s1 F2 H2 σ1 ∧ Rs K s H F2 H2 s1 r v := by
  have keep : ∀ p u, F1 p = none → H1 p = some u → F2 p = none ∧ H2 p = some u := fun p u h1 h2 => by
    refine ⟨?_, b.h p _ h2⟩
    cases q : F2 p with
    | none => rfl
    | some o =>
      rcases b.n p (by rw [q]; intro z; cases z) with z | z
      · exact absurd h1 z
      · rw [h2] at z
        cases z
  refine ⟨⟨⟨b.le, a.st.len, fun i l o q1 q2 => SlOk.mono l b.f (fun p _ u h1 h2 => keep p u h1 h2) (a.st.ok i l o q1 q2), a.st.un, a.st.nd⟩, a.f.trans b.f, fun x o h hn => b.h x o (a.k x o h hn), fun x h => a.t x (b.h.free h), fun x h => ?_, a.o⟩, ⟨b.ok, fun p hp => ?_, b.nd⟩⟩
  · rcases b.n x h with z | z
    · exact a.n x z
    · exact .inr (.inl (a.t x z))
  · have z := b.fr p hp
    refine ⟨.inl (a.t p z), fun q => ?_⟩
    obtain ⟨_, vs, h3⟩ := a.st.own q
    rw [h3] at z
    cases z
theorem Lf.same (le : Same F H) (d : D) (v : V) (h : Dq K F d v) : Lf K F H (.pu d) v F H where
  f := Same.refl _
  h := Same.refl _
  le := le
  n := fun _ h => .inl h
  ok := slok_pu.mpr ⟨v, rfl, h⟩
  fr := fun p hp => by
    rw [fp_pu] at hp
    cases hp
  nd := by
    rw [fp_pu]
    exact List.nodup_nil
theorem same_upd {H : Hp} {p : Addr} {o : HO} (h : H p = none) : Same H (upd H p o) := fun b x e => by
  rw [upd_ne (ne_of_none e h)]
  exact e
/-- a new list -/
theorem Lf.newL (le : Same F H) {p : Addr} (hp : H p = none) {xs : List D} {vs : List V} (h : DqA K F xs vs) : Lf K F H (.ow p xs) (.ref p) F (upd H p (.lst vs)) where
  f := Same.refl _
  h := same_upd hp
  le := le.trans (same_upd hp)
  n := fun _ h => .inl h
  ok := slok_ow.mpr ⟨rfl, le.free hp, vs, upd_same, h⟩
  fr := fun q hq => by
    cases mem_ow.mp hq
    exact hp
  nd := by
    rw [fp_ow]
    exact List.pairwise_singleton _ _
/-- a new tuple -/
theorem Lf.newT (le : Same F H) {p : Addr} (hp : H p = none) {xs : List D} {vs : List V} (h : DqA K F xs vs) : Lf K F H (.pu (.tup xs)) (.ref p) (upd F p (.tup vs)) (upd H p (.tup vs)) where
  f := same_upd (le.free hp)
  h := same_upd hp
  le := fun b o q => by
    by_cases hb : b = p
    · subst hb
      rw [upd_same] at q ⊢
      exact q
    · rw [upd_ne hb] at q ⊢
      exact le b o q
  n := fun b hb => by
    by_cases hb2 : b = p
    · subst hb2
      exact .inr hp
    · rw [upd_ne hb2] at hb
      exact .inl hb
  ok := slok_pu.mpr ⟨_, rfl, by rw [Dq]; exact ⟨p, vs, rfl, SqT.of upd_same, DqA.mono (same_upd (le.free hp)) _ _ h⟩⟩
  fr := fun q hq => by
    rw [fp_pu] at hq
    cases hq
  nd := by
    rw [fp_pu]
    exact List.nodup_nil
end
end DL
namespace DL
open PySem L2
abbrev AE := Ss → (Sl → Ss → Prop) → Prop
abbrev AT := Ss → (Bool → Ss → Prop) → Prop
abbrev AA := Ss → (List D → Ss → Prop) → Prop
structure AEnds where
  nx : Ss → Prop
  rt : Sl → Ss → Prop
  bk : Ss → Prop
  ct : Ss → Prop
abbrev AS := AEnds → Ss → Prop
abbrev AG := D → Ss → (Ss → Prop) → Prop
abbrev AGs := List D → Ss → (Ss → Prop) → Prop
abbrev AI := Ss → (List D → Ss → Prop) → Prop
abbrev AR2 := D → D → (Sl → Prop) → Prop
abbrev ARC := List D → (Sl → Prop) → Prop
def Sim (K : PySem.W.Frag) (te : TE) (a : AE) : Prop := ∀ s P, a s P → ∀ σ F H, StOk K F H σ s → ∀ Q : VK,
  (∀ r s' v F' H', P r s' → Step K s F H s' F' H' σ → Rs K s H F' H' s' r v → Q v H') → te σ H Q
def SimT (K : PySem.W.Frag) (tt : TT) (a : AT) : Prop := ∀ s P, a s P → ∀ σ F H, StOk K F H σ s → ∀ Q : Bool → Hp → Prop,
  (∀ b s' F' H', P b s' → Step K s F H s' F' H' σ → Q b H') → tt σ H Q
def SimA (K : PySem.W.Frag) (ta : TA) (a : AA) : Prop := ∀ s P, a s P → ∀ σ F H, StOk K F H σ s → ∀ Q : List V → Hp → Prop,
  (∀ ds s' vs F' H', P ds s' → Step K s F H s' F' H' σ → DqA K F' ds vs → Q vs H') → ta σ H Q
def SimS (K : PySem.W.Frag) (ts : TS) (a : AS) : Prop := ∀ A s, a A s → ∀ σ F H, StOk K F H σ s → ∀ E : Ends,
  (∀ s' σ' F' H', A.nx s' → Step K s F H s' F' H' σ' → E.nx σ' H') →
  (∀ r s' σ' v F' H', A.rt r s' → Step K s F H s' F' H' σ' → Rs K s H F' H' s' r v → E.rt v H') →
  (∀ s' σ' F' H', A.bk s' → Step K s F H s' F' H' σ' → E.bk σ' H') →
  (∀ s' σ' F' H', A.ct s' → Step K s F H s' F' H' σ' → E.ct σ' H') → ts E σ H
/-- a target: L the slots that it stores to -/
def SimG (K : PySem.W.Frag) (g : TG) (a : AG) (L : List Nat) : Prop := ∀ d s P, a d s P → ∀ v σ F H, StOk K F H σ s → Dq K F d v → ∀ Q : L2.St → Hp → Prop,
  (∀ s' σ', P s' → Step K s F H s' F H σ' → (∀ j, j ∉ L → σ'[j]? = σ[j]?) → σ'.length = σ.length → Q σ' H) → g v σ H Q
def SimGs (K : PySem.W.Frag) (g : TGs) (a : AGs) (L : List Nat) : Prop := ∀ ds s P, a ds s P → ∀ vs σ F H, StOk K F H σ s → DqA K F ds vs → ∀ Q : L2.St → Hp → Prop,
  (∀ s' σ', P s' → Step K s F H s' F H σ' → (∀ j, j ∉ L → σ'[j]? = σ[j]?) → σ'.length = σ.length → Q σ' H) → g vs σ H Q
/-- what an iterator gives while F stands -/
def Yields (K : PySem.W.Frag) (J : It) (F : Hp) (ds : List D) : Prop := ∃ (G : Hp → Prop) (Y : Nat → Hp → V → Hp → Prop), Walk J ds.length G Y ∧ (∀ H, Same F H → G H) ∧
  ∀ i H x H', Same F H → Y i H x H' → ∀ d, ds[i]? = some d → ∀ F1, Same F F1 → Same F1 H → ∃ F2, Lf K F1 H (.pu d) x F2 H'
def SimI (K : PySem.W.Frag) (wi : TI) (a : AI) : Prop := ∀ s P, a s P → ∀ σ F H, StOk K F H σ s → ∀ R : It → Hp → Prop,
  (∀ ds s' J F' H', P ds s' → Step K s F H s' F' H' σ → Yields K J F' ds → R J H') → wi σ H R
/-- by values -/
def RD (K : PySem.W.Frag) (r : R2) (a : AR2) : Prop := ∀ d e P, a d e P → ∀ F H x y, Same F H → Dq K F d x → Dq K F e y → ∀ Q : VK, (∀ rs v F' H', P rs → Lf K F H rs v F' H' → Q v H') → r x y H Q
def RC (K : PySem.W.Frag) (r : List V → Hp → VK → Prop) (a : ARC) : Prop := ∀ ds P, a ds P → ∀ F H xs, Same F H → DqA K F ds xs → ∀ Q : VK, (∀ rs v F' H', P rs → Lf K F H rs v F' H' → Q v H') → r xs H Q
section
variable {K : PySem.W.Frag} {te ta tb tc : TE} {a aa ab ac : AE} {F H : Hp} {s : Ss} {σ : L2.St}
theorem Sim.d (h : Sim K te a) {P : Sl → Ss → Prop} (q : a s P) (ok : StOk K F H σ s) {Q : VK} (k : ∀ r s' v F' H', P r s' → Step K s F H s' F' H' σ → Dq K F' r.d v → Q v H') : te σ H Q :=
  h s P q σ F H ok Q fun r s' v F' H' p st rs => by
    obtain ⟨F2, st2, _, d⟩ := st.freeze rs
    exact k r s' v F2 H' p st2 d
theorem Rs.pu {s' : Ss} {F' H' : Hp} {d : D} {v : V} (h : Dq K F' d v) : Rs K s H F' H' s' (.pu d) v  where
  ok := slok_pu.mpr ⟨v, rfl, h⟩
  fr := fun p hp => by
    rw [fp_pu] at hp
    cases hp
  nd := by
    rw [fp_pu]
    exact List.nodup_nil
theorem Rs.more {s' s1 : Ss} {F' H' H1 F1 : Hp} {r : Sl} {v : V} {σ1 : L2.St} (st : Step K s F H s1 F1 H1 σ1) (rs : Rs K s1 H1 F' H' s' r v) : Rs K s H F' H' s' r v where
  ok := rs.ok
  nd := rs.nd
  fr := fun p hp => by
    obtain ⟨g1, g2⟩ := rs.fr p hp
    refine ⟨?_, g2⟩
    rcases g1 with z | z
    · exact .inl (st.t p z)
    · rcases st.o p z with y | y
      · exact .inr y
      · exact .inl y
def aVar (i : Nat) : AE := fun s P => match s[i]? with
  | some (.pu d) => P (.pu d) s
  | some (.ow _ xs) => P (.pu (.lst xs)) (s.set i (.pu (.lst xs)))
  | some (.nd p k ts) => P (.pu (k.d (dsA ts))) (s.set i (.pu (k.d (dsA ts))))
  | _ => False
def aMov (i : Nat) : AE := fun s P => match s[i]? with
  | some (.ow p xs) => P (.ow p xs) (s.set i .no)
  | some (.nd p k ts) => P (.nd p k ts) (s.set i .no)
  | _ => False
def aC (d : D) : AE := fun s P => P (.pu d) s
theorem sim_c {d : D} {v : V} (h : ∀ F, Dq K F d v) : Sim K (tC v) (aC d) := fun s P q σ F H ok Q k => k (.pu d) s v F H q (.refl ok) (.pu (h F))
theorem set_get {α : Type} {s : List α} {i j : Nat} {l m : α} (h : (s.set i l)[j]? = some m) : (i = j ∧ m = l ∧ i < s.length) ∨ (i ≠ j ∧ s[j]? = some m) := by
  rw [List.getElem?_set] at h
  by_cases e : i = j
  · rw [if_pos e] at h
    split at h
    · cases h
      exact .inl ⟨e, rfl, by assumption⟩
    · cases h
  · rw [if_neg e] at h
    exact .inr ⟨e, h⟩
/-- a slot gets a value -/
theorem StOk.put {F H : Hp} {σ : L2.St} {s : Ss} {i : Nat} {v : V} {l : Sl} (ok : StOk K F H σ s) (h : SlOk K F H l (some v)) (hn : ∀ p, p ∈ fp l → ¬ Own s p) (hd : (fp l).Nodup) : StOk K F H (σ.set i (some v)) (s.set i l) where
  le := ok.le
  len := by rw [List.length_set, List.length_set, ok.len]
  ok := fun j l2 o h1 h2 => by
    rcases set_get h1 with ⟨rfl, rfl, hl⟩ | ⟨e, h3⟩
    · rcases set_get h2 with ⟨_, rfl, _⟩ | ⟨e, _⟩
      · exact h
      · exact absurd rfl e
    · rcases set_get h2 with ⟨e2, _⟩ | ⟨_, h4⟩
      · exact absurd e2 e
      · exact ok.ok j l2 o h3 h4
  un := fun j k l1 l2 p h1 h2 p1 p2 => by
    rcases set_get h1 with ⟨rfl, rfl, hl⟩ | ⟨e, h3⟩
    · rcases set_get h2 with ⟨rfl, rfl, _⟩ | ⟨e, h4⟩
      · rfl
      · exact absurd ⟨k, l2, h4, p2⟩ (hn p p1)
    · rcases set_get h2 with ⟨rfl, rfl, _⟩ | ⟨_, h4⟩
      · exact absurd ⟨j, l1, h3, p1⟩ (hn p p2)
      · exact ok.un j k l1 l2 p h3 h4 p1 p2
  nd := fun j l2 h1 => by
    rcases set_get h1 with ⟨rfl, rfl, hl⟩ | ⟨e, h3⟩
    · exact hd
    · exact ok.nd j l2 h3
/-- a slot is forgotten, or told anew -/
theorem StOk.tell {F H : Hp} {σ : L2.St} {s : Ss} {i : Nat} {l : Sl} (ok : StOk K F H σ s) (h : ∀ o, σ[i]? = some o → SlOk K F H l o) (hn : ∀ p, p ∈ fp l → ∃ m, s[i]? = some m ∧ p ∈ fp m) (hd : (fp l).Nodup) : StOk K F H σ (s.set i l) where
  le := ok.le
  len := by rw [List.length_set, ok.len]
  ok := fun j l2 o h1 h2 => by
    rcases set_get h1 with ⟨rfl, rfl, hl⟩ | ⟨e, h3⟩
    · exact h o h2
    · exact ok.ok j l2 o h3 h2
  un := fun j k l1 l2 p h1 h2 p1 p2 => by
    have back : ∀ (m : Nat) (l3 : Sl), (s.set i l)[m]? = some l3 → p ∈ fp l3 → ∃ l4, s[m]? = some l4 ∧ p ∈ fp l4 := fun m l3 h hp => by
      rcases set_get h with ⟨rfl, rfl, hl⟩ | ⟨e, h3⟩
      · exact hn p hp
      · exact ⟨l3, h3, hp⟩
    obtain ⟨w1, g1, g3⟩ := back j l1 h1 p1
    obtain ⟨w2, g2, g4⟩ := back k l2 h2 p2
    exact ok.un j k w1 w2 p g1 g2 g3 g4
  nd := fun j l2 h1 => by
    rcases set_get h1 with ⟨rfl, rfl, hl⟩ | ⟨e, h3⟩
    · exact hd
    · exact ok.nd j l2 h3
theorem own_set {s : Ss} {i : Nat} {l : Sl} {p : Addr} (h : Own (s.set i l) p) : Own s p ∨ p ∈ fp l := by
  obtain ⟨j, m, e, hp⟩ := h
  rcases set_get e with ⟨rfl, rfl, hl⟩ | ⟨e, h3⟩
  · exact .inr hp
  · exact .inl ⟨j, m, h3, hp⟩
/-- a slot's tree is from now on a value -/
theorem StOk.frzAt {i : Nat} {l : Sl} {v : V} (ok : StOk K F H σ s) (e : s[i]? = some l) (h1 : σ[i]? = some (some v)) : ∃ F', Step K s F H (s.set i (.pu l.d)) F' H σ ∧ Dq K F' l.d v := by
  have h2 := ok.ok i l _ e h1
  have e1 : Same F (frzF F H (fp l)) := same_frz fun p hp => (SlOk.own l h2 hp).1
  have dv : Dq K (frzF F H (fp l)) l.d v := SlOk.frz l e1 (fun p hp u h => by rw [frzF_in hp]; exact h) h2
  refine ⟨frzF F H (fp l), ⟨⟨frz_same ok.le, by rw [List.length_set, ok.len], fun j l2 o h3 h4 => ?_, fun j m l1 l2 p h3 h4 p1 p2 => ?_, fun j l2 h3 => ?_⟩, e1, fun a o h _ => h, fun a h => h, fun a h => ?_, fun p h => ?_⟩, dv⟩
  · rcases set_get h3 with ⟨rfl, rfl, hl⟩ | ⟨e3, h5⟩
    · rw [h1] at h4
      cases h4
      exact slok_pu.mpr ⟨v, rfl, dv⟩
    · refine SlOk.mono l2 e1 (fun q hq us z1 z2 => ⟨?_, z2⟩) (ok.ok j l2 o h5 h4)
      rw [frzF_out fun z => e3 (ok.un i j l l2 q e h5 z hq)]
      exact z1
  · rcases set_get h3 with ⟨rfl, rfl, hl⟩ | ⟨e3, h5⟩
    · rw [fp_pu] at p1
      cases p1
    · rcases set_get h4 with ⟨rfl, rfl, hl⟩ | ⟨e4, h6⟩
      · rw [fp_pu] at p2
        cases p2
      · exact ok.un j m l1 l2 p h5 h6 p1 p2
  · rcases set_get h3 with ⟨rfl, rfl, hl⟩ | ⟨e3, h5⟩
    · rw [fp_pu]
      exact List.nodup_nil
    · exact ok.nd j l2 h5
  · by_cases hb : a ∈ fp l
    · exact .inr (.inr ⟨i, l, e, hb⟩)
    · rw [frzF_out hb] at h
      exact .inl h
  · rcases own_set h with z | z
    · exact .inl z
    · rw [fp_pu] at z
      cases z
theorem sim_var {i : Nat} : Sim K (tVar i) (aVar i) := fun s P q σ F H ok Q k => by
  unfold aVar at q
  cases e : s[i]? with
  | none =>
    rw [e] at q
    exact q.elim
  | some l =>
    rw [e] at q
    obtain ⟨o, h1, h2⟩ := ok.get e
    cases l with
    | no => exact q.elim
    | pu d =>
      obtain ⟨v, rfl, h3⟩ := slok_pu.mp h2
      exact ⟨v, h1, k (.pu d) s v F H q (.refl ok) (.pu h3)⟩
    | ow p xs =>
      obtain ⟨rfl, g1, vs, g2, g3⟩ := slok_ow.mp h2
      obtain ⟨F', st, dv⟩ := ok.frzAt e h1
      have ed : (Sl.ow p xs).d = .lst xs := by unfold Sl.d; rfl
      rw [ed] at st dv
      exact ⟨.ref p, h1, k (.pu (.lst xs)) _ (.ref p) F' H q st (.pu dv)⟩
    | nd p kk ts =>
      obtain ⟨rfl, _⟩ := slok_nd.mp h2
      obtain ⟨F', st, dv⟩ := ok.frzAt e h1
      have ed : (Sl.nd p kk ts).d = kk.d (dsA ts) := by rw [Sl.d]
      rw [ed] at st dv
      exact ⟨.ref p, h1, k (.pu (kk.d (dsA ts))) _ (.ref p) F' H q st (.pu dv)⟩
theorem sim_mov {i : Nat} : Sim K (tVar i) (aMov i) := fun s P q σ F H ok Q k => by
  unfold aMov at q
  cases e : s[i]? with
  | none =>
    rw [e] at q
    exact q.elim
  | some l =>
    rw [e] at q
    obtain ⟨o, h1, h2⟩ := ok.get e
    have go : ∀ v, o = some v → P l (s.set i .no) → tVar i σ H Q := fun v eo q => by
      subst eo
      refine ⟨v, h1, k l _ v F H q ⟨ok.tell (fun _ _ => by unfold SlOk; trivial) (fun _ z => by rw [fp_no] at z; cases z) (by rw [fp_no]; exact List.nodup_nil), Same.refl _, fun a o h _ => h, fun a h => h, fun a h => .inl h, fun p2 h => ?_⟩ ⟨h2, fun p2 hp => ?_, ok.nd i l e⟩⟩
      · rcases own_set h with z | z
        · exact .inl z
        · rw [fp_no] at z
          cases z
      · refine ⟨.inr ⟨i, l, e, hp⟩, fun h => ?_⟩
        obtain ⟨j, m, e2, hm⟩ := h
        rcases set_get e2 with ⟨rfl, rfl, hl⟩ | ⟨e3, h5⟩
        · rw [fp_no] at hm
          cases hm
        · exact e3 (ok.un i j l m p2 e h5 hp hm)
    cases l with
    | no => exact q.elim
    | pu d => exact q.elim
    | ow p xs => exact go _ (slok_ow.mp h2).1 q
    | nd p kk ts => exact go _ (slok_nd.mp h2).1 q
def aOp (r : AR2) (aa ab : AE) : AE := fun s P => aa s fun r1 s1 => ab s1 fun r2 s2 => r r1.d r2.d fun rs => P rs s2
theorem sim_op {r : R2} {ar : AR2} (hr : RD K r ar) (ha : Sim K ta aa) (hb : Sim K tb ab) : Sim K (tOp r ta tb) (aOp ar aa ab) := fun s P q σ F H ok Q k => by
  refine ha.d q ok fun r1 s1 v1 F1 H1 q1 st1 d1 => ?_
  refine hb.d q1 st1.st fun r2 s2 v2 F2 H2 q2 st2 d2 => ?_
  refine hr _ _ _ q2 F2 H2 v1 v2 st2.st.le (Dq.mono st2.f _ _ d1) d2 Q fun rs v F3 H3 p l => ?_
  obtain ⟨st3, rs3⟩ := (st1.trans st2).leaf l
  exact k rs s2 v F3 H3 p st3 rs3
def aIC (C : Int → Int → Prop) (f : Int → Int → Int) : AR2 := fun d e P => match d, e with
  | .int i, .int j => C i j ∧ P (.pu (.int (f i j)))
  | _, _ => False
def aI (f : Int → Int → Int) : AR2 := fun d e P => match d, e with
  | .int i, .int j => P (.pu (.int (f i j)))
  | _, _ => False
def aB (f : Int → Int → Bool) : AR2 := fun d e P => match d, e with
  | .int i, .int j => P (.pu (.bl (f i j)))
  | _, _ => False
theorem rd_ic {C : Int → Int → Prop} {f : Int → Int → Int} : RD K (rI C fun i j => .int (f i j)) (aIC C f) := fun d e P q F H x y le dx dy Q k => by
  cases d <;> cases e <;> first | exact q.elim | skip
  exact ⟨_, _, dx, dy, q.1, k _ _ F H q.2 (Lf.same le _ _ rfl)⟩
theorem rd_i {f : Int → Int → Int} : RD K (rI0 fun i j => .int (f i j)) (aI f) := fun d e P q F H x y le dx dy Q k => by
  cases d <;> cases e <;> first | exact q.elim | skip
  exact ⟨_, _, dx, dy, k _ _ F H q (Lf.same le _ _ rfl)⟩
theorem rd_b {f : Int → Int → Bool} : RD K (rI0 fun i j => .bl (f i j)) (aB f) := fun d e P q F H x y le dx dy Q k => by
  cases d <;> cases e <;> first | exact q.elim | skip
  exact ⟨_, _, dx, dy, k _ _ F H q (Lf.same le _ _ rfl)⟩
/-- == of scalars -/
def eqS : D → D → Option Bool
  | .int i, .int j => some (decide (i = j))
  | .str i, .str j => some (decide (i = j))
  | .bl i, .bl j => some (decide (i = j))
  | .non, .non => some true
  | .non, .int _ => some false
  | .int _, .non => some false
  | .non, .str _ => some false
  | .str _, .non => some false
  | .int _, .str _ => some false
  | .str _, .int _ => some false
  | .bl _, .str _ => some false
  | .str _, .bl _ => some false
  | _, _ => none
def aEq : AR2 := fun d e P => match eqS d e with | some b => P (.pu (.bl b)) | none => False
def aNe : AR2 := fun d e P => match eqS d e with | some b => P (.pu (.bl (!b))) | none => False
theorem eqS_ok {F : Hp} {d e : D} {b : Bool} {x y : V} (h : eqS d e = some b) (dx : Dq K F d x) (dy : Dq K F e y) : scal x y = true ∧ decide (x = y) = b := by
  cases d <;> cases e <;> first | (cases h; done) | skip
  all_goals
    cases (show x = _ from dx)
    cases (show y = _ from dy)
    cases h
    refine ⟨rfl, ?_⟩
    first
      | rfl
      | (apply decide_eq_decide.mpr; constructor <;> intro z <;> first | (cases z; rfl) | (rw [z]))
theorem rd_eq : RD K rEq aEq := fun d e P q F H x y le dx dy Q k => by
  unfold aEq at q
  cases h : eqS d e with
  | none =>
    rw [h] at q
    exact q.elim
  | some b =>
    rw [h] at q
    obtain ⟨h1, h2⟩ := eqS_ok h dx dy
    refine ⟨h1, ?_⟩
    rw [h2]
    exact k _ _ F H q (Lf.same le _ _ rfl)
theorem rd_ne : RD K rNe aNe := fun d e P q F H x y le dx dy Q k => by
  unfold aNe at q
  cases h : eqS d e with
  | none =>
    rw [h] at q
    exact q.elim
  | some b =>
    rw [h] at q
    obtain ⟨h1, h2⟩ := eqS_ok h dx dy
    refine ⟨h1, ?_⟩
    rw [h2]
    exact k _ _ F H q (Lf.same le _ _ rfl)
/-- is None -/
def isN : D → Option Bool
  | .non => some true
  | .ob _ => none
  | _ => some false
theorem isN_ok {F : Hp} {d : D} {b : Bool} {x : V} (h : isN d = some b) (dx : Dq K F d x) : decide (x = .non) = b := by
  cases d with
  | non =>
    cases h
    exact decide_eq_true dx
  | ob f => cases h
  | bl i =>
    cases h
    cases (show x = _ from dx)
    rfl
  | int i =>
    cases h
    cases (show x = _ from dx)
    rfl
  | str i =>
    cases h
    cases (show x = _ from dx)
    rfl
  | tup ds =>
    cases h
    obtain ⟨a, xs, rfl, _⟩ := dx
    rfl
  | lst ds =>
    cases h
    obtain ⟨a, xs, rfl, _⟩ := dx
    rfl
  | scr ds =>
    cases h
    obtain ⟨a, xs, rfl, _⟩ := dx
    rfl
  | ins C ns ds =>
    cases h
    obtain ⟨a, dx, xs, rfl, _⟩ := dx
    rfl
  | dk ks ds =>
    cases h
    obtain ⟨a, xs, rfl, _⟩ := dx
    rfl
  | dt ks ds =>
    cases h
    obtain ⟨a, xs, rfl, _⟩ := dx
    rfl
def aIsN : AR2 := fun d e P => match e, isN d with | .non, some b => P (.pu (.bl b)) | _, _ => False
theorem rd_isN : RD K (fun x y H Q => y = .non ∧ Q (.bl (decide (x = .non))) H) aIsN := fun d e P q F H x y le dx dy Q k => by
  unfold aIsN at q
  cases e <;> first | exact q.elim | skip
  cases h : isN d with
  | none =>
    rw [h] at q
    exact q.elim
  | some b =>
    rw [h] at q
    refine ⟨dy, ?_⟩
    rw [isN_ok h dx]
    exact k _ _ F H q (Lf.same le _ _ rfl)
/-- in, not in: flat items -/
def flatD : D → Bool
  | .non => true
  | .bl _ => true
  | .int _ => true
  | .str _ => true
  | _ => false
def eqF : D → D → Bool
  | .non, .non => true
  | .bl a, .bl b => a == b
  | .bl a, .int b => (if a then 1 else 0) == b
  | .int a, .bl b => a == (if b then 1 else 0)
  | .int a, .int b => a == b
  | .str a, .str b => a == b
  | _, _ => false
def inF (x : D) (xs : List D) : Bool := xs.any fun y => eqF y x
def seqD : D → Option (List D)
  | .tup xs => some xs
  | .lst xs => some xs
  | .scr xs => some xs
  | _ => none
theorem seqD_ok {F : Hp} {d : D} {ds : List D} {x : V} (h : seqD d = some ds) (dx : Dq K F d x) : ∃ a xs, x = .ref a ∧ (SqL K F a xs ∨ SqT K F a xs) ∧ DqA K F ds xs := by
  cases d <;> first | (cases h; done) | skip
  · cases h
    obtain ⟨a, xs, h1, h2, h3⟩ := dx
    exact ⟨a, xs, h1, .inr h2, h3⟩
  · cases h
    obtain ⟨a, xs, h1, h2, h3⟩ := dx
    exact ⟨a, xs, h1, .inl (SqL.of h2), h3⟩
  · cases h
    obtain ⟨a, xs, h1, h2, h3⟩ := dx
    exact ⟨a, xs, h1, .inl h2, h3⟩
theorem flat_ok {F : Hp} {d : D} {x : V} (h : flatD d = true) (dx : Dq K F d x) : flatV x = true := by
  cases d <;> first | (cases h; done) | (cases (show x = _ from dx); rfl)
theorem flat_eq {F : Hp} {d e : D} {x y : V} (h : flatD d = true) (h2 : flatD e = true) (dx : Dq K F d x) (dy : Dq K F e y) : eqV x y = eqF d e := by
  cases d <;> first | (cases h; done) | skip
  all_goals
    cases (show x = _ from dx)
    cases e <;> first | (cases h2; done) | (cases (show y = _ from dy); rfl)
theorem flat_all {F : Hp} : ∀ {ds : List D} {xs : List V}, ds.all flatD = true → DqA K F ds xs → xs.all flatV = true
  | [], xs, _, h => by
    rw [show xs = [] from h]
    rfl
  | d :: ds, xs, hf, h => by
    obtain ⟨x, r, rfl, h2, h3⟩ := h
    rw [List.all_cons, Bool.and_eq_true] at hf
    rw [List.all_cons, flat_ok hf.1 h2, flat_all hf.2 h3]
    rfl
theorem flat_in {F : Hp} {e : D} {y : V} (h2 : flatD e = true) (dy : Dq K F e y) : ∀ {ds : List D} {xs : List V}, ds.all flatD = true → DqA K F ds xs → inV y xs = inF e ds
  | [], xs, _, h => by
    rw [show xs = [] from h]
    rfl
  | d :: ds, xs, hf, h => by
    obtain ⟨x, r, rfl, h4, h3⟩ := h
    rw [List.all_cons, Bool.and_eq_true] at hf
    have ih := flat_in h2 dy hf.2 h3
    unfold inV inF at ih ⊢
    rw [List.any_cons, List.any_cons, ih, flat_eq hf.1 h2 h4 dy]
/-- x[i] -/
def aIx : AR2 := fun d e P => match seqD d, e with
  | some ds, .int i => match atI ds i with
    | some d => P (.pu d)
    | none => False
  | _, _ => False
theorem atI_ok {F : Hp} {ds : List D} {xs : List V} {i : Int} {d : D} (h : DqA K F ds xs) (e : atI ds i = some d) : ∃ x, atI xs i = some x ∧ Dq K F d x := by
  unfold atI at e ⊢
  rw [h.length]
  cases q : ixN ds.length i with
  | none =>
    rw [q] at e
    cases e
  | some j =>
    rw [q] at e
    exact h.get (i := j) e
theorem rd_ix : RD K (fun x y H Q => rIxL K x y H Q ∨ rIxT K x y H Q ∨ rIxS x y H Q) aIx := fun d e P q F H x y le dx dy Q k => by
  unfold aIx at q
  cases h : seqD d with
  | none =>
    rw [h] at q
    exact q.elim
  | some ds =>
    rw [h] at q
    cases e <;> first | exact q.elim | skip
    rename_i i
    cases h2 : atI ds i with
    | none =>
      simp only [h2] at q
    | some d2 =>
      simp only [h2] at q
      obtain ⟨a, xs, rfl, g1, g2⟩ := seqD_ok h dx
      obtain ⟨z, e1, e2⟩ := atI_ok g2 h2
      rcases g1 with g1 | g1
      · exact .inl ⟨a, xs, i, z, rfl, dy, Same.seq le g1, e1, k _ _ F H q (Lf.same le _ _ e2)⟩
      · exact .inr (.inl ⟨a, xs, i, z, rfl, dy, Same.sqt le g1, e1, k _ _ F H q (Lf.same le _ _ e2)⟩)
def aNil : AA := fun s P => P [] s
def aCons (a : AE) (r : AA) : AA := fun s P => a s fun r1 s1 => r s1 fun ds s2 => P (r1.d :: ds) s2
theorem sim_nil : SimA K tNil aNil := fun s P q σ F H ok Q k => k [] s [] F H q (.refl ok) rfl
theorem sim_cons {tr : TA} {ar : AA} (ha : Sim K ta aa) (hr : SimA K tr ar) : SimA K (tCons ta tr) (aCons aa ar) := fun s P q σ F H ok Q k => by
  refine ha.d q ok fun r1 s1 v1 F1 H1 q1 st1 d1 => ?_
  refine hr s1 _ q1 σ F1 H1 st1.st _ fun ds s2 vs F2 H2 q2 st2 d2 => ?_
  exact k (r1.d :: ds) s2 (v1 :: vs) F2 H2 q2 (st1.trans st2) ⟨v1, vs, rfl, Dq.mono st2.f _ _ d1, d2⟩
def aCall (r : ARC) (a : AA) : AE := fun s P => a s fun ds s1 => r ds fun rs => P rs s1
theorem sim_cb {r : List V → Hp → VK → Prop} {ar : ARC} {t : TA} {a : AA} (hr : RC K r ar) (ha : SimA K t a) : Sim K (tCB r t) (aCall ar a) := fun s P q σ F H ok Q k => by
  refine ha s _ q σ F H ok _ fun ds s1 vs F1 H1 q1 st1 d1 => ?_
  refine hr ds _ q1 F1 H1 vs st1.st.le d1 Q fun rs v F2 H2 p l => ?_
  obtain ⟨st2, rs2⟩ := st1.leaf l
  exact k rs s1 v F2 H2 p st2 rs2
def aTup (a : AA) : AE := fun s P => a s fun ds s1 => ds.length ≤ 100000 ∧ P (.pu (.tup ds)) s1
def aLst (a : AA) : AE := fun s P => a s fun ds s1 => ds.length ≤ 100000 ∧ ∀ p, P (.ow p ds) s1
theorem sz_of {n : Nat} (h : n ≤ 100000) : n ≤ sizeLine := Nat.le_trans h (by decide)
theorem sz_lt {n : Nat} (h : n < 100000) : n < sizeLine := Nat.lt_of_lt_of_le h (by decide)
theorem sim_tup {t : TA} {a : AA} (ha : SimA K t a) : Sim K (tTup t) (aTup a) := fun s P q σ F H ok Q k => by
  refine ha s _ q σ F H ok _ fun ds s1 vs F1 H1 q1 st1 d1 => ⟨?_, fun p hp => ?_⟩
  · rw [d1.length]
    exact sz_of q1.1
  · obtain ⟨st2, rs2⟩ := st1.leaf (Lf.newT st1.st.le hp d1)
    exact k _ s1 _ _ _ q1.2 st2 rs2
theorem sim_lst {t : TA} {a : AA} (ha : SimA K t a) : Sim K (tLst t) (aLst a) := fun s P q σ F H ok Q k => by
  refine ha s _ q σ F H ok _ fun ds s1 vs F1 H1 q1 st1 d1 => ⟨?_, fun p hp => ?_⟩
  · rw [d1.length]
    exact sz_of q1.1
  · obtain ⟨st2, rs2⟩ := st1.leaf (Lf.newL st1.st.le hp d1)
    exact k _ s1 _ _ _ (q1.2 p) st2 rs2
def aTest (a : AE) : AT := fun s P => a s fun r s1 => match r.d with
  | .bl b => P b s1
  | _ => False
theorem sim_test (h : Sim K te a) : SimT K (tTest te) (aTest a) := fun s P q σ F H ok Q k => by
  refine h.d q ok fun r s1 v F1 H1 q1 st1 d1 => ?_
  cases e : r.d <;> simp only [e] at q1
  rename_i b
  rw [e] at d1
  exact ⟨b, d1, k b s1 F1 H1 q1 st1⟩
theorem sim_B (h : Sim K te a) : SimT K (tB te) (aTest a) := sim_test h
def aAnd (a b : AT) : AT := fun s P => a s fun c s1 => if c = true then b s1 P else P false s1
def aOr (a b : AT) : AT := fun s P => a s fun c s1 => if c = true then P true s1 else b s1 P
def aNot (a : AT) : AT := fun s P => a s fun c s1 => P (!c) s1
section
variable {t u : TT} {at1 au : AT}
theorem sim_and (h : SimT K t at1) (h2 : SimT K u au) : SimT K (tAnd t u) (aAnd at1 au) := fun s P q σ F H ok Q k => by
  refine h s _ q σ F H ok _ fun c s1 F1 H1 q1 st1 => ?_
  cases c with
  | true => exact h2 s1 _ q1 σ F1 H1 st1.st _ fun b s2 F2 H2 q2 st2 => k b s2 F2 H2 q2 (st1.trans st2)
  | false => exact k false s1 F1 H1 q1 st1
theorem sim_or (h : SimT K t at1) (h2 : SimT K u au) : SimT K (tOr t u) (aOr at1 au) := fun s P q σ F H ok Q k => by
  refine h s _ q σ F H ok _ fun c s1 F1 H1 q1 st1 => ?_
  cases c with
  | true => exact k true s1 F1 H1 q1 st1
  | false => exact h2 s1 _ q1 σ F1 H1 st1.st _ fun b s2 F2 H2 q2 st2 => k b s2 F2 H2 q2 (st1.trans st2)
theorem sim_not (h : SimT K t at1) : SimT K (tNot t) (aNot at1) := fun s P q σ F H ok Q k => h s _ q σ F H ok _ fun c s1 F1 H1 q1 st1 => k (!c) s1 F1 H1 q1 st1
def aIf (c : AT) (a b : AE) : AE := fun s P => c s fun k s1 => if k = true then a s1 P else b s1 P
theorem sim_if (h : SimT K t at1) (ha : Sim K ta aa) (hb : Sim K tb ab) : Sim K (tIf t ta tb) (aIf at1 aa ab) := fun s P q σ F H ok Q k => by
  refine h s _ q σ F H ok _ fun c s1 F1 H1 q1 st1 => ?_
  cases c with
  | true => exact ha s1 _ q1 σ F1 H1 st1.st _ fun r s2 v F2 H2 q2 st2 rs => k r s2 v F2 H2 q2 (st1.trans st2) (rs.more st1)
  | false => exact hb s1 _ q1 σ F1 H1 st1.st _ fun r s2 v F2 H2 q2 st2 rs => k r s2 v F2 H2 q2 (st1.trans st2) (rs.more st1)
end
def aAndV (a b : AE) : AE := fun s P => a s fun r s1 => match r.d with
  | .bl c => if c = true then b s1 P else P (.pu (.bl false)) s1
  | _ => False
def aOrV (a b : AE) : AE := fun s P => a s fun r s1 => match r.d with
  | .bl c => if c = true then P (.pu (.bl true)) s1 else b s1 P
  | _ => False
def aNotV (a : AE) : AE := fun s P => a s fun r s1 => match r.d with
  | .bl c => P (.pu (.bl (!c))) s1
  | _ => False
theorem sim_andV (ha : Sim K ta aa) (hb : Sim K tb ab) : Sim K (tAndV ta tb) (aAndV aa ab) := fun s P q σ F H ok Q k => by
  refine ha.d q ok fun r s1 v F1 H1 q1 st1 d1 => ?_
  cases e : r.d <;> simp only [e] at q1
  rename_i c
  rw [e] at d1
  refine ⟨c, d1, ?_⟩
  cases c with
  | true => exact hb s1 _ q1 σ F1 H1 st1.st _ fun r s2 v F2 H2 q2 st2 rs => k r s2 v F2 H2 q2 (st1.trans st2) (rs.more st1)
  | false => exact k _ s1 _ F1 H1 q1 st1 (.pu rfl)
theorem sim_orV (ha : Sim K ta aa) (hb : Sim K tb ab) : Sim K (tOrV ta tb) (aOrV aa ab) := fun s P q σ F H ok Q k => by
  refine ha.d q ok fun r s1 v F1 H1 q1 st1 d1 => ?_
  cases e : r.d <;> simp only [e] at q1
  rename_i c
  rw [e] at d1
  refine ⟨c, d1, ?_⟩
  cases c with
  | true => exact k _ s1 _ F1 H1 q1 st1 (.pu rfl)
  | false => exact hb s1 _ q1 σ F1 H1 st1.st _ fun r s2 v F2 H2 q2 st2 rs => k r s2 v F2 H2 q2 (st1.trans st2) (rs.more st1)
theorem sim_notV (ha : Sim K ta aa) : Sim K (tNotV ta) (aNotV aa) := fun s P q σ F H ok Q k => by
  refine ha.d q ok fun r s1 v F1 H1 q1 st1 d1 => ?_
  cases e : r.d <;> simp only [e] at q1
  rename_i c
  rw [e] at d1
  exact ⟨c, d1, k _ s1 _ F1 H1 q1 st1 (.pu rfl)⟩
/-- a op b op c -/
def aChain (r r' : AR2) (aa ab ac : AE) : AE := fun s P => aa s fun r1 s1 => ab s1 fun r2 s2 => r r1.d r2.d fun z => match z with
  | .pu (.bl c) => if c = true then ac s2 fun r3 s3 => r' r2.d r3.d fun rs => P rs s3 else P (.pu (.bl false)) s2
  | _ => False
theorem sim_chain {r r' : R2} {ar ar' : AR2} (hr : RD K r ar) (hr' : RD K r' ar') (ha : Sim K ta aa) (hb : Sim K tb ab) (hc : Sim K tc ac) : Sim K (tChain r r' ta tb tc) (aChain ar ar' aa ab ac) := fun s P q σ F H ok Q k => by
  refine ha.d q ok fun r1 s1 v1 F1 H1 q1 st1 d1 => ?_
  refine hb.d q1 st1.st fun r2 s2 v2 F2 H2 q2 st2 d2 => ?_
  refine hr _ _ _ q2 F2 H2 v1 v2 st2.st.le (Dq.mono st2.f _ _ d1) d2 _ fun rs v F3 H3 p l => ?_
  obtain ⟨st3, rs3⟩ := (st1.trans st2).leaf l
  cases rs with
  | no => exact p.elim
  | ow _ _ => exact p.elim
  | nd _ _ _ => exact p.elim
  | pu d =>
    cases d <;> simp only at p
    rename_i c
    obtain ⟨w, e1, e2⟩ := slok_pu.mp rs3.ok
    cases e1
    refine ⟨c, e2, ?_⟩
    cases c with
    | false => exact k _ s2 _ F3 H3 p st3 (.pu rfl)
    | true =>
      refine hc.d p st3.st fun r3 s3 v3 F4 H4 q4 st4 d4 => ?_
      refine hr' _ _ _ q4 F4 H4 v2 v3 st4.st.le (Dq.mono (l.f.trans st4.f) _ _ d2) d4 Q fun rs v F5 H5 p l => ?_
      obtain ⟨st5, rs5⟩ := (st3.trans st4).leaf l
      exact k rs s3 v F5 H5 p st5 rs5
end
end DL
namespace DL
open PySem L2
section
variable {K : PySem.W.Frag} {te ta tb tc : TE} {a aa ab ac : AE} {F H : Hp} {s : Ss} {σ : L2.St} {ts tu : TS} {as au : AS} {c : TT} {ac1 : AT}
def aNext : AS := fun A s => A.nx s
def aSeq (t u : AS) : AS := fun A s => t { A with nx := u A } s
def aRet (a : AE) : AS := fun A s => a s fun r s1 => A.rt r s1
def aIfS (c : AT) (t u : AS) : AS := fun A s => c s fun b s1 => if b = true then t A s1 else u A s1
def aNev : AS := fun _ _ => False
theorem sims_next : SimS K tNext aNext := fun A s q σ F H ok E kn kr kb kc => kn s σ F H q (.refl ok)
theorem sims_nev : SimS K tNever aNev := fun A s q σ F H ok E kn kr kb kc => q.elim
theorem sims_seq (h1 : SimS K ts as) (h2 : SimS K tu au) : SimS K (tSeq ts tu) (aSeq as au) := fun A s q σ F H ok E kn kr kb kc =>
  h1 { A with nx := au A } s q σ F H ok { E with nx := tu E } (fun s1 σ1 F1 H1 q1 st1 => h2 A s1 q1 σ1 F1 H1 st1.st E (fun s2 σ2 F2 H2 q2 st2 => kn s2 σ2 F2 H2 q2 (st1.trans st2))
    (fun r s2 σ2 v F2 H2 q2 st2 rs => kr r s2 σ2 v F2 H2 q2 (st1.trans st2) (rs.more st1)) (fun s2 σ2 F2 H2 q2 st2 => kb s2 σ2 F2 H2 q2 (st1.trans st2)) (fun s2 σ2 F2 H2 q2 st2 => kc s2 σ2 F2 H2 q2 (st1.trans st2))) kr kb kc
theorem sims_ret (h : Sim K te a) : SimS K (tRet te) (aRet a) := fun A s q σ F H ok E kn kr kb kc => h s _ q σ F H ok _ fun r s1 v F1 H1 q1 st1 rs => kr r s1 σ v F1 H1 q1 st1 rs
theorem sims_if (h : SimT K c ac1) (h1 : SimS K ts as) (h2 : SimS K tu au) : SimS K (tIfS c ts tu) (aIfS ac1 as au) := fun A s q σ F H ok E kn kr kb kc => by
  refine h s _ q σ F H ok _ fun b s1 F1 H1 q1 st1 => ?_
  cases b with
  | true =>
    exact h1 A s1 q1 σ F1 H1 st1.st E (fun s2 σ2 F2 H2 q2 st2 => kn s2 σ2 F2 H2 q2 (st1.trans st2))
      (fun r s2 σ2 v F2 H2 q2 st2 rs => kr r s2 σ2 v F2 H2 q2 (st1.trans st2) (rs.more st1)) (fun s2 σ2 F2 H2 q2 st2 => kb s2 σ2 F2 H2 q2 (st1.trans st2)) (fun s2 σ2 F2 H2 q2 st2 => kc s2 σ2 F2 H2 q2 (st1.trans st2))
  | false =>
    exact h2 A s1 q1 σ F1 H1 st1.st E (fun s2 σ2 F2 H2 q2 st2 => kn s2 σ2 F2 H2 q2 (st1.trans st2))
      (fun r s2 σ2 v F2 H2 q2 st2 rs => kr r s2 σ2 v F2 H2 q2 (st1.trans st2) (rs.more st1)) (fun s2 σ2 F2 H2 q2 st2 => kb s2 σ2 F2 H2 q2 (st1.trans st2)) (fun s2 σ2 F2 H2 q2 st2 => kc s2 σ2 F2 H2 q2 (st1.trans st2))
/-- behind a store to a slot -/
theorem Step.put {s1 : Ss} {F1 H1 : Hp} {r : Sl} {v : V} {i : Nat} (st : Step K s F H s1 F1 H1 σ) (rs : Rs K s H F1 H1 s1 r v) : Step K s F H (s1.set i r) F1 H1 (σ.set i (some v)) where
  st := st.st.put rs.ok (fun p hp => (rs.fr p hp).2) rs.nd
  f := st.f
  k := st.k
  t := st.t
  n := st.n
  o := fun p h => by
    rcases own_set h with z | z
    · exact st.o p z
    · exact (rs.fr p z).1.symm
def aSet (i : Nat) (a : AE) : AS := fun A s => a s fun r s1 => A.nx (s1.set i r)
theorem sims_set {i : Nat} (h : Sim K te a) : SimS K (tAsg te (gName i)) (aSet i a) := fun A s q σ F H ok E kn kr kb kc =>
  h s _ q σ F H ok _ fun r s1 v F1 H1 q1 st1 rs => kn _ _ F1 H1 q1 (st1.put rs)
def aAsg (a : AE) (g : AG) : AS := fun A s => a s fun r s1 => g r.d s1 A.nx
theorem sims_asg {g : TG} {ag : AG} {L : List Nat} (h : Sim K te a) (hg : SimG K g ag L) : SimS K (tAsg te g) (aAsg a ag) := fun A s q σ F H ok E kn kr kb kc =>
  h.d q ok fun r s1 v F1 H1 q1 st1 d1 => hg _ _ _ q1 v σ F1 H1 st1.st d1 _ fun s2 σ2 q2 st2 _ _ => kn s2 σ2 F1 H1 q2 (st1.trans st2)
def agName (i : Nat) : AG := fun d s P => P (s.set i (.pu d))
theorem simg_name {i : Nat} : SimG K (gName i) (agName i) [i] := fun d s P q v σ F H ok dv Q k => by
  refine k _ _ q ((Step.refl ok).put (r := .pu d) (.pu dv)) (fun j hj => ?_) (List.length_set ..)
  rw [List.getElem?_set, if_neg fun e => hj (by rw [e]; exact List.mem_singleton.mpr rfl)]
def agNil : AGs := fun ds s P => ds = [] ∧ P s
def agCons (g : AG) (r : AGs) : AGs := fun ds s P => match ds with
  | d :: ds => g d s fun s1 => r ds s1 P
  | [] => False
theorem simgs_nil : SimGs K gNil agNil [] := fun ds s P q vs σ F H ok dv Q k => by
  obtain ⟨rfl, q⟩ := q
  exact ⟨dv, k s σ q (.refl ok) (fun _ _ => rfl) rfl⟩
theorem simgs_cons {g : TG} {ag : AG} {L M : List Nat} {gs : TGs} {ags : AGs} (h : SimG K g ag L) (hr : SimGs K gs ags M) : SimGs K (gCons g gs) (agCons ag ags) (L ++ M) := fun ds s P q vs σ F H ok dv Q k => by
  cases ds with
  | nil => exact q.elim
  | cons d ds =>
    obtain ⟨x, r, rfl, h2, h3⟩ := dv
    refine ⟨x, r, rfl, ?_⟩
    refine h d s _ q x σ F H ok h2 _ fun s1 σ1 q1 st1 e1 l1 => ?_
    refine hr ds s1 _ q1 r σ1 F H st1.st h3 _ fun s2 σ2 q2 st2 e2 l2 => ?_
    refine k s2 σ2 q2 (st1.trans st2) (fun j hj => ?_) (l2.trans l1)
    rw [e2 j fun z => hj (List.mem_append_right _ z), e1 j fun z => hj (List.mem_append_left _ z)]
def agTup (g : AGs) : AG := fun d s P => match d with
  | .tup ds => g ds s P
  | _ => False
theorem simg_tup {gs : TGs} {ags : AGs} {M : List Nat} {n : Nat} (h : SimGs K gs ags M) (hn : ∀ ds s P, ags ds s P → ds.length = n) : SimG K (gTup K n gs) (agTup ags) M := fun d s P q v σ F H ok dv Q k => by
  cases d <;> first | exact q.elim | skip
  rename_i ds
  obtain ⟨a, xs, rfl, h2, h3⟩ := dv
  exact ⟨a, xs, rfl, Same.sqt ok.le h2, by rw [h3.length]; exact hn ds s P q, h ds s P q xs σ F H ok h3 Q k⟩
/-- x.append(e) -/
def aApp (i : Nat) (a : AE) : AS := fun A s => match s[i]? with
  | some (.ow _ _) => a s fun r s1 => match s1[i]? with
    | some (.ow p xs) => xs.length < 100000 ∧ A.nx (s1.set i (.ow p (xs ++ [r.d])))
    | _ => False
  | _ => False
/-- the tree of a slot is changed: at p, which it owns, stands something else -/
theorem Step.chgG {s1 : Ss} {F1 H1 H2 : Hp} {i : Nat} {l l' : Sl} {v : V} (st : Step K s F H s1 F1 H1 σ) (e : s1[i]? = some l) (hv : σ[i]? = some (some v)) (h2 : SlOk K F1 H2 l' (some v)) (hn : (fp l').Nodup)
    (hk : ∀ b o, b ∉ fp l → H1 b = some o → H2 b = some o) (ht : ∀ b, H2 b = none → H1 b = none) (hf : ∀ b, b ∈ fp l' → b ∈ fp l ∨ H1 b = none) : Step K s F H (s1.set i l') F1 H2 σ := by
  have nf : ∀ b, b ∈ fp l → F1 b = none ∧ ∃ u, H1 b = some u := fun b hb => st.st.own ⟨i, l, e, hb⟩
  refine ⟨⟨fun b o q => ?_, by rw [List.length_set, st.st.len], fun j l2 o q1 q2 => ?_, fun j k l1 l2 q q1 q2 p1 p2 => ?_, fun j l2 q1 => ?_⟩, st.f, fun b o q hb => ?_, fun b q => st.t b (ht b q), st.n, fun q h => ?_⟩
  · refine hk b o (fun z => ?_) (st.st.le b o q)
    rw [(nf b z).1] at q
    cases q
  · rcases set_get q1 with ⟨rfl, rfl, hl⟩ | ⟨e2, q3⟩
    · rw [hv] at q2
      cases q2
      exact h2
    · exact SlOk.mono l2 (Same.refl _) (fun q hq u z1 z2 => ⟨z1, hk q u (fun z => e2 (st.st.un i j l l2 q e q3 z hq)) z2⟩) (st.st.ok j l2 o q3 q2)
  · have back : ∀ (m : Nat) (l3 : Sl), (s1.set i l')[m]? = some l3 → q ∈ fp l3 → (∃ l4, s1[m]? = some l4 ∧ q ∈ fp l4) ∨ (i = m ∧ H1 q = none) := fun m l3 h hp => by
      rcases set_get h with ⟨rfl, rfl, hl⟩ | ⟨e2, q3⟩
      · rcases hf q hp with z | z
        · exact .inl ⟨l, e, z⟩
        · exact .inr ⟨rfl, z⟩
      · exact .inl ⟨l3, q3, hp⟩
    rcases back j l1 q1 p1 with ⟨w1, g1, g3⟩ | ⟨g1, g3⟩
    · rcases back k l2 q2 p2 with ⟨w2, g2, g4⟩ | ⟨g2, g4⟩
      · exact st.st.un j k w1 w2 q g1 g2 g3 g4
      · obtain ⟨_, u, hu⟩ := st.st.own ⟨j, w1, g1, g3⟩
        rw [g4] at hu
        cases hu
    · rcases back k l2 q2 p2 with ⟨w2, g2, g4⟩ | ⟨g2, g4⟩
      · obtain ⟨_, u, hu⟩ := st.st.own ⟨k, w2, g2, g4⟩
        rw [g3] at hu
        cases hu
      · exact g1.symm.trans g2
  · rcases set_get q1 with ⟨rfl, rfl, hl⟩ | ⟨e2, q3⟩
    · exact hn
    · exact st.st.nd j l2 q3
  · by_cases hb2 : b ∈ fp l
    · rcases st.o b ⟨i, l, e, hb2⟩ with z | z
      · exact absurd z hb
      · rw [q] at z
        cases z
    · exact hk b o hb2 (st.k b o q hb)
  · rcases own_set h with z | z
    · exact st.o q z
    · rcases hf q z with y | y
      · exact st.o q ⟨i, l, e, y⟩
      · exact .inr (st.t q y)
/-- the list of a slot is changed -/
theorem Step.chg {s1 : Ss} {F1 H1 : Hp} {i : Nat} {p : Addr} {xs ys : List D} {vs : List V} (st : Step K s F H s1 F1 H1 σ) (e : s1[i]? = some (.ow p xs)) (d : DqA K F1 ys vs) : Step K s F H (s1.set i (.ow p ys)) F1 (upd H1 p (.lst vs)) σ := by
  obtain ⟨o, h1, h2⟩ := st.st.get e
  obtain ⟨rfl, hp, us, hu, _⟩ := slok_ow.mp h2
  refine st.chgG e h1 (slok_ow.mpr ⟨rfl, hp, vs, upd_same, d⟩) (by rw [fp_ow]; exact List.pairwise_singleton _ _) (fun b o hb q => ?_) (fun b q => ?_) fun b hb => .inl (by rw [fp_ow] at hb ⊢; exact hb)
  · rw [upd_ne fun z => hb (mem_ow.mpr z)]
    exact q
  · by_cases hb : b = p
    · subst hb
      rw [upd_same] at q
      cases q
    · rw [upd_ne hb] at q
      exact q
theorem tyV_list {p : Addr} {xs : List V} (h : H p = some (.lst xs)) : tyV K "list" (.ref p) H := .inl ⟨rfl, _, SqL.of h⟩
theorem sims_app {i : Nat} (h : Sim K te a) : SimS K (tDrop (tBM K "list" rAppend (tVar i) (tCons te tNil))) (aApp i a) := fun A s q σ F H ok E kn kr kb kc => by
  unfold aApp at q
  cases e : s[i]? with
  | none =>
    rw [e] at q
    exact q.elim
  | some l =>
    rw [e] at q
    cases l with
    | no => exact q.elim
    | pu d => exact q.elim
    | nd _ _ _ => exact q.elim
    | ow p0 xs0 =>
      obtain ⟨o, h1, h2⟩ := ok.get e
      obtain ⟨rfl, g1, vs0, g2, g3⟩ := slok_ow.mp h2
      refine ⟨.ref p0, h1, tyV_list g2, ?_⟩
      refine h.d q ok fun r s1 v F1 H1 q1 st1 d1 => ?_
      cases e2 : s1[i]? with
      | none =>
        rw [e2] at q1
        exact q1.elim
      | some l =>
        rw [e2] at q1
        cases l with
        | no => exact q1.elim
        | pu d => exact q1.elim
        | nd _ _ _ => exact q1.elim
        | ow p xs =>
          obtain ⟨q1, q2⟩ := q1
          obtain ⟨o, z1, z2⟩ := st1.st.get e2
          obtain ⟨z3, y1, vs, y2, y3⟩ := slok_ow.mp z2
          rw [h1] at z1
          cases z1
          cases z3
          refine ⟨_, vs, v, rfl, rfl, y2, by rw [y3.length]; exact sz_lt q1, ?_⟩
          exact kn _ σ F1 _ q2 (st1.chg e2 (y3.append ⟨v, [], rfl, d1, rfl⟩))
/-- x[k] = e -/
def aPut (i : Nat) (a b : AE) : AS := fun A s => a s fun r s1 => match s1[i]? with
  | some (.ow _ _) => b s1 fun rk s2 => match rk.d, s2[i]? with
    | .int k, some (.ow p xs) => match ixN xs.length k with
      | some j => A.nx (s2.set i (.ow p (xs.set j r.d)))
      | none => False
    | _, _ => False
  | _ => False
theorem sims_put {i : Nat} (ha : Sim K ta aa) (hb : Sim K tb ab) : SimS K (tAsg ta (gSub (tVar i) tb rSetL)) (aPut i aa ab) := fun A s q σ F H ok E kn kr kb kc => by
  refine ha.d q ok fun r s1 v F1 H1 q1 st1 d1 => ?_
  cases e : s1[i]? with
  | none =>
    rw [e] at q1
    exact q1.elim
  | some l =>
    rw [e] at q1
    cases l with
    | no => exact q1.elim
    | pu d => exact q1.elim
    | nd _ _ _ => exact q1.elim
    | ow p0 xs0 =>
      obtain ⟨o, h1, h2⟩ := st1.st.get e
      obtain ⟨rfl, g1, vs0, g2, g3⟩ := slok_ow.mp h2
      refine ⟨.ref p0, h1, ?_⟩
      refine hb.d q1 st1.st fun rk s2 w F2 H2 q2 st2 d2 => ?_
      cases e3 : rk.d <;> simp only [e3] at q2
      rename_i k
      cases e2 : s2[i]? with
      | none =>
        simp only [e2] at q2
      | some l =>
        simp only [e2] at q2
        cases l with
        | no => exact q2.elim
        | pu d => exact q2.elim
        | nd _ _ _ => exact q2.elim
        | ow p xs =>
          simp only at q2
          cases e4 : ixN xs.length k with
          | none =>
            simp only [e4] at q2
          | some j =>
            simp only [e4] at q2
            rw [e3] at d2
            obtain ⟨o, z1, z2⟩ := st2.st.get e2
            obtain ⟨z3, y1, vs, y2, y3⟩ := slok_ow.mp z2
            rw [h1] at z1
            cases z1
            cases z3
            refine ⟨_, vs, k, j, rfl, d2, y2, by rw [y3.length]; exact e4, ?_⟩
            exact kn _ σ F2 _ q2 ((st1.trans st2).chg e2 (y3.set (Dq.mono st2.f _ _ d1)))
/-- x[k], len(x) of a list that a slot owns -/
def aIxO (i : Nat) (b : AE) : AE := fun s P => match s[i]? with
  | some (.ow _ _) => b s fun rk s1 => match rk.d, s1[i]? with
    | .int k, some (.ow _ xs) => match atI xs k with
      | some d => P (.pu d) s1
      | none => False
    | _, _ => False
  | _ => False
theorem sim_ixO {i : Nat} (hb : Sim K tb ab) : Sim K (tOp (fun x y H Q => rIxL K x y H Q ∨ rIxT K x y H Q ∨ rIxS x y H Q) (tVar i) tb) (aIxO i ab) := fun s P q σ F H ok Q k => by
  unfold aIxO at q
  cases e : s[i]? with
  | none =>
    rw [e] at q
    exact q.elim
  | some l =>
    rw [e] at q
    cases l with
    | no => exact q.elim
    | pu d => exact q.elim
    | nd _ _ _ => exact q.elim
    | ow p0 xs0 =>
      obtain ⟨o, h1, h2⟩ := ok.get e
      obtain ⟨rfl, g1, vs0, g2, g3⟩ := slok_ow.mp h2
      refine ⟨.ref p0, h1, ?_⟩
      refine hb.d q ok fun rk s2 w F2 H2 q2 st2 d2 => ?_
      cases e3 : rk.d <;> simp only [e3] at q2
      rename_i j
      cases e2 : s2[i]? with
      | none =>
        simp only [e2] at q2
      | some l =>
        simp only [e2] at q2
        cases l with
        | no => exact q2.elim
        | pu d => exact q2.elim
        | nd _ _ _ => exact q2.elim
        | ow p xs =>
          simp only at q2
          cases e4 : atI xs j with
          | none =>
            simp only [e4] at q2
          | some d =>
            simp only [e4] at q2
            rw [e3] at d2
            obtain ⟨o, z1, z2⟩ := st2.st.get e2
            obtain ⟨z3, y1, vs, y2, y3⟩ := slok_ow.mp z2
            rw [h1] at z1
            cases z1
            cases z3
            obtain ⟨x, x1, x2⟩ := atI_ok y3 e4
            exact .inl ⟨_, vs, j, x, rfl, d2, SqL.of y2, x1, k _ s2 x F2 H2 q2 st2 (.pu x2)⟩
/-- a reading of a slot's list that leaves it as it is: r takes it as a value and hands back what holds no object -/
def aBor (r : ARC) (i : Nat) : AE := fun s P => match s[i]? with
  | some (.ow _ xs) => r [.lst xs] fun rs => ∃ d, rs = .pu d ∧ (flatD d = true) ∧ P (.pu d) s
  | _ => False
theorem flat_any {F F' : Hp} {d : D} {v : V} (h : flatD d = true) (q : Dq K F d v) : Dq K F' d v := by
  cases d <;> first | (cases h; done) | exact q
def aItL (a : AE) : AI := fun s P => a s fun r s1 => match r.d with
  | .lst ds => P ds s1
  | .scr ds => P ds s1
  | _ => False
def aItT (a : AE) : AI := fun s P => a s fun r s1 => match r.d with
  | .tup ds => P ds s1
  | _ => False
theorem simi_list (h : Sim K te a) : SimI K (iList K te) (aItL a) := fun s P q σ F H ok R k => by
  refine h.d q ok fun r s1 v F1 H1 q1 st1 d1 => ?_
  have go : ∀ a xs ds, SqL K F1 a xs → DqA K F1 ds xs → v = .ref a → P ds s1 → ∃ a, v = .ref a ∧ (∃ xs, SqL K H1 a xs) ∧ R (Itl K a) H1 := fun a xs ds h1 h2 ev q2 => by
    refine ⟨a, ev, ⟨xs, Same.seq st1.st.le h1⟩, k ds s1 _ F1 H1 q2 st1 ⟨fun H => SqL K H a xs, YAt xs, ?_, fun H2 e => Same.seq e h1, fun i H2 x H3 e y d hd F2 e1 e2 => ?_⟩⟩
    · rw [← h2.length]
      exact walk_list
    · obtain ⟨rfl, hx⟩ := y
      obtain ⟨x2, g1, g2⟩ := h2.get hd
      rw [hx] at g1
      cases g1
      exact ⟨F2, Lf.same e2 _ _ (Dq.mono e1 _ _ g2)⟩
  cases e : r.d <;> simp only [e] at q1
  · rw [e] at d1
    obtain ⟨a, xs, ev, h1, h2⟩ := d1
    exact go a xs _ (SqL.of h1) h2 ev q1
  · rw [e] at d1
    obtain ⟨a, xs, ev, h1, h2⟩ := d1
    exact go a xs _ h1 h2 ev q1
theorem simi_tup (h : Sim K te a) : SimI K (iTup K te) (aItT a) := fun s P q σ F H ok R k => by
  refine h.d q ok fun r s1 v F1 H1 q1 st1 d1 => ?_
  cases e : r.d <;> simp only [e] at q1
  rw [e] at d1
  obtain ⟨a, xs, ev, h1, h2⟩ := d1
  refine ⟨a, ev, ⟨xs, Same.sqt st1.st.le h1⟩, k _ s1 _ F1 H1 q1 st1 ⟨fun H => SqT K H a xs, YAt xs, ?_, fun H2 e => Same.sqt e h1, fun i H2 x H3 e y d hd F2 e1 e2 => ?_⟩⟩
  · rw [← h2.length]
    exact walk_tup
  · obtain ⟨rfl, hx⟩ := y
    obtain ⟨x2, g1, g2⟩ := h2.get hd
    rw [hx] at g1
    cases g1
    exact ⟨F2, Lf.same e2 _ _ (Dq.mono e1 _ _ g2)⟩
def rngD (lo : Int) (n : Nat) : List D := (List.range n).map fun (i : Nat) => D.int (lo + (i : Int))
def aRng1 (a : AA) : AI := fun s P => a s fun ds s1 => match ds with
  | [.int j] => -(2 ^ 62) ≤ j ∧ j < 2 ^ 62 ∧ P (rngD 0 j.toNat) s1
  | _ => False
theorem rng_yields {lo : Int} {n : Nat} {F1 : Hp} : Yields K (Itr lo n) F1 (rngD lo n) := by
  refine ⟨fun _ => True, YFn fun i => .int (lo + i), ?_, fun _ _ => trivial, fun i H2 x H3 e y d hd F2 e1 e2 => ?_⟩
  · have e : (rngD lo n).length = n := by
      unfold rngD
      rw [List.length_map, List.length_range]
    rw [e]
    exact walk_range
  · obtain ⟨rfl, rfl⟩ := y
    unfold rngD at hd
    rw [List.getElem?_map] at hd
    cases e3 : (List.range n)[i]? with
    | none =>
      rw [e3] at hd
      cases hd
    | some j =>
      rw [e3] at hd
      obtain ⟨hi, hj⟩ := List.getElem?_eq_some_iff.mp e3
      rw [List.getElem_range] at hj
      cases hd
      subst hj
      exact ⟨F2, Lf.same e2 _ _ rfl⟩
theorem dqa1 {F : Hp} {d : D} {vs : List V} (h : DqA K F [d] vs) : ∃ v, vs = [v] ∧ Dq K F d v := by
  obtain ⟨x, r, rfl, h2, h3⟩ := h
  exact ⟨x, by rw [show r = [] from h3], h2⟩
theorem dqa2 {F : Hp} {d e : D} {vs : List V} (h : DqA K F [d, e] vs) : ∃ v w, vs = [v, w] ∧ Dq K F d v ∧ Dq K F e w := by
  obtain ⟨x, r, rfl, h2, h3⟩ := h
  obtain ⟨y, rfl, h4⟩ := dqa1 h3
  exact ⟨x, y, rfl, h2, h4⟩
theorem simi_rng1 {t : TA} {a : AA} (h : SimA K t a) : SimI K (iRng1 t) (aRng1 a) := fun s P q σ F H ok R k => by
  refine h s _ q σ F H ok _ fun ds s1 vs F1 H1 q1 st1 d1 => ?_
  match ds, q1, d1 with
  | [.int j], q1, d1 =>
    obtain ⟨v, rfl, h2⟩ := dqa1 d1
    cases (show v = _ from h2)
    exact ⟨j, rfl, q1.1, q1.2.1, k _ s1 _ F1 H1 q1.2.2 st1 rng_yields⟩
def aForD (g : AG) (b : AS) (A : AEnds) : List D → Ss → Prop
  | [], s => A.nx s
  | d :: ds, s => g d s fun s1 => b { nx := aForD g b A ds, rt := A.rt, bk := A.nx, ct := aForD g b A ds } s1
def aFor (i : AI) (g : AG) (b : AS) : AS := fun A s => i s fun ds s1 => aForD g b A ds s1
theorem sims_for {wi : TI} {ai : AI} {g : TG} {ag : AG} {L : List Nat} (hi : SimI K wi ai) (hg : SimG K g ag L) (hb : SimS K ts as) : SimS K (tFor wi g ts) (aFor ai ag as) := fun A s q σ F H ok E kn kr kb kc => by
  refine hi s _ q σ F H ok _ fun ds s1 J F1 H1 q1 st1 hy => ?_
  obtain ⟨G, Y, w, hG, hY⟩ := hy
  refine for_it w (fun i σ' H' => ∃ s' F', aForD ag as A (ds.drop i) s' ∧ Step K s F H s' F' H' σ' ∧ Same F1 F') ⟨s1, F1, by rw [List.drop_zero]; exact q1, st1, Same.refl _⟩ (fun i σ' H' hi ⟨s', F', _, st, sm⟩ => hG H' (sm.trans st.st.le)) ?_ ?_
  · rintro i x σ' H' H2 hi ⟨s', F', qq, st, sm⟩ y
    have ed : ds.drop i = ds[i] :: ds.drop (i + 1) := List.drop_eq_getElem_cons hi
    rw [ed] at qq
    obtain ⟨F2, l⟩ := hY i H' x H2 (sm.trans st.st.le) y ds[i] (List.getElem?_eq_getElem hi) F' sm st.st.le
    obtain ⟨st2, rs2⟩ := st.leaf l
    obtain ⟨w2, e1, e2⟩ := slok_pu.mp rs2.ok
    cases e1
    refine hg _ s' _ qq x σ' F2 H2 st2.st e2 _ fun s3 σ3 q3 st3 _ _ => ?_
    have st23 := st2.trans st3
    refine hb _ s3 q3 σ3 F2 H2 st3.st _ (fun s4 σ4 F4 H4 q4 st4 => ⟨s4, F4, q4, st23.trans st4, (sm.trans l.f).trans st4.f⟩) (fun r s4 σ4 v F4 H4 q4 st4 rs => kr r s4 σ4 v F4 H4 q4 (st23.trans st4) (rs.more st23))
      (fun s4 σ4 F4 H4 q4 st4 => kn s4 σ4 F4 H4 q4 (st23.trans st4)) (fun s4 σ4 F4 H4 q4 st4 => ⟨s4, F4, q4, st23.trans st4, (sm.trans l.f).trans st4.f⟩)
  · rintro σ' H' ⟨s', F', qq, st, _⟩
    rw [List.drop_length] at qq
    exact kn s' σ' F' H' qq st
end
end DL
namespace DL
open PySem L2
structure GnOk (P : Program) (w : World) (K : PySem.W.Frag) (mg : Str → Option Value) (base : Heap) (CX : CXT) (k : Nat) (f : Addr) (fd : FuncData) (ps : List Str) (sp : Sp) : Prop where
  many : ∀ xs H Q E, sp xs H Q E → xs.length = ps.length
  go : ∀ (A : Around) (fr : List Env) (s : Shared) (H : Hp) (given : Args) (ws : List Value) (xs : List V) (Q : VK) (E : XK), A.guards = some [] → Room k A → Env0 P w K mg base A fr s H → BindsTo s fd given (ps.zip ws) → Vals xs ws → sp xs H Q E →
    codeAny (model P w) A (.call (.ref f) given) (CR CX fr P w H s Q E) s
section
variable {P : Program} {w : World} {K : PySem.W.Frag} {mg : Str → Option Value} {base : Heap} {CX : CXT} {k : Nat}
theorem GnOk.imp {f : Addr} {fd : FuncData} {ps : List Str} {sp sp' : Sp} (G : GnOk P w K mg base CX k f fd ps sp) (h : ∀ xs H Q E, sp' xs H Q E → sp xs H Q E) : GnOk P w K mg base CX k f fd ps sp' :=
  ⟨fun xs H Q E q => G.many xs H Q E (h _ _ _ _ q), fun A fr s H given ws xs Q E hg hr e b r q => G.go A fr s H given ws xs Q E hg hr e b r (h _ _ _ _ q)⟩
theorem gn_body {x qual : Str} {st : Stmt} {f : Addr} {fd : FuncData} {N ps : List Str} {sp : Sp} (Fn : Fun K x qual st f fd) (S : FnScope N ps (defScope st)) (many : ∀ xs H Q E, sp xs H Q E → xs.length = ps.length)
    (body : ∀ (cdv : Value) (A : Around) (fr : List Env) (s : Shared) (H : Hp) (xs : List V) (Q : VK) (E : XK), (A.deeper (PyProof.Rows.envOfC qual (defScope st) s.heap.objs.size f cdv)).guards = some [] → Room k (A.deeper (PyProof.Rows.envOfC qual (defScope st) s.heap.objs.size f cdv)) → sp xs H Q E →
      ∃ t, PSs (cxOf CX P w K mg base N qual (defScope st) f cdv A fr s H E) (defBody st) t ∧ t { nx := fun _ H' => Q .non H', rt := Q } (L2.start N xs) H) :
    GnOk P w K mg base CX (k + 1) f fd ps sp := by
  obtain ⟨oc, od, kV, doc, pm, an, cdv, ct, osl, rfl, here, hcode⟩ := Fn.ex
  refine ⟨many, fun A fr s H given ws xs Q E hg hr e0 hb rel hsp => ?_⟩
  have inK : K.In s.heap := e0.mod.kin.keeps fun b o e => (e0.bs b o e).1
  have bnd : ∀ y ∈ ps.zip ws, (defScope st).names.lookup y.1 = some .local ∨ ((defScope st).names.lookup y.1 = some .cell ∧ ((cellsFrom (s.heap.objs.size + 1) (defScope st).names []).lookup y.1).isSome = true) := by
    rintro ⟨n, v⟩ hy
    cases S.par n (List.of_mem_zip hy).1 with
    | inl q => exact .inl q
    | inr q => exact .inr ⟨q, PySem.W.cellsFrom_some _ _ _ (.inl q)⟩
  refine codeAny_call_function hr.depth (inK _ _ here) rfl S.co S.gen rfl (PySem.W.codeRec_of inK hcode) (hb _ _ _ _ ?_)
  refine wpAny_newFunctionEnv_cells S.kind bnd fun env he s1 new => ?_
  cases he
  refine ⟨(e0.mod.nolimit.keeps fun b o e => (e0.bs b o e).1).keeps new.toInCall.keep, codeAny_func ?_⟩
  obtain ⟨t, ht, hq⟩ := body cdv A fr s H xs Q E hg (hr.deeper _) hsp
  have I0 := inv_start (CX := CX) (P := P) (E := E) S hr.hd e0 (many _ _ _ _ hsp) rel new
  refine wpAny_mono (ht.run [] s1 (L2.start N xs) H _ I0 hq) (fun fl s' hs => ?_) fun e s' hs => hs
  cases fl with
  | brk =>
    obtain ⟨_, _, _, q⟩ := hs
    exact q.elim
  | cont =>
    obtain ⟨_, _, _, q⟩ := hs
    exact q.elim
  | next =>
    obtain ⟨σ', H', J, q⟩ := hs
    exact ⟨.non, H', J.os, J.bare, J.base, J.hok, rfl, q⟩
  | ret u =>
    obtain ⟨v, σ', H', J, rv, q⟩ := hs
    exact ⟨v, H', J.os, J.bare, J.base, J.hok, rv, q⟩
end
section
variable {X : Cx} {CX : CXT} {k : Nat} {f : Addr} {fd : FuncData} {ps ks : List Str} {sp : Sp} {E : XK} {x : Str} {p pos : Pos} {e : Expr} {es : List Expr} {t tk : TA} {kws : List Keyword}
theorem gn_end {pins : List (Addr × Obj)} {σ : L2.St} {H : Hp} {s : Shared} {Q : VK} {given : Args} {ws : List Value} {xs : List V} (G : GnOk X.prog X.w X.K X.mg X.base CX k f fd ps sp) (hg : X.A.guards = some []) (hr : Room k X.A) (hx : Passes CX X E) (I : L2.Inv X pins σ H s)
    (hb : BindsTo s fd given (ps.zip ws)) (r : Vals xs ws) (h : sp xs H Q E) : wpAny (model X.prog X.w) X.A (call (.ref f) given.pos given.kw) (EP X pins σ Q) X.xe s := by
  refine wpAny_call (codeAny_mono (G.go X.A X.stack s H given ws xs Q E hg hr I.env0 hb r h) ?_)
  intro res s' hq
  match res, hq with
  | .error e, hq => exact hx pins σ H s e s' I hq
  | .ok (.ret u), hq => exact I.after hq
/-- f(e, ..) -/
theorem pe_g (G : GnOk X.prog X.w X.K X.mg X.base CX k f fd ps sp) (hgd : X.A.guards = some []) (hr : Room k X.A) (hg : Gl X x) (hm : X.mg x = some (.ref f)) (hk : PySem.W.keepIn X.K (.ref f) = true) (hb : Binds X.K fd ps []) (hx : Passes CX X E)
    (ha : PA X (e :: es) t) (hdb : (x == ("__debug__" : Str)) = false := by decide) (he : starEach (e :: es) X.env = (false, eval e X.env) :: starEach es X.env := by rfl) (hpl : (backTo pos (starEach es X.env)).any (·.1) = false := by rfl) :
    PE X (.Call (.Name x p) (e :: es) [] pos) (tCall sp [] E t) := ⟨fun pins s σ H Q I h => by
  refine wpAny_Call_Name_kw (ld_glob I hg hm ?_ hdb)
  refine PySem.W.callWith_K (h₀ := X.base) I.ok.mod.kin hk (thn (ha.run pos pins s σ H _ I h) ?_) he hpl
  rintro us s1 ⟨xs, H1, I1, r, q⟩
  have q' : sp (xs ++ []) H1 Q E := q
  rw [List.append_nil] at q'
  have hl : (us ++ []).length = ps.length := by rw [List.append_nil, ← r.length]; exact G.many _ _ _ _ q'
  have bb := hb s1 us I1.kIn hl
  rw [List.append_nil] at bb
  exact ⟨I1.kIn, gn_end (given := ⟨us, []⟩) G hgd hr hx I1 bb r q'⟩⟩
/-- f(k = v, ..): by keywords alone -/
theorem pe_gK {g : List Value → List Value → List Value} {gV : List V → List V → List V} (G : GnOk X.prog X.w X.K X.mg X.base CX k f fd ps sp) (hgd : X.A.guards = some []) (hr : Room k X.A) (hg : Gl X x) (hm : X.mg x = some (.ref f)) (hk : PySem.W.keepIn X.K (.ref f) = true) (hb : KBinds X.K fd ps ks g gV) (hx : Passes CX X E)
    (hkw : PK X kws tk) (hall : (backToKw pos (keywordEach kws X.env)).all (·.1.isSome) = true := by rfl) (hks : (backToKw pos (keywordEach kws X.env)).filterMap (·.1) = ks := by rfl)
    (hdb : (x == ("__debug__" : Str)) = false := by decide) (hpl : ((backTo pos (starEach [] X.env)).any (·.1) || (backToKw pos (keywordEach kws X.env)).any (·.1.isNone)) = false := by rfl) :
    PE X (.Call (.Name x p) [] kws pos) (tCallK sp gV E tNil tk) := ⟨fun pins s σ H Q I h => by
  refine wpAny_Call_Name_kw (ld_glob I hg hm ?_ hdb)
  refine PySem.W.callWith_KW0 (h₀ := X.base) I.ok.mod.kin hk hall (thn (hkw.run pos pins s σ H _ I h) ?_) hpl
  rintro us s1 ⟨zs, H1, I1, r, q⟩
  rw [hks]
  have rr := hb.rel (vs := []) (us := []) .nil r
  have hl : (g [] us).length = ps.length := by rw [← rr.length]; exact G.many _ _ _ _ q
  exact ⟨I1.kIn, gn_end (given := ⟨[], ks.zip us⟩) G hgd hr hx I1 (hb.to s1 [] us I1.kIn hl) rr q⟩⟩
end
section
variable {P : Program} {w : World} {K : PySem.W.Frag} {mg mb : Str → Option Value} {CX : CXT} {k : Nat} {fa a : Addr} {fd : FuncData} {x : Str} {sp : Sp} {s : Shared} {vs : List Value} {ns : List Int}
/-- what is tracked at the entry: the script at most, known to its object -/
structure Entry (P : Program) (w : World) (K : PySem.W.Frag) (s : Shared) (a : Addr) (ob : Obj) (xs : List V) (H : Hp) : Prop where
  one : ∀ b u, H b = some u → b = a ∧ u = .frz ob (.lst xs) ∧ K.lookup a = none
  ok : HOk P w H s.heap
theorem entry_env {ob : Obj} {xs : List V} {H : Hp} (en : Entry P w K s a ob xs H) (ha : s.heap.get? a = some ob) (hd : ∀ es ep, ob.data ≠ .dict es ep) (KX : K.In s.heap) (hns : s.heap.Ns mainGlobals mg) (hb : s.heap.Ns builtinsNs mb)
    (hbb : ∀ x : Str, x ≠ "__name__" → mb x = bootBuiltins x) (hlim : s.heap.NoLimit) (hg : s.gens = #[]) : K.In (hidT s.heap H) ∧ (hidT s.heap H).Ns mainGlobals mg ∧ Env0 P w K mg (hidT s.heap H) callerA [] s H := by
  have out : ∀ b o, s.heap.get? b = some o → (b = a → False) → (hidT s.heap H).get? b = some o := fun b o e n => by
    refine hidT_get e ?_
    cases q : H b with
    | none => rfl
    | some u => exact (n (en.one b u q).1).elim
  have names : ∀ {b : Addr} {m : Str → Option Value}, s.heap.Ns b m → (hidT s.heap H).Ns b m := by
    rintro b m ⟨o, es, ep, e, d, r⟩
    refine ⟨o, es, ep, out b o e fun z => ?_, d, r⟩
    subst z
    rw [ha] at e
    cases e
    exact hd es ep d
  have inK : K.In (hidT s.heap H) := fun b o e => by
    refine hidT_get (KX b o e) ?_
    cases q : H b with
    | none => rfl
    | some u =>
      obtain ⟨z, _, n⟩ := en.one b u q
      rw [z, n] at e
      cases e
  refine ⟨inK, names hns, rfl, ⟨inK, names hns, ⟨mb, names hb, hbb⟩, ?_⟩, fun b o e => of_hidT e, Nat.le_of_eq (hidT_size _ _), trivial, fun b hb => ?_, en.ok, .of_eq hg⟩
  · obtain ⟨mc, h1, h2⟩ := hlim
    exact ⟨mc, names h1, h2⟩
  · cases hb
theorem law_go {H : Hp} {xs : List V} {ob : Obj} (en : Entry P w K s a ob xs H) (ha : s.heap.get? a = some ob) (hd : ∀ es ep, ob.data ≠ .dict es ep) (KX : K.In s.heap) (hns : s.heap.Ns mainGlobals mg) (hb : s.heap.Ns builtinsNs mb)
    (hbb : ∀ x : Str, x ≠ "__name__" → mb x = bootBuiltins x) (hlim : s.heap.NoLimit) (hg : s.gens = #[]) (hr : Room k callerA) (G : ∀ base : Heap, K.In base → base.Ns mainGlobals mg → GnOk P w K mg base CX k fa fd [x] sp) (hbind : ∀ (s : Shared) (u : Value), BindsTo s fd ⟨[u], []⟩ [(x, u)])
    (hsp : sp [.ref a] H (fun v _ => v = .bl true) fun _ _ _ => False) (hCX : ∀ e s', CX [] H s (fun _ _ _ => False) e s' → False) :
    codeAny (model P w) callerA (.call (.ref fa) ⟨[.ref a], []⟩) (fun r s' => r = .ok (.ret (.bool true)) ∧ OldK s.heap s'.heap ∧ s'.os = s.os ∧ PyProof.Rows.AllBare s'.gens) s := by
  obtain ⟨inK, nm, e0⟩ := entry_env en ha hd KX hns hb hbb hlim hg
  refine codeAny_mono ((G _ inK nm).go callerA [] s H ⟨[.ref a], []⟩ [.ref a] [.ref a] _ _ rfl hr e0 (hbind s (.ref a)) (.cons rfl .nil) hsp) ?_
  intro r s' h
  match r, h with
  | .error e, h => exact (hCX e s' h).elim
  | .ok (.ret u), h =>
    obtain ⟨v, H', os, bare, un, hok', rel, q⟩ := h
    cases (show v = _ from q)
    cases (show u = _ from rel)
    refine ⟨rfl, OldK.of_keep fun b o e => ?_, os, bare⟩
    cases q : H b with
    | none => exact un.keep b o e q (fun z => by cases z) (fun z => by cases z)
    | some u =>
      obtain ⟨z, z1, _⟩ := en.one b u q
      rw [z1] at q
      have h1 := (en.ok b _ q).1
      have h2 := (hok' b _ (un.frzs b ob _ q)).1
      rw [e] at h1
      cases h1
      exact h2
theorem law_g (KX : K.In s.heap) (hns : s.heap.Ns mainGlobals mg) (hb : s.heap.Ns builtinsNs mb) (hbb : ∀ x : Str, x ≠ "__name__" → mb x = bootBuiltins x) (hlim : s.heap.NoLimit) (hg : s.gens = #[])
    (ha : s.heap.get? a = some { cls := .type "list", data := .seq vs.toArray }) (hi : PyProof.Rows.IntsAre vs ns) (hl : ns.length ≤ sizeLine) (hr : Room k callerA)
    (G : ∀ base : Heap, K.In base → base.Ns mainGlobals mg → GnOk P w K mg base CX k fa fd [x] sp) (hbind : ∀ (s : Shared) (u : Value), BindsTo s fd ⟨[u], []⟩ [(x, u)])
    (hsp : ∀ H : Hp, SqL K H a (ns.map V.int) → sp [.ref a] H (fun v _ => v = .bl true) fun _ _ _ => False) (hCX : ∀ H e s', CX [] H s (fun _ _ _ => False) e s' → False) :
    codeAny (model P w) callerA (.call (.ref fa) ⟨[.ref a], []⟩) (fun r s' => r = .ok (.ret (.bool true)) ∧ OldK s.heap s'.heap ∧ s'.os = s.os ∧ PyProof.Rows.AllBare s'.gens) s := by
  have rv := vals_ints hi
  have hd : ∀ es ep, (Obj.data { cls := .type "list", data := .seq vs.toArray }) ≠ .dict es ep := fun es ep z => by cases z
  cases hk : K.lookup a with
  | some o =>
    have e := KX a o hk
    rw [ha] at e
    cases e
    refine law_go (H := fun _ => none) (xs := ns.map V.int) ⟨(fun b u z => by cases z), (fun b u z => by cases z)⟩ ha hd KX hns hb hbb hlim hg hr G hbind (hsp _ (.inr ⟨_, vs.toArray, _, hk, rfl, rfl, rfl, ?_, by simpa using rv⟩)) (hCX _)
    rw [List.size_toArray, ← rv.length, List.length_map]
    exact hl
  | none =>
    have at_a : ∀ b u, (if b = a then some (HO.frz { cls := .type "list", data := .seq vs.toArray } (.lst (ns.map V.int))) else none) = some u → b = a ∧ u = HO.frz { cls := .type "list", data := .seq vs.toArray } (.lst (ns.map V.int)) := fun b u z => by
      by_cases hb : b = a
      · rw [if_pos hb] at z
        cases z
        exact ⟨hb, rfl⟩
      · rw [if_neg hb] at z
        cases z
    refine law_go (H := fun b => if b = a then some (HO.frz { cls := .type "list", data := .seq vs.toArray } (.lst (ns.map V.int))) else none) ⟨fun b u z => ⟨(at_a b u z).1, (at_a b u z).2, hk⟩, fun b u z => ?_⟩ ha hd KX hns hb hbb hlim hg hr G hbind (hsp _ (.inl (.inr ⟨_, if_pos rfl⟩))) (hCX _)
    obtain ⟨rfl, rfl⟩ := at_a b u z
    exact ⟨ha, by rw [List.length_map]; exact hl, vs, _, rv, ha⟩
end
/-- the goal that k_head leaves -/
theorem walk_g {l : PySem.W.OpenLaw} {n k : Nat} {q : Program} {loose : List Str} {XP : (Str → Option Value) → Heap → Prop} {YP : World → Heap → Prop} {d : DefRec} {K : Params → PySem.W.Frag} {CX : World → CXT} {sp : World → Sp} {x : Str} (hn : l.most = some n) (hn2 : n ≤ sizeLine) (hdf : d.params.defaults = []) (hr : Room k callerA)
    (hY : ∀ (w : World) (h : Heap), YP w h → (K w.params).In h)
    (F : ∀ (w : World) (mg : Str → Option Value) (fa : Addr) (h : Heap), (K w.params).In h → h.Ns mainGlobals mg → mg d.name = some (.ref fa) → ∃ fd : FuncData, (∀ (s : Shared) (u : Value), BindsTo s fd ⟨[u], []⟩ [(x, u)]) ∧
        ∀ base : Heap, (K w.params).In base → base.Ns mainGlobals mg → GnOk l.prog w (K w.params) mg base (CX w) k fa fd [x] (sp w))
    (hsp : ∀ (w : World) (H : Hp) (a : Addr) (ns : List Int), ns.length ≤ n → SqL (K w.params) H a (ns.map V.int) → sp w [.ref a] H (fun v _ => v = .bl true) fun _ _ _ => False)
    (hCX : ∀ (w : World) (H : Hp) (s : Shared) (e : Value) (s' : Shared), CX w [] H s (fun _ _ _ => False) e s' → False) : PySem.W.WalkO q loose XP YP l.row.toRowW d [] (fun f vs => PySem.call f vs) := by
  refine Att.attach_call hn hdf fun w s0 s1 mg mb fa o pm cd doc a vs ns G Y ho hd hcd hmg hobj hints hlen hg => ?_
  obtain ⟨fd, hb, hF⟩ := F w mg fa _ (hY w _ Y) G.T.g hmg
  exact law_g (hY w _ Y) G.T.g G.T.b G.T.builtins G.T.nolimit hg hobj hints (Nat.le_trans hlen hn2) hr hF hb (fun H hS => hsp w H a ns hlen hS) fun H e s' => hCX w H s1 e s'
end DL
namespace DL
open PySem L2
section
variable {K : PySem.W.Frag} {te ta tb tc : TE} {a aa ab ac : AE} {F H : Hp} {s : Ss} {σ : L2.St} {ts tu : TS} {as au : AS} {c : TT} {ac1 : AT}
def wipeS (s : Ss) : List Nat → Ss
  | [] => s
  | v :: vs => (wipeS s vs).set v .no
theorem wipeS_len (s : Ss) : ∀ vs, (wipeS s vs).length = s.length
  | [] => rfl
  | v :: vs => by
    show ((wipeS s vs).set v .no).length = s.length
    rw [List.length_set, wipeS_len s vs]
theorem wipeS_in {s : Ss} {i : Nat} {l : Sl} : ∀ {vs : List Nat}, (wipeS s vs)[i]? = some l → (i ∈ vs → l = .no) ∧ (i ∉ vs → s[i]? = some l)
  | [], h => by
    refine ⟨fun z => ?_, fun _ => h⟩
    cases z
  | v :: vs, h => by
    have h2 : ((wipeS s vs).set v .no)[i]? = some l := h
    rw [List.getElem?_set] at h2
    by_cases e : v = i
    · subst e
      rw [if_pos rfl] at h2
      split at h2
      · cases h2
        exact ⟨fun _ => rfl, fun z => absurd (List.mem_cons_self) z⟩
      · cases h2
    · rw [if_neg e] at h2
      obtain ⟨g1, g2⟩ := wipeS_in h2
      refine ⟨fun z => ?_, fun z => g2 fun y => z (List.mem_cons_of_mem _ y)⟩
      rcases List.mem_cons.mp z with y | y
      · exact absurd y.symm e
      · exact g1 y
theorem wipe_in {σ : L2.St} {i : Nat} : ∀ {vs : List Nat}, i ∈ vs → i < σ.length → (wipe σ vs)[i]? = some none
  | [], h, _ => by cases h
  | v :: vs, h, hl => by
    show ((wipe σ vs).set v none)[i]? = some none
    rw [List.getElem?_set]
    by_cases e : v = i
    · rw [if_pos e, if_pos (by rw [wipe_length, e]; exact hl)]
    · rw [if_neg e]
      rcases List.mem_cons.mp h with y | y
      · exact absurd y.symm e
      · exact wipe_in y hl
theorem own_wipe {s : Ss} {vs : List Nat} {p : Addr} (h : Own (wipeS s vs) p) : Own s p := by
  obtain ⟨i, l, e, hp⟩ := h
  obtain ⟨g1, g2⟩ := wipeS_in e
  by_cases hi : i ∈ vs
  · rw [g1 hi, fp_no] at hp
    cases hp
  · exact ⟨i, l, g2 hi, hp⟩
/-- the slots vs are empty -/
def Wiped (s : Ss) (vs : List Nat) : Prop := ∀ i l, i ∈ vs → s[i]? = some l → l = .no
theorem wiped_wipe (s : Ss) (vs : List Nat) : Wiped (wipeS s vs) vs := fun i l hi e => (wipeS_in e).1 hi
theorem StOk.into {vs : List Nat} (ok : StOk K F H σ s) (w : Wiped s vs) : StOk K F H (wipe σ vs) s where
  le := ok.le
  len := by rw [wipe_length, ok.len]
  ok := fun i l o h1 h2 => by
    by_cases hi : i ∈ vs
    · rw [w i l hi h1]
      unfold SlOk
      trivial
    · rw [wipe_out hi] at h2
      exact ok.ok i l o h1 h2
  un := ok.un
  nd := ok.nd
theorem StOk.outof {vs : List Nat} {σ2 : L2.St} (ok : StOk K F H σ2 s) (hl : σ2.length = σ.length) (e : ∀ j, j ∉ vs → σ2[j]? = σ[j]?) : StOk K F H σ (wipeS s vs) where
  le := ok.le
  len := by rw [wipeS_len, ← hl, ok.len]
  ok := fun i l o h1 h2 => by
    obtain ⟨g1, g2⟩ := wipeS_in h1
    by_cases hi : i ∈ vs
    · rw [g1 hi]
      unfold SlOk
      trivial
    · exact ok.ok i l o (g2 hi) (by rw [e i hi]; exact h2)
  un := fun i j l m p h1 h2 p1 p2 => by
    obtain ⟨g1, g2⟩ := wipeS_in h1
    obtain ⟨k1, k2⟩ := wipeS_in h2
    by_cases hi : i ∈ vs
    · rw [g1 hi, fp_no] at p1
      cases p1
    · by_cases hj : j ∈ vs
      · rw [k1 hj, fp_no] at p2
        cases p2
      · exact ok.un i j l m p (g2 hi) (k2 hj) p1 p2
  nd := fun i l h1 => by
    obtain ⟨g1, g2⟩ := wipeS_in h1
    by_cases hi : i ∈ vs
    · rw [g1 hi, fp_no]
      exact List.nodup_nil
    · exact ok.nd i l (g2 hi)
theorem Step.outof {vs : List Nat} {σ2 : L2.St} {s2 : Ss} {F2 H2 : Hp} (st : Step K s F H s2 F2 H2 σ2) (hl : σ2.length = σ.length) (e : ∀ j, j ∉ vs → σ2[j]? = σ[j]?) : Step K s F H (wipeS s2 vs) F2 H2 σ :=
  ⟨st.st.outof hl e, st.f, st.k, st.t, st.n, fun p h => st.o p (own_wipe h)⟩
theorem wipe_eq {σ2 : L2.St} {vs : List Nat} (hl : σ2.length = (wipe σ vs).length) (e : ∀ j, j ∉ vs → σ2[j]? = (wipe σ vs)[j]?) : wipe σ2 vs = wipe σ vs := by
  rw [wipe_length] at hl
  refine List.ext_getElem? fun i => ?_
  by_cases hi : i ∈ vs
  · by_cases hk : i < σ.length
    · rw [wipe_in hi hk, wipe_in hi (by rw [hl]; exact hk)]
    · rw [List.getElem?_eq_none (by rw [wipe_length]; omega), List.getElem?_eq_none (by rw [wipe_length]; omega)]
  · rw [wipe_out hi, e i hi]
def aLcD (g : AG) (t : AT) (e : AE) (vs : List Nat) : List D → Ss → List D → (List D → Ss → Prop) → Prop
  | [], s, acc, P => P acc s
  | d :: ds, s, acc, P => g d s fun s1 => t s1 fun b s2 => if b = true then e s2 fun r s3 => acc.length < 100000 ∧ aLcD g t e vs ds (wipeS s3 vs) (acc ++ [r.d]) P else aLcD g t e vs ds (wipeS s2 vs) acc P
def aLc (i : AI) (g : AG) (t : AT) (e : AE) (vs : List Nat) : AE := fun s P => i s fun ds s1 => ∀ p, aLcD g t e vs ds (wipeS s1 vs) [] fun acc s2 => P (.ow p acc) s2
/-- what stands of a comprehension between two turns -/
structure LcAt (K : PySem.W.Frag) (s : Ss) (F H : Hp) (σ : L2.St) (p : Addr) (F1 : Hp) (vs : List Nat) (s' : Ss) (F' H' : Hp) (acc : List D) : Prop where
  st : Step K s F H s' F' H' σ
  f : Same F1 F'
  pf : F' p = none
  po : ¬ Own s' p
  pl : ∃ us, H' p = some (.lst us) ∧ DqA K F' acc us
  w : Wiped s' vs
theorem LcAt.next {p : Addr} {F1 : Hp} {vs : List Nat} {s' s2 : Ss} {F' H' F2 H2 : Hp} {acc : List D} {σ2 : L2.St} (hp : H p = none) (x : LcAt K s F H σ p F1 vs s' F' H' acc) (st : Step K s' F' H' s2 F2 H2 σ2) (hl : σ2.length = σ.length) (e : ∀ j, j ∉ vs → σ2[j]? = σ[j]?) :
    LcAt K s F H σ p F1 vs (wipeS s2 vs) F2 H2 acc ∧ ∀ acc' us, DqA K F2 acc' us → LcAt K s F H σ p F1 vs (wipeS s2 vs) F2 (upd H2 p (.lst us)) acc' := by
  obtain ⟨us, g1, g2⟩ := x.pl
  have q1 : H2 p = some (.lst us) := st.k p _ g1 x.po
  have q2 : F2 p = none := (st.unf x.pf g1 x.po).1
  have q3 : ¬ Own (wipeS s2 vs) p := fun z => by
    rcases st.o p (own_wipe z) with y | y
    · exact x.po y
    · rw [g1] at y
      cases y
  have st2 : Step K s F H (wipeS s2 vs) F2 H2 σ := x.st.trans (st.outof hl e)
  refine ⟨⟨st2, x.f.trans st.f, q2, q3, ⟨us, q1, DqA.mono st.f _ _ g2⟩, wiped_wipe _ _⟩, fun acc' us' hd => ⟨⟨⟨fun b o q => ?_, st2.st.len, fun i l o z1 z2 => ?_, st2.st.un, st2.st.nd⟩, st2.f, fun b o q hn => ?_, fun b q => ?_, st2.n, st2.o⟩, x.f.trans st.f, q2, q3, ⟨us', upd_same, hd⟩, wiped_wipe _ _⟩⟩
  · rw [upd_ne (ne_of_none q q2)]
    exact st2.st.le b o q
  · refine SlOk.mono l (Same.refl _) (fun q hq u w1 w2 => ⟨w1, ?_⟩) (st2.st.ok i l o z1 z2)
    rw [upd_ne fun z => q3 ⟨i, l, z1, by rw [← z]; exact hq⟩]
    exact w2
  · rw [upd_ne (ne_of_none q hp)]
    exact st2.k b o q hn
  · by_cases hb : b = p
    · subst hb
      exact hp
    · rw [upd_ne hb] at q
      exact st2.t b q
theorem sim_lc {wi : TI} {ai : AI} {g : TG} {ag : AG} {L : List Nat} {vs : List Nat} (hi : SimI K wi ai) (hg : SimG K g ag L) (hL : ∀ j, j ∈ L → j ∈ vs) (ht : SimT K c ac1) (he : Sim K te a) : Sim K (tLc wi g c te vs) (aLc ai ag ac1 a vs) := fun s P q σ F H ok Q k => by
  refine hi s _ q σ F H ok _ fun ds s1 J F1 H1 q1 st1 hy p hp => ?_
  obtain ⟨G, Y, w, hG, hY⟩ := hy
  have hp0 : H p = none := st1.t p hp
  have no1 : ¬ Own s1 p := fun z => by
    obtain ⟨_, us, e⟩ := st1.st.own z
    rw [hp] at e
    cases e
  have f1 : F1 p = none := st1.st.le.free hp
  have start : LcAt K s F H σ p F1 vs (wipeS s1 vs) F1 (upd H1 p (.lst [])) [] := by
    have st2 : Step K s F H (wipeS s1 vs) F1 H1 σ := ⟨st1.st.outof rfl fun _ _ => rfl, st1.f, st1.k, st1.t, st1.n, fun p h => st1.o p (own_wipe h)⟩
    obtain ⟨st3, _⟩ := st2.leaf (Lf.newL (xs := []) st2.st.le hp rfl)
    exact ⟨st3, Same.refl _, f1, fun z => no1 (own_wipe z), ⟨[], upd_same, rfl⟩, wiped_wipe _ _⟩
  refine lc_it w (fun i H' => ∃ s' F' acc, aLcD ag ac1 a vs (ds.drop i) s' acc (fun acc s2 => P (.ow p acc) s2) ∧ LcAt K s F H σ p F1 vs s' F' H' acc) ⟨wipeS s1 vs, F1, [], by rw [List.drop_zero]; exact q1 p, start⟩ (fun i H' hi ⟨s', F', acc, _, x⟩ => hG H' (x.f.trans x.st.st.le)) ?_ ?_
  · rintro i v H' H2 hi ⟨s', F', acc, qq, x⟩ y
    have ed : ds.drop i = ds[i] :: ds.drop (i + 1) := List.drop_eq_getElem_cons hi
    rw [ed] at qq
    obtain ⟨F2, l⟩ := hY i H' v H2 (x.f.trans x.st.st.le) y ds[i] (List.getElem?_eq_getElem hi) F' x.f x.st.st.le
    obtain ⟨stl, rsl⟩ := (Step.refl (x.st.st.into x.w)).leaf l
    obtain ⟨w2, e1, e2⟩ := slok_pu.mp rsl.ok
    cases e1
    refine hg _ s' _ qq v (wipe σ vs) F2 H2 stl.st e2 _ fun s3 σ3 q3 st3 e3 l3 => ⟨wipe_eq l3 fun j hj => e3 j fun z => hj (hL j z), ?_⟩
    have st23 := stl.trans st3
    have hlen : σ3.length = σ.length := by rw [l3, wipe_length]
    have hout : ∀ j, j ∉ vs → σ3[j]? = σ[j]? := fun j hj => by rw [e3 j fun z => hj (hL j z), wipe_out hj]
    refine ht s3 _ q3 σ3 F2 H2 st3.st _ fun b s4 F4 H4 q4 st4 => ?_
    cases b with
    | false =>
      obtain ⟨x2, _⟩ := x.next hp0 (st23.trans st4) hlen hout
      exact ⟨wipeS s4 vs, F4, acc, q4, x2⟩
    | true =>
      refine he.d q4 st4.st fun r s5 v5 F5 H5 q5 st5 d5 => ?_
      have stA := (st23.trans st4).trans st5
      obtain ⟨x2, x3⟩ := x.next hp0 stA hlen hout
      obtain ⟨us, g1, g2⟩ := x2.pl
      refine ⟨us, g1, by rw [g2.length]; exact sz_lt q5.1, wipeS s5 vs, F5, _, q5.2, x3 _ _ (g2.append ⟨v5, [], rfl, d5, rfl⟩)⟩
  · rintro H' ⟨s', F', acc, qq, x⟩
    rw [List.drop_length] at qq
    obtain ⟨us, g1, g2⟩ := x.pl
    refine k _ s' (.ref p) F' H' qq x.st ⟨slok_ow.mpr ⟨rfl, x.pf, us, g1, g2⟩, fun q hq => ?_, by rw [fp_ow]; exact List.pairwise_singleton _ _⟩
    cases mem_ow.mp hq
    exact ⟨.inl hp0, x.po⟩
def aYes : AT := fun s P => P true s
theorem simt_yes : SimT K tYes aYes := fun s P q σ F H ok Q k => k true s F H q (.refl ok)
/-- a def that takes data alone and changes none: n parameters, S what it does -/
def spD (K : PySem.W.Frag) (n : Nat) (S : ARC) : Sp := fun vs H Q _ => ∃ F ds P, Same F H ∧ DqA K F ds vs ∧ ds.length = n ∧ S ds P ∧ ∀ rs v F' H', P rs → Lf K F H rs v F' H' → Q v H'
def aFn (n : Nat) (S : ARC) : ARC := fun ds P => ds.length = n ∧ S ds P
theorem rc_fn {n : Nat} {S : ARC} {E : XK} : RC K (fun vs H Q => spD K n S (vs ++ []) H Q E) (aFn n S) := fun ds P q F H xs le dx Q k => by
  show spD K n S (xs ++ []) H Q E
  rw [List.append_nil]
  exact ⟨F, ds, P, le, dx, q.1, q.2, k⟩
theorem sim_call {n : Nat} {S : ARC} {t : TA} {a : AA} {E : XK} (ha : SimA K t a) : Sim K (tCall (spD K n S) [] E t) (aCall (aFn n S) a) := sim_cb (r := fun vs H Q => spD K n S (vs ++ []) H Q E) rc_fn ha
/-- the same object -/
def root : Sl → Option Addr
  | .ow p _ => some p
  | .nd p _ _ => some p
  | _ => none
theorem root_v {l : Sl} {p : Addr} {o : Option V} {F H : Hp} (h : SlOk K F H l o) (e : root l = some p) : o = some (.ref p) := by
  cases l with
  | no => cases e
  | pu d => cases e
  | ow q xs =>
    cases e
    exact (slok_ow.mp h).1
  | nd q k ts =>
    cases e
    exact (slok_nd.mp h).1
/-- a def whose first parameter is a tree that it may change: what it does, from the tree, the other arguments; to the result and the tree behind -/
abbrev ART := Sl → List D → (Sl → Sl → Prop) → Prop
structure Lt (K : PySem.W.Frag) (l : Sl) (v0 : V) (F H : Hp) (r : Sl) (v : V) (l' : Sl) (F' H' : Hp) : Prop where
  f : Same F F'
  h : ∀ a o, a ∉ fp l → H a = some o → H' a = some o
  t : ∀ a, H' a = none → H a = none
  m : SlOk K F' H' l' (some v0)
  mn : (fp l').Nodup
  mf : ∀ a, a ∈ fp l' → a ∈ fp l ∨ H a = none
  le : Same F' H'
  n : ∀ a, F' a ≠ none → F a ≠ none ∨ H a = none ∨ a ∈ fp l
  ok : SlOk K F' H' r (some v)
  fr : ∀ a, a ∈ fp r → (a ∈ fp l ∨ H a = none) ∧ a ∉ fp l'
  nd : (fp r).Nodup
def spT (K : PySem.W.Frag) (n : Nat) (S : ART) : Sp := fun vs H Q _ => ∃ F l v0 ds ws P, vs = v0 :: ws ∧ Same F H ∧ SlOk K F H l (some v0) ∧ (fp l).Nodup ∧ DqA K F ds ws ∧ ds.length + 1 = n ∧ S l ds P ∧
  ∀ rs l' v F' H', P rs l' → Lt K l v0 F H rs v l' F' H' → Q v H'
/-- behind a call with a slot's tree -/
theorem Step.called {s1 : Ss} {F1 H1 F2 H2 : Hp} {j : Nat} {l l' rs : Sl} {v0 v : V} (st : Step K s F H s1 F1 H1 σ) (e : s1[j]? = some l) (hv : σ[j]? = some (some v0)) (x : Lt K l v0 F1 H1 rs v l' F2 H2) :
    Step K s F H (s1.set j l') F2 H2 σ ∧ Rs K s H F2 H2 (s1.set j l') rs v := by
  have un : ∀ b u, b ∉ fp l → F1 b = none → H1 b = some u → F2 b = none := fun b u hb h1 h2 => by
    cases z : F2 b with
    | none => rfl
    | some o =>
      rcases x.n b (by rw [z]; intro y; cases y) with y | y | y
      · exact absurd h1 y
      · rw [h2] at y
        cases y
      · exact absurd y hb
  have keep : ∀ (i : Nat) (l2 : Sl) (q : Addr), i ≠ j → s1[i]? = some l2 → q ∈ fp l2 → q ∉ fp l := fun i l2 q h1 h2 h3 h4 => h1 (st.st.un i j l2 l q h2 e h3 h4)
  have stp : Step K s1 F1 H1 (s1.set j l') F2 H2 σ := by
    refine ⟨⟨x.le, by rw [List.length_set, st.st.len], fun i l2 o w1 w2 => ?_, fun i m l2 l3 q w1 w2 p1 p2 => ?_, fun i l2 w1 => ?_⟩, x.f, fun b o w1 w2 => x.h b o (fun z => w2 ⟨j, l, e, z⟩) w1, x.t, fun b w1 => ?_, fun b w1 => ?_⟩
    · rcases set_get w1 with ⟨rfl, rfl, hl⟩ | ⟨e3, h5⟩
      · rw [hv] at w2
        cases w2
        exact x.m
      · refine SlOk.mono l2 x.f (fun q hq u z1 z2 => ?_) (st.st.ok i l2 o h5 w2)
        have nq := keep i l2 q (fun z => e3 z.symm) h5 hq
        exact ⟨un q u nq z1 z2, x.h q u nq z2⟩
    · rcases set_get w1 with ⟨rfl, rfl, hl⟩ | ⟨e3, h5⟩
      · rcases set_get w2 with ⟨rfl, rfl, hl⟩ | ⟨e4, h6⟩
        · rfl
        · rcases x.mf q p1 with y | y
          · exact absurd y (keep m l3 q (fun z => e4 z.symm) h6 p2)
          · obtain ⟨_, u, hu⟩ := st.st.own ⟨m, l3, h6, p2⟩
            rw [y] at hu
            cases hu
      · rcases set_get w2 with ⟨rfl, rfl, hl⟩ | ⟨e4, h6⟩
        · rcases x.mf q p2 with y | y
          · exact absurd y (keep i l2 q (fun z => e3 z.symm) h5 p1)
          · obtain ⟨_, u, hu⟩ := st.st.own ⟨i, l2, h5, p1⟩
            rw [y] at hu
            cases hu
        · exact st.st.un i m l2 l3 q h5 h6 p1 p2
    · rcases set_get w1 with ⟨rfl, rfl, hl⟩ | ⟨e3, h5⟩
      · exact x.mn
      · exact st.st.nd i l2 h5
    · rcases x.n b w1 with y | y | y
      · exact .inl y
      · exact .inr (.inl y)
      · exact .inr (.inr ⟨j, l, e, y⟩)
    · rcases own_set w1 with y | y
      · exact .inl y
      · rcases x.mf b y with z | z
        · exact .inl ⟨j, l, e, z⟩
        · exact .inr z
  refine ⟨st.trans stp, ⟨x.ok, fun a ha => ?_, x.nd⟩⟩
  obtain ⟨h1, h2⟩ := x.fr a ha
  refine ⟨?_, fun w => ?_⟩
  · rcases h1 with y | y
    · rcases st.o a ⟨j, l, e, y⟩ with z | z
      · exact .inr z
      · exact .inl z
    · exact .inl (st.t a y)
  · obtain ⟨i, l2, w1, w2⟩ := w
    rcases set_get w1 with ⟨rfl, rfl, hl⟩ | ⟨e3, h5⟩
    · exact h2 w2
    · rcases h1 with y | y
      · exact keep i l2 a (fun z => e3 z.symm) h5 w2 y
      · obtain ⟨_, u, hu⟩ := st.st.own ⟨i, l2, h5, w2⟩
        rw [y] at hu
        cases hu
/-- the same where the tree is a list of data -/
abbrev ARM := List D → List D → (Sl → List D → Prop) → Prop
def artM (S : ARM) : ART := fun l ds P => ∃ p xs, l = .ow p xs ∧ S xs ds fun r xs' => P r (.ow p xs')
abbrev spM (K : PySem.W.Frag) (n : Nat) (S : ARM) : Sp := spT K n (artM S)
def aCallM (n : Nat) (j : Nat) (S : ARM) (a : AA) : AE := fun s P => match s[j]? with
  | some (.ow p0 _) => a s fun ds s1 => match s1[j]? with
    | some (.ow p xs) => p = p0 ∧ ds.length + 1 = n ∧ S xs ds fun rs xs' => P rs (s1.set j (.ow p xs'))
    | _ => False
  | _ => False
theorem sim_callM {n j : Nat} {S : ARM} {t : TA} {a : AA} {E : XK} (ha : SimA K t a) : Sim K (tCall (spM K n S) [] E (tCons (tVar j) t)) (aCallM n j S a) := fun s P q σ F H ok Q k => by
  unfold aCallM at q
  cases e : s[j]? with
  | none =>
    rw [e] at q
    exact q.elim
  | some l =>
    rw [e] at q
    obtain ⟨o, h1, h2⟩ := ok.get e
    cases l with
    | no => exact q.elim
    | pu d => exact q.elim
    | nd _ _ _ => exact q.elim
    | ow p xs =>
      obtain ⟨rfl, _⟩ := slok_ow.mp h2
      refine ⟨.ref p, h1, ?_⟩
      refine ha s _ q σ F H ok _ fun ds s1 ws F1 H1 q1 st1 d1 => ?_
      cases e2 : s1[j]? with
      | none =>
        rw [e2] at q1
        exact q1.elim
      | some l1 =>
        rw [e2] at q1
        cases l1 with
        | no => exact q1.elim
        | pu d => exact q1.elim
        | nd _ _ _ => exact q1.elim
        | ow p1 xs1 =>
          obtain ⟨rfl, hn, hS⟩ := q1
          have hl := st1.st.ok j _ _ e2 h1
          show spM K n S ((V.ref p1 :: ws) ++ []) H1 Q E
          rw [List.append_nil]
          refine ⟨F1, _, _, ds, ws, fun rs l' => P rs (s1.set j l'), rfl, st1.st.le, hl, st1.st.nd j _ e2, d1, hn, ⟨_, _, rfl, hS⟩, fun rs l' v F2 H2 hP x => ?_⟩
          obtain ⟨st2, rs2⟩ := st1.called e2 h1 x
          exact k rs _ v F2 H2 hP st2 rs2
def startS (N : Nat) (l : List Sl) : Ss := l ++ List.replicate (N - l.length) .no
theorem start_get {N m : Nat} {ls : List Sl} {l : Sl} (h : (startS N ls)[m]? = some l) : ls[m]? = some l ∨ l = .no := by
  unfold startS at h
  by_cases hi : m < ls.length
  · rw [List.getElem?_append_left hi] at h
    exact .inl h
  · rw [List.getElem?_append_right (by omega), List.getElem?_replicate] at h
    split at h
    · cases h
      exact .inr rfl
    · cases h
theorem start_ok {N : List Str} {vs : List V} {ls : List Sl} (le : Same F H) (hl : vs.length = ls.length) (ok : ∀ (i : Nat) (l : Sl) (v : V), ls[i]? = some l → vs[i]? = some v → SlOk K F H l (some v))
    (un : ∀ (i j : Nat) (l m : Sl) (p : Addr), ls[i]? = some l → ls[j]? = some m → p ∈ fp l → p ∈ fp m → i = j) (nd : ∀ (i : Nat) (l : Sl), ls[i]? = some l → (fp l).Nodup) : StOk K F H (L2.start N vs) (startS N.length ls) where
  le := le
  len := by
    unfold L2.start startS
    rw [List.length_append, List.length_append, List.length_map, List.length_replicate, List.length_replicate, hl]
  ok := fun i l o h1 h2 => by
    rcases start_get h1 with h1 | rfl
    · unfold L2.start at h2
      have hi : i < ls.length := (List.getElem?_eq_some_iff.mp h1).1
      rw [List.getElem?_append_left (by rw [List.length_map, hl]; exact hi), List.getElem?_map] at h2
      cases e : vs[i]? with
      | none =>
        rw [e] at h2
        cases h2
      | some v =>
        rw [e] at h2
        cases h2
        exact ok i l v h1 e
    · unfold SlOk
      trivial
  un := fun i j l m p h1 h2 p1 p2 => by
    rcases start_get h1 with h1 | rfl
    · rcases start_get h2 with h2 | rfl
      · exact un i j l m p h1 h2 p1 p2
      · rw [fp_no] at p2
        cases p2
    · rw [fp_no] at p1
      cases p1
  nd := fun i l h1 => by
    rcases start_get h1 with h1 | rfl
    · exact nd i l h1
    · rw [fp_no]
      exact List.nodup_nil
theorem own_start {N : Nat} {ls : List Sl} {p : Addr} (h : Own (startS N ls) p) : ∃ (i : Nat) (l : Sl), ls[i]? = some l ∧ p ∈ fp l := by
  obtain ⟨i, l, h, hp⟩ := h
  rcases start_get h with h1 | rfl
  · exact ⟨i, l, h1, hp⟩
  · rw [fp_no] at hp
    cases hp
def endsD (P : Sl → Prop) : AEnds := ⟨fun _ => P (.pu .non), fun r _ => P r, fun _ => False, fun _ => False⟩
/-- the tree of slot 0 is handed back -/
def endsT (P : Sl → Sl → Prop) (p : Addr) : AEnds := ⟨fun s => ∃ l, s[0]? = some l ∧ root l = some p ∧ P (.pu .non) l, fun r s => ∃ l, s[0]? = some l ∧ root l = some p ∧ P r l, fun _ => False, fun _ => False⟩
def endsM (P : Sl → List D → Prop) (p : Addr) : AEnds := ⟨fun s => ∃ xs, s[0]? = some (.ow p xs) ∧ P (.pu .non) xs, fun r s => ∃ xs, s[0]? = some (.ow p xs) ∧ P r xs, fun _ => False, fun _ => False⟩
end
section
variable {P : Program} {w : World} {K : PySem.W.Frag} {mg : Str → Option Value} {base : Heap}
/-- what a def's body comes to: data alone -/
theorem endD {N : List Str} {vs : List V} {F H : Hp} {n : Nat} {S : ARC} {ts : TS} {as : AS} {Q : VK} {E : XK} (h2 : SimS K ts as) (h3 : ∀ ds Q, ds.length = n → S ds Q → as (endsD Q) (startS N.length (ds.map .pu)))
    (h : spD K n S vs H Q E) : ts { nx := fun _ H' => Q .non H', rt := Q } (L2.start N vs) H := by
  obtain ⟨F, ds, R, le, dx, hl, hS, kq⟩ := h
  have pus : ∀ (i : Nat) (l : Sl), (ds.map Sl.pu)[i]? = some l → ∃ d, ds[i]? = some d ∧ l = .pu d := fun i l e => by
    rw [List.getElem?_map] at e
    cases e1 : ds[i]? with
    | none =>
      rw [e1] at e
      cases e
    | some d =>
      rw [e1] at e
      cases e
      exact ⟨d, rfl, rfl⟩
  have ok0 : StOk K F H (L2.start N vs) (startS N.length (ds.map .pu)) := by
    refine start_ok le (by rw [List.length_map, dx.length]) (fun i l v e1 e2 => ?_) (fun i j l m p e1 e2 p1 p2 => ?_) fun i l e1 => ?_
    · obtain ⟨d, e, rfl⟩ := pus i l e1
      obtain ⟨v2, g1, g2⟩ := dx.get e
      rw [e2] at g1
      cases g1
      exact slok_pu.mpr ⟨v, rfl, g2⟩
    · obtain ⟨d, e, rfl⟩ := pus i l e1
      rw [fp_pu] at p1
      cases p1
    · obtain ⟨d, e, rfl⟩ := pus i l e1
      rw [fp_pu]
      exact List.nodup_nil
  have no : ∀ p, ¬ Own (startS N.length (ds.map .pu)) p := fun p z => by
    obtain ⟨i, l, e1, hp⟩ := own_start z
    obtain ⟨d, e, rfl⟩ := pus i l e1
    rw [fp_pu] at hp
    cases hp
  have fin : ∀ r s' v σ' F' H', R r → Step K (startS N.length (ds.map .pu)) F H s' F' H' σ' → Rs K (startS N.length (ds.map .pu)) H F' H' s' r v → Q v H' := fun r s' v σ' F' H' q st rs =>
    kq r v F' H' q ⟨st.f, fun a o e => st.k a o e (no a), st.st.le, fun a z => by
      rcases st.n a z with y | y | y
      · exact .inl y
      · exact .inr y
      · exact absurd y (no a), rs.ok, fun p hp => by
      rcases (rs.fr p hp).1 with y | y
      · exact y
      · exact absurd y (no p), rs.nd⟩
  exact h2 _ _ (h3 ds R hl hS) (L2.start N vs) F H ok0 _ (fun s' σ' F' H' q st => fin (.pu .non) s' .non σ' F' H' q st (.pu rfl)) (fun r s' σ' v F' H' q st rs => fin r s' v σ' F' H' q st rs) (fun _ _ _ _ q _ => q.elim) (fun _ _ _ _ q _ => q.elim)
/-- what a def's body comes to: the first parameter a tree -/
theorem endTC {N : List Str} {vs : List V} {H : Hp} {n : Nat} {S : ART} {ts : TS} {as : AS} {Q : VK} {E : XK} (h2 : SimS K ts as)
    (h3 : ∀ l ds Q p, ds.length + 1 = n → root l = some p → S l ds Q → ∃ A : AEnds, (∀ s, A.nx s → (endsT Q p).nx s) ∧ (∀ r s, A.rt r s → (endsT Q p).rt r s) ∧ (∀ s, ¬ A.bk s) ∧ (∀ s, ¬ A.ct s) ∧ as A (startS N.length (l :: ds.map .pu)))
    (hrt : ∀ l ds Q, S l ds Q → (root l).isSome = true) (h : spT K n S vs H Q E) : ts { nx := fun _ H' => Q .non H', rt := Q } (L2.start N vs) H := by
  obtain ⟨F, l0, v0, ds, ws, R, rfl, le, hl0, hn0, dx, hl, hS, kq⟩ := h
  obtain ⟨p, hp⟩ := Option.isSome_iff_exists.mp (hrt _ _ _ hS)
  have pus : ∀ (i : Nat) (l : Sl), (l0 :: ds.map Sl.pu)[i]? = some l → (i = 0 ∧ l = l0) ∨ (∃ j d, i = j + 1 ∧ ds[j]? = some d ∧ l = .pu d) := fun i l e => by
    cases i with
    | zero =>
      cases e
      exact .inl ⟨rfl, rfl⟩
    | succ i =>
      have e : (ds.map Sl.pu)[i]? = some l := by simpa using e
      rw [List.getElem?_map] at e
      cases e1 : ds[i]? with
      | none =>
        rw [e1] at e
        cases e
      | some d =>
        rw [e1] at e
        cases e
        exact .inr ⟨i, d, rfl, e1, rfl⟩
  have ok0 : StOk K F H (L2.start N (v0 :: ws)) (startS N.length (l0 :: ds.map .pu)) := by
    refine start_ok le (by rw [List.length_cons, List.length_cons, List.length_map, dx.length]) (fun i l v e1 e2 => ?_) (fun i j l m p e1 e2 p1 p2 => ?_) fun i l e1 => ?_
    · rcases pus i l e1 with ⟨rfl, rfl⟩ | ⟨j, d, rfl, e, rfl⟩
      · cases e2
        exact hl0
      · have e2 : ws[j]? = some v := by simpa using e2
        obtain ⟨v2, g1, g2⟩ := dx.get e
        rw [e2] at g1
        cases g1
        exact slok_pu.mpr ⟨v, rfl, g2⟩
    · rcases pus i l e1 with ⟨rfl, rfl⟩ | ⟨k, d, rfl, e, rfl⟩
      · rcases pus j m e2 with ⟨rfl, rfl⟩ | ⟨k, d, rfl, e, rfl⟩
        · rfl
        · rw [fp_pu] at p2
          cases p2
      · rw [fp_pu] at p1
        cases p1
    · rcases pus i l e1 with ⟨rfl, rfl⟩ | ⟨k, d, rfl, e, rfl⟩
      · exact hn0
      · rw [fp_pu]
        exact List.nodup_nil
  have ow1 : ∀ q, Own (startS N.length (l0 :: ds.map .pu)) q → q ∈ fp l0 := fun q z => by
    obtain ⟨i, l, e1, hq⟩ := own_start z
    rcases pus i l e1 with ⟨rfl, rfl⟩ | ⟨k, d, rfl, e, rfl⟩
    · exact hq
    · rw [fp_pu] at hq
      cases hq
  have own0 : ∀ q, q ∈ fp l0 → Own (startS N.length (l0 :: ds.map .pu)) q := fun q hq => ⟨0, l0, by
    unfold startS
    rfl, hq⟩
  have ev := root_v hl0 hp
  have fin : ∀ r s' v σ' F' H', (∃ l, s'[0]? = some l ∧ root l = some p ∧ R r l) → Step K (startS N.length (l0 :: ds.map .pu)) F H s' F' H' σ' → Rs K (startS N.length (l0 :: ds.map .pu)) H F' H' s' r v → Q v H' := fun r s' v σ' F' H' q st rs => by
    obtain ⟨l, e0, er, q⟩ := q
    obtain ⟨o, _, g1⟩ := st.st.get e0
    have go := root_v g1 er
    rw [go, ← ev] at g1
    refine kq r l v F' H' q ⟨st.f, fun a o ha z => st.k a o z fun y => ha (ow1 a y), st.t, g1, st.st.nd 0 l e0, fun a ha => ?_, st.st.le, fun a z => ?_, rs.ok, fun a ha => ?_, rs.nd⟩
    · rcases st.o a ⟨0, l, e0, ha⟩ with y | y
      · exact .inl (ow1 a y)
      · exact .inr y
    · rcases st.n a z with y | y | y
      · exact .inl y
      · exact .inr (.inl y)
      · exact .inr (.inr (ow1 a y))
    · obtain ⟨y1, y2⟩ := rs.fr a ha
      refine ⟨?_, fun z => y2 ⟨0, l, e0, z⟩⟩
      rcases y1 with y | y
      · exact .inr y
      · exact .inl (ow1 a y)
  obtain ⟨A, a1, a2, a3, a4, a5⟩ := h3 l0 ds R p hl hp hS
  exact h2 _ _ a5 (L2.start N (v0 :: ws)) F H ok0 _ (fun s' σ' F' H' q st => fin (.pu .non) s' .non σ' F' H' (a1 _ q) st (.pu rfl)) (fun r s' σ' v F' H' q st rs => fin r s' v σ' F' H' (a2 _ _ q) st rs) (fun _ _ _ _ q _ => (a3 _ q).elim) (fun _ _ _ _ q _ => (a4 _ q).elim)
theorem endT {N : List Str} {vs : List V} {H : Hp} {n : Nat} {S : ART} {ts : TS} {as : AS} {Q : VK} {E : XK} (h2 : SimS K ts as)
    (h3 : ∀ l ds Q p, ds.length + 1 = n → root l = some p → S l ds Q → as (endsT Q p) (startS N.length (l :: ds.map .pu)))
    (hrt : ∀ l ds Q, S l ds Q → (root l).isSome = true) (h : spT K n S vs H Q E) : ts { nx := fun _ H' => Q .non H', rt := Q } (L2.start N vs) H :=
  endTC h2 (fun l ds Q p h1 h4 h5 => ⟨endsT Q p, fun _ z => z, fun _ _ z => z, fun _ z => z, fun _ z => z, h3 l ds Q p h1 h4 h5⟩) hrt h
theorem endM {N : List Str} {vs : List V} {H : Hp} {n : Nat} {S : ARM} {ts : TS} {as : AS} {Q : VK} {E : XK} (h2 : SimS K ts as)
    (h3 : ∀ xs ds Q p, ds.length + 1 = n → S xs ds Q → as (endsM Q p) (startS N.length (.ow p xs :: ds.map .pu)))
    (h : spM K n S vs H Q E) : ts { nx := fun _ H' => Q .non H', rt := Q } (L2.start N vs) H :=
  endTC h2 (fun l ds Q p h1 h4 h5 => by
    obtain ⟨q, xs, rfl, h6⟩ := h5
    cases h4
    exact ⟨endsM (fun r xs' => Q r (.ow p xs')) p, fun s ⟨xs, e, z⟩ => ⟨_, e, rfl, z⟩, fun r s ⟨xs, e, z⟩ => ⟨_, e, rfl, z⟩, fun _ z => z, fun _ z => z, h3 xs ds _ p h1 h6⟩) (fun l ds Q ⟨q, xs, e, _⟩ => by rw [e]; rfl) h
theorem spD_len {n : Nat} {S : ARC} {vs : List V} {H : Hp} {Q : VK} {E : XK} (h : spD K n S vs H Q E) : vs.length = n := by
  obtain ⟨F, ds, P, _, h1, h2, _⟩ := h
  rw [h1.length, h2]
theorem spT_len {n : Nat} {S : ART} {vs : List V} {H : Hp} {Q : VK} {E : XK} (h : spT K n S vs H Q E) : vs.length = n := by
  obtain ⟨F, l, v0, ds, ws, P, rfl, _, _, _, h1, h2, _⟩ := h
  rw [List.length_cons, h1.length, h2]
/-- THE RULE for a def over data -/
theorem okD {x qual : Str} {st : Stmt} {f : Addr} {fd : FuncData} {N ps : List Str} {k n : Nat} {S : ARC} (Fn : Fun K x qual st f fd) (Sc : FnScope N ps (defScope st)) (hn : ps.length = n)
    (hbody : ∀ (cdv : Value) (A : Around) (outer : List Env) (s : Shared) (H : Hp) (E : XK), (A.deeper (PyProof.Rows.envOfC qual (defScope st) s.heap.objs.size f cdv)).guards = some [] → Room k (A.deeper (PyProof.Rows.envOfC qual (defScope st) s.heap.objs.size f cdv)) → ∃ ts as, PSs (cxOf CX0 P w K mg base N qual (defScope st) f cdv A outer s H E).nox (defBody st) ts ∧ SimS K ts as ∧
      ∀ ds Q, ds.length = n → S ds Q → as (endsD Q) (startS N.length (ds.map .pu))) : GnOk P w K mg base CX0 (k + 1) f fd ps (spD K n S) := by
  refine gn_body Fn Sc (fun vs H Q E h => by rw [spD_len h, hn]) (fun cdv A outer s H vs Q E hgd hr h => ?_)
  obtain ⟨ts, as, h1, h2, h3⟩ := hbody cdv A outer s H E hgd hr
  exact ⟨ts, h1.nox, endD (F := H) h2 h3 h⟩
/-- THE RULE for a def whose first parameter is a list that it may change -/
theorem okM {x qual : Str} {st : Stmt} {f : Addr} {fd : FuncData} {N ps : List Str} {k n : Nat} {S : ARM} (Fn : Fun K x qual st f fd) (Sc : FnScope N ps (defScope st)) (hn : ps.length = n)
    (hbody : ∀ (cdv : Value) (A : Around) (outer : List Env) (s : Shared) (H : Hp) (E : XK), (A.deeper (PyProof.Rows.envOfC qual (defScope st) s.heap.objs.size f cdv)).guards = some [] → Room k (A.deeper (PyProof.Rows.envOfC qual (defScope st) s.heap.objs.size f cdv)) → ∃ ts as, PSs (cxOf CX0 P w K mg base N qual (defScope st) f cdv A outer s H E).nox (defBody st) ts ∧ SimS K ts as ∧
      ∀ xs ds Q p, ds.length + 1 = n → S xs ds Q → as (endsM Q p) (startS N.length (.ow p xs :: ds.map .pu))) : GnOk P w K mg base CX0 (k + 1) f fd ps (spM K n S) := by
  refine gn_body Fn Sc (fun vs H Q E h => by rw [spT_len h, hn]) (fun cdv A outer s H vs Q E hgd hr h => ?_)
  obtain ⟨ts, as, h1, h2, h3⟩ := hbody cdv A outer s H E hgd hr
  exact ⟨ts, h1.nox, endM h2 h3 h⟩
end
end DL
namespace DL
open PySem L2
section
variable {K : PySem.W.Frag} {te ta tb tc : TE} {a aa ab ac : AE} {F H : Hp} {s : Ss} {σ : L2.St}
inductive TyN where
  | int | bool | str | tuple | list
def TyN.nm : TyN → String
  | .int => "int" | .bool => "bool" | .str => "str" | .tuple => "tuple" | .list => "list"
def tyD : D → Option String
  | .non => some "NoneType" | .bl _ => some "bool" | .int _ => some "int" | .str _ => some "str" | .tup _ => some "tuple" | .lst _ => some "list" | .scr _ => some "list" | .ob _ => none | .ins _ _ _ => none | .dk _ _ => some "dict" | .dt _ _ => some "dict"
def isi : TyN → D → Option Bool
  | _, .ob _ => none
  | _, .ins _ _ _ => none
  | .int, .int _ => some true
  | .int, .bl _ => some true
  | .bool, .bl _ => some true
  | .str, .str _ => some true
  | .tuple, .tup _ => some true
  | .list, .lst _ => some true
  | .list, .scr _ => some true
  | _, _ => some false
theorem ty_ok {d : D} {x : V} (le : Same F H) (h : Dq K F d x) {b : Bool} {T : TyN} (e : isi T d = some b) : ∃ t, tyD d = some t ∧ TyX K H x (.type t) := by
  cases d with
  | non =>
    cases (show x = _ from h)
    exact ⟨_, rfl, .base .non⟩
  | bl i =>
    cases (show x = _ from h)
    exact ⟨_, rfl, .base (.bl i)⟩
  | int i =>
    cases (show x = _ from h)
    exact ⟨_, rfl, .base (.int i)⟩
  | str i =>
    cases (show x = _ from h)
    exact ⟨_, rfl, .base (.str i)⟩
  | tup ds =>
    obtain ⟨a, xs, rfl, h1, _⟩ := h
    refine ⟨_, rfl, ?_⟩
    rcases h1 with (h1 | ⟨o, h1⟩) | ⟨o, its, n, h1, h2, _⟩
    · exact .base (.tup (le _ _ h1))
    · exact .fTuple (le _ _ h1)
    · exact .kTuple h1 h2
  | lst ds =>
    obtain ⟨a, xs, rfl, h1, _⟩ := h
    exact ⟨_, rfl, .base (.lst (le _ _ h1))⟩
  | scr ds =>
    obtain ⟨a, xs, rfl, h1, _⟩ := h
    refine ⟨_, rfl, ?_⟩
    rcases h1 with (h1 | ⟨o, h1⟩) | ⟨o, its, n, h1, h2, _⟩
    · exact .base (.lst (le _ _ h1))
    · exact .base (.frz (le _ _ h1))
    · exact .kList h1 h2
  | ob f => cases T <;> cases e
  | ins C ns ds => cases T <;> cases e
  | dk ks ds =>
    obtain ⟨a, xs, rfl, h1, _⟩ := h
    exact ⟨_, rfl, .base (.dK (le _ _ h1))⟩
  | dt ks ds =>
    obtain ⟨a, xs, rfl, h1, _⟩ := h
    exact ⟨_, rfl, .base (.dT (le _ _ h1))⟩
theorem kit_ok {d : D} {T : TyN} {b : Bool} {t : String} (e : isi T d = some b) (h : tyD d = some t) : kitB t T.nm = some b := by
  cases d <;> cases T <;> first | (cases h; done) | (cases h; cases e; decide +kernel)
def aIsi (T : TyN) (a : AE) : AE := fun s P => a s fun r s1 => match isi T r.d with
  | some b => P (.pu (.bl b)) s1
  | none => False
theorem sim_isi {T : TyN} (h : Sim K ta aa) : Sim K (tCB (rIsi K) (tCons ta (tCons (tC (.ty T.nm)) tNil))) (aIsi T aa) := fun s P q σ F H ok Q k => by
  refine h.d q ok fun r s1 v F1 H1 q1 st1 d1 => ?_
  cases e : isi T r.d with
  | none =>
    rw [e] at q1
    exact q1.elim
  | some b =>
    rw [e] at q1
    obtain ⟨t, g1, g2⟩ := ty_ok st1.st.le d1 e
    exact ⟨v, .ty T.nm, .type t, .type T.nm, b, rfl, .ty _, g2, kit_ty (kit_ok e g1), k _ s1 _ F1 H1 q1 st1 (.pu rfl)⟩
def rI1 (f : Int → Int) : List V → Hp → VK → Prop := fun xs H Q => ∃ i, xs = [.int i] ∧ Q (.int (f i)) H
def aI1 (f : Int → Int) : ARC := fun ds P => match ds with
  | [.int i] => P (.pu (.int (f i)))
  | _ => False
theorem rc_i1 {f : Int → Int} : RC K (rI1 f) (aI1 f) := fun ds P q F H xs le dx Q k => by
  match ds, q, dx with
  | [.int i], q, dx =>
    obtain ⟨v, rfl, h⟩ := dqa1 dx
    cases (show v = _ from h)
    exact ⟨i, rfl, k _ _ F H q (Lf.same le _ _ rfl)⟩
def rI2 (f : Int → Int → Int) : List V → Hp → VK → Prop := fun xs H Q => ∃ i j, xs = [.int i, .int j] ∧ Q (.int (f i j)) H
def aI2 (f : Int → Int → Int) : ARC := fun ds P => match ds with
  | [.int i, .int j] => P (.pu (.int (f i j)))
  | _ => False
theorem rc_i2 {f : Int → Int → Int} : RC K (rI2 f) (aI2 f) := fun ds P q F H xs le dx Q k => by
  match ds, q, dx with
  | [.int i, .int j], q, dx =>
    obtain ⟨v, w, rfl, h, h2⟩ := dqa2 dx
    cases (show v = _ from h)
    cases (show w = _ from h2)
    exact ⟨i, j, rfl, k _ _ F H q (Lf.same le _ _ rfl)⟩
/-- int(x) of an int or a bool -/
def aInt : ARC := fun ds P => match ds with
  | [.int i] => P (.pu (.int i))
  | [.bl b] => P (.pu (.int (if b then 1 else 0)))
  | _ => False
theorem rc_int : RC K (fun xs H Q => (∃ i, xs = [.int i] ∧ Q (.int i) H) ∨ ∃ k, xs = [.bl k] ∧ Q (.int (if k then 1 else 0)) H) aInt := fun ds P q F H xs le dx Q k => by
  match ds, q, dx with
  | [.int i], q, dx =>
    obtain ⟨v, rfl, h⟩ := dqa1 dx
    cases (show v = _ from h)
    exact .inl ⟨i, rfl, k _ _ F H q (Lf.same le _ _ rfl)⟩
  | [.bl i], q, dx =>
    obtain ⟨v, rfl, h⟩ := dqa1 dx
    cases (show v = _ from h)
    exact .inr ⟨i, rfl, k _ _ F H q (Lf.same le _ _ rfl)⟩
/-- len -/
def aLen : ARC := fun ds P => match ds with
  | [d] => match seqD d with
    | some xs => P (.pu (.int xs.length))
    | none => False
  | _ => False
theorem rc_len : RC K (fun xs H Q => ∃ p ys, xs = [.ref p] ∧ (SqL K H p ys ∨ SqT K H p ys) ∧ Q (.int ys.length) H) aLen := fun ds P q F H xs le dx Q k => by
  match ds, q, dx with
  | [d], q, dx =>
    obtain ⟨v, rfl, h⟩ := dqa1 dx
    unfold aLen at q
    simp only at q
    cases e : seqD d with
    | none =>
      rw [e] at q
      exact q.elim
    | some es =>
      rw [e] at q
      obtain ⟨a, ys, rfl, g1, g2⟩ := seqD_ok e h
      refine ⟨a, ys, rfl, ?_, ?_⟩
      · rcases g1 with g1 | g1
        · exact .inl (Same.seq le g1)
        · exact .inr (Same.sqt le g1)
      · rw [g2.length]
        exact k _ _ F H q (Lf.same le _ _ rfl)
/-- the ints of a list of data -/
def intsD : List D → Option (List Int)
  | [] => some []
  | .int i :: ds => (intsD ds).map (i :: ·)
  | _ => none
theorem intsD_eq : ∀ {ds : List D} {ns : List Int}, intsD ds = some ns → ds = ns.map D.int
  | [], ns, h => by
    cases h
    rfl
  | d :: ds, ns, h => by
    cases d <;> first | (cases h; done) | skip
    rename_i i
    unfold intsD at h
    cases e : intsD ds with
    | none =>
      rw [e] at h
      cases h
    | some ms =>
      rw [e] at h
      cases h
      rw [intsD_eq e]
      rfl
theorem intsD_map : ∀ ns : List Int, intsD (ns.map D.int) = some ns
  | [] => rfl
  | n :: ns => by
    show (intsD (ns.map D.int)).map (n :: ·) = _
    rw [intsD_map ns]
    rfl
def blsD : List D → Option (List Bool)
  | [] => some []
  | .bl i :: ds => (blsD ds).map (i :: ·)
  | _ => none
theorem blsD_eq : ∀ {ds : List D} {ns : List Bool}, blsD ds = some ns → ds = ns.map D.bl
  | [], ns, h => by
    cases h
    rfl
  | d :: ds, ns, h => by
    cases d <;> first | (cases h; done) | skip
    rename_i i
    unfold blsD at h
    cases e : blsD ds with
    | none =>
      rw [e] at h
      cases h
    | some ms =>
      rw [e] at h
      cases h
      rw [blsD_eq e]
      rfl
theorem blsD_map : ∀ ns : List Bool, blsD (ns.map D.bl) = some ns
  | [] => rfl
  | n :: ns => by
    show (blsD (ns.map D.bl)).map (n :: ·) = _
    rw [blsD_map ns]
    rfl
def lstD : D → Option (List D)
  | .lst xs => some xs
  | .scr xs => some xs
  | _ => none
theorem lstD_ok {d : D} {ds : List D} {x : V} (h : lstD d = some ds) (dx : Dq K F d x) : ∃ a xs, x = .ref a ∧ SqL K F a xs ∧ DqA K F ds xs := by
  cases d <;> first | (cases h; done) | skip
  · cases h
    obtain ⟨a, xs, h1, h2, h3⟩ := dx
    exact ⟨a, xs, h1, SqL.of h2, h3⟩
  · cases h
    obtain ⟨a, xs, h1, h2, h3⟩ := dx
    exact ⟨a, xs, h1, h2, h3⟩
/-- a function of a list of ints, of bools -/
def aInts (f : List Int → (D → Prop) → Prop) : ARC := fun ds P => match ds with
  | [d] => match (lstD d).bind intsD with
    | some ns => f ns fun d => P (.pu d)
    | none => False
  | _ => False
def aBls (f : List Bool → Bool) : ARC := fun ds P => match ds with
  | [d] => match (lstD d).bind blsD with
    | some ns => P (.pu (.bl (f ns)))
    | none => False
  | _ => False
theorem ints_in {ds : List D} {P : Sl → Prop} {f : List Int → (D → Prop) → Prop} {xs : List V} (le : Same F H) (q : aInts f ds P) (dx : DqA K F ds xs) : ∃ (a : Addr) (ns : List Int), xs = [V.ref a] ∧ SqL K H a (ns.map V.int) ∧ f ns fun d => P (.pu d) := by
  match ds, q, dx with
  | [d], q, dx =>
    obtain ⟨v, rfl, h⟩ := dqa1 dx
    unfold aInts at q
    simp only at q
    cases e : lstD d with
    | none =>
      rw [e] at q
      exact q.elim
    | some es =>
      rw [e] at q
      simp only [Option.bind_some] at q
      cases e2 : intsD es with
      | none =>
        rw [e2] at q
        exact q.elim
      | some ns =>
        rw [e2] at q
        obtain ⟨a, ys, rfl, g1, g2⟩ := lstD_ok e h
        rw [intsD_eq e2] at g2
        have e3 := of_dqa_ints _ _ g2
        subst e3
        exact ⟨a, ns, rfl, Same.seq le g1, q⟩
theorem bls_in {ds : List D} {P : Sl → Prop} {f : List Bool → Bool} {xs : List V} (le : Same F H) (q : aBls f ds P) (dx : DqA K F ds xs) : ∃ (a : Addr) (ns : List Bool), xs = [V.ref a] ∧ SqL K H a (ns.map V.bl) ∧ P (.pu (.bl (f ns))) := by
  match ds, q, dx with
  | [d], q, dx =>
    obtain ⟨v, rfl, h⟩ := dqa1 dx
    unfold aBls at q
    simp only at q
    cases e : lstD d with
    | none =>
      rw [e] at q
      exact q.elim
    | some es =>
      rw [e] at q
      simp only [Option.bind_some] at q
      cases e2 : blsD es with
      | none =>
        rw [e2] at q
        exact q.elim
      | some ns =>
        rw [e2] at q
        obtain ⟨a, ys, rfl, g1, g2⟩ := lstD_ok e h
        rw [blsD_eq e2] at g2
        have e3 := of_dqa_bls _ _ g2
        subst e3
        exact ⟨a, ns, rfl, Same.seq le g1, q⟩
def fSum : List Int → (D → Prop) → Prop := fun ns P => P (.int ns.sum)
theorem rc_sum : RC K (rSum K) (aInts fSum) := fun ds P q F H xs le dx Q k => by
  obtain ⟨a, ns, rfl, h1, h2⟩ := ints_in le q dx
  exact ⟨a, ns, rfl, h1, k _ _ F H h2 (Lf.same le _ _ rfl)⟩
theorem rc_all : RC K (rAll K) (aBls fun bs => bs.all id) := fun ds P q F H xs le dx Q k => by
  obtain ⟨a, ns, rfl, h1, h2⟩ := bls_in le q dx
  exact ⟨a, ns, rfl, h1, k _ _ F H h2 (Lf.same le _ _ rfl)⟩
theorem rc_any : RC K (rAny K) (aBls fun bs => bs.any id) := fun ds P q F H xs le dx Q k => by
  obtain ⟨a, ns, rfl, h1, h2⟩ := bls_in le q dx
  exact ⟨a, ns, rfl, h1, k _ _ F H h2 (Lf.same le _ _ rfl)⟩
/-- list(x), tuple(x) -/
def aList : ARC := fun ds P => match ds with
  | [d] => match seqD d with
    | some xs => ∀ p, P (.ow p xs)
    | none => False
  | _ => False
theorem rc_list : RC K (fun xs H Q => ∃ p ys, xs = [.ref p] ∧ (SqL K H p ys ∨ SqT K H p ys) ∧ ∀ l, H l = none → Q (.ref l) (upd H l (.lst ys))) aList := fun ds P q F H xs le dx Q k => by
  match ds, q, dx with
  | [d], q, dx =>
    obtain ⟨v, rfl, h⟩ := dqa1 dx
    unfold aList at q
    simp only at q
    cases e : seqD d with
    | none =>
      rw [e] at q
      exact q.elim
    | some es =>
      rw [e] at q
      obtain ⟨a, ys, rfl, g1, g2⟩ := seqD_ok e h
      refine ⟨a, ys, rfl, ?_, fun p hp => k _ _ _ _ (q p) (Lf.newL le hp g2)⟩
      rcases g1 with g1 | g1
      · exact .inl (Same.seq le g1)
      · exact .inr (Same.sqt le g1)
def aTupl : ARC := fun ds P => match ds with
  | [d] => match seqD d with
    | some xs => P (.pu (.tup xs))
    | none => False
  | _ => False
theorem rc_tupl : RC K (fun xs H Q => ∃ p ys, xs = [.ref p] ∧ ((SqL K H p ys ∧ ∀ l, H l = none → Q (.ref l) (upd H l (.tup ys))) ∨ (SqT K H p ys ∧ Q (.ref p) H))) aTupl := fun ds P q F H xs le dx Q k => by
  match ds, q, dx with
  | [d], q, dx =>
    obtain ⟨v, rfl, h⟩ := dqa1 dx
    unfold aTupl at q
    simp only at q
    cases e : seqD d with
    | none =>
      rw [e] at q
      exact q.elim
    | some es =>
      rw [e] at q
      obtain ⟨a, ys, rfl, g1, g2⟩ := seqD_ok e h
      refine ⟨a, ys, rfl, ?_⟩
      rcases g1 with g1 | g1
      · exact .inl ⟨Same.seq le g1, fun p hp => k _ _ _ _ q (Lf.newT le hp g2)⟩
      · exact .inr ⟨Same.sqt le g1, k _ _ F H q (Lf.same le _ _ ⟨a, ys, rfl, g1, g2⟩)⟩
def cutD (xs : List D) (lo hi : Option Int) : List D := (xs.drop (HT.sIx xs.length 0 lo)).take (HT.sIx xs.length xs.length hi - HT.sIx xs.length 0 lo)
theorem cut_ok {ds : List D} {xs : List V} {lo hi : Option Int} (h : DqA K F ds xs) : DqA K F (cutD ds lo hi) (cutV xs lo hi) := by
  unfold cutD cutV
  rw [h.length]
  exact (h.drop _).take _
abbrev AO := Ss → (Option Int → Ss → Prop) → Prop
def SimO (K : PySem.W.Frag) (to : TO) (a : AO) : Prop := ∀ s P, a s P → ∀ σ F H, StOk K F H σ s → ∀ Q : Option Int → Hp → Prop,
  (∀ o s' F' H', P o s' → Step K s F H s' F' H' σ → Q o H') → to σ H Q
def aNoP : AO := fun s P => P none s
def aPart (a : AE) : AO := fun s P => a s fun r s1 => match r.d with
  | .int i => P (some i) s1
  | _ => False
theorem simo_no : SimO K tNoPart aNoP := fun s P q σ F H ok Q k => k none s F H q (.refl ok)
theorem simo_part (h : Sim K te a) : SimO K (tPart te) (aPart a) := fun s P q σ F H ok Q k => by
  refine h.d q ok fun r s1 v F1 H1 q1 st1 d1 => ?_
  cases e : r.d <;> simp only [e] at q1
  rename_i i
  rw [e] at d1
  exact ⟨i, d1, k (some i) s1 F1 H1 q1 st1⟩
def aSlL (a : AE) (l u : AO) : AE := fun s P => a s fun r s1 => l s1 fun lo s2 => u s2 fun hi s3 => match lstD r.d with
  | some xs => ∀ p, P (.ow p (cutD xs lo hi)) s3
  | none => False
theorem sim_slL {tl tu : TO} {al au : AO} (h : Sim K te a) (hl : SimO K tl al) (hu : SimO K tu au) : Sim K (tSl (rSlL K) te tl tu) (aSlL a al au) := fun s P q σ F H ok Q k => by
  refine h.d q ok fun r s1 v F1 H1 q1 st1 d1 => ?_
  refine hl s1 _ q1 σ F1 H1 st1.st _ fun lo s2 F2 H2 q2 st2 => ?_
  refine hu s2 _ q2 σ F2 H2 st2.st _ fun hi s3 F3 H3 q3 st3 => ?_
  cases e : lstD r.d with
  | none =>
    rw [e] at q3
    exact q3.elim
  | some es =>
    rw [e] at q3
    obtain ⟨b, ys, rfl, g1, g2⟩ := lstD_ok e d1
    have sm := st2.f.trans st3.f
    refine ⟨b, ys, rfl, Same.seq st3.st.le (Same.seq sm g1), fun p hp => ?_⟩
    obtain ⟨st4, rs4⟩ := ((st1.trans st2).trans st3).leaf (Lf.newL st3.st.le hp (cut_ok (DqA.mono sm _ _ g2)))
    exact k _ s3 _ _ _ (q3 p) st4 rs4
end
end DL
namespace DL
open PySem L2
structure DE (X : Cx) (e : Expr) (t : TE) (a : AE) : Prop where
  pe : PE X e t
  sm : Sim X.K t a
structure DT (X : Cx) (e : Expr) (t : TT) (a : AT) : Prop where
  pe : PT X e t
  sm : SimT X.K t a
structure DW (X : Cx) (e : Expr) (t : TT) (a : AT) : Prop where
  pe : PW X e t
  sm : SimT X.K t a
structure DA (X : Cx) (es : List Expr) (t : TA) (a : AA) : Prop where
  pe : PA X es t
  sm : SimA X.K t a
structure DS (X : Cx) (st : Stmt) (t : TS) (a : AS) : Prop where
  pe : PS X st t
  sm : SimS X.K t a
structure DSs (X : Cx) (st : List Stmt) (t : TS) (a : AS) : Prop where
  pe : PSs X st t
  sm : SimS X.K t a
structure DG (X : Cx) (e : Expr) (t : TG) (a : AG) (L : List Nat) : Prop where
  pe : PG X e t
  sm : SimG X.K t a L
  ex : ∀ d s P, a d s P → ∃ s1, P s1
structure DGs (X : Cx) (es : List Expr) (t : TGs) (a : AGs) (L : List Nat) (n : Nat) : Prop where
  pe : PGs X es t
  sm : SimGs X.K t a L
  ex : ∀ ds s P, a ds s P → ds.length = n ∧ ∃ s1, P s1
structure DI (X : Cx) (tg it : Expr) (t : TI) (a : AI) : Prop where
  pe : PI X tg it t
  sm : SimI X.K t a
structure DO (X : Cx) (e : Option Expr) (t : TO) (a : AO) : Prop where
  pe : PO X e t
  sm : SimO X.K t a
section
variable {X : Cx} {te ta tb tc : TE} {a aa ab ac : AE} {e ea eb ec : Expr} {es : List Expr} {pos p : Pos} {t u : TT} {at1 au : AT} {ts tu : TS} {as aus : AS}
theorem d_var (i : Nat) {x : Str} (hN : X.N[i]? = some x := by rfl) (hv : Vis X.env.scope x := by first | exact Or.inl rfl | exact Or.inr (Or.inl rfl) | exact Or.inr (Or.inr rfl)) (hd : (x == ("__debug__" : Str)) = false := by decide)
    (hcd : (x == ("__classdict__" : Str)) = false := by decide) : DE X (.Name x pos) (tVar i) (aVar i) := ⟨pe_var hN hv hd hcd, sim_var⟩
theorem d_mov (i : Nat) {x : Str} (hN : X.N[i]? = some x := by rfl) (hv : Vis X.env.scope x := by first | exact Or.inl rfl | exact Or.inr (Or.inl rfl) | exact Or.inr (Or.inr rfl)) (hd : (x == ("__debug__" : Str)) = false := by decide)
    (hcd : (x == ("__classdict__" : Str)) = false := by decide) : DE X (.Name x pos) (tVar i) (aMov i) := ⟨pe_var hN hv hd hcd, sim_mov⟩
theorem d_int {i j} : DE X (.Constant (.int i) j pos) (tC (.int i)) (aC (.int i)) := ⟨pe_int, sim_c fun _ => rfl⟩
theorem d_bl {b j} : DE X (.Constant (.bool b) j pos) (tC (.bl b)) (aC (.bl b)) := ⟨pe_bl, sim_c fun _ => rfl⟩
theorem d_non {j} : DE X (.Constant .none j pos) (tC .non) (aC .non) := ⟨pe_non, sim_c fun _ => rfl⟩
theorem d_str {x j} : DE X (.Constant (.str x) j pos) (tC (.str x)) (aC (.str x)) := ⟨pe_str, sim_c fun _ => rfl⟩
theorem d_gint {x : Str} {i : Int} (c : ∃ t, X.mg x = some (.int i t)) (hg : Gl X x := by rfl) (hd : (x == ("__debug__" : Str)) = false := by decide) : DE X (.Name x pos) (tC (.int i)) (aC (.int i)) := by
  obtain ⟨u, h1⟩ := c
  exact ⟨pe_glob hg h1 ⟨u, rfl⟩ hd, sim_c fun _ => rfl⟩
theorem d_gstr {x : Str} {i : Str} (c : ∃ t, X.mg x = some (.str i t)) (hg : Gl X x := by rfl) (hd : (x == ("__debug__" : Str)) = false := by decide) : DE X (.Name x pos) (tC (.str i)) (aC (.str i)) := by
  obtain ⟨u, h1⟩ := c
  exact ⟨pe_glob hg h1 ⟨u, rfl⟩ hd, sim_c fun _ => rfl⟩
theorem d_op {op : Operator} {r : R2} {ar : AR2} (ho : OpR X (binaryOp op) r) (hr : RD X.K r ar) (ha : DE X ea ta aa) (hb : DE X eb tb ab) : DE X (.BinOp ea op eb pos) (tOp r ta tb) (aOp ar aa ab) := ⟨pe_op ho ha.pe hb.pe, sim_op hr ha.sm hb.sm⟩
theorem d_add (ha : DE X ea ta aa) (hb : DE X eb tb ab) : DE X (.BinOp ea .Add eb pos) (tOp (rI0 fun i j => .int (i + j)) ta tb) (aOp (aI fun i j => i + j) aa ab) := d_op op_add rd_i ha hb
theorem d_mul (ha : DE X ea ta aa) (hb : DE X eb tb ab) : DE X (.BinOp ea .Mult eb pos) (tOp (rI CMul fun i j => .int (i * j)) ta tb) (aOp (aIC CMul fun i j => i * j) aa ab) := d_op op_mul rd_ic ha hb
theorem d_fdivW (ha : DE X ea ta aa) (hb : DE X eb tb ab) : DE X (.BinOp ea .FloorDiv eb pos) (tOp (rI CDivW fun i j => .int (i / j)) ta tb) (aOp (aIC CDivW fun i j => i / j) aa ab) := d_op op_fdivW rd_ic ha hb
theorem d_mod (ha : DE X ea ta aa) (hb : DE X eb tb ab) : DE X (.BinOp ea .Mod eb pos) (tOp (rI (fun _ j => 0 < j) fun i j => .int (i % j)) ta tb) (aOp (aIC (fun _ j => 0 < j) fun i j => i % j) aa ab) := d_op op_mod rd_ic ha hb
theorem d_pow (ha : DE X ea ta aa) (hb : DE X eb tb ab) : DE X (.BinOp ea .Pow eb pos) (tOp (rI CPow fun i j => .int (i ^ j.toNat)) ta tb) (aOp (aIC CPow fun i j => i ^ j.toNat) aa ab) := d_op op_pow rd_ic ha hb
theorem d_cmp {op : CmpOp} {r : R2} {ar : AR2} (ho : OpR X (compareOp op) r) (hr : RD X.K r ar) (ha : DE X ea ta aa) (hb : DE X eb tb ab) (hm : behindInMarks op eb = false) : DE X (.Compare ea [op] [eb] pos) (tOp r ta tb) (aOp ar aa ab) :=
  ⟨pe_cmpR ho ha.pe hb.pe hm, sim_op hr ha.sm hb.sm⟩
theorem t_cmp {op : CmpOp} {r : R2} {ar : AR2} (ho : OpR X (compareOp op) r) (hr : RD X.K r ar) (ha : DE X ea ta aa) (hb : DE X eb tb ab) (hm : behindInMarks op eb = false) : DT X (.Compare ea [op] [eb] pos) (tTest (tOp r ta tb)) (aTest (aOp ar aa ab)) :=
  ⟨pt_cmpR ho ha.pe hb.pe hm, sim_test (sim_op hr ha.sm hb.sm)⟩
theorem d_chain {op op' : CmpOp} {r r' : R2} {ar ar' : AR2} (ho : OpR X (compareOp op) r) (hr : RD X.K r ar) (ho' : OpR X (compareOp op') r') (hr' : RD X.K r' ar') (ha : DE X ea ta aa) (hb : DE X eb tb ab) (hc : DE X ec tc ac)
    (hm : lastMarks [op, op'] [eb, ec] = false := by with_unfolding_all rfl) : DE X (.Compare ea [op, op'] [eb, ec] pos) (tChain r r' ta tb tc) (aChain ar ar' aa ab ac) := ⟨pe_chain ho ho' ha.pe hb.pe hc.pe hm, sim_chain hr hr' ha.sm hb.sm hc.sm⟩
theorem t_chain {op op' : CmpOp} {r r' : R2} {ar ar' : AR2} (ho : OpR X (compareOp op) r) (hr : RD X.K r ar) (ho' : OpR X (compareOp op') r') (hr' : RD X.K r' ar') (ha : DE X ea ta aa) (hb : DE X eb tb ab) (hc : DE X ec tc ac)
    (hm : lastMarks [op, op'] [eb, ec] = false := by with_unfolding_all rfl) : DT X (.Compare ea [op, op'] [eb, ec] pos) (tTest (tChain r r' ta tb tc)) (aTest (aChain ar ar' aa ab ac)) := ⟨pt_chain ho ho' ha.pe hb.pe hc.pe hm, sim_test (sim_chain hr hr' ha.sm hb.sm hc.sm)⟩
theorem t_val (h : DE X ea ta aa) (he : ∀ whole, isTrue ea X.env whole = (do let v ← whole; standAt ea.pos; holding [v] (truthy v)) := by intro _; rfl) : DT X ea (tB ta) (aTest aa) := ⟨pt_val h.pe he, sim_B h.sm⟩
theorem t_not (h : DT X ea t at1) : DT X (.UnaryOp .Not ea pos) (tNot t) (aNot at1) := ⟨pt_not h.pe, sim_not h.sm⟩
theorem w_and1 (h : DT X ea t at1) : DW X (.BoolOp .And [ea] pos) t at1 := ⟨pw_and1 h.pe, h.sm⟩
theorem w_or1 (h : DT X ea t at1) : DW X (.BoolOp .Or [ea] pos) t at1 := ⟨pw_or1 h.pe, h.sm⟩
theorem w_and (h : DT X ea t at1) (h2 : DW X (.BoolOp .And (eb :: es) pos) u au) : DW X (.BoolOp .And (ea :: eb :: es) pos) (tAnd t u) (aAnd at1 au) := ⟨pw_and h.pe h2.pe, sim_and h.sm h2.sm⟩
theorem w_or (h : DT X ea t at1) (h2 : DW X (.BoolOp .Or (eb :: es) pos) u au) : DW X (.BoolOp .Or (ea :: eb :: es) pos) (tOr t u) (aOr at1 au) := ⟨pw_or h.pe h2.pe, sim_or h.sm h2.sm⟩
theorem t_w (h : DW X ea t at1) : DT X ea t at1 := ⟨h.pe.pt, h.sm⟩
theorem d_one {op} (h : DE X ea ta aa) : DE X (.BoolOp op [ea] pos) ta aa := ⟨pe_one h.pe, h.sm⟩
theorem d_and (h : DE X ea ta aa) (h2 : DE X (.BoolOp .And (eb :: es) pos) tb ab) : DE X (.BoolOp .And (ea :: eb :: es) pos) (tAndV ta tb) (aAndV aa ab) := ⟨pe_and h.pe h2.pe, sim_andV h.sm h2.sm⟩
theorem d_or (h : DE X ea ta aa) (h2 : DE X (.BoolOp .Or (eb :: es) pos) tb ab) : DE X (.BoolOp .Or (ea :: eb :: es) pos) (tOrV ta tb) (aOrV aa ab) := ⟨pe_or h.pe h2.pe, sim_orV h.sm h2.sm⟩
theorem d_not (h : DE X ea ta aa) : DE X (.UnaryOp .Not ea pos) (tNotV ta) (aNotV aa) := ⟨pe_not h.pe, sim_notV h.sm⟩
theorem d_if (h : DT X ec t at1) (ha : DE X ea ta aa) (hb : DE X eb tb ab) : DE X (.IfExp ec ea eb pos) (tIf t ta tb) (aIf at1 aa ab) := ⟨pe_ifExp h.pe ha.pe hb.pe, sim_if h.sm ha.sm hb.sm⟩
theorem da_nil : DA X [] tNil aNil := ⟨pa_nil, sim_nil⟩
theorem da_cons {tr : TA} {ar : AA} (ha : DE X ea ta aa) (hr : DA X es tr ar) (hs : starEach (ea :: es) X.env = (false, eval ea X.env) :: starEach es X.env := by rfl) : DA X (ea :: es) (tCons ta tr) (aCons aa ar) := ⟨pa_cons ha.pe hr.pe hs, sim_cons ha.sm hr.sm⟩
theorem d_tup {x1} {tr : TA} {ar : AA} (h : DA X es tr ar) : DE X (.Tuple es x1 pos) (tTup tr) (aTup ar) := ⟨pe_tup h.pe, sim_tup h.sm⟩
theorem d_lst {tr : TA} {ar : AA} (h : DA X es tr ar) : DE X (.List es pos) (tLst tr) (aLst ar) := ⟨pe_lst h.pe, sim_lst h.sm⟩
theorem d_ix {K : PySem.W.Frag} (hK : X.K = K := by rfl) (ha : DE X ea ta aa) (hb : DE X eb tb ab) (hs : PlainIx eb := by exact fun _ _ => rfl) : DE X (.Subscript ea eb pos) (tOp (rIx K) ta tb) (aOp aIx aa ab) := by
  subst hK
  exact ⟨pe_ix ix_seq ha.pe hb.pe hs, sim_op rd_ix ha.sm hb.sm⟩
theorem d_ixO {K : PySem.W.Frag} (hK : X.K = K := by rfl) {i : Nat} (ha : DE X ea (tVar i) (aVar i)) (hb : DE X eb tb ab) (hs : PlainIx eb := by exact fun _ _ => rfl) : DE X (.Subscript ea eb pos) (tOp (rIx K) (tVar i) tb) (aIxO i ab) := by
  subst hK
  exact ⟨pe_ix ix_seq ha.pe hb.pe hs, sim_ixO hb.sm⟩
theorem do_no : DO X none tNoPart aNoP := ⟨po_none, simo_no⟩
theorem do_so (h : DE X ea ta aa) : DO X (some ea) (tPart ta) (aPart aa) := ⟨po_some h.pe, simo_part h.sm⟩
theorem d_slL {K : PySem.W.Frag} (hK : X.K = K := by rfl) {lo hi : Option Expr} {tl th : TO} {al ah : AO} {p2 : Pos} (he : DE X ea ta aa) (hl : DO X lo tl al) (hu : DO X hi th ah) : DE X (.Subscript ea (.Slice lo hi none p2) pos) (tSl (rSlL K) ta tl th) (aSlL aa al ah) := by
  subst hK
  exact ⟨pe_slice sl_list he.pe hl.pe hu.pe, sim_slL he.sm hl.sm hu.sm⟩
theorem d_cb {K : PySem.W.Frag} (hK : X.K = K := by rfl) {x : Str} {id : String} {r : List V → Hp → VK → Prop} {ar : ARC} {tr : TA} {aar : AA} (hr : RC K r ar) (hc : CallR X (.builtin id) r) (hm : X.mg x = none) (hv : bootBuiltins x = some (.builtin id)) (ha : DA X (e :: es) tr aar) (hg : Gl X x := by rfl) (hn : x ≠ "__name__" := by decide) (hdb : (x == ("__debug__" : Str)) = false := by decide)
    (he : starEach (e :: es) X.env = (false, eval e X.env) :: starEach es X.env := by rfl) (hpl : (backTo pos (starEach es X.env)).any (·.1) = false := by rfl) : DE X (.Call (.Name x p) (e :: es) [] pos) (tCB r tr) (aCall ar aar) := by
  subst hK
  exact ⟨pe_callB hc hg hm hv ha.pe hn hdb he hpl, sim_cb hr ha.sm⟩
theorem d_ct {K : PySem.W.Frag} (hK : X.K = K := by rfl) {x : Str} {T : String} {r : List V → Hp → VK → Prop} {ar : ARC} {tr : TA} {aar : AA} (hr : RC K r ar) (hc : CallR X (.type T) r) (hm : X.mg x = none) (hv : bootBuiltins x = some (.type T)) (ha : DA X (e :: es) tr aar) (hg : Gl X x := by rfl) (hn : x ≠ "__name__" := by decide) (hdb : (x == ("__debug__" : Str)) = false := by decide)
    (he : starEach (e :: es) X.env = (false, eval e X.env) :: starEach es X.env := by rfl) (hpl : (backTo pos (starEach es X.env)).any (·.1) = false := by rfl) : DE X (.Call (.Name x p) (e :: es) [] pos) (tCB r tr) (aCall ar aar) := by
  subst hK
  exact ⟨pe_callTy hc hg hm hv ha.pe hn hdb he hpl, sim_cb hr ha.sm⟩
def absI (i : Int) : Int := if i < 0 then -i else i
def maxI (i j : Int) : Int := if j > i then j else i
def minI (i j : Int) : Int := if j < i then j else i
theorem cr_abs : CallR X (.builtin "abs") (rI1 absI) := call_abs
theorem cr_max2 (hc : X.calm = true) : CallR X (.builtin "max") (rI2 maxI) := call_max2 hc
theorem cr_min2 (hc : X.calm = true) : CallR X (.builtin "min") (rI2 minI) := call_min2 hc
theorem d_isi {K : PySem.W.Frag} (hK : X.K = K := by rfl) {T : TyN} {x y : Str} {p2 : Pos} (ha : DE X ea ta aa) (hm : X.mg x = none) (hv : bootBuiltins x = some (.builtin "isinstance")) (hmT : X.mg y = none) (hvT : bootBuiltins y = some (.type T.nm)) (hg : Gl X x := by rfl) (hgT : Gl X y := by rfl)
    (hn : x ≠ "__name__" := by decide) (hdb : (x == ("__debug__" : Str)) = false := by decide) (hnT : y ≠ "__name__" := by decide) (hdbT : (y == ("__debug__" : Str)) = false := by decide)
    (he : starEach (ea :: [.Name y p2]) X.env = (false, eval ea X.env) :: starEach [.Name y p2] X.env := by rfl) (he2 : starEach [.Name y p2] X.env = (false, eval (.Name y p2) X.env) :: starEach [] X.env := by rfl) (hpl : (backTo pos (starEach [.Name y p2] X.env)).any (·.1) = false := by rfl) :
    DE X (.Call (.Name x p) [ea, .Name y p2] [] pos) (tCB (rIsi K) (tCons ta (tCons (tC (.ty T.nm)) tNil))) (aIsi T aa) := by
  subst hK
  exact ⟨pe_callB call_isi hg hm hv (pa_cons ha.pe (pa_cons (pe_bltn hgT hmT hvT rfl hnT hdbT) pa_nil he2) he) hn hdb he hpl, sim_isi ha.sm⟩
/-- own defs -/
theorem d_call {K : PySem.W.Frag} (hK : X.K = K := by rfl) {x : Str} {f : Addr} {fd : FuncData} {ps : List Str} {k n : Nat} {S : ARC} {tr : TA} {aar : AA} (F : GnOk X.prog X.w K X.mg X.base CX0 k f fd ps (spD K n S)) (hgd : X.A.guards = some []) (hr : Room k X.A) (hm : X.mg x = some (.ref f)) (hk : PySem.W.keepIn K (.ref f) = true) (hb : Binds K fd ps [])
    (ha : DA X (e :: es) tr aar) (hg : Gl X x := by rfl) (hdb : (x == ("__debug__" : Str)) = false := by decide) (he : starEach (e :: es) X.env = (false, eval e X.env) :: starEach es X.env := by rfl) (hpl : (backTo pos (starEach es X.env)).any (·.1) = false := by rfl) :
    DE X (.Call (.Name x p) (e :: es) [] pos) (tCall (spD K n S) [] E0 tr) (aCall (aFn n S) aar) := by
  subst hK
  exact ⟨pe_g F hgd hr hg hm hk hb pass0 ha.pe hdb he hpl, sim_call ha.sm⟩
theorem d_callM {K : PySem.W.Frag} (hK : X.K = K := by rfl) {x y : Str} {f : Addr} {fd : FuncData} {ps : List Str} {k n j : Nat} {S : ARM} {tr : TA} {aar : AA} {p2 : Pos} (F : GnOk X.prog X.w K X.mg X.base CX0 k f fd ps (spM K n S)) (hgd : X.A.guards = some []) (hr : Room k X.A) (hm : X.mg x = some (.ref f)) (hk : PySem.W.keepIn K (.ref f) = true) (hb : Binds K fd ps [])
    (hv : DE X (.Name y p2) (tVar j) (aVar j)) (ha : DA X es tr aar) (hg : Gl X x := by rfl) (hdb : (x == ("__debug__" : Str)) = false := by decide) (he : starEach (.Name y p2 :: es) X.env = (false, eval (.Name y p2) X.env) :: starEach es X.env := by rfl) (hpl : (backTo pos (starEach es X.env)).any (·.1) = false := by rfl) :
    DE X (.Call (.Name x p) (.Name y p2 :: es) [] pos) (tCall (spM K n S) [] E0 (tCons (tVar j) tr)) (aCallM n j S aar) := by
  subst hK
  exact ⟨pe_g F hgd hr hg hm hk hb pass0 (pa_cons hv.pe ha.pe he) hdb he hpl, sim_callM ha.sm⟩
section
variable {tg : Expr}
theorem di_list {K : PySem.W.Frag} (hK : X.K = K := by rfl) (h : DE X ea ta aa) : DI X tg ea (iList K ta) (aItL aa) := by
  subst hK
  exact ⟨pi_list h.pe, simi_list h.sm⟩
theorem di_tup {K : PySem.W.Frag} (hK : X.K = K := by rfl) (h : DE X ea ta aa) : DI X tg ea (iTup K ta) (aItT aa) := by
  subst hK
  exact ⟨pi_tup h.pe, simi_tup h.sm⟩
theorem di_rng1 {tr : TA} {ar : AA} (hm : X.mg "range" = none) (ha : DA X [ea] tr ar) (hg : Gl X "range" := by rfl) (hs : starEach [ea] X.env = [(false, eval ea X.env)] := by rfl) : DI X tg (.Call (.Name "range" p) [ea] [] pos) (iRng1 tr) (aRng1 ar) := ⟨pi_range1 hg hm ha.pe hs, simi_rng1 ha.sm⟩
end
theorem dg_name {i : Nat} {x : Str} (hN : X.N.Nodup) (hi : X.N[i]? = some x := by rfl) (hx : Loc X.env.scope x := by first | exact Or.inl rfl | exact Or.inr rfl) (hf : X.fn x = true ∨ X.env.scope.names.lookup x = some .local := by first | exact .inl rfl | exact .inr rfl | assumption) : DG X (.Name x pos) (gName i) (agName i) [i] :=
  ⟨pg_name hN hi hx hf, simg_name, fun d s P h => ⟨_, h⟩⟩
theorem dgs_nil : DGs X [] gNil agNil [] 0 := ⟨pgs_nil, simgs_nil, fun ds s P h => ⟨by rw [h.1] <;> rfl, s, h.2⟩⟩
theorem dgs_cons {g : TG} {ag : AG} {L M : List Nat} {n : Nat} {gs : TGs} {ags : AGs} (h1 : DG X ea g ag L) (h2 : DGs X es gs ags M n) (hs : (assignEach (ea :: es) X.env).map (·.2) = assign ea X.env :: (assignEach es X.env).map (·.2) := by rfl) : DGs X (ea :: es) (gCons g gs) (agCons ag ags) (L ++ M) (n + 1) := by
  refine ⟨pgs_cons h1.pe h2.pe hs, simgs_cons h1.sm h2.sm, fun ds s P h => ?_⟩
  cases ds with
  | nil => exact h.elim
  | cons d ds =>
    obtain ⟨s1, h3⟩ := h1.ex _ _ _ h
    obtain ⟨h4, s2, h5⟩ := h2.ex _ _ _ h3
    exact ⟨by rw [List.length_cons, h4], s2, h5⟩
theorem dg_tup {K : PySem.W.Frag} (hK : X.K = K := by rfl) {k n : Nat} {L : List Nat} {gs : TGs} {ags : AGs} (hc : X.calm = true) (h : DGs X es gs ags L n) (hn : (assignEach es X.env).length = n := by rfl) (hst : (assignEach es X.env).findIdx? (·.1) = none := by rfl) : DG X (.Tuple es k pos) (gTup K n gs) (agTup ags) L := by
  subst hK
  refine ⟨pg_tup hc h.pe hn hst, simg_tup h.sm fun ds s P q => (h.ex ds s P q).1, fun d s P q => ?_⟩
  cases d <;> first | exact q.elim | skip
  exact (h.ex _ s P q).2
theorem d_lc {elt tg iter : Expr} {scope : Scope} {own : List (Str × Nat)} {wi : TI} {ai : AI} {g : TG} {ag : AG} {L : List Nat} (hc : X.calm = true) (hN : X.N.Nodup) (hi : DI X tg iter wi ai) (ok : BlkOk X.N X.env.scope scope own) (hL : ∀ j, j ∈ L → j ∈ own.map (·.2))
    (hg : ∀ (s : Shared) (H : Hp) (C : Addr) (cl : List (Str × Addr)) (fp : List Addr), DG (X.blk s H scope (compEnvC scope cl C X.env) fp) tg g ag L)
    (he : ∀ (s : Shared) (H : Hp) (C : Addr) (cl : List (Str × Addr)) (fp : List Addr), DE (X.blk s H scope (compEnvC scope cl C X.env) fp) elt te aa) (hs : ∀ x, foldedSetIterable iter X.env x = pure x := by intro _; rfl) :
    DE X (.ListComp elt [⟨tg, iter, [], 0⟩] scope pos) (tLc wi g tYes te (own.map (·.2))) (aLc ai ag aYes aa (own.map (·.2))) :=
  ⟨pe_lc hc hN hi.pe ok (fun s H C cl fp => (hg s H C cl fp).pe) (fun _ _ _ _ _ => pts_nil) (fun s H C cl fp => (he s H C cl fp).pe) hs,
    sim_lc hi.sm (hg ⟨X.base, X.s_0.gens, X.s_0.drawn, X.s_0.toks, X.s_0.os⟩ X.H_0 0 [] []).sm hL simt_yes (he ⟨X.base, X.s_0.gens, X.s_0.drawn, X.s_0.toks, X.s_0.os⟩ X.H_0 0 [] []).sm⟩
/-- y = [..] -/
theorem s_lc {i : Nat} {y : Str} {py spos : Pos} {elt tg iter : Expr} {scope : Scope} {own : List (Str × Nat)} {wi : TI} {ai : AI} {g : TG} {ag : AG} {L : List Nat} (hc : X.calm = true) (hN : X.N.Nodup) (hi : DI X tg iter wi ai) (ok : BlkOk X.N X.env.scope scope own) (hL : ∀ j, j ∈ L → j ∈ own.map (·.2))
    (hg : ∀ (s : Shared) (H : Hp) (C : Addr) (cl : List (Str × Addr)) (fp : List Addr), DG (X.blk s H scope (compEnvC scope cl C X.env) fp) tg g ag L)
    (he : ∀ (s : Shared) (H : Hp) (C : Addr) (cl : List (Str × Addr)) (fp : List Addr), DE (X.blk s H scope (compEnvC scope cl C X.env) fp) elt te aa)
    (hsw : swapsWith (.ListComp elt [⟨tg, iter, [], 0⟩] scope pos) (some (.Name y py)) spos.line X.env = pure true) (hy : X.N[i]? = some y := by rfl) (hyl : X.env.scope.names.lookup y = some .local := by rfl) (hs : ∀ x, foldedSetIterable iter X.env x = pure x := by intro _; rfl) :
    DS X (.Assign [.Name y py] (.ListComp elt [⟨tg, iter, [], 0⟩] scope pos) spos) (tAsg (tLc wi g tYes te (own.map (·.2))) (gName i)) (aSet i (aLc ai ag aYes aa (own.map (·.2)))) :=
  ⟨ps_setLc hc hN hy hyl hsw hi.pe ok (fun s H C cl fp => (hg s H C cl fp).pe) (fun _ _ _ _ _ => pts_nil) (fun s H C cl fp => (he s H C cl fp).pe) hs,
    sims_set (sim_lc hi.sm (hg ⟨X.base, X.s_0.gens, X.s_0.drawn, X.s_0.toks, X.s_0.os⟩ X.H_0 0 [] []).sm hL simt_yes (he ⟨X.base, X.s_0.gens, X.s_0.drawn, X.s_0.toks, X.s_0.os⟩ X.H_0 0 [] []).sm)⟩
variable {st : Stmt} {sts : List Stmt}
theorem s_set {i : Nat} {x : Str} {pos' : Pos} (hN : X.N.Nodup) (he : DE X ea ta aa) (hi : X.N[i]? = some x := by rfl) (hx : Loc X.env.scope x := by first | exact Or.inl rfl | exact Or.inr rfl) (hs : swapsWith ea (some (.Name x pos')) pos.line X.env = pure false := by rfl)
    (hf : X.fn x = true ∨ X.env.scope.names.lookup x = some .local := by first | exact .inl rfl | exact .inr rfl | assumption) : DS X (.Assign [.Name x pos'] ea pos) (tAsg ta (gName i)) (aSet i aa) := ⟨ps_set hN hi hx he.pe hs hf, sims_set he.sm⟩
theorem s_asg {tg : Expr} {g : TG} {ag : AG} {L : List Nat} (he : DE X ea ta aa) (hg : DG X tg g ag L) (hs : swapsWithSole [tg] ea pos.line X.env = pure false := by rfl) (hw : swappedStores [tg] ea X.env = pure none := by rfl)
    (h1 : (assignEach [tg] X.env).map (·.2) = [assign tg X.env] := by rfl) : DS X (.Assign [tg] ea pos) (tAsg ta g) (aAsg aa ag) := ⟨ps_asg he.pe hg.pe hs hw h1, sims_asg he.sm hg.sm⟩
/-- x, y = e, f -/
def aPar (i j : Nat) (a b : AE) : AS := fun A s => a s fun r1 s1 => b s1 fun r2 s2 => A.nx ((s2.set i r1).set j r2)
theorem Step.put2 {K : PySem.W.Frag} {F H F1 H1 : Hp} {s s1 : Ss} {σ : L2.St} {r1 r2 : Sl} {v w : V} {i j : Nat} (st : Step K s F H s1 F1 H1 σ) (q1 : Rs K s H F1 H1 s1 r1 v) (q2 : Rs K s H F1 H1 s1 r2 w) (hne : ∀ p, p ∈ fp r1 → p ∈ fp r2 → False) :
    Step K s F H ((s1.set i r1).set j r2) F1 H1 ((σ.set i (some v)).set j (some w)) := by
  refine (st.put q1).put ⟨q2.ok, fun p hp => ⟨(q2.fr p hp).1, fun z => ?_⟩, q2.nd⟩
  rcases own_set z with y | y
  · exact (q2.fr p hp).2 y
  · exact hne p y hp
theorem s_par {i j : Nat} {x y : Str} {px py pt : Pos} {kt k2 : Nat} {pt2 : Pos} (hc : X.calm = true) (hN : X.N.Nodup) (ha : DE X ea ta aa) (hb : DE X eb tb ab) (hij : i ≠ j)
    (hw : swappedStores [.Tuple [.Name x px, .Name y py] kt pt] (.Tuple [ea, eb] k2 pt2) X.env = pure (some [x, y])) (hi : X.N[i]? = some x := by rfl) (hj : X.N[j]? = some y := by rfl)
    (hx : X.env.scope.names.lookup x = some .local := by rfl) (hy : X.env.scope.names.lookup y = some .local := by rfl)
    (hs : swapsWithSole [.Tuple [.Name x px, .Name y py] kt pt] (.Tuple [ea, eb] k2 pt2) pos.line X.env = pure false := by rfl)
    (he : starEach (ea :: [eb]) X.env = (false, eval ea X.env) :: starEach [eb] X.env := by rfl) (he2 : starEach [eb] X.env = (false, eval eb X.env) :: starEach [] X.env := by rfl) :
    DS X (.Assign [.Tuple [.Name x px, .Name y py] kt pt] (.Tuple [ea, eb] k2 pt2) pos) (tPar i j (tCons ta (tCons tb tNil))) (aPar i j aa ab) :=
  ⟨ps_par hc hN hi hj hij hx hy (pa_cons ha.pe (pa_cons hb.pe pa_nil he2) he) hw hs, fun A s q σ F H ok E kn kr kb kc => by
    refine ha.sm s _ q σ F H ok _ fun r1 s1 v1 F1 H1 q1 st1 rs1 => ?_
    refine hb.sm s1 _ q1 σ F1 H1 st1.st _ fun r2 s2 v2 F2 H2 q2 st2 rs2 => ?_
    refine ⟨v1, v2, rfl, kn _ _ F2 H2 q2 ((st1.trans st2).put2 (rs1.keep st2) (rs2.more st1) fun p e1 e2 => ?_)⟩
    obtain ⟨g1, g2⟩ := rs1.fr p e1
    obtain ⟨g3, g4⟩ := rs2.fr p e2
    rcases g3 with z | z
    · obtain ⟨_, us, h3⟩ := SlOk.own r1 rs1.ok e1
      rw [h3] at z
      cases z
    · exact g2 z⟩
theorem s_app {i : Nat} {x : Str} {p2 apos cpos : Pos} (he : DE X ea ta aa) (hv : DE X (.Name x p2) (tVar i) (aVar i)) (hbase : attributeBase (.Name x p2) "append" X.env (eval (.Name x p2) X.env) = eval (.Name x p2) X.env := by rfl)
    (hfew : ((backTo cpos (starEach (ea :: []) X.env)).all (fun x => !x.1) && (backToKw cpos (keywordEach [] X.env)).all (fun x => x.1.isSome) && decide ((ea :: []).length + ([] : List Keyword).length + (if ([] : List Keyword).isEmpty then 0 else 1) < 30)) = true := by rfl)
    (hline : (apos.endLine == cpos.line) = true := by rfl) (hs : starEach (ea :: []) X.env = (false, eval ea X.env) :: starEach [] X.env := by rfl) (hplain : (backTo cpos (starEach [] X.env)).any (·.1) = false := by rfl)
    (hsw : swapsWith (.Call (.Attribute (.Name x p2) "append" apos) [ea] [] cpos) none pos.line X.env = pure false := by rfl) : DS X (.Expr (.Call (.Attribute (.Name x p2) "append" apos) [ea] [] cpos) pos) (tDrop (tBM X.K "list" rAppend (tVar i) (tCons ta tNil))) (aApp i aa) :=
  ⟨ps_expr (pe_bm PySem.F.plainAttrs_list PySem.F.slot_list_append PySem.F.type_list_append mt_append hv.pe (pa_cons he.pe pa_nil hs) hbase hfew hline hs hplain) hsw, sims_app he.sm⟩
theorem s_put {i : Nat} {x : Str} {p2 spos : Pos} (he : DE X ea ta aa) (hv : DE X (.Name x p2) (tVar i) (aVar i)) (hk : DE X eb tb ab)
    (ha : ∀ v, assign (.Subscript (.Name x p2) eb spos) X.env v = (do
      let ov ← holding [v] (eval (.Name x p2) X.env)
      let iv ← holding [v, ov] (eval eb X.env)
      standAt spos
      holding [v, ov, iv] (setItem ov iv v)
      release [v, ov, iv] []) := by intro _; rfl) (hs : swapsWithSole [.Subscript (.Name x p2) eb spos] ea pos.line X.env = pure false := by rfl) (hw : swappedStores [.Subscript (.Name x p2) eb spos] ea X.env = pure none := by rfl)
    (h1 : (assignEach [.Subscript (.Name x p2) eb spos] X.env).map (·.2) = [assign (.Subscript (.Name x p2) eb spos) X.env] := by rfl) :
    DS X (.Assign [.Subscript (.Name x p2) eb spos] ea pos) (tAsg ta (gSub (tVar i) tb rSetL)) (aPut i aa ab) := ⟨ps_asg he.pe (pg_sub hv.pe hk.pe set_list ha) hs hw h1, sims_put he.sm hk.sm⟩
theorem s_ret (he : DE X ea ta aa) : DS X (.Return (some ea) pos) (tRet ta) (aRet aa) := ⟨ps_ret he.pe, sims_ret he.sm⟩
theorem s_if {b1 b2 : List Stmt} (hc : DT X ec t at1) (h1 : DSs X b1 ts as) (h2 : DSs X b2 tu aus) : DS X (.If ec b1 b2 pos) (tIfS t ts tu) (aIfS at1 as aus) := ⟨ps_if hc.pe h1.pe h2.pe, sims_if hc.sm h1.sm h2.sm⟩
theorem s_nev : DS X st tNever aNev := ⟨ps_never, sims_nev⟩
theorem s_for {tg iter : Expr} {body : List Stmt} {wi : TI} {ai : AI} {g : TG} {ag : AG} {L : List Nat} (hp : PassesOwn (model X.prog X.w) X.A X.env X.xe) (hc : X.calm = true) (hi : DI X tg iter wi ai) (hg : DG X tg g ag L) (hb : DSs X body ts as)
    (hs : ∀ x, foldedSetIterable iter X.env x = pure x := by intro _; rfl) : DS X (.For tg iter body [] pos) (tFor wi g ts) (aFor ai ag as) := ⟨ps_for hp hc hi.pe hg.pe hb.pe hs, sims_for hi.sm hg.sm hb.sm⟩
theorem ss_nil : DSs X [] tNext aNext := ⟨pss_nil, sims_next⟩
theorem ss_one (h : DS X st ts as) : DSs X [st] ts as := ⟨pss_one h.pe, h.sm⟩
theorem ss_cons (h : DS X st ts as) (h2 : DSs X sts tu aus) : DSs X (st :: sts) (tSeq ts tu) (aSeq as aus) := ⟨pss_cons h.pe h2.pe, sims_seq h.sm h2.sm⟩
end
section
variable {P : Program} {w : World} {K : PySem.W.Frag} {mg : Str → Option Value} {base : Heap}
theorem fnD {x qual : Str} {st : Stmt} {f : Addr} {fd : FuncData} {N ps : List Str} {k n : Nat} {S : ARC} {as : AS} (Fn : Fun K x qual st f fd) (Sc : FnScope N ps (defScope st)) (hn : ps.length = n)
    (hS : ∀ ds Q, ds.length = n → S ds Q → as (endsD Q) (startS N.length (ds.map .pu)))
    (hbody : ∀ (cdv : Value) (A : Around) (outer : List Env) (s : Shared) (H : Hp) (E : XK), (A.deeper (PyProof.Rows.envOfC qual (defScope st) s.heap.objs.size f cdv)).guards = some [] → Room k (A.deeper (PyProof.Rows.envOfC qual (defScope st) s.heap.objs.size f cdv)) → ∃ ts, DSs (cxOf CX0 P w K mg base N qual (defScope st) f cdv A outer s H E).nox (defBody st) ts as) :
    GnOk P w K mg base CX0 (k + 1) f fd ps (spD K n S) := okD Fn Sc hn fun cdv A outer s H E hg hr => by
  obtain ⟨ts, h⟩ := hbody cdv A outer s H E hg hr
  exact ⟨ts, as, h.pe, h.sm, hS⟩
theorem fnM {x qual : Str} {st : Stmt} {f : Addr} {fd : FuncData} {N ps : List Str} {k n : Nat} {S : ARM} {as : AS} (Fn : Fun K x qual st f fd) (Sc : FnScope N ps (defScope st)) (hn : ps.length = n)
    (hS : ∀ xs ds Q p, ds.length + 1 = n → S xs ds Q → as (endsM Q p) (startS N.length (.ow p xs :: ds.map .pu)))
    (hbody : ∀ (cdv : Value) (A : Around) (outer : List Env) (s : Shared) (H : Hp) (E : XK), (A.deeper (PyProof.Rows.envOfC qual (defScope st) s.heap.objs.size f cdv)).guards = some [] → Room k (A.deeper (PyProof.Rows.envOfC qual (defScope st) s.heap.objs.size f cdv)) → ∃ ts, DSs (cxOf CX0 P w K mg base N qual (defScope st) f cdv A outer s H E).nox (defBody st) ts as) :
    GnOk P w K mg base CX0 (k + 1) f fd ps (spM K n S) := okM Fn Sc hn fun cdv A outer s H E hg hr => by
  obtain ⟨ts, h⟩ := hbody cdv A outer s H E hg hr
  exact ⟨ts, as, h.pe, h.sm, hS⟩
end
end DL
namespace DL
open PySem L2
abbrev aAdd (a b : AE) : AE := aOp (aI fun i j => i + j) a b
abbrev aMul (a b : AE) : AE := aOp (aIC CMul fun i j => i * j) a b
abbrev aDivW (a b : AE) : AE := aOp (aIC CDivW fun i j => i / j) a b
abbrev aMod (a b : AE) : AE := aOp (aIC (fun _ j => 0 < j) fun i j => i % j) a b
abbrev aPow (a b : AE) : AE := aOp (aIC CPow fun i j => i ^ j.toNat) a b
abbrev aLt : AR2 := aB fun i j => decide (i < j)
abbrev aLe : AR2 := aB fun i j => decide (i ≤ j)
abbrev aGt : AR2 := aB fun i j => decide (j < i)
abbrev aGe : AR2 := aB fun i j => decide (j ≤ i)
/-- powers of great numbers -/
def CPowW (i j : Int) : Prop := 0 ≤ j ∧ (Builtin.Int.intBits i : Int) * j ≤ 2 ^ 27
theorem op_powW {X : Cx} : OpR X (binaryOp .Pow) (rI CPowW fun i j => .int (i ^ j.toNat)) := opI fun _ _ _ _ _ _ _ hc q => PyProof.Rows.pow_int hc.1 hc.2 q
abbrev aPowW (a b : AE) : AE := aOp (aIC CPowW fun i j => i ^ j.toNat) a b
theorem d_powW {X : Cx} {ea eb : Expr} {ta tb : TE} {aa ab : AE} {pos : Pos} (ha : DE X ea ta aa) (hb : DE X eb tb ab) : DE X (.BinOp ea .Pow eb pos) (tOp (rI CPowW fun i j => .int (i ^ j.toNat)) ta tb) (aPowW aa ab) := d_op op_powW rd_ic ha hb
/-- list(range(..)) -/
def aListRange1 (a : AA) : AE := fun s P => a s fun ds s1 => match ds with
  | [.int j] => (0 ≤ j ∧ j ≤ 16777216) ∧ ∀ p, P (.ow p (rngD 0 j.toNat)) s1
  | _ => False
def aListRange2 (a : AA) : AE := fun s P => a s fun ds s1 => match ds with
  | [.int i, .int j] => RgOk i j ∧ ∀ p, P (.ow p (rngD i (j - i).toNat)) s1
  | _ => False
theorem dqa_rng {K : PySem.W.Frag} {F : Hp} (a b : Int) : DqA K F (rngD a (b - a).toNat) (rgV a b) := by
  unfold rngD rgV
  generalize (List.range (b - a).toNat) = l
  induction l with
  | nil => rfl
  | cons x l ih => exact ⟨_, _, rfl, rfl, ih⟩
theorem d_list_range1 {X : Cx} {ea : Expr} {ta : TE} {aa : AE} {p p2 pos pos2 : Pos} (hm : X.mg "list" = none) (hm2 : X.mg "range" = none) (hc : X.calm = true) (ha : DE X ea ta aa) (hg : Gl X "list" := by rfl) (hg2 : Gl X "range" := by rfl) (n1 : starEach [ea] X.env = (false, eval ea X.env) :: starEach [] X.env := by rfl)
    (na : starEach [.Call (.Name "range" p) [ea] [] pos] X.env = (false, eval (.Call (.Name "range" p) [ea] [] pos) X.env) :: starEach [] X.env := by rfl) :
    DE X (.Call (.Name "list" p2) [.Call (.Name "range" p) [ea] [] pos] [] pos2) (tLstRg (tRg1 ta)) (aListRange1 (aCons aa aNil)) :=
  ⟨pe_listRg hc hg hm (prg_1 hg2 hm2 ha.pe n1) na, fun s P q σ F H ok Q k => by
    refine ha.sm.d q ok fun r s1 v F1 H1 q1 st1 d1 => ?_
    have q2 : (match [r.d] with | [.int j] => (0 ≤ j ∧ j ≤ 16777216) ∧ ∀ p, P (.ow p (rngD 0 j.toNat)) s1 | _ => False) := q1
    cases e : r.d <;> simp only [e] at q2
    rename_i j
    rw [e] at d1
    refine ⟨j, d1, RgOk.of_le (by omega) (by omega) (by omega) (by omega), fun p hp => ?_⟩
    have hd := dqa_rng (K := X.K) (F := F1) 0 j
    obtain ⟨st2, rs2⟩ := st1.leaf (Lf.newL st1.st.le hp hd)
    have q3 := q2.2 p
    rw [show j.toNat = (j - 0).toNat by omega] at q3
    exact k _ s1 _ _ _ q3 st2 rs2⟩
/-- a def that changes its first argument, called with a new tree -/
def aCallT (n : Nat) (S : ARM) (a0 : AE) (ar : AA) : AE := fun s P => a0 s fun r s1 => match r with
  | .ow _ xs => ar s1 fun ds s2 => ds.length + 1 = n ∧ S xs ds fun rs _ => P rs s2
  | _ => False
theorem Step.calledN {K : PySem.W.Frag} {s s1 : Ss} {σ : L2.St} {F H F1 H1 F2 H2 : Hp} {l l' rs : Sl} {v0 v : V} (st : Step K s F H s1 F1 H1 σ) (r0 : Rs K s H F1 H1 s1 l v0) (x : Lt K l v0 F1 H1 rs v l' F2 H2) :
    Step K s F H s1 F2 H2 σ ∧ Rs K s H F2 H2 s1 rs v := by
  have un : ∀ b u, b ∉ fp l → F1 b = none → H1 b = some u → F2 b = none := fun b u hb h1 h2 => by
    cases z : F2 b with
    | none => rfl
    | some o =>
      rcases x.n b (by rw [z]; intro y; cases y) with y | y | y
      · exact absurd h1 y
      · rw [h2] at y
        cases y
      · exact absurd y hb
  refine ⟨⟨⟨x.le, st.st.len, fun i l2 o w1 w2 => ?_, st.st.un, st.st.nd⟩, st.f.trans x.f, fun b o w1 w2 => ?_, fun b w => st.t b (x.t b w), fun b w => ?_, st.o⟩, ⟨x.ok, fun a ha => ?_, x.nd⟩⟩
  · refine SlOk.mono l2 x.f (fun q hq u z1 z2 => ?_) (st.st.ok i l2 o w1 w2)
    have nq : q ∉ fp l := fun z => (r0.fr q z).2 ⟨i, l2, w1, hq⟩
    exact ⟨un q u nq z1 z2, x.h q u nq z2⟩
  · refine x.h b o (fun z => ?_) (st.k b o w1 w2)
    rcases (r0.fr b z).1 with y | y
    · rw [w1] at y
      cases y
    · exact w2 y
  · rcases x.n b w with y | y | y
    · exact st.n b y
    · exact .inr (.inl (st.t b y))
    · rcases (r0.fr b y).1 with z | z
      · exact .inr (.inl z)
      · exact .inr (.inr z)
  · obtain ⟨h1, h2⟩ := x.fr a ha
    rcases h1 with y | y
    · exact r0.fr a y
    · refine ⟨.inl (st.t a y), fun w => ?_⟩
      obtain ⟨_, u, hu⟩ := st.st.own w
      rw [y] at hu
      cases hu
theorem sim_callT {K : PySem.W.Frag} {n : Nat} {S : ARM} {te : TE} {t : TA} {a0 : AE} {a : AA} {E : XK} (h0 : Sim K te a0) (ha : SimA K t a) : Sim K (tCall (spM K n S) [] E (tCons te t)) (aCallT n S a0 a) := fun s P q σ F H ok Q k => by
  refine h0 s _ q σ F H ok _ fun r s1 v F1 H1 q1 st1 rs1 => ?_
  cases r with
  | no => exact q1.elim
  | pu d => exact q1.elim
  | nd _ _ _ => exact q1.elim
  | ow p xs =>
    refine ha s1 _ q1 σ F1 H1 st1.st _ fun ds s2 ws F2 H2 q2 st2 d2 => ?_
    have rs2 := rs1.keep st2
    show spM K n S ((v :: ws) ++ []) H2 Q E
    rw [List.append_nil]
    refine ⟨F2, _, v, ds, ws, fun rs _ => P rs s2, rfl, st2.st.le, rs2.ok, rs2.nd, d2, q2.1, ⟨_, _, rfl, q2.2⟩, fun rs l' v F3 H3 hP x => ?_⟩
    obtain ⟨st3, rs3⟩ := (st1.trans st2).calledN rs2 x
    exact k rs s2 v F3 H3 hP st3 rs3
theorem d_callT {X : Cx} {K : PySem.W.Frag} (hK : X.K = K := by rfl) {x : Str} {f : Addr} {fd : FuncData} {ps : List Str} {k n : Nat} {S : ARM} {tr : TA} {aar : AA} {p pos : Pos} {ea : Expr} {es : List Expr} {ta : TE} {aa : AE} (F : GnOk X.prog X.w K X.mg X.base CX0 k f fd ps (spM K n S)) (hgd : X.A.guards = some []) (hr : Room k X.A) (hm : X.mg x = some (.ref f)) (hk : PySem.W.keepIn K (.ref f) = true) (hb : Binds K fd ps [])
    (h0 : DE X ea ta aa) (ha : DA X es tr aar) (hg : Gl X x := by rfl) (hdb : (x == ("__debug__" : Str)) = false := by decide) (he : starEach (ea :: es) X.env = (false, eval ea X.env) :: starEach es X.env := by rfl) (hpl : (backTo pos (starEach es X.env)).any (·.1) = false := by rfl) :
    DE X (.Call (.Name x p) (ea :: es) [] pos) (tCall (spM K n S) [] E0 (tCons ta tr)) (aCallT n S aa aar) := by
  subst hK
  exact ⟨pe_g F hgd hr hg hm hk hb pass0 (pa_cons h0.pe ha.pe he) hdb he hpl, sim_callT h0.sm ha.sm⟩
def spLaw (K : PySem.W.Frag) : Sp := fun vs H Q _ => ∃ (a : Addr) (ns : List Int), vs = [.ref a] ∧ SqL K H a (ns.map V.int) ∧ ns.length ≤ 63 ∧ ∀ H', Q (.bl true) H'
def SLaw : ARC := fun ds P => ∃ ns : List Int, ds = [.scr (ns.map D.int)] ∧ ns.length ≤ 63 ∧ P (.pu (.bl true))
theorem spLaw_D {K : PySem.W.Frag} : ∀ vs H Q E, spLaw K vs H Q E → spD K 1 SLaw vs H Q E := fun vs H Q E h => by
  obtain ⟨a, ns, rfl, h1, h2, q⟩ := h
  refine ⟨H, [.scr (ns.map D.int)], fun r => r = .pu (.bl true), Same.refl _, ⟨.ref a, [], rfl, ⟨a, _, rfl, h1, dqa_ints ns⟩, rfl⟩, rfl, ⟨ns, rfl, h2, rfl⟩, fun rs v F' H' hr l => ?_⟩
  subst hr
  obtain ⟨w, e1, e2⟩ := slok_pu.mp l.ok
  cases e1
  cases (show v = _ from e2)
  exact q H'
end DL
namespace DL
open PySem L2
theorem atI_k {α : Type} (xs : List α) (k : Nat) : atI xs (k : Int) = xs[k]? := by
  unfold atI ixN
  rw [if_pos (Int.natCast_nonneg k)]
  by_cases h : (k : Int) < xs.length
  · rw [if_pos h]
    rfl
  · rw [if_neg h, List.getElem?_eq_none (by omega)]
    rfl
theorem cutD_to (xs : List D) (k : Nat) : cutD xs none (some (k : Int)) = xs.take k := by
  unfold cutD
  rw [HT.sIx_nat, HT.sIx_none, List.drop_zero, Nat.sub_zero]
  by_cases h : k ≤ xs.length
  · rw [Nat.min_eq_left h]
  · rw [Nat.min_eq_right (by omega), List.take_of_length_le (Nat.le_refl _), List.take_of_length_le (by omega)]
end DL
namespace DL
open PySem L2
mutual
def pyD : D → PyData
  | .non => .none
  | .bl b => .bool b
  | .int i => .int i
  | .str x => .str x
  | .tup xs => .tuple (pyA xs)
  | .lst xs => .list (pyA xs)
  | .scr xs => .list (pyA xs)
  | .ob _ => .none
  | .ins _ _ _ => .none
  | .dk _ _ => .none
  | .dt _ _ => .none
def pyA : List D → List PyData
  | [] => []
  | d :: ds => pyD d :: pyA ds
end
mutual
def shD : Nat → D → Prop
  | _, .non => True
  | _, .bl _ => True
  | _, .int i => -(10 ^ 60) < i ∧ i < 10 ^ 60
  | _, .str x => x.cps.toList.all (fun c => decide (c < 16 ^ 8)) = true
  | k, .tup xs => 0 < k ∧ shA (k - 1) xs
  | k, .lst xs => 0 < k ∧ shA (k - 1) xs
  | k, .scr xs => 0 < k ∧ shA (k - 1) xs
  | _, .ob _ => False
  | _, .ins _ _ _ => False
  | _, .dk _ _ => False
  | _, .dt _ _ => False
def shA : Nat → List D → Prop
  | _, [] => True
  | k, d :: ds => shD k d ∧ shA k ds
end
mutual
def sizD : D → Nat
  | .non => 0
  | .bl _ => 0
  | .int _ => 0
  | .str x => x.cps.size
  | .tup xs => sizA xs
  | .lst xs => sizA xs
  | .scr xs => sizA xs
  | .ob _ => 0
  | .ins _ _ _ => 0
  | .dk _ _ => 0
  | .dt _ _ => 0
def sizA : List D → Nat
  | [] => 0
  | d :: ds => sizD d + 1 + sizA ds
end
section
variable {K : PySem.W.Frag} {F H : Hp}
mutual
theorem dp_of : ∀ (d : D) (k : Nat) (v : V), shD k d → Dq K F d v → Dp K F v (pyD d)
  | .non, k, v, _, h => by
    cases (show v = _ from h)
    exact .non
  | .bl b, k, v, _, h => by
    cases (show v = _ from h)
    exact .bl b
  | .int i, k, v, _, h => by
    cases (show v = _ from h)
    exact .int i
  | .str x, k, v, _, h => by
    cases (show v = _ from h)
    exact .str x
  | .tup ds, k, v, hs, h => by
    obtain ⟨a, xs, rfl, h1, h2⟩ := h
    exact .tup h1 (dp_all ds (k - 1) xs (by simp only [shD] at hs; exact hs.2) h2)
  | .lst ds, k, v, hs, h => by
    obtain ⟨a, xs, rfl, h1, h2⟩ := h
    exact .lst (SqL.of h1) (dp_all ds (k - 1) xs (by simp only [shD] at hs; exact hs.2) h2)
  | .scr ds, k, v, hs, h => by
    obtain ⟨a, xs, rfl, h1, h2⟩ := h
    exact .lst h1 (dp_all ds (k - 1) xs (by simp only [shD] at hs; exact hs.2) h2)
  | .ob f, k, v, hs, h => by
    simp only [shD] at hs
  | .ins _ _ _, k, v, hs, h => by
    simp only [shD] at hs
  | .dk _ _, k, v, hs, h => by
    simp only [shD] at hs
  | .dt _ _, k, v, hs, h => by
    simp only [shD] at hs
theorem dp_all : ∀ (ds : List D) (k : Nat) (vs : List V), shA k ds → DqA K F ds vs → DpAll K F vs (pyA ds)
  | [], k, vs, _, h => by
    cases (show vs = [] from h)
    exact .nil
  | d :: ds, k, vs, hs, h => by
    obtain ⟨x, r, rfl, h1, h2⟩ := h
    simp only [shA] at hs
    exact .cons (dp_of d k x hs.1 h1) (dp_all ds k r hs.2 h2)
end
theorem int60 {i : Int} (h : -(10 ^ 60) < i ∧ i < 10 ^ 60) : i.natAbs < 10 ^ 60 := by omega
mutual
theorem sh_ok : ∀ (d : D) (k : Nat), shD k d → (pyD d).showable = true ∧ (pyD d).leavesShort 64 = true ∧ (pyD d).depth ≤ k ∧ (pyD d).hasDict = false ∧ (pyD d).bulk ≤ sizD d
  | .non, k, _ => ⟨rfl, rfl, Nat.zero_le _, rfl, Nat.le_refl _⟩
  | .bl b, k, _ => ⟨rfl, rfl, Nat.zero_le _, rfl, Nat.le_refl _⟩
  | .int i, k, hs => by
    simp only [shD] at hs
    have h1 := int60 hs
    have h2 : i.natAbs.log2 < 200 := by
      by_cases hz : i.natAbs = 0
      · rw [hz]
        decide
      · exact (Nat.log2_lt hz).mpr (Nat.lt_of_lt_of_le h1 (by decide +kernel))
    have h3 := int_text_length_le10 (k := 60) (by decide) h1
    refine ⟨?_, ?_, Nat.zero_le _, rfl, Nat.le_refl _⟩
    · simp only [pyD, PyData.showable, decide_eq_true_eq]
      omega
    · simp only [pyD, PyData.leavesShort, decide_eq_true_eq]
      have : (PyData.shown (.int i)).length ≤ 61 := by
        have e : (PyData.shown (.int i)).length = (toString i).length := by
          simp only [PyData.shown]
          show (Str.ofString (toString i)).length = _
          rw [ofString_length]
        omega
      omega
  | .str x, k, hs => by
    simp only [shD] at hs
    refine ⟨rfl, ?_, Nat.zero_le _, rfl, Nat.le_refl _⟩
    simp only [pyD, PyData.leavesShort]
    exact hs
  | .tup ds, k, hs => by
    simp only [shD] at hs
    obtain ⟨h1, h2, h3, h4, h5⟩ := sh_all ds (k - 1) hs.2
    refine ⟨by simpa only [pyD, PyData.showable] using h1, by simpa only [pyD, PyData.leavesShort] using h2, ?_, by simpa only [pyD, PyData.hasDict] using h4, by simpa only [pyD, PyData.bulk, sizD] using h5⟩
    simp only [pyD, PyData.depth]
    omega
  | .lst ds, k, hs => by
    simp only [shD] at hs
    obtain ⟨h1, h2, h3, h4, h5⟩ := sh_all ds (k - 1) hs.2
    refine ⟨by simpa only [pyD, PyData.showable] using h1, by simpa only [pyD, PyData.leavesShort] using h2, ?_, by simpa only [pyD, PyData.hasDict] using h4, by simpa only [pyD, PyData.bulk, sizD] using h5⟩
    simp only [pyD, PyData.depth]
    omega
  | .scr ds, k, hs => by
    simp only [shD] at hs
    obtain ⟨h1, h2, h3, h4, h5⟩ := sh_all ds (k - 1) hs.2
    refine ⟨by simpa only [pyD, PyData.showable] using h1, by simpa only [pyD, PyData.leavesShort] using h2, ?_, by simpa only [pyD, PyData.hasDict] using h4, by simpa only [pyD, PyData.bulk, sizD] using h5⟩
    simp only [pyD, PyData.depth]
    omega
  | .ob f, k, hs => by simp only [shD] at hs
  | .ins _ _ _, k, hs => by simp only [shD] at hs
  | .dk _ _, k, hs => by simp only [shD] at hs
  | .dt _ _, k, hs => by simp only [shD] at hs
theorem sh_all : ∀ (ds : List D) (k : Nat), shA k ds → PyData.showableAll (pyA ds) = true ∧ PyData.leavesShortAll 64 (pyA ds) = true ∧ PyData.depthAll (pyA ds) ≤ k ∧ PyData.hasDictAll (pyA ds) = false ∧ PyData.bulkAll (pyA ds) ≤ sizA ds
  | [], k, _ => ⟨rfl, rfl, Nat.zero_le _, rfl, Nat.le_refl _⟩
  | d :: ds, k, hs => by
    simp only [shA] at hs
    obtain ⟨h1, h2, h3, h4, h5⟩ := sh_ok d k hs.1
    obtain ⟨g1, g2, g3, g4, g5⟩ := sh_all ds k hs.2
    refine ⟨by simp only [pyA, PyData.showableAll, h1, g1, Bool.and_self], by simp only [pyA, PyData.leavesShortAll, h2, g2, Bool.and_self], ?_, by simp only [pyA, PyData.hasDictAll, h4, g4, Bool.or_self], ?_⟩
    · simp only [pyA, PyData.depthAll]
      omega
    · simp only [pyA, PyData.bulkAll, sizA]
      omega
end
/-- repr(x) -/
def rRepr (K : PySem.W.Frag) : List V → Hp → VK → Prop := fun vs H Q => ∃ v d, vs = [v] ∧ Dp K H v d ∧ d.showable = true ∧ d.depth ≤ 60 ∧ d.hasDict = false ∧ d.shown.length ≤ sizeLine ∧ Q (.str d.shown) H
theorem cr_repr {X : Cx} {k : Nat} (hg : X.A.guards = some []) (hr : Room k X.A) : CallR X (.builtin "repr") (rRepr X.K) := by
  intro pins s σ H vs us Q I r h
  obtain ⟨v, d, rfl, hp, h1, h2, h3, h4, q⟩ := h
  obtain ⟨u, rfl, ru⟩ := vals1 r
  obtain ⟨as, rd⟩ := Dp.reads I d v u hp ru
  have un := hr.un
  cases hp with
  | non =>
    cases ru
    exact PySem.P.repr_of_none ⟨.str _, H, I.tok _, ⟨_, rfl⟩, q⟩
  | bl b =>
    cases ru
    cases b <;> exact PySem.P.repr_of_bool ⟨.str _, H, I.tok _, ⟨_, rfl⟩, q⟩
  | int i =>
    obtain ⟨t, rfl⟩ := ru
    refine PySem.P.repr_of_int ?_ ⟨.str _, H, I.tok _, ⟨_, rfl⟩, q⟩
    simpa only [PyData.showable, decide_eq_true_eq] using h1
  | str x =>
    obtain ⟨t, rfl⟩ := ru
    exact PySem.P.repr_of_str ⟨.str _, H, I.tok _, ⟨_, rfl⟩, q⟩ h4
  | lst hs ha =>
    cases ru
    exact repr_of_reads' rd h1 (PyData.noDict_hsm h3) hg (by omega) (fun _ _ e => e) (fun h' u tk hk => ⟨.str _, H, I.kept hk, ⟨_, rfl⟩, q⟩) h4
  | tup hs ha =>
    cases ru
    exact repr_of_reads' rd h1 (PyData.noDict_hsm h3) hg (by omega) (fun _ _ e => e) (fun h' u tk hk => ⟨.str _, H, I.kept hk, ⟨_, rfl⟩, q⟩) h4
/-- the text of repr -/
def rpD (d : D) : Str := (pyD d).shown
def aRepr : ARC := fun ds P => match ds with
  | [d] => (shD 40 d ∧ sizD d ≤ 200000) ∧ P (.pu (.str (rpD d)))
  | _ => False
theorem Dp.mono {v : V} {d : PyData} (le : Same F H) (h : Dp K F v d) : Dp K H v d := by
  refine Dp.rec (motive_1 := fun v d _ => Dp K H v d) (motive_2 := fun vs ds _ => DpAll K H vs ds) ?_ ?_ ?_ ?_ ?_ ?_ ?_ ?_ h
  · exact .non
  · exact fun b => .bl b
  · exact fun b => .int b
  · exact fun b => .str b
  · exact fun h1 _ h2 => .lst (Same.seq le h1) h2
  · exact fun h1 _ h2 => .tup (Same.sqt le h1) h2
  · exact .nil
  · exact fun _ _ h1 h2 => .cons h1 h2
theorem rc_repr : RC K (rRepr K) aRepr := fun ds P q F H xs le dx Q k => by
  match ds, q, dx with
  | [d], q, dx =>
    obtain ⟨v, rfl, h⟩ := dqa1 dx
    obtain ⟨⟨q1, q2⟩, q3⟩ := q
    obtain ⟨h1, h2, h3, h4, h5⟩ := sh_ok d _ q1
    refine ⟨v, pyD d, rfl, Dp.mono le (dp_of d _ v q1 h), h1, by omega, h4, ?_, k _ _ F H q3 (Lf.same le _ _ rfl)⟩
    have z := PyData.shown_le_bulk 64 (by decide) (pyD d) h2
    rw [sizeLine_eq]
    omega
end
end DL
namespace PySem
open AutoSeq1 (wpAny_loadPart')
section
variable {pr : Program} {wd : World} {Ar : Around} {E : Value → Shared → Prop} {sh : Shared}
end
end PySem
namespace DL
open PySem L2
def enumD (ds : List D) : List D := (List.range ds.length).zip ds |>.map fun p => D.tup [.int (p.1 : Nat), p.2]
theorem enumD_get {ds : List D} {i : Nat} {d : D} (h : (enumD ds)[i]? = some d) : ∃ e, ds[i]? = some e ∧ d = .tup [.int (i : Nat), e] := by
  unfold enumD at h
  rw [List.getElem?_map] at h
  cases e1 : ((List.range ds.length).zip ds)[i]? with
  | none =>
    rw [e1] at h
    cases h
  | some p =>
    rw [e1] at h
    cases h
    obtain ⟨h1, h2⟩ := List.getElem?_zip_eq_some.mp e1
    obtain ⟨h3, h4⟩ := List.getElem?_eq_some_iff.mp h1
    rw [List.getElem_range] at h4
    exact ⟨p.2, h2, by rw [h4]⟩
theorem enumD_len (ds : List D) : (enumD ds).length = ds.length := by
  unfold enumD
  simp
theorem pair_lf {K : PySem.W.Frag} {F1 H2 H3 : Hp} {x : V} {d e : D} {v1 v2 : V} {T : Addr} (e2 : Same F1 H2) (h2 : H2 T = none) (hx : x = .ref T) (h3 : H3 = upd H2 T (.tup [v1, v2])) (d1 : Dq K F1 d v1) (d2 : Dq K F1 e v2) : ∃ F2, Lf K F1 H2 (.pu (.tup [d, e])) x F2 H3 := by
  subst hx h3
  exact ⟨_, Lf.newT e2 h2 ⟨v1, [v2], rfl, d1, v2, [], rfl, d2, rfl⟩⟩
/-- enumerate of a list -/
def aItEnL (a : AA) : AI := fun s P => a s fun ds s1 => match ds with
  | [d] => match lstD d with
    | some es => P (enumD es) s1
    | none => False
  | _ => False
theorem simi_enL {K : PySem.W.Frag} {t : TA} {a : AA} (h : SimA K t a) : SimI K (iEnum K t) (aItEnL a) := fun s P q σ F H ok R k => by
  refine h s _ q σ F H ok _ fun ds s1 vs F1 H1 q1 st1 d1 => ?_
  match ds, q1, d1 with
  | [d], q1, d1 =>
    obtain ⟨v, rfl, g⟩ := dqa1 d1
    simp only at q1
    cases e0 : lstD d with
    | none =>
      rw [e0] at q1
      exact q1.elim
    | some es =>
      rw [e0] at q1
      obtain ⟨a, xs, rfl, h1, h2⟩ := lstD_ok e0 g
      refine ⟨a, xs, rfl, Same.seq st1.st.le h1, k _ s1 _ F1 H1 q1 st1 ⟨fun H => SqL K H a xs, YPair (fun i => some (.int (i : Nat))) (fun i => xs[i]?), ?_, fun H2 e => Same.seq e h1, fun i H2 x H3 e y d hd F2 e1 e2 => ?_⟩⟩
      · rw [enumD_len, ← h2.length]
        exact walk_enum
      · obtain ⟨T, y1, y2, g1, g2, g3, g4, g5⟩ := y
        obtain ⟨ed, he, rfl⟩ := enumD_get hd
        obtain ⟨x2, w1, w2⟩ := h2.get he
        have g5 : xs[i]? = some y2 := g5
        rw [w1] at g5
        cases g5
        cases g4
        exact pair_lf e2 g2 g1 g3 rfl (Dq.mono e1 _ _ w2)
theorem di_enumerateL {X : Cx} {K : PySem.W.Frag} (hK : X.K = K := by rfl) {ea : Expr} {tr : TA} {ar : AA} {p pos tpos : Pos} {elts : List Expr} {kk : Nat} (hm : X.mg "enumerate" = none) (ha : DA X [ea] tr ar) (hg : Gl X "enumerate" := by rfl) (hs : starEach [ea] X.env = [(false, eval ea X.env)] := by rfl) :
    DI X (.Tuple elts kk tpos) (.Call (.Name "enumerate" p) [ea] [] pos) (iEnum K tr) (aItEnL ar) := by
  subst hK
  exact ⟨pi_enum hg hm ha.pe hs, simi_enL ha.sm⟩
/-- zip of two tuples, of two lists -/
def zipD (ds es : List D) : List D := (ds.zip es).map fun p => D.tup [p.1, p.2]
theorem zipD_len (ds es : List D) : (zipD ds es).length = min ds.length es.length := by
  unfold zipD
  simp
theorem zipD_get {ds es : List D} {i : Nat} {d : D} (h : (zipD ds es)[i]? = some d) : ∃ x y, ds[i]? = some x ∧ es[i]? = some y ∧ d = .tup [x, y] := by
  unfold zipD at h
  rw [List.getElem?_map] at h
  cases e1 : (ds.zip es)[i]? with
  | none =>
    rw [e1] at h
    cases h
  | some p =>
    rw [e1] at h
    cases h
    obtain ⟨h1, h2⟩ := List.getElem?_zip_eq_some.mp e1
    exact ⟨p.1, p.2, h1, h2, rfl⟩
theorem walk_zipT {K : PySem.W.Frag} {a b : Addr} {xs ys : List V} {n : Nat} (hn : n = min xs.length ys.length) : Walk (RZ.ItzT K a b) n (fun H => SqT K H a xs ∧ SqT K H b ys) (YPair (fun i => xs[i]?) (fun i => ys[i]?)) := by
  subst hn
  refine ⟨fun i _ hi q => ⟨xs, ys, _, _, q.1, q.2, List.getElem?_eq_getElem (show i < xs.length by omega), List.getElem?_eq_getElem (show i < ys.length by omega)⟩, fun _ q => ⟨xs, ys, q.1, q.2, by omega⟩, fun i H v H' _ q y => ?_⟩
  obtain ⟨T, x, z, h1, h2, h3, h4, h5⟩ := y
  exact ⟨T, x, z, h1, h2, h3, h4 xs q.1, h5 ys q.2⟩
def aItZip (a : AA) : AI := fun s P => a s fun ds s1 => match ds with
  | [.tup xs, .tup ys] => P (zipD xs ys) s1
  | [d, e] => match lstD d, lstD e with
    | some xs, some ys => P (zipD xs ys) s1
    | _, _ => False
  | _ => False
theorem simi_zip {K : PySem.W.Frag} {t : TA} {a : AA} (h : SimA K t a) : SimI K (RZ.iZipA K t) (aItZip a) := fun s P q σ F H ok R k => by
  refine h s _ q σ F H ok _ fun ds s1 vs F1 H1 q1 st1 d1 => ?_
  have lists : ∀ d e, ds = [d, e] → (∃ us ws, lstD d = some us ∧ lstD e = some ws ∧ P (zipD us ws) s1) → ∃ a b xs ys, vs = [.ref a, .ref b] ∧ ((SqL K H1 a xs ∧ SqL K H1 b ys ∧ R (Itz K a b) H1) ∨ (SqT K H1 a xs ∧ SqT K H1 b ys ∧ R (RZ.ItzT K a b) H1)) := fun d e eds q7 => by
    subst eds
    obtain ⟨v, w, rfl, g, g'⟩ := dqa2 d1
    obtain ⟨us, ws, e0, e0', q8⟩ := q7
    obtain ⟨a, xs, rfl, h1, h2⟩ := lstD_ok e0 g
    obtain ⟨b, ys, rfl, h1', h2'⟩ := lstD_ok e0' g'
    refine ⟨a, b, xs, ys, rfl, .inl ⟨Same.seq st1.st.le h1, Same.seq st1.st.le h1', k _ s1 _ F1 H1 q8 st1 ⟨fun H => SqL K H a xs ∧ SqL K H b ys, YPair (fun i => xs[i]?) (fun i => ys[i]?), walk_zip (by rw [zipD_len, h2.length, h2'.length]), fun H2 e => ⟨Same.seq e h1, Same.seq e h1'⟩, fun i H2 x H3 e y d hd F2 e1 e2 => ?_⟩⟩⟩
    obtain ⟨T, y1, y2, g1, g2, g3, g4, g5⟩ := y
    obtain ⟨ed, ed', he, he', rfl⟩ := zipD_get hd
    obtain ⟨x2, w1, w2⟩ := h2.get he
    obtain ⟨x3, w3, w4⟩ := h2'.get he'
    have g4 : xs[i]? = some y1 := g4
    have g5 : ys[i]? = some y2 := g5
    rw [w1] at g4
    rw [w3] at g5
    cases g4
    cases g5
    exact pair_lf e2 g2 g1 g3 (Dq.mono e1 _ _ w2) (Dq.mono e1 _ _ w4)
  unfold aItZip at q1
  split at q1
  · rename_i xs0 ys0
    obtain ⟨v, w, rfl, g, g'⟩ := dqa2 d1
    obtain ⟨a, xs, rfl, h1, h2⟩ := g
    obtain ⟨b, ys, rfl, h1', h2'⟩ := g'
    refine ⟨a, b, xs, ys, rfl, .inr ⟨Same.sqt st1.st.le h1, Same.sqt st1.st.le h1', k _ s1 _ F1 H1 q1 st1 ⟨fun H => SqT K H a xs ∧ SqT K H b ys, YPair (fun i => xs[i]?) (fun i => ys[i]?), walk_zipT (by rw [zipD_len, h2.length, h2'.length]), fun H2 e => ⟨Same.sqt e h1, Same.sqt e h1'⟩, fun i H2 x H3 e y d hd F2 e1 e2 => ?_⟩⟩⟩
    obtain ⟨T, y1, y2, g1, g2, g3, g4, g5⟩ := y
    obtain ⟨ed, ed', he, he', rfl⟩ := zipD_get hd
    obtain ⟨x2, w1, w2⟩ := h2.get he
    obtain ⟨x3, w3, w4⟩ := h2'.get he'
    have g4 : xs[i]? = some y1 := g4
    have g5 : ys[i]? = some y2 := g5
    rw [w1] at g4
    rw [w3] at g5
    cases g4
    cases g5
    exact pair_lf e2 g2 g1 g3 (Dq.mono e1 _ _ w2) (Dq.mono e1 _ _ w4)
  · rename_i d e _
    refine lists d e rfl ?_
    cases e0 : lstD d with
    | none =>
      rw [e0] at q1
      exact q1.elim
    | some us =>
      cases e1 : lstD e with
      | none =>
        rw [e0, e1] at q1
        exact q1.elim
      | some ws =>
        rw [e0, e1] at q1
        exact ⟨us, ws, rfl, rfl, q1⟩
  · exact q1.elim
theorem di_zip {X : Cx} {K : PySem.W.Frag} (hK : X.K = K := by rfl) {ea eb : Expr} {tr : TA} {ar : AA} {p pos tpos : Pos} {elts : List Expr} {kk : Nat} (hm : X.mg "zip" = none) (ha : DA X [ea, eb] tr ar) (hg : Gl X "zip" := by rfl) (hs : starEach [ea, eb] X.env = (false, eval ea X.env) :: starEach [eb] X.env := by rfl) (hpl : (backTo pos (starEach [eb] X.env)).any (·.1) = false := by rfl) :
    DI X (.Tuple elts kk tpos) (.Call (.Name "zip" p) [ea, eb] [] pos) (RZ.iZipA K tr) (aItZip ar) := by
  subst hK
  exact ⟨RZ.pi_zipA hg hm ha.pe hs hpl, simi_zip ha.sm⟩
end DL
namespace DL
open PySem L2
def gP {α : Type} (n : Nat) (ix : List Nat) (us ws : List α) : List α := if us.length = 0 ∧ ws.length = n then ix.filterMap (fun i => ws[i]?) else []
theorem vals_pick {zs : List V} {ws : List Value} (r : Vals zs ws) : ∀ ix : List Nat, Vals (ix.filterMap (fun i => zs[i]?)) (ix.filterMap (fun i => ws[i]?))
  | [] => .nil
  | i :: ix => by
    rw [List.filterMap_cons, List.filterMap_cons]
    cases e : zs[i]? with
    | none =>
      rw [r.none_of e]
      exact vals_pick r ix
    | some x =>
      obtain ⟨u, h1, h2⟩ := r.get e
      rw [h1]
      exact .cons h2 (vals_pick r ix)
theorem dqa_pick {K : PySem.W.Frag} {F : Hp} {ds : List D} {zs : List V} (h : DqA K F ds zs) : ∀ ix : List Nat, DqA K F (ix.filterMap (fun i => ds[i]?)) (ix.filterMap (fun i => zs[i]?))
  | [] => rfl
  | i :: ix => by
    rw [List.filterMap_cons, List.filterMap_cons]
    cases e : ds[i]? with
    | none =>
      have e2 : zs[i]? = none := by
        rw [List.getElem?_eq_none_iff] at e ⊢
        rw [h.length]
        exact e
      rw [e2]
      exact dqa_pick h ix
    | some d =>
      obtain ⟨x, h1, h2⟩ := h.get e
      rw [h1]
      exact ⟨x, _, rfl, h2, dqa_pick h ix⟩
theorem kbinds_of {K : PySem.W.Frag} {fd : FuncData} {ps ks : List Str} {n : Nat} {ix : List Nat} (hp : 0 < ps.length) (h : ∀ (s : Shared) (ws : List Value), K.In s.heap → ws.length = n → BindsTo s fd ⟨[], ks.zip ws⟩ (ps.zip (ix.filterMap (fun i => ws[i]?)))) : KBinds K fd ps ks (gP n ix) (gP n ix) := by
  refine ⟨fun s us ws kin hl => ?_, fun {vs us zs ws} r rz => ?_⟩
  · unfold gP at hl ⊢
    by_cases c : us.length = 0 ∧ ws.length = n
    · rw [if_pos c]
      have e : us = [] := List.eq_nil_of_length_eq_zero c.1
      subst e
      exact h s ws kin c.2
    · rw [if_neg c] at hl
      rw [← hl] at hp
      exact absurd hp (Nat.lt_irrefl _)
  · unfold gP
    rw [r.length, rz.length]
    by_cases c : us.length = 0 ∧ ws.length = n
    · rw [if_pos c, if_pos c]
      exact vals_pick rz ix
    · rw [if_neg c, if_neg c]
      exact .nil
structure DK (X : Cx) (ks : List Keyword) (t : TA) (a : AA) : Prop where
  pe : PK X ks t
  sm : SimA X.K t a
section
variable {X : Cx} {te : TE} {ta : TA} {a : AE} {ar : AA} {e : Expr} {kws : List Keyword} {nm : Option Str} {kpos : Pos}
theorem dk_nil : DK X [] tNil aNil := ⟨pk_nil, sim_nil⟩
theorem dk_cons (h : DE X e te a) (hr : DK X kws ta ar) : DK X (⟨nm, e, kpos⟩ :: kws) (tCons te ta) (aCons a ar) := ⟨pk_cons h.pe hr.pe, sim_cons h.sm hr.sm⟩
end
def aCallK (n m : Nat) (ix : List Nat) (S : ARC) (a : AA) : AE := fun s P => a s fun ds s1 => ds.length = m ∧ aFn n S (ix.filterMap (fun i => ds[i]?)) fun r => P r s1
theorem sim_callK {K : PySem.W.Frag} {n m : Nat} {ix : List Nat} {S : ARC} {t : TA} {a : AA} (h : SimA K t a) : Sim K (tCallK (spD K n S) (gP m ix) E0 tNil t) (aCallK n m ix S a) := fun s P q σ F H ok Q k => by
  show t σ H fun zs H2 => spD K n S (gP m ix [] zs) H2 Q E0
  refine h s _ q σ F H ok _ fun ds s1 zs F1 H1 q1 st1 d1 => ?_
  obtain ⟨q1, q2⟩ := q1
  have e : gP m ix ([] : List V) zs = ix.filterMap (fun i => zs[i]?) := by
    unfold gP
    rw [if_pos ⟨rfl, by rw [d1.length, q1]⟩]
  rw [e]
  refine ⟨F1, _, _, st1.st.le, dqa_pick d1 ix, q2.1, q2.2, fun rs v F2 H2 hp l => ?_⟩
  obtain ⟨st2, rs2⟩ := st1.leaf l
  exact k rs s1 v F2 H2 hp st2 rs2
theorem d_callK {X : Cx} {K : PySem.W.Frag} (hK : X.K = K := by rfl) {x : Str} {f : Addr} {fd : FuncData} {ps ks : List Str} {k n m : Nat} {ix : List Nat} {S : ARC} {tr : TA} {aar : AA} {p pos : Pos} {kws : List Keyword} (F : GnOk X.prog X.w K X.mg X.base CX0 k f fd ps (spD K n S)) (hgd : X.A.guards = some []) (hr : Room k X.A) (hm : X.mg x = some (.ref f)) (hk : PySem.W.keepIn K (.ref f) = true) (hb : KBinds K fd ps ks (gP m ix) (gP m ix))
    (ha : DK X kws tr aar) (hg : Gl X x := by rfl) (hall : (backToKw pos (keywordEach kws X.env)).all (·.1.isSome) = true := by rfl) (hks : (backToKw pos (keywordEach kws X.env)).filterMap (·.1) = ks := by rfl)
    (hdb : (x == ("__debug__" : Str)) = false := by decide) (hpl : ((backTo pos (starEach [] X.env)).any (·.1) || (backToKw pos (keywordEach kws X.env)).any (·.1.isNone)) = false := by rfl) :
    DE X (.Call (.Name x p) [] kws pos) (tCallK (spD K n S) (gP m ix) E0 tNil tr) (aCallK n m ix S aar) := by
  subst hK
  exact ⟨pe_gK F hgd hr hg hm hk hb pass0 ha.pe hall hks hdb hpl, sim_callK ha.sm⟩
theorem sim_bor {K : PySem.W.Frag} {r : List V → Hp → VK → Prop} {ar : ARC} {i : Nat} (hr : RC K r ar) : Sim K (tCB r (tCons (tVar i) tNil)) (aBor ar i) := fun s P q σ F H ok Q k => by
  unfold aBor at q
  cases e : s[i]? with
  | none =>
    rw [e] at q
    exact q.elim
  | some l =>
    rw [e] at q
    cases l with
    | no => exact q.elim
    | pu d => exact q.elim
    | nd _ _ _ => exact q.elim
    | ow p xs =>
      obtain ⟨o, h1, h2⟩ := ok.get e
      obtain ⟨rfl, g1, vs, g2, g3⟩ := slok_ow.mp h2
      refine ⟨.ref p, h1, ?_⟩
      have e1 : Same F (upd F p (.lst vs)) := fun b o q => by
        rw [upd_ne (ne_of_none q g1)]
        exact q
      have e2 : Same (upd F p (.lst vs)) H := fun b o q => by
        by_cases hb : b = p
        · subst hb
          rw [upd_same] at q
          cases q
          exact g2
        · rw [upd_ne hb] at q
          exact ok.le b o q
      refine hr [.lst xs] _ q (upd F p (.lst vs)) H [.ref p] e2 ⟨.ref p, [], rfl, ⟨p, vs, rfl, upd_same, DqA.mono e1 _ _ g3⟩, rfl⟩ Q fun rs v F2 H2 hp l => ?_
      obtain ⟨d, rfl, fl, q3⟩ := hp
      obtain ⟨w, w1, w2⟩ := slok_pu.mp l.ok
      cases w1
      obtain ⟨st2, rs2⟩ := (Step.refl ok).leaf (⟨Same.refl _, l.h, ok.le.trans l.h, fun _ h => .inl h, slok_pu.mpr ⟨v, rfl, flat_any fl w2⟩, fun _ e => (by rw [fp_pu] at e; cases e), by rw [fp_pu]; exact List.nodup_nil⟩ : Lf K F H (.pu d) v F H2)
      exact k _ s v F H2 q3 st2 rs2
section
variable {X : Cx} {p pos p2 : Pos} {y : Str} {i : Nat}
theorem d_bor {K : PySem.W.Frag} (hK : X.K = K := by rfl) {x : Str} {id : String} {r : List V → Hp → VK → Prop} {ar : ARC} (hr : RC K r ar) (hc : CallR X (.builtin id) r) (hm : X.mg x = none) (hv : bootBuiltins x = some (.builtin id)) (ha : DE X (.Name y p2) (tVar i) (aVar i)) (hg : Gl X x := by rfl) (hn : x ≠ "__name__" := by decide) (hdb : (x == ("__debug__" : Str)) = false := by decide)
    (he : starEach [.Name y p2] X.env = (false, eval (.Name y p2) X.env) :: starEach [] X.env := by rfl) (hpl : (backTo pos (starEach [] X.env)).any (·.1) = false := by rfl) : DE X (.Call (.Name x p) [.Name y p2] [] pos) (tCB r (tCons (tVar i) tNil)) (aBor ar i) := by
  subst hK
  exact ⟨pe_callB hc hg hm hv (pa_cons ha.pe pa_nil he) hn hdb he hpl, sim_bor hr⟩
end
def aCatL : AR2 := fun d e P => match d, e with
  | .lst xs, .lst ys => xs.length + ys.length ≤ 200000 ∧ ∀ p, P (.ow p (xs ++ ys))
  | _, _ => False
theorem rd_catL {K : PySem.W.Frag} : RD K rCat aCatL := fun d e P q F H x y le dx dy Q k => by
  unfold aCatL at q
  split at q
  · rename_i xs ys
    obtain ⟨a, us, rfl, h1, h2⟩ := dx
    obtain ⟨b, ws, rfl, h3, h4⟩ := dy
    refine ⟨a, b, us, ws, rfl, rfl, le _ _ h1, le _ _ h3, ?_, fun p hp => k _ _ _ _ (q.2 p) (Lf.newL le hp (h2.append h4))⟩
    rw [h2.length, h4.length]
    exact Nat.le_trans q.1 (by decide)
  · exact q.elim
section
variable {X : Cx} {te ta tb : TE} {a aa ab : AE} {ea eb : Expr} {pos : Pos}
theorem d_cat_lst (ha : DE X ea ta aa) (hb : DE X eb tb ab) : DE X (.BinOp ea .Add eb pos) (tOp rCat ta tb) (aOp aCatL aa ab) := d_op op_cat rd_catL ha hb
end
end DL
namespace DL
open PySem L2
theorem kbinds_fun {K : PySem.W.Frag} {x qual : Str} {st : Stmt} {f : Addr} {fd : FuncData} {ps ks : List Str} {n : Nat} {ix : List Nat} (F : Fun K x qual st f fd) (hp : 0 < ps.length)
    (h : ∀ (kV doc pm : Value) (an : Option Addr) (cdv ct : Value) (ws : List Value), ws.length = n → bindArgs (PySem.W.fnOf x qual (defArgs st) (defBody st) (defScope st) .none kV doc pm an cdv ct) ⟨[], ks.zip ws⟩ = pure (ps.zip (ix.filterMap (fun i => ws[i]?)))) : KBinds K fd ps ks (gP n ix) (gP n ix) := by
  obtain ⟨oc, od, kV, doc, pm, an, cdv, ct, osl, rfl, lk, hcd⟩ := F.ex
  exact kbinds_of hp fun s ws _ hl => .of_eq (h kV doc pm an cdv ct ws hl)
end DL
namespace DL
open PySem L2
theorem at2_0 (x y : D) : atI [x, y] 0 = some x := rfl
theorem at2_1 (x y : D) : atI [x, y] 1 = some y := rfl
theorem at3_0 (x y z : D) : atI [x, y, z] 0 = some x := rfl
theorem at3_1 (x y z : D) : atI [x, y, z] 1 = some y := rfl
theorem at3_2 (x y z : D) : atI [x, y, z] 2 = some z := rfl
theorem dec_t {c : Prop} [Decidable c] : (decide c = true) = c := decide_eq_true_eq
def NoOb : D → Prop
  | .ob _ => False
  | .ins _ _ _ => False
  | _ => True
def isIntD : D → Bool
  | .int _ => true
  | _ => false
def withinD (d : D) (lo hi : Int) : Bool := match d with
  | .int i => decide (lo ≤ i) && decide (i ≤ hi)
  | _ => false
/-- the draws of a cell: c of them are done -/
def Pot (c : Nat) (xs : List D) : Prop := ∃ a b k : Int, xs = [.int a, .int b, .int k] ∧ 0 ≤ a ∧ 0 ≤ b ∧ b < 2305843009213693921 ∧ 0 ≤ k ∧ k ≤ c
theorem Pot.mono {c d : Nat} {xs : List D} (h : Pot c xs) (l : c ≤ d) : Pot d xs := by
  obtain ⟨a, b, k, h1, h2, h3, h4, h5, h6⟩ := h
  exact ⟨a, b, k, h1, h2, h3, h4, h5, by omega⟩
theorem atI_in {ds : List D} {i : Int} (h0 : 0 ≤ i) (h1 : i < ds.length) : ∃ d, atI ds i = some d ∧ ds[i.toNat]? = some d ∧ d ∈ ds := by
  have hi : i.toNat < ds.length := by omega
  refine ⟨ds[i.toNat], ?_, List.getElem?_eq_getElem hi, List.getElem_mem hi⟩
  unfold atI ixN
  rw [if_pos h0, if_pos h1]
  exact List.getElem?_eq_getElem hi
theorem at5 (a b c d e : Int) (i : Int) (h0 : 0 ≤ i) (h1 : i < 5) : ∃ p, atI [D.int a, D.int b, D.int c, D.int d, D.int e] i = some (.int p) ∧ (p = a ∨ p = b ∨ p = c ∨ p = d ∨ p = e) := by
  rcases (show i = 0 ∨ i = 1 ∨ i = 2 ∨ i = 3 ∨ i = 4 by omega) with rfl | rfl | rfl | rfl | rfl
  · exact ⟨a, rfl, .inl rfl⟩
  · exact ⟨b, rfl, .inr (.inl rfl)⟩
  · exact ⟨c, rfl, .inr (.inr (.inl rfl))⟩
  · exact ⟨d, rfl, .inr (.inr (.inr (.inl rfl)))⟩
  · exact ⟨e, rfl, .inr (.inr (.inr (.inr rfl)))⟩
theorem cmul_l {i j : Int} (h0 : 0 ≤ i) (h1 : i < 18446744073709551616) : CMul i j := .inl ⟨by omega, by omega⟩
theorem cmul_r {i j : Int} (h0 : 0 ≤ j) (h1 : j < 18446744073709551616) : CMul i j := .inr ⟨by omega, by omega⟩
theorem cdiv {i j : Int} (h0 : 0 < j) (h1 : j < 1073741824) : CDiv i j := ⟨h0, h1⟩
theorem cpow3 {i : Int} (h0 : 0 ≤ i) (h1 : i < 18446744073709551616) : CPow i 3 := ⟨by decide, by decide, by omega⟩
theorem mul_le {a b A B : Int} (a0 : 0 ≤ a) (b0 : 0 ≤ b) (ha : a ≤ A) (hb : b ≤ B) : 0 ≤ a * b ∧ a * b ≤ A * B := ⟨Int.mul_nonneg a0 b0, Int.mul_le_mul ha hb b0 (Int.le_trans a0 ha)⟩
theorem cdivW {i j : Int} (h0 : 0 < j) (h1 : j < 1267650600228229401496703205376) : CDivW i j := by
  refine ⟨h0, ?_⟩
  have hz : j.natAbs ≠ 0 := by omega
  exact (Nat.log2_lt hz).mpr (Nat.lt_of_lt_of_le (show j.natAbs < 2 ^ 100 by omega) (Nat.pow_le_pow_right (by decide) (by decide)))
theorem own_nn (x m : Int) {c : Prop} [Decidable c] (hm : m ≠ 0) : 0 ≤ x % m * (if c then 1 else 0) := Int.mul_nonneg (Int.emod_nonneg _ hm) (by split <;> decide)
theorem cpw : CPowW (10 ^ Int.toNat 60) 5 := by
  unfold CPowW
  decide +kernel
theorem big_pos : (0 : Int) < (10 ^ Int.toNat 60) ^ Int.toNat 5 := by decide +kernel
abbrev tupI (bs : List Int) : D := .tup (bs.map D.int)
abbrev lstI (bs : List Int) : D := .lst (bs.map D.int)
end DL
namespace DL
open PySem L2 StX
def aStar (a : AE) (r : AA) : AA := fun s P => a s fun r1 s1 => match seqD r1.d with
  | some xs => r s1 fun ds s2 => P (xs ++ ds) s2
  | none => False
theorem sim_star {K : PySem.W.Frag} {te : TE} {tr : TA} {a : AE} {ar : AA} (ha : Sim K te a) (hr : SimA K tr ar) : SimA K (tStar K te tr) (aStar a ar) := fun s P q σ F H ok Q k => by
  refine ha.d q ok fun r1 s1 v1 F1 H1 q1 st1 d1 => ?_
  cases e : seqD r1.d with
  | none =>
    rw [e] at q1
    exact q1.elim
  | some xs =>
    rw [e] at q1
    obtain ⟨b, ys, rfl, g1, g2⟩ := seqD_ok e d1
    refine ⟨b, ys, rfl, ?_, ?_⟩
    · rcases g1 with g1 | g1
      · exact .inr (Same.seq st1.st.le g1)
      · exact .inl (Same.sqt st1.st.le g1)
    · refine hr s1 _ q1 σ F1 H1 st1.st _ fun ds s2 vs F2 H2 q2 st2 d2 => ?_
      exact k (xs ++ ds) s2 (ys ++ vs) F2 H2 q2 (st1.trans st2) ((DqA.mono st2.f _ _ g2).append d2)
theorem da_star {X : Cx} {K : PySem.W.Frag} (hK : X.K = K := by rfl) {e : Expr} {es : List Expr} {te : TE} {tr : TA} {a : AE} {ar : AA} {p : Pos} (ha : DE X e te a) (hr : DA X es tr ar) (hs : starEach (.Starred e p :: es) X.env = (true, eval e X.env) :: starEach es X.env := by rfl) : DA X (.Starred e p :: es) (tStar K te tr) (aStar a ar) := by
  subst hK
  exact ⟨pa_star ha.pe hr.pe hs, sim_star ha.sm hr.sm⟩
def aExt (i : Nat) (a : AE) : AS := fun A s => match s[i]? with
  | some (.ow _ _) => a s fun r s1 => match r.d, s1[i]? with
    | .lst ys, some (.ow p xs) => xs.length + ys.length < 100000 ∧ A.nx (s1.set i (.ow p (xs ++ ys)))
    | _, _ => False
  | _ => False
theorem sims_ext {K : PySem.W.Frag} {te : TE} {a : AE} {i : Nat} (h : Sim K te a) : SimS K (tDrop (tBM K "list" rExtend (tVar i) (tCons te tNil))) (aExt i a) := fun A s q σ F H ok E kn kr kb kc => by
  unfold aExt at q
  cases e : s[i]? with
  | none =>
    rw [e] at q
    exact q.elim
  | some l =>
    rw [e] at q
    cases l with
    | no => exact q.elim
    | pu d => exact q.elim
    | nd _ _ _ => exact q.elim
    | ow p0 xs0 =>
      obtain ⟨o, h1, h2⟩ := ok.get e
      obtain ⟨rfl, g1, vs0, g2, g3⟩ := slok_ow.mp h2
      refine ⟨.ref p0, h1, tyV_list g2, ?_⟩
      refine h.d q ok fun r s1 v F1 H1 q1 st1 d1 => ?_
      cases e1 : r.d <;> simp only [e1] at q1
      rename_i ys
      rw [e1] at d1
      obtain ⟨b, us, rfl, u1, u2⟩ := d1
      cases e2 : s1[i]? with
      | none =>
        simp only [e2] at q1
      | some l =>
        simp only [e2] at q1
        cases l with
        | no => exact q1.elim
        | pu d => exact q1.elim
        | nd _ _ _ => exact q1.elim
        | ow p xs =>
          simp only at q1
          obtain ⟨q1, q2⟩ := q1
          obtain ⟨o, z1, z2⟩ := st1.st.get e2
          obtain ⟨z3, y1, vs, y2, y3⟩ := slok_ow.mp z2
          rw [h1] at z1
          cases z1
          cases z3
          refine ⟨_, b, vs, us, rfl, rfl, y2, st1.st.le _ _ u1, ?_, ?_⟩
          · rw [y3.length, u2.length]
            exact Nat.le_of_lt (sz_lt q1)
          · exact kn _ σ F1 _ q2 (st1.chg e2 (y3.append u2))
theorem s_ext {X : Cx} {te : TE} {a : AE} {ea : Expr} {i : Nat} {x : Str} {p2 apos cpos pos : Pos} (he : DE X ea te a) (hv : DE X (.Name x p2) (tVar i) (aVar i)) (hbase : attributeBase (.Name x p2) "extend" X.env (eval (.Name x p2) X.env) = eval (.Name x p2) X.env := by rfl)
    (hfew : ((backTo cpos (starEach (ea :: []) X.env)).all (fun x => !x.1) && (backToKw cpos (keywordEach [] X.env)).all (fun x => x.1.isSome) && decide ((ea :: []).length + ([] : List Keyword).length + (if ([] : List Keyword).isEmpty then 0 else 1) < 30)) = true := by rfl)
    (hline : (apos.endLine == cpos.line) = true := by rfl) (hs : starEach (ea :: []) X.env = (false, eval ea X.env) :: starEach [] X.env := by rfl) (hplain : (backTo cpos (starEach [] X.env)).any (·.1) = false := by rfl)
    (hsw : swapsWith (.Call (.Attribute (.Name x p2) "extend" apos) [ea] [] cpos) none pos.line X.env = pure false := by rfl) : DS X (.Expr (.Call (.Attribute (.Name x p2) "extend" apos) [ea] [] cpos) pos) (tDrop (tBM X.K "list" rExtend (tVar i) (tCons te tNil))) (aExt i a) :=
  ⟨ps_expr (pe_bm PySem.F.plainAttrs_list PySem.F.slot_list_extend PySem.F.type_list_extend mt_extend hv.pe (pa_cons he.pe pa_nil hs) hbase hfew hline hs hplain) hsw, sims_ext he.sm⟩
section
variable {X : Cx} {ta tb : TE} {aa ab : AE} {ea eb : Expr} {pos : Pos}
end
end DL
namespace SrtO
open PySem PySem.Spec PyProof.Rows
section
variable {prog : Program} {w : World} {A : Around} {s : Shared}
/-- the tuple of ints -/
def IsTI (h : Heap) (v : Value) (ns : List Int) : Prop := ∃ a o its n, v = .ref a ∧ h.get? a = some o ∧ o.cls = .type "tuple" ∧ o.data = .seq its n ∧ IntsAre its.toList ns
theorem IsTI.keeps {h h' : Heap} {v : Value} {ns : List Int} (x : IsTI h v ns) (k : ∀ b o, h.get? b = some o → o.cls = .type "tuple" → h'.get? b = some o) : IsTI h' v ns := by
  obtain ⟨a, o, its, n, h1, h2, h3, h4, h5⟩ := x
  exact ⟨a, o, its, n, h1, k a o h2 h3, h3, h4, h5⟩
end
end SrtO
namespace DL
open PySem L2 PyProof.Rows
end DL
namespace DL
open PySem L2
def ixF : List Str → Str → Option Nat
  | [], _ => none
  | n :: ns, f => if f = n then some 0 else (ixF ns f).map (· + 1)
theorem lookup_ix : ∀ {ns : List Str} {vs : List V} {f : Str}, ns.length = vs.length → (ns.zip vs).lookup f = (ixF ns f).bind fun k => vs[k]?
  | [], vs, f, h => rfl
  | n :: ns, [], f, h => by cases h
  | n :: ns, v :: vs, f, h => by
    have ih := lookup_ix (ns := ns) (vs := vs) (f := f) (by simpa using h)
    rw [List.zip_cons_cons, List.lookup_cons]
    unfold ixF
    by_cases e : f = n
    · subst e
      simp
    · rw [if_neg e, show (f == n) = false from beq_eq_false_iff_ne.mpr e, ih]
      cases ixF ns f <;> simp
theorem putF_ix : ∀ {ns : List Str} {vs : List V} {f : Str} {v : V}, ns.length = vs.length → putF f v (ns.zip vs) = match ixF ns f with
    | some k => ns.zip (vs.set k v)
    | none => (ns ++ [f]).zip (vs ++ [v])
  | [], [], f, v, h => rfl
  | [], _ :: _, f, v, h => by cases h
  | n :: ns, [], f, v, h => by cases h
  | n :: ns, w :: vs, f, v, h => by
    have ih := putF_ix (ns := ns) (vs := vs) (f := f) (v := v) (by simpa using h)
    rw [List.zip_cons_cons]
    unfold ixF
    show (if n = f then (n, v) :: ns.zip vs else (n, w) :: putF f v (ns.zip vs)) = _
    by_cases e : f = n
    · subst e
      rw [if_pos rfl, if_pos rfl]
      rfl
    · rw [if_neg e, if_neg fun z => e z.symm, ih]
      cases ixF ns f <;> rfl
theorem ixF_lt : ∀ {ns : List Str} {f : Str} {k : Nat}, ixF ns f = some k → k < ns.length
  | n :: ns, f, k, h => by
    unfold ixF at h
    by_cases e : f = n
    · rw [if_pos e] at h
      cases h
      exact Nat.succ_pos _
    · rw [if_neg e] at h
      cases q : ixF ns f with
      | none =>
        rw [q] at h
        cases h
      | some j =>
        rw [q] at h
        cases h
        exact Nat.succ_lt_succ (ixF_lt q)
/-- the class c is a plain one, and has no attribute f of its own -/
def FldOk (K : PySem.W.Frag) (c f : Str) : Prop := Cls K (clsA K c) ∧ NoAttr K (clsA K c) f
abbrev Pth := List (Str × Str)
/-- the part of a tree at a path of fields -/
def subT : Sl → Pth → Option Sl
  | l, [] => some l
  | .nd _ (.ins c _ ns) ts, (c', f) :: r => if c' = c then (ixF ns f).bind fun k => (ts[k]?).bind fun t => subT t r else none
  | .pu (.ins c ns ds), (c', f) :: r => if c' = c then (ixF ns f).bind fun k => (ds[k]?).bind fun d => subT (.pu d) r else none
  | _, _ :: _ => none
def putT : Sl → Pth → Sl → Sl
  | _, [], t => t
  | .nd p (.ins c dx ns) ts, (_, f) :: r, t => match ixF ns f with
    | some k => match ts[k]? with
      | some u => .nd p (.ins c dx ns) (ts.set k (putT u r t))
      | none => .nd p (.ins c dx ns) ts
    | none => .nd p (.ins c dx ns) ts
  | l, _ :: _, _ => l
def tFlds (K : PySem.W.Frag) (te : TE) : Pth → TE
  | [] => te
  | cf :: r => tFlds K (tFld K te cf.2) r
section
variable {K : PySem.W.Frag} {F H F2 H2 : Hp}
theorem SlOkA.len : ∀ {ts : List Sl} {vs : List V}, SlOkA K F H ts vs → vs.length = ts.length
  | [], vs, h => by
    rw [SlOkA] at h
    subst h
    rfl
  | t :: ts, vs, h => by
    rw [SlOkA] at h
    obtain ⟨x, r, rfl, h2, h3⟩ := h
    rw [List.length_cons, List.length_cons, h3.len]
theorem SlOkA.get : ∀ {ts : List Sl} {vs : List V} {k : Nat} {t : Sl}, SlOkA K F H ts vs → ts[k]? = some t → ∃ x, vs[k]? = some x ∧ SlOk K F H t (some x)
  | [], vs, k, t, h, e => by simp at e
  | t0 :: ts, vs, 0, t, h, e => by
    rw [SlOkA] at h
    obtain ⟨x, r, rfl, h2, h3⟩ := h
    cases e
    exact ⟨x, rfl, h2⟩
  | t0 :: ts, vs, k + 1, t, h, e => by
    rw [SlOkA] at h
    obtain ⟨x, r, rfl, h2, h3⟩ := h
    obtain ⟨y, e1, e2⟩ := h3.get (k := k) (by simpa using e)
    exact ⟨y, by simpa using e1, e2⟩
theorem mem_fpA : ∀ {ts : List Sl} {k : Nat} {t : Sl} {b : Addr}, ts[k]? = some t → b ∈ fp t → b ∈ fpA ts
  | [], k, t, b, e, h => by simp at e
  | t0 :: ts, 0, t, b, e, h => by
    cases e
    rw [fpA]
    exact List.mem_append_left _ h
  | t0 :: ts, k + 1, t, b, e, h => by
    rw [fpA]
    exact List.mem_append_right _ (mem_fpA (k := k) (by simpa using e) h)
theorem nd_child : ∀ {ts : List Sl} {k : Nat} {t : Sl}, (fpA ts).Nodup → ts[k]? = some t → (fp t).Nodup
  | [], k, t, h, e => by simp at e
  | t0 :: ts, 0, t, h, e => by
    cases e
    rw [fpA] at h
    exact (List.nodup_append.mp h).1
  | t0 :: ts, k + 1, t, h, e => by
    rw [fpA] at h
    exact nd_child (k := k) (List.nodup_append.mp h).2.1 (by simpa using e)
theorem fpA_set : ∀ {ts : List Sl} {k : Nat} {t t' : Sl}, (fpA ts).Nodup → ts[k]? = some t → (fp t').Nodup → (∀ b, b ∈ fp t' → b ∈ fp t ∨ b ∉ fpA ts) → (fpA (ts.set k t')).Nodup ∧ ∀ b, b ∈ fpA (ts.set k t') → b ∈ fp t' ∨ (b ∈ fpA ts ∧ b ∉ fp t)
  | [], k, t, t', h, e, hn, hf => by simp at e
  | t0 :: ts, 0, t, t', h, e, hn, hf => by
    cases e
    rw [fpA] at h
    rw [List.set_cons_zero, fpA]
    obtain ⟨h1, h2, h3⟩ := List.nodup_append.mp h
    refine ⟨List.nodup_append.mpr ⟨hn, h2, fun a ha b hb z => ?_⟩, fun b hb => ?_⟩
    · subst z
      rcases hf a ha with y | y
      · exact h3 a y a hb rfl
      · rw [fpA] at y
        exact y (List.mem_append_right _ hb)
    · rw [fpA]
      rcases List.mem_append.mp hb with y | y
      · exact .inl y
      · exact .inr ⟨List.mem_append_right _ y, fun z => h3 b z b y rfl⟩
  | t0 :: ts, k + 1, t, t', h, e, hn, hf => by
    rw [fpA] at h
    rw [List.set_cons_succ, fpA]
    obtain ⟨h1, h2, h3⟩ := List.nodup_append.mp h
    have e' : ts[k]? = some t := by simpa using e
    obtain ⟨g1, g2⟩ := fpA_set h2 e' hn fun b hb => by
      rcases hf b hb with y | y
      · exact .inl y
      · rw [fpA] at y
        exact .inr fun z => y (List.mem_append_right _ z)
    refine ⟨List.nodup_append.mpr ⟨h1, g1, fun a ha b hb z => ?_⟩, fun b hb => ?_⟩
    · subst z
      rcases g2 a hb with y | ⟨y, _⟩
      · rcases hf a y with w | w
        · exact h3 a ha a (mem_fpA e' w) rfl
        · rw [fpA] at w
          exact w (List.mem_append_left _ ha)
      · exact h3 a ha a y rfl
    · rw [fpA]
      rcases List.mem_append.mp hb with y | y
      · exact .inr ⟨List.mem_append_left _ y, fun z => h3 b y b (mem_fpA e' z) rfl⟩
      · rcases g2 b y with w | ⟨w, w2⟩
        · exact .inl w
        · exact .inr ⟨List.mem_append_right _ w, w2⟩
theorem SlOkA.setG : ∀ {ts : List Sl} {vs : List V} {k : Nat} {t t' : Sl} {x : V}, SlOkA K F H ts vs → (fpA ts).Nodup → ts[k]? = some t → SlOk K F2 H2 t' (some x) → Same F F2 →
    (∀ b, b ∉ fp t → ∀ u, F b = none → H b = some u → F2 b = none ∧ H2 b = some u) → SlOkA K F2 H2 (ts.set k t') (vs.set k x)
  | [], vs, k, t, t', x, h, hn, e, h2, f, hk => by simp at e
  | t0 :: ts, vs, 0, t, t', x, h, hn, e, h2, f, hk => by
    cases e
    rw [SlOkA] at h
    obtain ⟨y, r, rfl, g2, g3⟩ := h
    rw [fpA] at hn
    obtain ⟨n1, n2, n3⟩ := List.nodup_append.mp hn
    rw [List.set_cons_zero, List.set_cons_zero, SlOkA]
    exact ⟨x, r, rfl, h2, SlOkA.mono ts f (fun b hb u => hk b (fun z => n3 b z b hb rfl) u) g3⟩
  | t0 :: ts, vs, k + 1, t, t', x, h, hn, e, h2, f, hk => by
    rw [SlOkA] at h
    obtain ⟨y, r, rfl, g2, g3⟩ := h
    rw [fpA] at hn
    obtain ⟨n1, n2, n3⟩ := List.nodup_append.mp hn
    have e' : ts[k]? = some t := by simpa using e
    rw [List.set_cons_succ, List.set_cons_succ, SlOkA]
    exact ⟨y, _, rfl, SlOk.mono t0 f (fun b hb u => hk b (fun z => n3 b hb b (mem_fpA e' z) rfl) u) g2, g3.setG n2 e' h2 f hk⟩
theorem set_self {α : Type} : ∀ {l : List α} {k : Nat} {x : α}, l[k]? = some x → l.set k x = l
  | [], k, x, h => rfl
  | y :: l, 0, x, h => by
    cases h
    rfl
  | y :: l, k + 1, x, h => by
    rw [List.set_cons_succ, set_self (by simpa using h)]
/-- what holds of the part of a tree at a path: its value, how it is read, how it is changed -/
theorem focus : ∀ (path : Pth) (l : Sl) (v : V) (t : Sl), SlOk K F H l (some v) → Same F H → (fp l).Nodup → subT l path = some t → (∀ cf, cf ∈ path → FldOk K cf.1 cf.2) →
    (∀ b, b ∈ fp t → b ∈ fp l) ∧ ∃ x, SlOk K F H t (some x) ∧ (fp t).Nodup ∧ (∀ (te : TE) (σ : L2.St) (Q : VK), (∀ R : VK, R v H → te σ H R) → Q x H → tFlds K te path σ H Q) ∧
    ∀ (t' : Sl) (F2 H2 : Hp), SlOk K F2 H2 t' (some x) → (fp t').Nodup → Same F F2 → (∀ b, b ∉ fp t → ∀ u, F b = none → H b = some u → F2 b = none ∧ H2 b = some u) → (∀ b, b ∈ fp t' → b ∈ fp t ∨ b ∉ fp l) →
      SlOk K F2 H2 (putT l path t') (some v) ∧ (fp (putT l path t')).Nodup ∧ ∀ b, b ∈ fp (putT l path t') → b ∈ fp t' ∨ (b ∈ fp l ∧ b ∉ fp t) := by
  intro path
  induction path with
  | nil =>
    intro l v t ok le hn e hc
    unfold subT at e
    cases e
    refine ⟨fun b h => h, v, ok, hn, fun te σ Q h q => h Q q, fun t' F2 H2 h1 h2 h3 h4 h5 => ?_⟩
    unfold putT
    exact ⟨h1, h2, fun b hb => .inl hb⟩
  | cons cf r ih =>
    intro l v t ok le hn e hc
    obtain ⟨c', f⟩ := cf
    obtain ⟨hcl, hna⟩ := hc (c', f) List.mem_cons_self
    have hc2 : ∀ cf, cf ∈ r → FldOk K cf.1 cf.2 := fun cf h => hc cf (List.mem_cons_of_mem _ h)
    cases l with
    | no => simp [subT] at e
    | ow p xs => simp [subT] at e
    | pu d =>
      cases d <;> first | (simp [subT] at e; done) | skip
      rename_i c ns ds
      unfold subT at e
      by_cases ec : c' = c
      · subst ec
        rw [if_pos rfl] at e
        cases e1 : ixF ns f with
        | none =>
          rw [e1] at e
          cases e
        | some k =>
          rw [e1, Option.bind_some] at e
          cases e2 : ds[k]? with
          | none =>
            rw [e2] at e
            cases e
          | some d1 =>
            rw [e2, Option.bind_some] at e
            obtain ⟨w, ew, a, dx, xs, rfl, g1, g2, g3⟩ := slok_pu.mp ok
            cases ew
            obtain ⟨x1, e3, e4⟩ := g3.get e2
            obtain ⟨j1, x, j2, j3, j4, j5⟩ := ih (.pu d1) x1 t (slok_pu.mpr ⟨x1, rfl, e4⟩) le (by rw [fp_pu]; exact List.nodup_nil) e hc2
            have tn : ∀ b, b ∉ fp t := fun b hb => by
              have := j1 b hb
              rw [fp_pu] at this
              cases this
            refine ⟨fun b hb => absurd hb (tn b), x, j2, j3, fun te σ Q h q => ?_, fun t' F2 H2 h1 h2 h3 h4 h5 => ?_⟩
            · refine j4 (tFld K te f) σ Q (fun R hr => ?_) q
              refine h _ ⟨a, _, dx, _, x1, rfl, le _ _ g1, hcl, hna, ?_, hr⟩
              rw [lookup_ix (by rw [g2, g3.length]), e1]
              exact e3
            · unfold putT
              refine ⟨SlOk.mono _ h3 (fun b hb => ?_) ok, by rw [fp_pu]; exact List.nodup_nil, fun b hb => ?_⟩
              · rw [fp_pu] at hb
                cases hb
              · rw [fp_pu] at hb
                cases hb
      · rw [if_neg ec] at e
        cases e
    | nd p k ts =>
      cases k <;> first | (simp [subT] at e; done) | skip
      rename_i c dx ns
      unfold subT at e
      by_cases ec : c' = c
      · subst ec
        rw [if_pos rfl] at e
        cases e1 : ixF ns f with
        | none =>
          rw [e1] at e
          cases e
        | some k =>
          rw [e1, Option.bind_some] at e
          cases e2 : ts[k]? with
          | none =>
            rw [e2] at e
            cases e
          | some t1 =>
            rw [e2, Option.bind_some] at e
            obtain ⟨ev, hp, hdx, hdo, hlen, vs, hcell, hts⟩ := slok_nd.mp ok
            cases ev
            rw [fp_nd] at hn
            obtain ⟨n1, n2⟩ := List.nodup_cons.mp hn
            obtain ⟨n3, n4, n5⟩ := List.nodup_append.mp n2
            obtain ⟨x1, e3, e4⟩ := hts.get e2
            have hl2 : ns.length = vs.length := by
              rw [hts.len]
              exact hlen
            obtain ⟨j1, x, j2, j3, j4, j5⟩ := ih t1 x1 t e4 le (nd_child n4 e2) e hc2
            have up : ∀ b, b ∈ fp t → b ∈ fpA ts := fun b hb => mem_fpA e2 (j1 b hb)
            refine ⟨fun b hb => ?_, x, j2, j3, fun te σ Q h q => ?_, fun t' F2 H2 h1 h2 h3 h4 h5 => ?_⟩
            · rw [fp_nd]
              exact List.mem_cons_of_mem _ (List.mem_append_right _ (up b hb))
            · refine j4 (tFld K te f) σ Q (fun R hr => ?_) q
              refine h _ ⟨p, _, dx, _, x1, rfl, hcell, hcl, hna, ?_, hr⟩
              rw [lookup_ix hl2, e1]
              exact e3
            · have h5' : ∀ b, b ∈ fp t' → b ∈ fp t ∨ b ∉ fpA ts := fun b hb => by
                rcases h5 b hb with y | y
                · exact .inl y
                · refine .inr fun z => y ?_
                  rw [fp_nd]
                  exact List.mem_cons_of_mem _ (List.mem_append_right _ z)
              obtain ⟨i1, i2, i3⟩ := j5 t' F2 H2 h1 h2 h3 h4 fun b hb => by
                rcases h5' b hb with y | y
                · exact .inl y
                · exact .inr fun z => y (mem_fpA e2 z)
              have hput : putT (.nd p (.ins c' dx ns) ts) ((c', f) :: r) t' = .nd p (.ins c' dx ns) (ts.set k (putT t1 r t')) := by
                simp only [putT, e1, e2]
              rw [hput]
              obtain ⟨m1, m2⟩ := fpA_set n4 e2 i2 fun b hb => by
                rcases i3 b hb with y | ⟨y, _⟩
                · rcases h5' b y with w | w
                  · exact .inl (j1 b w)
                  · exact .inr w
                · exact .inl y
              have mm : ∀ b, b ∈ fpA (ts.set k (putT t1 r t')) → b ∈ fp t' ∨ (b ∈ fpA ts ∧ b ∉ fp t) := fun b hb => by
                rcases m2 b hb with y | ⟨y, y2⟩
                · rcases i3 b y with w | ⟨w, w2⟩
                  · exact .inl w
                  · exact .inr ⟨mem_fpA e2 w, w2⟩
                · exact .inr ⟨y, fun z => y2 (j1 b z)⟩
              have out : ∀ b, b ∈ fp t' → b ∈ fpA ts ∨ b ∉ fp (.nd p (.ins c' dx ns) ts) := fun b hb => by
                rcases h5 b hb with y | y
                · exact .inl (up b y)
                · exact .inr y
              have pn : p ∉ fp t := fun z => n1 (List.mem_append_right _ (up p z))
              have dn : ∀ b, b ∈ NK.dxs (.ins c' dx ns) → b ∉ fp t := fun b hb z => n5 b hb b (up b z) rfl
              have k1 := h4 p pn _ hp hcell
              refine ⟨slok_nd.mpr ⟨rfl, k1.1, fun b hb => ?_, ?_, ?_, vs, k1.2, ?_⟩, ?_, fun b hb => ?_⟩
              · cases List.mem_singleton.mp hb
                exact (h4 _ (dn _ hb) _ (hdx _ hb) hdo).1
              · exact (h4 dx (dn dx (List.mem_singleton.mpr rfl)) _ (hdx dx (List.mem_singleton.mpr rfl)) hdo).2
              · rw [List.length_set]
                exact hlen
              · have := hts.setG n4 e2 i1 h3 (fun b hb u f1 f2 => h4 b (fun z => hb (j1 b z)) u f1 f2)
                rw [set_self e3] at this
                exact this
              · have inl : ∀ b, (b = p ∨ b ∈ NK.dxs (.ins c' dx ns)) → b ∉ fpA (ts.set k (putT t1 r t')) := fun b hb z => by
                  have nb : b ∉ fpA ts := fun y => by
                    rcases hb with w | w
                    · subst w
                      exact n1 (List.mem_append_right _ y)
                    · exact n5 b w b y rfl
                  rcases mm b z with y | ⟨y, _⟩
                  · rcases out b y with w | w
                    · exact nb w
                    · refine w ?_
                      rw [fp_nd]
                      rcases hb with q | q
                      · exact List.mem_cons.mpr (.inl q)
                      · exact List.mem_cons_of_mem _ (List.mem_append_left _ q)
                  · exact nb y
                rw [fp_nd]
                refine List.nodup_cons.mpr ⟨fun z => ?_, List.nodup_append.mpr ⟨n3, m1, fun a ha b hb z => ?_⟩⟩
                · rcases List.mem_append.mp z with y | y
                  · exact n1 (List.mem_append_left _ y)
                  · exact inl p (.inl rfl) y
                · subst z
                  exact inl a (.inr ha) hb
              · rw [fp_nd] at hb ⊢
                rcases List.mem_cons.mp hb with y | y
                · subst y
                  exact .inr ⟨List.mem_cons_self, pn⟩
                · rcases List.mem_append.mp y with w | w
                  · exact .inr ⟨List.mem_cons_of_mem _ (List.mem_append_left _ w), dn b w⟩
                  · rcases mm b w with q | ⟨q, q2⟩
                    · exact .inl q
                    · exact .inr ⟨List.mem_cons_of_mem _ (List.mem_append_right _ q), q2⟩
      · rw [if_neg ec] at e
        cases e
end
end DL
namespace DL
open PySem L2
/-- a change of a tree; ex: what it takes in -/
structure Lx (K : PySem.W.Frag) (ex : List Addr) (l : Sl) (v0 : V) (F H : Hp) (r : Sl) (v : V) (l' : Sl) (F' H' : Hp) : Prop where
  f : Same F F'
  h : ∀ a o, a ∉ fp l → H a = some o → H' a = some o
  t : ∀ a, H' a = none → H a = none
  m : SlOk K F' H' l' (some v0)
  mn : (fp l').Nodup
  mf : ∀ a, a ∈ fp l' → a ∈ fp l ∨ H a = none ∨ a ∈ ex
  le : Same F' H'
  n : ∀ a, F' a ≠ none → F a ≠ none ∨ H a = none ∨ a ∈ fp l
  ok : SlOk K F' H' r (some v)
  fr : ∀ a, a ∈ fp r → (a ∈ fp l ∨ H a = none) ∧ a ∉ fp l'
  nd : (fp r).Nodup
theorem Lt.x {K : PySem.W.Frag} {l l' r : Sl} {v0 v : V} {F H F' H' : Hp} (x : Lt K l v0 F H r v l' F' H') : Lx K [] l v0 F H r v l' F' H' :=
  ⟨x.f, x.h, x.t, x.m, x.mn, fun a h => (x.mf a h).elim .inl fun z => .inr (.inl z), x.le, x.n, x.ok, x.fr, x.nd⟩
def FOk (K : PySem.W.Frag) (path : Pth) : Prop := ∀ cf, cf ∈ path → FldOk K cf.1 cf.2
theorem fok_nil {K : PySem.W.Frag} : FOk K [] := fun cf h => by cases h
theorem fok_cons {K : PySem.W.Frag} {c f : Str} {r : Pth} (h : FldOk K c f) (hr : FOk K r) : FOk K ((c, f) :: r) := fun cf hm => by
  rcases List.mem_cons.mp hm with z | z
  · rw [z]
    exact h
  · exact hr cf z
section
variable {K : PySem.W.Frag} {s s1 : Ss} {σ : L2.St} {F H F1 H1 F2 H2 : Hp} {i : Nat} {l l' rs t : Sl} {v0 v : V} {ex : List Addr} {path : Pth}
def ExOk (s : Ss) (H : Hp) (s1 : Ss) (H1 : Hp) (ex : List Addr) : Prop := ∀ a, a ∈ ex → (H a = none ∨ Own s a) ∧ ¬ Own s1 a ∧ ∃ u, H1 a = some u
theorem exok_nil : ExOk s H s1 H1 [] := fun a h => by cases h
theorem Lx.unf (x : Lx K ex l v0 F1 H1 rs v l' F2 H2) {b : Addr} {u : HO} (hb : b ∉ fp l) (h1 : F1 b = none) (h2 : H1 b = some u) : F2 b = none ∧ H2 b = some u := by
  refine ⟨?_, x.h b u hb h2⟩
  cases z : F2 b with
  | none => rfl
  | some o =>
    rcases x.n b (by rw [z]; intro y; cases y) with y | y | y
    · exact absurd h1 y
    · rw [h2] at y
      cases y
    · exact absurd y hb
/-- behind a change of a slot's tree -/
theorem Step.calledX (st : Step K s F H s1 F1 H1 σ) (e : s1[i]? = some l) (hv : σ[i]? = some (some v0)) (hex : ExOk s H s1 H1 ex) (x : Lx K ex l v0 F1 H1 rs v l' F2 H2) :
    Step K s F H (s1.set i l') F2 H2 σ ∧ Rs K s H F2 H2 (s1.set i l') rs v := by
  have keep : ∀ (j : Nat) (l2 : Sl) (q : Addr), j ≠ i → s1[j]? = some l2 → q ∈ fp l2 → q ∉ fp l := fun j l2 q h1 h2 h3 h4 => h1 (st.st.un j i l2 l q h2 e h3 h4)
  have far : ∀ (j : Nat) (l2 : Sl) (q : Addr), j ≠ i → s1[j]? = some l2 → q ∈ fp l2 → q ∉ fp l' := fun j l2 q h1 h2 h3 h4 => by
    rcases x.mf q h4 with y | y | y
    · exact keep j l2 q h1 h2 h3 y
    · obtain ⟨_, u, hu⟩ := st.st.own ⟨j, l2, h2, h3⟩
      rw [y] at hu
      cases hu
    · exact (hex q y).2.1 ⟨j, l2, h2, h3⟩
  refine ⟨⟨⟨x.le, by rw [List.length_set, st.st.len], fun j l2 o w1 w2 => ?_, fun j m l2 l3 q w1 w2 p1 p2 => ?_, fun j l2 w1 => ?_⟩, st.f.trans x.f, fun b o w1 w2 => ?_, fun b w => st.t b (x.t b w), fun b w1 => ?_, fun b w1 => ?_⟩, ⟨x.ok, fun a ha => ?_, x.nd⟩⟩
  · rcases set_get w1 with ⟨rfl, rfl, hl⟩ | ⟨e3, h5⟩
    · rw [hv] at w2
      cases w2
      exact x.m
    · exact SlOk.mono l2 x.f (fun q hq u z1 z2 => x.unf (keep j l2 q (fun z => e3 z.symm) h5 hq) z1 z2) (st.st.ok j l2 o h5 w2)
  · rcases set_get w1 with ⟨rfl, rfl, hl⟩ | ⟨e3, h5⟩
    · rcases set_get w2 with ⟨rfl, rfl, hl⟩ | ⟨e4, h6⟩
      · rfl
      · exact absurd p1 (far m l3 q (fun z => e4 z.symm) h6 p2)
    · rcases set_get w2 with ⟨rfl, rfl, hl⟩ | ⟨e4, h6⟩
      · exact absurd p2 (far j l2 q (fun z => e3 z.symm) h5 p1)
      · exact st.st.un j m l2 l3 q h5 h6 p1 p2
  · rcases set_get w1 with ⟨rfl, rfl, hl⟩ | ⟨e3, h5⟩
    · exact x.mn
    · exact st.st.nd j l2 h5
  · refine x.h b o (fun z => ?_) (st.k b o w1 w2)
    rcases st.o b ⟨i, l, e, z⟩ with y | y
    · exact w2 y
    · rw [w1] at y
      cases y
  · rcases x.n b w1 with y | y | y
    · exact st.n b y
    · exact .inr (.inl (st.t b y))
    · rcases st.o b ⟨i, l, e, y⟩ with z | z
      · exact .inr (.inr z)
      · exact .inr (.inl z)
  · rcases own_set w1 with y | y
    · exact st.o b y
    · rcases x.mf b y with z | z | z
      · exact st.o b ⟨i, l, e, z⟩
      · exact .inr (st.t b z)
      · exact (hex b z).1.symm
  · obtain ⟨h1, h2⟩ := x.fr a ha
    refine ⟨?_, fun w => ?_⟩
    · rcases h1 with y | y
      · exact (st.o a ⟨i, l, e, y⟩).symm
      · exact .inl (st.t a y)
    · obtain ⟨j, l2, w1, w2⟩ := w
      rcases set_get w1 with ⟨rfl, rfl, hl⟩ | ⟨e3, h5⟩
      · exact h2 w2
      · rcases h1 with y | y
        · exact keep j l2 a (fun z => e3 z.symm) h5 w2 y
        · obtain ⟨_, u, hu⟩ := st.st.own ⟨j, l2, h5, w2⟩
          rw [y] at hu
          cases hu
def isNo : Sl → Bool
  | .no => true
  | _ => false
/-- a place: its value, how it is read, what a change of its tree comes to -/
theorem Step.place (st : Step K s F H s1 F1 H1 σ) (e : s1[i]? = some l) (e2 : subT l path = some t) (hno : isNo t = false) (hc : FOk K path) :
    ∃ x, SlOk K F1 H1 t (some x) ∧ (fp t).Nodup ∧ (∀ b, b ∈ fp t → Own s1 b) ∧ (∀ Q : VK, Q x H1 → tFlds K (tVar i) path σ H1 Q) ∧
    ∀ (ex : List Addr), ExOk s H s1 H1 ex → ∀ (r t' : Sl) (w : V) (F2 H2 : Hp), Lx K ex t x F1 H1 r w t' F2 H2 → Step K s F H (s1.set i (putT l path t')) F2 H2 σ ∧ Rs K s H F2 H2 (s1.set i (putT l path t')) r w := by
  obtain ⟨o, h1, h2⟩ := st.st.get e
  have hv : ∃ v, o = some v := by
    cases l with
    | no =>
      cases path with
      | nil =>
        unfold subT at e2
        cases e2
        cases hno
      | cons cf r => simp [subT] at e2
    | pu d =>
      obtain ⟨v, h3, _⟩ := slok_pu.mp h2
      exact ⟨v, h3⟩
    | ow p xs => exact ⟨_, (slok_ow.mp h2).1⟩
    | nd p k ts => exact ⟨_, (slok_nd.mp h2).1⟩
  obtain ⟨v, rfl⟩ := hv
  obtain ⟨j1, x, j2, j3, j4, j5⟩ := focus path l v t h2 st.st.le (st.st.nd i l e) e2 hc
  refine ⟨x, j2, j3, fun b hb => ⟨i, l, e, j1 b hb⟩, fun Q q => j4 (tVar i) σ Q (fun R hr => ⟨v, h1, hr⟩) q, fun ex hex r t' w F2 H2 y => ?_⟩
  have stands : ∀ b, b ∈ fp l → ∃ u, H1 b = some u := fun b hb => (st.st.own ⟨i, l, e, hb⟩).2
  obtain ⟨m1, m2, m3⟩ := j5 t' F2 H2 y.m y.mn y.f (fun b hb u z1 z2 => y.unf hb z1 z2) fun b hb => by
    rcases y.mf b hb with z | z | z
    · exact .inl z
    · refine .inr fun w => ?_
      obtain ⟨u, hu⟩ := stands b w
      rw [z] at hu
      cases hu
    · exact .inr fun w => (hex b z).2.1 ⟨i, l, e, w⟩
  refine st.calledX e h1 hex ⟨y.f, fun a o ha q => y.h a o (fun z => ha (j1 a z)) q, y.t, m1, m2, fun a ha => ?_, y.le, fun a ha => ?_, y.ok, fun a ha => ?_, y.nd⟩
  · rcases m3 a ha with z | ⟨z, _⟩
    · rcases y.mf a z with q | q | q
      · exact .inl (j1 a q)
      · exact .inr (.inl q)
      · exact .inr (.inr q)
    · exact .inl z
  · rcases y.n a ha with z | z | z
    · exact .inl z
    · exact .inr (.inl z)
    · exact .inr (.inr (j1 a z))
  · obtain ⟨g1, g2⟩ := y.fr a ha
    refine ⟨g1.elim (fun z => .inl (j1 a z)) .inr, fun z => ?_⟩
    rcases m3 a z with q | ⟨q, q2⟩
    · exact g2 q
    · rcases g1 with w | w
      · exact q2 w
      · obtain ⟨u, hu⟩ := stands a q
        rw [w] at hu
        cases hu
/-- frozen in its place -/
theorem Lx.frz {x : V} (ok : SlOk K F H t (some x)) (le : Same F H) : Lx K [] t x F H (.pu t.d) x (.pu t.d) (frzF F H (fp t)) H := by
  have e1 : Same F (frzF F H (fp t)) := same_frz fun p hp => (SlOk.own t ok hp).1
  have dv : Dq K (frzF F H (fp t)) t.d x := SlOk.frz t e1 (fun p hp u h => by rw [frzF_in hp]; exact h) ok
  refine ⟨e1, fun _ _ _ h => h, fun _ h => h, slok_pu.mpr ⟨x, rfl, dv⟩, by rw [fp_pu]; exact List.nodup_nil, fun a ha => ?_, frz_same le, fun a ha => ?_, slok_pu.mpr ⟨x, rfl, dv⟩, fun a ha => ?_, by rw [fp_pu]; exact List.nodup_nil⟩
  · rw [fp_pu] at ha
    cases ha
  · by_cases hb : a ∈ fp t
    · exact .inr (.inr hb)
    · rw [frzF_out hb] at ha
      exact .inl ha
  · rw [fp_pu] at ha
    cases ha
/-- x.f.g, read -/
def aGet (i : Nat) (path : Pth) : AE := fun s P => match s[i]? with
  | some l => match subT l path with
    | some (.pu d) => P (.pu d) s
    | some (.ow _ xs) => P (.pu (.lst xs)) (s.set i (putT l path (.pu (.lst xs))))
    | some (.nd _ k ts) => P (.pu (k.d (dsA ts))) (s.set i (putT l path (.pu (k.d (dsA ts)))))
    | _ => False
  | none => False
theorem sim_get (hc : FOk K path) : Sim K (tFlds K (tVar i) path) (aGet i path) := fun s P q σ F H ok Q k => by
  unfold aGet at q
  cases e : s[i]? with
  | none =>
    rw [e] at q
    exact q.elim
  | some l =>
    rw [e] at q
    cases e2 : subT l path with
    | none =>
      simp only [e2] at q
    | some t =>
      simp only [e2] at q
      have go : isNo t = false → (P (.pu t.d) (s.set i (putT l path (.pu t.d)))) → tFlds K (tVar i) path σ H Q := fun hn q => by
        obtain ⟨x, j1, j2, j3, j4, j5⟩ := (Step.refl ok).place e e2 hn hc
        obtain ⟨st, rs⟩ := j5 [] exok_nil _ _ _ _ _ (Lx.frz j1 ok.le)
        exact j4 Q (k _ _ x _ H q st rs)
      cases t with
      | no => exact q.elim
      | pu d =>
        obtain ⟨x, j1, j2, j3, j4, j5⟩ := (Step.refl ok).place e e2 rfl hc
        obtain ⟨w, ew, h3⟩ := slok_pu.mp j1
        cases ew
        exact j4 Q (k (.pu d) s x F H q (.refl ok) (.pu h3))
      | ow p xs => exact go rfl (by unfold Sl.d; exact q)
      | nd p kk ts => exact go rfl (by rw [Sl.d]; exact q)
end
end DL
namespace DL
open PySem L2
section
variable {P : Program} {w : World} {K : PySem.W.Frag} {mg : Str → Option Value} {base : Heap} {CX : CXT}
theorem gn_of {k : Nat} {f : Addr} {fd : FuncData} {ps : List Str} {sp : Sp} (F : FnOk P w K mg base CX k f fd ps sp) : GnOk P w K mg base CX k f fd ps sp :=
  ⟨F.len, fun A fr s H given ws xs Q E _ hr e b r q => F.run A fr s H given ws xs Q E hr e b r q⟩
theorem fnDF {x qual : Str} {st : Stmt} {f : Addr} {fd : FuncData} {N ps : List Str} {k n : Nat} {S : ARC} {as : AS} (Fn : Fun K x qual st f fd) (Sc : FnScope N ps (defScope st)) (hn : ps.length = n)
    (hS : ∀ ds Q, ds.length = n → S ds Q → as (endsD Q) (startS N.length (ds.map .pu)))
    (hbody : ∀ (cdv : Value) (A : Around) (outer : List Env) (s : Shared) (H : Hp) (E : XK), Room k (A.deeper (PyProof.Rows.envOfC qual (defScope st) s.heap.objs.size f cdv)) → ∃ ts, DSs (cxOf CX0 P w K mg base N qual (defScope st) f cdv A outer s H E).nox (defBody st) ts as) :
    FnOk P w K mg base CX0 (k + 1) f fd ps (spD K n S) := by
  refine Fn.ok Sc (fun vs H Q E h => by rw [spD_len h, hn]) (fun cdv A outer s H vs Q E hr h => ?_)
  obtain ⟨ts, h1⟩ := hbody cdv A outer s H E hr
  exact ⟨ts, h1.pe, endD (F := H) h1.sm hS h⟩
theorem fnMF {x qual : Str} {st : Stmt} {f : Addr} {fd : FuncData} {N ps : List Str} {k n : Nat} {S : ARM} {as : AS} (Fn : Fun K x qual st f fd) (Sc : FnScope N ps (defScope st)) (hn : ps.length = n)
    (hS : ∀ xs ds Q p, ds.length + 1 = n → S xs ds Q → as (endsM Q p) (startS N.length (.ow p xs :: ds.map .pu)))
    (hbody : ∀ (cdv : Value) (A : Around) (outer : List Env) (s : Shared) (H : Hp) (E : XK), Room k (A.deeper (PyProof.Rows.envOfC qual (defScope st) s.heap.objs.size f cdv)) → ∃ ts, DSs (cxOf CX0 P w K mg base N qual (defScope st) f cdv A outer s H E).nox (defBody st) ts as) :
    FnOk P w K mg base CX0 (k + 1) f fd ps (spM K n S) := by
  refine Fn.ok Sc (fun vs H Q E h => by rw [spT_len h, hn]) (fun cdv A outer s H vs Q E hr h => ?_)
  obtain ⟨ts, h1⟩ := hbody cdv A outer s H E hr
  exact ⟨ts, h1.pe, endM h1.sm hS h⟩
theorem fnTF {x qual : Str} {st : Stmt} {f : Addr} {fd : FuncData} {N ps : List Str} {k n : Nat} {S : ART} {as : AS} (Fn : Fun K x qual st f fd) (Sc : FnScope N ps (defScope st)) (hn : ps.length = n) (hrt : ∀ l ds Q, S l ds Q → (root l).isSome = true)
    (hS : ∀ l ds Q p, ds.length + 1 = n → root l = some p → S l ds Q → as (endsT Q p) (startS N.length (l :: ds.map .pu)))
    (hbody : ∀ (cdv : Value) (A : Around) (outer : List Env) (s : Shared) (H : Hp) (E : XK), Room k (A.deeper (PyProof.Rows.envOfC qual (defScope st) s.heap.objs.size f cdv)) → ∃ ts, DSs (cxOf CX0 P w K mg base N qual (defScope st) f cdv A outer s H E).nox (defBody st) ts as) :
    FnOk P w K mg base CX0 (k + 1) f fd ps (spT K n S) := by
  refine Fn.ok Sc (fun vs H Q E h => by rw [spT_len h, hn]) (fun cdv A outer s H vs Q E hr h => ?_)
  obtain ⟨ts, h1⟩ := hbody cdv A outer s H E hr
  exact ⟨ts, h1.pe, endT h1.sm hS hrt h⟩
end
section
variable {X : Cx} {K : PySem.W.Frag} {x : Str} {p pos : Pos} {e ea : Expr} {es : List Expr} {te ta : TE} {aa : AE} {tr : TA} {aar : AA} {k n : Nat} {f : Addr} {fd : FuncData} {ps : List Str} {S : ARC} {SM : ARM} {ST : ART}
theorem d_callF (hK : X.K = K := by rfl) (F : FnOk X.prog X.w K X.mg X.base CX0 k f fd ps (spD K n S)) (hr : Room k X.A) (hm : X.mg x = some (.ref f)) (hk : PySem.W.keepIn K (.ref f) = true) (hb : Binds K fd ps [])
    (ha : DA X (e :: es) tr aar) (hg : Gl X x := by rfl) (hdb : (x == ("__debug__" : Str)) = false := by decide) (he : starEach (e :: es) X.env = (false, eval e X.env) :: starEach es X.env := by rfl) (hpl : (backTo pos (starEach es X.env)).any (·.1) = false := by rfl) :
    DE X (.Call (.Name x p) (e :: es) [] pos) (tCall (spD K n S) [] E0 tr) (aCall (aFn n S) aar) := by
  subst hK
  exact ⟨pe_call F hr hg hm hk hb .nil pass0 ha.pe hdb he hpl, sim_call ha.sm⟩
theorem d_callMF {j : Nat} {p2 : Pos} {y : Str} (hK : X.K = K := by rfl) (F : FnOk X.prog X.w K X.mg X.base CX0 k f fd ps (spM K n SM)) (hr : Room k X.A) (hm : X.mg x = some (.ref f)) (hk : PySem.W.keepIn K (.ref f) = true) (hb : Binds K fd ps [])
    (h0 : DE X (.Name y p2) (tVar j) (aVar j)) (ha : DA X es tr aar) (hg : Gl X x := by rfl) (hdb : (x == ("__debug__" : Str)) = false := by decide) (he : starEach (.Name y p2 :: es) X.env = (false, eval (.Name y p2) X.env) :: starEach es X.env := by rfl) (hpl : (backTo pos (starEach es X.env)).any (·.1) = false := by rfl) :
    DE X (.Call (.Name x p) (.Name y p2 :: es) [] pos) (tCall (spM K n SM) [] E0 (tCons (tVar j) tr)) (aCallM n j SM aar) := by
  subst hK
  exact ⟨pe_call F hr hg hm hk hb .nil pass0 (pa_cons h0.pe ha.pe he) hdb he hpl, sim_callM ha.sm⟩
def plc (s : Ss) (i : Nat) (path : Pth) : Option Sl := (s[i]?).bind fun l => subT l path
def setP (s : Ss) (i : Nat) (path : Pth) (t : Sl) : Ss := match s[i]? with
  | some l => s.set i (putT l path t)
  | none => s
theorem plc_some {s : Ss} {i : Nat} {path : Pth} {t : Sl} (h : plc s i path = some t) : ∃ l, s[i]? = some l ∧ subT l path = some t ∧ ∀ t', setP s i path t' = s.set i (putT l path t') := by
  unfold plc at h
  cases e : s[i]? with
  | none =>
    rw [e] at h
    cases h
  | some l =>
    rw [e] at h
    exact ⟨l, rfl, h, fun t' => by unfold setP; rw [e]⟩
theorem notNo {t : Sl} {p : Addr} (h : root t = some p) : isNo t = false := by
  cases t <;> first | rfl | cases h
/-- a place's tree, by its root -/
theorem Step.placeR {s s1 : Ss} {σ : L2.St} {F H F1 H1 : Hp} {i : Nat} {path : Pth} {t : Sl} {q : Addr} (st : Step K s F H s1 F1 H1 σ) (h : plc s1 i path = some t) (hr : root t = some q) (hc : FOk K path) :
    SlOk K F1 H1 t (some (.ref q)) ∧ (fp t).Nodup ∧ (∀ b, b ∈ fp t → Own s1 b) ∧ (∀ Q : VK, Q (.ref q) H1 → tFlds K (tVar i) path σ H1 Q) ∧
    ∀ (ex : List Addr), ExOk s H s1 H1 ex → ∀ (r t' : Sl) (w : V) (F2 H2 : Hp), Lx K ex t (.ref q) F1 H1 r w t' F2 H2 → Step K s F H (setP s1 i path t') F2 H2 σ ∧ Rs K s H F2 H2 (setP s1 i path t') r w := by
  obtain ⟨l, h1, h2, h3⟩ := plc_some h
  obtain ⟨x, j1, j2, j3, j4, j5⟩ := st.place h1 h2 (notNo hr) hc
  have ex := root_v j1 hr
  cases ex
  exact ⟨j1, j2, j3, j4, fun ex hex r t' w F2 H2 y => by rw [h3]; exact j5 ex hex r t' w F2 H2 y⟩
def aMake (n : Nat) (c : Str) (S : ART) (ar : AA) : AE := fun s P => ar s fun as s1 => as.length + 1 = n ∧ ∀ q dx, S (.nd q (.ins c dx []) []) as fun rs t => rs = .pu .non ∧ P t s1
theorem sim_make {c : Str} {t : TA} {E : XK} (ha : SimA K t aar) : Sim K (tMake (clsA K c) (spT K n ST) [] E t) (aMake n c ST aar) := fun s P q σ F H ok Q k => by
  refine ha s _ q σ F H ok _ fun as s1 vs F1 H1 q1 st1 d1 q dx nq ndx hne => ?_
  obtain ⟨hn, hS⟩ := q1
  show spT K n ST (.ref q :: (vs ++ [])) _ _ E
  rw [List.append_nil]
  have fq : F1 q = none := st1.st.le.free nq
  have fdx : F1 dx = none := st1.st.le.free ndx
  have nq2 : (upd H1 dx (.own q)) q = none := by
    rw [upd_ne (Ne.symm hne)]
    exact nq
  have sm : Same H1 (upd (upd H1 dx (.own q)) q (.ins (clsA K c) dx [])) := (same_upd ndx).trans (same_upd nq2)
  have l0 : Lf K F1 H1 (.nd q (.ins c dx []) []) (.ref q) F1 (upd (upd H1 dx (.own q)) q (.ins (clsA K c) dx [])) := by
    have fpe : fp (.nd q (.ins c dx []) []) = [q, dx] := by
      rw [fp_nd, fpA]
      rfl
    refine ⟨Same.refl _, sm, st1.st.le.trans sm, fun _ h => .inl h, slok_nd.mpr ⟨rfl, fq, fun b hb => ?_, ?_, rfl, [], ?_, ?_⟩, fun b hb => ?_, ?_⟩
    · cases List.mem_singleton.mp hb
      exact fdx
    · show (upd (upd H1 dx (.own q)) q (.ins (clsA K c) dx [])) dx = some (.own q)
      rw [upd_ne hne, upd_same]
    · rw [upd_same]
      rfl
    · rw [SlOkA]
    · rw [fpe] at hb
      rcases List.mem_cons.mp hb with z | z
      · rw [z]
        exact nq
      · rw [List.mem_singleton.mp z]
        exact ndx
    · rw [fpe]
      refine List.nodup_cons.mpr ⟨fun z => hne (List.mem_singleton.mp z).symm, List.pairwise_singleton _ _⟩
  obtain ⟨st2, rs2⟩ := st1.leaf l0
  refine ⟨F1, _, _, as, vs, fun rs t => rs = .pu .non ∧ P t s1, rfl, st2.st.le, rs2.ok, rs2.nd, d1, hn, hS q dx, fun rs l' v F2 H2 hP x => ?_⟩
  obtain ⟨rfl, hP⟩ := hP
  obtain ⟨w, ew, hw⟩ := slok_pu.mp x.ok
  cases ew
  refine ⟨hw, ?_⟩
  obtain ⟨st3, _⟩ := st2.calledN rs2 x
  refine k l' s1 _ F2 H2 hP st3 ⟨x.m, fun a ha => ?_, x.mn⟩
  rcases x.mf a ha with y | y
  · exact rs2.fr a y
  · refine ⟨.inl (st2.t a y), fun w => ?_⟩
    obtain ⟨_, u, hu⟩ := st2.st.own w
    rw [y] at hu
    cases hu
theorem d_make {c : Str} {C : Addr} (hK : X.K = K := by rfl) (hC : clsA K c = C) (M : Mk K C f) (F : FnOk X.prog X.w K X.mg X.base CX0 k f fd ps (spT K n ST)) (hr : Room (k + 1) X.A) (hm : X.mg x = some (.ref C)) (hb : Binds K fd ps [])
    (ha : DA X (e :: es) tr aar) (hg : Gl X x := by rfl) (hdb : (x == ("__debug__" : Str)) = false := by decide) (he : starEach (e :: es) X.env = (false, eval e X.env) :: starEach es X.env := by rfl) (hpl : (backTo pos (starEach es X.env)).any (·.1) = false := by rfl) :
    DE X (.Call (.Name x p) (e :: es) [] pos) (tMake (clsA K c) (spT K n ST) [] E0 tr) (aMake n c ST aar) := by
  subst hK
  subst hC
  exact ⟨pe_make M F hr hg hm hb .nil pass0 ha.pe hdb he hpl, sim_make ha.sm⟩
theorem d_get {o : Expr} {i : Nat} {path : Pth} (hK : X.K = K := by rfl) (h : PE X o (tFlds K (tVar i) path)) (hp : FOk K path) : DE X o (tFlds K (tVar i) path) (aGet i path) := by
  subst hK
  exact ⟨h, sim_get hp⟩
def aPropD (c : Str) (S : ARC) (a : AE) : AE := fun s P => a s fun r s1 => match r.d with
  | .ins c' ns ds => c' = c ∧ S [.ins c' ns ds] fun rs => P rs s1
  | _ => False
theorem sim_propD {c : Str} {E : XK} (h : Sim K te aa) : Sim K (tProp (clsA K c) (spD K 1 S) [] E te) (aPropD c S aa) := fun s P q σ F H ok Q k => by
  refine h.d q ok fun r s1 v F1 H1 q1 st1 d1 => ?_
  cases e : r.d <;> simp only [e] at q1
  rename_i c' ns ds
  rw [e] at d1
  obtain ⟨rfl, q1⟩ := q1
  have d2 := d1
  obtain ⟨a, dx, xs, rfl, g1, g2, g3⟩ := d1
  refine ⟨a, dx, _, rfl, st1.st.le _ _ g1, F1, [.ins c' ns ds], fun rs => P rs s1, st1.st.le, ⟨_, _, rfl, d2, rfl⟩, rfl, q1, fun rs v F3 H3 hp l => ?_⟩
  obtain ⟨st3, rs3⟩ := st1.leaf l
  exact k rs s1 v F3 H3 hp st3 rs3
theorem d_propD {c m : Str} {o : Expr} {C pr : Addr} (hK : X.K = K := by rfl) (hC : clsA K c = C) (h : DE X o te aa) (cl : Cls K C) (hp : PropOf K C m pr f) (F : FnOk X.prog X.w K X.mg X.base CX0 k f fd ps (spD K 1 S)) (hr : Room (k + 1) X.A) (hb : Binds K fd ps [])
    (hab : attributeBase o m X.env (eval o X.env) = eval o X.env := by rfl) : DE X (.Attribute o m pos) (tProp (clsA K c) (spD K 1 S) [] E0 te) (aPropD c S aa) := by
  subst hK
  subst hC
  exact ⟨pe_prop h.pe cl hp F hr hb .nil pass0 hab, sim_propD h.sm⟩
end
end DL
namespace DL
open PySem L2
/-- .. = v, a field -/
def gFld (K : PySem.W.Frag) (to : TE) (f : Str) : TG := fun y σ H Q => to σ H fun x H1 => ∃ a C dx fs, x = .ref a ∧ H1 a = some (.ins C dx fs) ∧ Cls K C ∧ NoAttr K C f ∧ fs.length < 1000 ∧ Q σ (upd H1 a (.ins C dx (putF f y fs)))
theorem pg_fld {X : Cx} {o : Expr} {f : Str} {to : TE} {pos : Pos} (ho : PE X o to)
    (ha : ∀ v, assign (.Attribute o f pos) X.env v = (do
      let ov ← holding [v] (eval o X.env)
      standAt pos.atName
      holding [v, ov] (setAttr ov f v)
      release [v, ov] []) := by intro _; rfl) : PG X (.Attribute o f pos) (gFld X.K to f) := by
  refine ⟨fun pins s σ H v u Q I r h => ?_⟩
  rw [ha]
  refine wpAny_bind (wpAny_holding (thn (ho.run pins s σ H _ I h) fun ov s1 ⟨x, H1, I1, rx, a, C, dx, fs, ex, ea, c, n, l, q⟩ => ?_))
  subst ex
  obtain rfl : ov = Value.ref a := rx
  refine wpAny_bind (wpAny_standAt (wpAny_bind (wpAny_holding ?_)))
  refine setattr_ok I1 ea c n l r fun s3 I3 => ?_
  exact wpAny_release ⟨σ, _, I3, q⟩
section
variable {K : PySem.W.Frag} {s s1 : Ss} {σ : L2.St} {F H F1 H1 : Hp} {te ta : TE} {aa : AE}
abbrev ATg := Sl → Ss → (Ss → Prop) → Prop
abbrev ATgs := List Sl → Ss → (Ss → Prop) → Prop
abbrev AAS := Ss → (List Sl → Ss → Prop) → Prop
structure RsA (K : PySem.W.Frag) (s : Ss) (H F' H' : Hp) (s' : Ss) (rs : List Sl) (vs : List V) : Prop where
  ok : SlOkA K F' H' rs vs
  fr : ∀ p, p ∈ fpA rs → (H p = none ∨ Own s p) ∧ ¬ Own s' p
  nd : (fpA rs).Nodup
def SimTg (K : PySem.W.Frag) (g : TG) (a : ATg) : Prop := ∀ r s1 P, a r s1 P → ∀ v s F H F1 H1 σ, Step K s F H s1 F1 H1 σ → Rs K s H F1 H1 s1 r v → ∀ Q : L2.St → Hp → Prop,
  (∀ s2 σ2 H2, P s2 → Step K s F H s2 F1 H2 σ2 → (∀ b, ¬ Own s1 b → b ∉ fp r → ∀ u, H1 b = some u → H2 b = some u) → (∀ b, Own s2 b → Own s1 b ∨ b ∈ fp r) → Q σ2 H2) → g v σ H1 Q
def SimTgs (K : PySem.W.Frag) (gs : TGs) (a : ATgs) : Prop := ∀ rs s1 P, a rs s1 P → ∀ vs s F H F1 H1 σ, Step K s F H s1 F1 H1 σ → RsA K s H F1 H1 s1 rs vs → ∀ Q : L2.St → Hp → Prop,
  (∀ s2 σ2 H2, P s2 → Step K s F H s2 F1 H2 σ2 → Q σ2 H2) → gs vs σ H1 Q
def SimAS (K : PySem.W.Frag) (ta : TA) (a : AAS) : Prop := ∀ s P, a s P → ∀ σ F H, StOk K F H σ s → ∀ Q : List V → Hp → Prop,
  (∀ rs s' vs F' H', P rs s' → Step K s F H s' F' H' σ → RsA K s H F' H' s' rs vs → Q vs H') → ta σ H Q
theorem fpA_nil : fpA [] = [] := by rw [fpA]
theorem fpA_cons (t : Sl) (ts : List Sl) : fpA (t :: ts) = fp t ++ fpA ts := by rw [fpA]
theorem fpA_app : ∀ (ts us : List Sl), fpA (ts ++ us) = fpA ts ++ fpA us
  | [], us => by rw [fpA_nil, List.nil_append, List.nil_append]
  | t :: ts, us => by rw [List.cons_append, fpA_cons, fpA_cons, fpA_app ts us, List.append_assoc]
theorem slokA_nil {vs : List V} : SlOkA K F H [] vs ↔ vs = [] := by rw [SlOkA]
theorem slokA_cons {t : Sl} {ts : List Sl} {vs : List V} : SlOkA K F H (t :: ts) vs ↔ ∃ x r, vs = x :: r ∧ SlOk K F H t (some x) ∧ SlOkA K F H ts r := by rw [SlOkA]
theorem slokA_snoc : ∀ {ts : List Sl} {vs : List V} {t : Sl} {x : V}, SlOkA K F H ts vs → SlOk K F H t (some x) → SlOkA K F H (ts ++ [t]) (vs ++ [x])
  | [], vs, t, x, h, h2 => by
    rw [slokA_nil.mp h]
    exact slokA_cons.mpr ⟨x, [], rfl, h2, slokA_nil.mpr rfl⟩
  | t0 :: ts, vs, t, x, h, h2 => by
    obtain ⟨y, r, rfl, h3, h4⟩ := slokA_cons.mp h
    exact slokA_cons.mpr ⟨y, r ++ [x], rfl, h3, slokA_snoc h4 h2⟩
def atName (i : Nat) : ATg := fun r s P => P (s.set i r)
theorem simtg_name {i : Nat} : SimTg K (gName i) (atName i) := fun r s1 P q v s F H F1 H1 σ st rs Q k => by
  refine k _ _ H1 q (st.put rs) (fun b _ _ u h => h) fun b h => ?_
  exact own_set h
def putFl (q : Addr) (c : Str) (dx : Addr) (ns : List Str) (ts : List Sl) (f : Str) (r : Sl) : Sl := match ixF ns f with
  | some k => .nd q (.ins c dx ns) (ts.set k r)
  | none => .nd q (.ins c dx (ns ++ [f])) (ts ++ [r])
def atFld (i : Nat) (path : Pth) (c f : Str) : ATg := fun r s P => match plc s i path with
  | some (.nd q (.ins c' dx ns) ts) => c' = c ∧ ns.length < 900 ∧ P (setP s i path (putFl q c' dx ns ts f r))
  | _ => False
theorem simtg_fld {i : Nat} {path : Pth} {c f : Str} (hp : FOk K path) (hf : FldOk K c f) : SimTg K (gFld K (tFlds K (tVar i) path) f) (atFld i path c f) := fun r s1 P q v s F H F1 H1 σ st rs Q k => by
  unfold atFld at q
  cases e : plc s1 i path with
  | none =>
    rw [e] at q
    exact q.elim
  | some l =>
    rw [e] at q
    cases l with
    | no => exact q.elim
    | pu d => exact q.elim
    | ow p xs => exact q.elim
    | nd p kk ts =>
      cases kk <;> first | exact q.elim | skip
      rename_i c' dx ns
      obtain ⟨rfl, hn9, q⟩ := q
      obtain ⟨g1, g2, g3, g4, g5⟩ := st.placeR e rfl hp
      obtain ⟨_, hfp, hdx, hdo, hlen, vs, hcell, hts⟩ := slok_nd.mp g1
      have hdo : H1 dx = some (.own p) := hdo
      have hl2 : ns.length = vs.length := by
        rw [hts.len]
        exact hlen
      rw [fp_nd] at g2
      obtain ⟨n1, n2⟩ := List.nodup_cons.mp g2
      obtain ⟨n3, n4, n5⟩ := List.nodup_append.mp n2
      have hdp : dx ≠ p := fun z => n1 (List.mem_append_left _ (List.mem_singleton.mpr z.symm))
      refine g4 _ ⟨p, _, dx, _, rfl, hcell, hf.1, hf.2, by rw [List.length_zip]; omega, ?_⟩
      have np : ∀ b, b ∈ fpA ts → b ≠ p := fun b hb z => n1 (List.mem_append_right _ (by rw [← z]; exact hb))
      have rp : ∀ b, b ∈ fp r → b ≠ p := fun b hb z => (rs.fr b hb).2 (g3 b (by rw [fp_nd, z]; exact List.mem_cons_self))
      have rt : ∀ b, b ∈ fp r → b ∉ fpA ts := fun b hb z => (rs.fr b hb).2 (g3 b (by rw [fp_nd]; exact List.mem_cons_of_mem _ (List.mem_append_right _ z)))
      have rd : ∀ b, b ∈ fp r → b ≠ dx := fun b hb z => (rs.fr b hb).2 (g3 b (by rw [fp_nd, z]; exact List.mem_cons_of_mem _ (List.mem_append_left _ (List.mem_singleton.mpr rfl))))
      have rok : ∀ o, SlOk K F1 (upd H1 p o) r (some v) := fun o => SlOk.mono r (Same.refl _) (fun b hb u h1 h2 => ⟨h1, by rw [upd_ne (rp b hb)]; exact h2⟩) rs.ok
      have tok : ∀ o, SlOkA K F1 (upd H1 p o) ts vs := fun o => SlOkA.mono ts (Same.refl _) (fun b hb u h1 h2 => ⟨h1, by rw [upd_ne (np b hb)]; exact h2⟩) hts
      have main : ∀ ns' ts' vs', ns'.length = ts'.length → putF f v (ns.zip vs) = ns'.zip vs' → SlOkA K F1 (upd H1 p (.ins (clsA K c') dx (ns'.zip vs'))) ts' vs' → (fpA ts').Nodup → (∀ b, b ∈ fpA ts' → b ∈ fpA ts ∨ b ∈ fp r) →
          Lx K (fp r) (.nd p (.ins c' dx ns) ts) (.ref p) F1 H1 (.pu .non) .non (.nd p (.ins c' dx ns') ts') F1 (upd H1 p (.ins (clsA K c') dx (putF f v (ns.zip vs)))) := fun ns' ts' vs' m1 m2 m3 m4 m5 => by
        refine ⟨Same.refl _, fun a o ha h => ?_, fun a h => ?_, slok_nd.mpr ⟨rfl, hfp, hdx, ?_, m1, vs', ?_, ?_⟩, ?_, fun a ha => ?_, fun b o h => ?_, fun a h => .inl h, slok_pu.mpr ⟨_, rfl, rfl⟩, fun a ha => ?_, by rw [fp_pu]; exact List.nodup_nil⟩
        · rw [upd_ne fun z => ha (by rw [fp_nd, z]; exact List.mem_cons_self)]
          exact h
        · by_cases z : a = p
          · subst z
            rw [upd_same] at h
            cases h
          · rw [upd_ne z] at h
            exact h
        · show (upd H1 p _) dx = some (.own p)
          rw [upd_ne hdp]
          exact hdo
        · rw [upd_same, m2]
          rfl
        · rw [m2]
          exact m3
        · rw [fp_nd]
          refine List.nodup_cons.mpr ⟨fun z => ?_, List.nodup_append.mpr ⟨n3, m4, fun a ha b hb z => ?_⟩⟩
          · rcases List.mem_append.mp z with y | y
            · exact n1 (List.mem_append_left _ y)
            · rcases m5 p y with w | w
              · exact np p w rfl
              · exact rp p w rfl
          · subst z
            cases List.mem_singleton.mp ha
            rcases m5 _ hb with w | w
            · exact n5 _ ha _ w rfl
            · exact rd _ w rfl
        · rw [fp_nd] at ha ⊢
          rcases List.mem_cons.mp ha with y | y
          · exact .inl (List.mem_cons.mpr (.inl y))
          · rcases List.mem_append.mp y with w | w
            · exact .inl (List.mem_cons_of_mem _ (List.mem_append_left _ w))
            · rcases m5 a w with u | u
              · exact .inl (List.mem_cons_of_mem _ (List.mem_append_right _ u))
              · exact .inr (.inr u)
        · rw [upd_ne (ne_of_none h hfp)]
          exact st.st.le b o h
        · rw [fp_pu] at ha
          cases ha
      have big : Lx K (fp r) (.nd p (.ins c' dx ns) ts) (.ref p) F1 H1 (.pu .non) .non (putFl p c' dx ns ts f r) F1 (upd H1 p (.ins (clsA K c') dx (putF f v (ns.zip vs)))) := by
        have e2 := putF_ix (v := v) (f := f) hl2
        unfold putFl
        cases e1 : ixF ns f with
        | some k =>
          rw [e1] at e2
          have hk := ixF_lt e1
          have hlen : ns.length = ts.length := hlen
          have et : ts[k]? = some (ts[k]'(by omega)) := List.getElem?_eq_getElem (by omega)
          obtain ⟨m1, m2⟩ := fpA_set n4 et rs.nd fun b hb => .inr (rt b hb)
          refine main ns (ts.set k r) (vs.set k v) (by rw [List.length_set]; exact hlen) e2 ?_ m1 fun b hb => ?_
          · exact (tok _).setG n4 et (rok _) (Same.refl _) fun b _ u h1 h2 => ⟨h1, h2⟩
          · rcases m2 b hb with y | ⟨y, _⟩
            · exact .inr y
            · exact .inl y
        | none =>
          rw [e1] at e2
          have hlen : ns.length = ts.length := hlen
          refine main (ns ++ [f]) (ts ++ [r]) (vs ++ [v]) (by simp [hlen]) e2 (slokA_snoc (tok _) (rok _)) ?_ fun b hb => ?_
          · rw [fpA_app, fpA_cons, fpA_nil, List.append_nil]
            exact List.nodup_append.mpr ⟨n4, rs.nd, fun a ha b hb z => rt b hb (by rw [← z]; exact ha)⟩
          · rw [fpA_app, fpA_cons, fpA_nil, List.append_nil] at hb
            exact List.mem_append.mp hb
      obtain ⟨st2, _⟩ := g5 (fp r) (fun a ha => ⟨(rs.fr a ha).1, (rs.fr a ha).2, (SlOk.own r rs.ok ha).2⟩) _ _ _ _ _ big
      refine k _ _ _ q st2 (fun b hb hb2 u h => ?_) fun b h => ?_
      · rw [upd_ne fun z => hb (g3 b (by rw [fp_nd, z]; exact List.mem_cons_self))]
        exact h
      · by_cases hb : Own s1 b
        · exact .inl hb
        · refine .inr ?_
          obtain ⟨l0, h1, h2, h3⟩ := plc_some e
          rw [h3] at h
          obtain ⟨j, m, w1, w2⟩ := h
          rcases set_get w1 with ⟨rfl, rfl, hl⟩ | ⟨e3, h5⟩
          · obtain ⟨o, z1, z2⟩ := st.st.get h1
            have hv : ∃ v, o = some v := by
              cases l0 with
              | no =>
                cases path <;> simp [subT] at h2
              | pu d =>
                obtain ⟨v, h3, _⟩ := slok_pu.mp z2
                exact ⟨v, h3⟩
              | ow p xs => exact ⟨_, (slok_ow.mp z2).1⟩
              | nd p k ts => exact ⟨_, (slok_nd.mp z2).1⟩
            obtain ⟨v0, rfl⟩ := hv
            obtain ⟨j1, x, j2, j3, j4, j5⟩ := focus path l0 v0 _ z2 st.st.le (st.st.nd i l0 h1) h2 hp
            have ex := root_v j2 (p := p) rfl
            cases ex
            obtain ⟨k1, k2, k3⟩ := j5 (putFl p c' dx ns ts f r) F1 _ big.m big.mn big.f (fun b hb u q1 q2 => big.unf hb q1 q2) fun b hb => by
              rcases big.mf b hb with y | y | y
              · exact .inl y
              · refine .inr fun w => ?_
                obtain ⟨_, u, hu⟩ := st.st.own ⟨i, l0, h1, w⟩
                rw [y] at hu
                cases hu
              · exact .inr fun w => (rs.fr b y).2 ⟨i, l0, h1, w⟩
            rcases k3 b w2 with y | ⟨y, _⟩
            · rcases big.mf b y with w | w | w
              · exact absurd (g3 b w) hb
              · have := (SlOk.own _ big.m y).2
                obtain ⟨u, hu⟩ := this
                by_cases hbp : b = p
                · subst hbp
                  exact absurd (g3 b (by rw [fp_nd]; exact List.mem_cons_self)) hb
                · rw [upd_ne hbp, w] at hu
                  cases hu
              · exact w
            · exact absurd ⟨i, l0, h1, y⟩ hb
          · exact absurd ⟨j, m, h5, w2⟩ hb
/-- target = e -/
def aTo (a : AE) (t : ATg) : AS := fun A s => a s fun r s1 => t r s1 A.nx
theorem sims_to {g : TG} {t : ATg} (h : Sim K te aa) (hg : SimTg K g t) : SimS K (tAsg te g) (aTo aa t) := fun A s q σ F H ok E kn kr kb kc =>
  h s _ q σ F H ok _ fun r s1 v F1 H1 q1 st1 rs => hg _ _ _ q1 v s F H F1 H1 σ st1 rs _ fun s2 σ2 H2 q2 st2 _ _ => kn s2 σ2 F1 H2 q2 st2
def atNil : ATgs := fun rs s P => rs = [] ∧ P s
def atCons (t : ATg) (ts : ATgs) : ATgs := fun rs s P => match rs with
  | r :: rs => t r s fun s1 => ts rs s1 P
  | [] => False
theorem simtgs_nil : SimTgs K gNil atNil := fun rs s1 P q vs s F H F1 H1 σ st ra Q k => by
  obtain ⟨rfl, q⟩ := q
  exact ⟨slokA_nil.mp ra.ok, k s1 σ H1 q st⟩
theorem simtgs_cons {g : TG} {t : ATg} {gs : TGs} {ts : ATgs} (h : SimTg K g t) (hr : SimTgs K gs ts) : SimTgs K (gCons g gs) (atCons t ts) := fun rs s1 P q vs s F H F1 H1 σ st ra Q k => by
  cases rs with
  | nil => exact q.elim
  | cons r rs =>
    obtain ⟨x, r2, rfl, h2, h3⟩ := slokA_cons.mp ra.ok
    have nd := ra.nd
    rw [fpA_cons] at nd
    obtain ⟨d1, d2, d3⟩ := List.nodup_append.mp nd
    refine ⟨x, r2, rfl, ?_⟩
    refine h r s1 _ q x s F H F1 H1 σ st ⟨h2, fun p hp => ra.fr p (by rw [fpA_cons]; exact List.mem_append_left _ hp), d1⟩ _ fun s2 σ2 H2 q2 st2 kp ow => ?_
    have fr2 : ∀ p, p ∈ fpA rs → (H p = none ∨ Own s p) ∧ ¬ Own s1 p := fun p hp => ra.fr p (by rw [fpA_cons]; exact List.mem_append_right _ hp)
    refine hr rs s2 P q2 r2 s F H F1 H2 σ2 st2 ⟨SlOkA.mono rs (Same.refl _) (fun b hb u h1 h4 => ⟨h1, kp b (fr2 b hb).2 (fun z => d3 b z b hb rfl) u h4⟩) h3, fun p hp => ⟨(fr2 p hp).1, fun z => ?_⟩, d2⟩ Q k
    rcases ow p z with y | y
    · exact (fr2 p hp).2 y
    · exact d3 p y p hp rfl
def aaNil : AAS := fun s P => P [] s
def aaCons (a : AE) (r : AAS) : AAS := fun s P => a s fun r1 s1 => r s1 fun rs s2 => P (r1 :: rs) s2
theorem simas_nil : SimAS K tNil aaNil := fun s P q σ F H ok Q k => k [] s [] F H q (.refl ok) ⟨slokA_nil.mpr rfl, fun p hp => (by rw [fpA_nil] at hp; cases hp), (by rw [fpA_nil]; exact List.nodup_nil)⟩
theorem simas_cons {tr : TA} {ar : AAS} (ha : Sim K ta aa) (hr : SimAS K tr ar) : SimAS K (tCons ta tr) (aaCons aa ar) := fun s P q σ F H ok Q k => by
  refine ha s _ q σ F H ok _ fun r1 s1 v1 F1 H1 q1 st1 rs1 => ?_
  refine hr s1 _ q1 σ F1 H1 st1.st _ fun rs s2 vs F2 H2 q2 st2 ra => ?_
  have rk := rs1.keep st2
  refine k (r1 :: rs) s2 (v1 :: vs) F2 H2 q2 (st1.trans st2) ⟨slokA_cons.mpr ⟨v1, vs, rfl, rk.ok, ra.ok⟩, fun p hp => ?_, ?_⟩
  · rw [fpA_cons] at hp
    rcases List.mem_append.mp hp with z | z
    · exact rk.fr p z
    · obtain ⟨g1, g2⟩ := ra.fr p z
      refine ⟨?_, g2⟩
      rcases g1 with y | y
      · exact .inl (st1.t p y)
      · exact (st1.o p y).symm
  · rw [fpA_cons]
    refine List.nodup_append.mpr ⟨rs1.nd, ra.nd, fun a ha b hb z => ?_⟩
    subst z
    rcases (ra.fr a hb).1 with y | y
    · obtain ⟨_, u, hu⟩ := SlOk.own r1 rs1.ok ha
      rw [y] at hu
      cases hu
    · exact (rs1.fr a ha).2 y
/-- t1, t2, .. = e1, e2, .. by a tuple -/
def aParG (n : Nat) (a : AAS) (t : ATgs) : AS := fun A s => a s fun rs s1 => rs.length = n ∧ t rs s1 A.nx
theorem sims_parG {tr : TA} {ar : AAS} {gs : TGs} {ts : ATgs} {n : Nat} (hn : n ≤ 100) (ha : SimAS K tr ar) (hg : SimTgs K gs ts) : SimS K (tAsg (tTup tr) (gTup K n gs)) (aParG n ar ts) := fun A s q σ F H ok E kn kr kb kc => by
  refine ha s _ q σ F H ok _ fun rs s1 vs F1 H1 q1 st1 ra => ?_
  obtain ⟨hl, q1⟩ := q1
  have hvl : vs.length = n := by rw [ra.ok.len, hl]
  refine ⟨by rw [hvl]; exact sz_of (by omega), fun p hp => ?_⟩
  refine ⟨p, vs, rfl, SqT.of upd_same, hvl, ?_⟩
  have sm : Same H1 (upd H1 p (.tup vs)) := same_upd hp
  have st2 : Step K s F H s1 F1 (upd H1 p (.tup vs)) σ := by
    refine ⟨⟨st1.st.le.trans sm, st1.st.len, fun i l o q1 q2 => SlOk.mono l (Same.refl _) (fun b _ u h1 h2 => ⟨h1, sm b u h2⟩) (st1.st.ok i l o q1 q2), st1.st.un, st1.st.nd⟩, st1.f, fun a o h h2 => sm a o (st1.k a o h h2), fun a h => st1.t a (sm.free h), st1.n, st1.o⟩
  exact hg rs s1 _ q1 vs s F H F1 _ σ st2 ⟨SlOkA.mono rs (Same.refl _) (fun b _ u h1 h2 => ⟨h1, sm b u h2⟩) ra.ok, ra.fr, ra.nd⟩ _ fun s2 σ2 H2 q2 st3 => kn s2 σ2 F1 H2 q2 st3
end
end DL
namespace DL
open PySem L2
def ixA {α : Type} [DecidableEq α] : List α → α → Option Nat
  | [], _ => none
  | n :: ns, f => if n = f then some 0 else (ixA ns f).map (· + 1)
section
variable {κ : Type} [DecidableEq κ]
theorem valV_ix : ∀ {ks : List κ} {vs : List V} {k : κ}, ks.length = vs.length → valV (ks.zip vs) k = (ixA ks k).bind fun j => vs[j]?
  | [], vs, k, h => rfl
  | n :: ks, [], k, h => by cases h
  | n :: ks, v :: vs, k, h => by
    have ih := valV_ix (ks := ks) (vs := vs) (k := k) (by simpa using h)
    rw [List.zip_cons_cons]
    unfold ixA
    by_cases e : n = k
    · subst e
      rw [valV_pos rfl, if_pos rfl]
      rfl
    · rw [valV_neg e, if_neg e, ih]
      cases ixA ks k <;> simp
theorem ixA_lt : ∀ {ks : List κ} {k : κ} {j : Nat}, ixA ks k = some j → j < ks.length ∧ ks[j]? = some k
  | n :: ks, k, j, h => by
    unfold ixA at h
    by_cases e : n = k
    · rw [if_pos e] at h
      cases h
      exact ⟨Nat.succ_pos _, by rw [e]; rfl⟩
    · rw [if_neg e] at h
      cases q : ixA ks k with
      | none =>
        rw [q] at h
        cases h
      | some i =>
        rw [q] at h
        cases h
        obtain ⟨h1, h2⟩ := ixA_lt q
        exact ⟨Nat.succ_lt_succ h1, by simpa using h2⟩
theorem ixA_none : ∀ {ks : List κ} {k : κ}, ixA ks k = none ↔ k ∉ ks
  | [], k => by simp [ixA]
  | n :: ks, k => by
    unfold ixA
    have ih := ixA_none (ks := ks) (k := k)
    by_cases e : n = k
    · rw [if_pos e]
      simp [e]
    · rw [if_neg e]
      constructor
      · intro h z
        rcases List.mem_cons.mp z with y | y
        · exact e y.symm
        · have := ih.mp (by cases q : ixA ks k with
            | none => rfl
            | some j => rw [q] at h; cases h)
          exact this y
      · intro h
        rw [ih.mpr fun z => h (List.mem_cons_of_mem _ z)]
        rfl
theorem putK_ix (ks : List κ) (vs : List V) (k : κ) (v : V) (hl : ks.length = vs.length) (hn : ks.Nodup) : putK (ks.zip vs) k v = match ixA ks k with
    | some j => ks.zip (vs.set j v)
    | none => (ks ++ [k]).zip (vs ++ [v]) := by
  have ha : ((ks.zip vs).any fun kv => decide (kv.1 = k)) = (ixA ks k).isSome := by
    rw [valV_any, valV_ix hl]
    cases e : ixA ks k with
    | none => rfl
    | some j =>
      have := (ixA_lt e).1
      rw [Option.bind_some, List.getElem?_eq_getElem (by omega)]
      rfl
  unfold putK
  rw [ha]
  cases e : ixA ks k with
  | none =>
    rw [if_neg (by simp)]
    rw [List.zip_append hl]
    rfl
  | some j =>
    rw [if_pos (by rfl)]
    show _ = ks.zip (vs.set j v)
    clear ha
    induction ks generalizing vs j with
    | nil => cases e
    | cons n ks ih =>
      cases vs with
      | nil => cases hl
      | cons w vs =>
        obtain ⟨n1, n2⟩ := List.nodup_cons.mp hn
        unfold ixA at e
        rw [List.zip_cons_cons, List.map_cons]
        by_cases en : n = k
        · rw [if_pos en] at e
          cases e
          subst en
          rw [if_pos rfl, List.set_cons_zero, List.zip_cons_cons]
          refine congrArg (_ :: ·) ?_
          have : ∀ (vs : List V), (ks.zip vs).map (fun kv => if kv.1 = n then (kv.1, v) else kv) = ks.zip vs := fun vs => by
            refine Eq.trans (List.map_congr_left fun p hp => ?_) (List.map_id _)
            have := (List.of_mem_zip (a := p.1) (b := p.2) hp).1
            rw [if_neg fun z => n1 (by rw [← z]; exact this)]
            rfl
          exact this vs
        · rw [if_neg en] at e
          cases q : ixA ks k with
          | none =>
            rw [q] at e
            cases e
          | some i =>
            rw [q] at e
            cases e
            rw [if_neg en, List.set_cons_succ, List.zip_cons_cons, ih vs (by simpa using hl) n2 i q]
end
section
variable {K : PySem.W.Frag} {F H F2 H2 : Hp} {ex : List Addr}
/-- a change of a node's child is a change of the node -/
theorem Lx.child {q : Addr} {k : NK} {ts : List Sl} {j : Nat} {c c' r : Sl} {w : V} (ok : SlOk K F H (.nd q k ts) (some (.ref q))) (hn : (fp (.nd q k ts)).Nodup) (e : ts[j]? = some c) (hx : ∀ a, a ∈ ex → a ∉ fp (.nd q k ts)) :
    ∃ x, SlOk K F H c (some x) ∧ (∀ b, b ∈ fp c → b ∈ fp (.nd q k ts)) ∧ (Lx K ex c x F H r w c' F2 H2 → Lx K ex (.nd q k ts) (.ref q) F H r w (.nd q k (ts.set j c')) F2 H2) := by
  obtain ⟨_, hq, hdx, hdo, hlen, vs, hcell, hts⟩ := slok_nd.mp ok
  rw [fp_nd] at hn
  obtain ⟨n1, n2⟩ := List.nodup_cons.mp hn
  obtain ⟨n3, n4, n5⟩ := List.nodup_append.mp n2
  obtain ⟨x, e3, e4⟩ := hts.get e
  have up : ∀ b, b ∈ fp c → b ∈ fpA ts := fun b hb => mem_fpA e hb
  have up2 : ∀ b, b ∈ fp c → b ∈ fp (.nd q k ts) := fun b hb => by
    rw [fp_nd]
    exact List.mem_cons_of_mem _ (List.mem_append_right _ (up b hb))
  refine ⟨x, e4, up2, fun y => ?_⟩
  have stands : ∀ b, b ∈ fpA ts → ∃ u, H b = some u := fun b hb => (SlOkA.own ts hts hb).2
  have qn : q ∉ fp c := fun z => n1 (List.mem_append_right _ (up q z))
  have dn : ∀ b, b ∈ k.dxs → b ∉ fp c := fun b hb z => n5 b hb b (up b z) rfl
  have k1 := y.unf qn hq hcell
  have exn : ∀ b, b ∈ ex → b ∉ fpA ts := fun b hb z => hx b hb (by rw [fp_nd]; exact List.mem_cons_of_mem _ (List.mem_append_right _ z))
  obtain ⟨m1, m2⟩ := fpA_set n4 e y.mn fun b hb => by
    rcases y.mf b hb with z | z | z
    · exact .inl z
    · refine .inr fun v => ?_
      obtain ⟨u, hu⟩ := stands b v
      rw [z] at hu
      cases hu
    · exact .inr (exn b z)
  have new : ∀ b, b ∈ fpA (ts.set j c') → b ∈ fpA ts ∨ H b = none ∨ b ∈ ex := fun b hb => by
    rcases m2 b hb with z | ⟨z, _⟩
    · rcases y.mf b z with v | v | v
      · exact .inl (up b v)
      · exact .inr (.inl v)
      · exact .inr (.inr v)
    · exact .inl z
  have dstand : ∀ b, b ∈ k.dxs → ∃ u, H b = some u := fun b hb => by
    cases k with
    | ins C dx ns =>
      cases List.mem_singleton.mp hb
      exact ⟨_, hdo⟩
    | dk ks => cases hb
    | dt ks => cases hb
    | ls => cases hb
  refine ⟨y.f, fun a o ha h => y.h a o (fun z => ha (up2 a z)) h, y.t, slok_nd.mpr ⟨rfl, k1.1, fun b hb => ?_, ?_, by rw [List.length_set]; exact hlen, vs, k1.2, ?_⟩, ?_, fun a ha => ?_, y.le, fun a ha => ?_, y.ok, fun a ha => ?_, y.nd⟩
  · obtain ⟨u, hu⟩ := dstand b hb
    exact (y.unf (dn b hb) (hdx b hb) hu).1
  · cases k with
    | ins C dx ns => exact (y.unf (dn dx (List.mem_singleton.mpr rfl)) (hdx dx (List.mem_singleton.mpr rfl)) hdo).2
    | dk ks => trivial
    | dt ks => trivial
    | ls => trivial
  · have := hts.setG n4 e y.m y.f (fun b hb u f1 f2 => y.unf hb f1 f2)
    rw [set_self e3] at this
    exact this
  · rw [fp_nd]
    refine List.nodup_cons.mpr ⟨fun z => ?_, List.nodup_append.mpr ⟨n3, m1, fun a ha b hb z => ?_⟩⟩
    · rcases List.mem_append.mp z with v | v
      · exact n1 (List.mem_append_left _ v)
      · rcases new q v with u | u | u
        · exact n1 (List.mem_append_right _ u)
        · rw [hcell] at u
          cases u
        · exact hx q u (by rw [fp_nd]; exact List.mem_cons_self)
    · subst z
      rcases new a hb with u | u | u
      · exact n5 a ha a u rfl
      · obtain ⟨o, ho⟩ := dstand a ha
        rw [u] at ho
        cases ho
      · exact hx a u (by rw [fp_nd]; exact List.mem_cons_of_mem _ (List.mem_append_left _ ha))
  · rw [fp_nd] at ha ⊢
    rcases List.mem_cons.mp ha with z | z
    · exact .inl (List.mem_cons.mpr (.inl z))
    · rcases List.mem_append.mp z with v | v
      · exact .inl (List.mem_cons_of_mem _ (List.mem_append_left _ v))
      · rcases new a v with u | u
        · exact .inl (List.mem_cons_of_mem _ (List.mem_append_right _ u))
        · exact .inr u
  · rcases y.n a ha with z | z | z
    · exact .inl z
    · exact .inr (.inl z)
    · exact .inr (.inr (up2 a z))
  · obtain ⟨g1, g2⟩ := y.fr a ha
    refine ⟨g1.elim (fun z => .inl (up2 a z)) .inr, fun z => ?_⟩
    rw [fp_nd] at z
    have inH : a ∉ q :: (k.dxs ++ []) := fun v => by
      rcases List.mem_cons.mp v with u | u
      · subst u
        rcases g1 with t | t
        · exact qn t
        · rw [hcell] at t
          cases t
      · rw [List.append_nil] at u
        rcases g1 with t | t
        · exact dn a u t
        · obtain ⟨o, ho⟩ := dstand a u
          rw [t] at ho
          cases ho
    rcases List.mem_cons.mp z with v | v
    · exact inH (List.mem_cons.mpr (.inl v))
    · rcases List.mem_append.mp v with u | u
      · exact inH (List.mem_cons_of_mem _ (by rw [List.append_nil]; exact u))
      · rcases m2 a u with t | ⟨t, t2⟩
        · exact g2 t
        · rcases g1 with s | s
          · exact t2 s
          · obtain ⟨o, ho⟩ := stands a t
            rw [s] at ho
            cases ho
/-- a list gets other items -/
theorem Lx.lst {p : Addr} {xs ys : List D} {us : List V} (ok : SlOk K F H (.ow p xs) (some (.ref p))) (le : Same F H) (d : DqA K F ys us) : Lx K [] (.ow p xs) (.ref p) F H (.pu .non) .non (.ow p ys) F (upd H p (.lst us)) := by
  obtain ⟨_, hp, vs, hv, _⟩ := slok_ow.mp ok
  refine ⟨Same.refl _, fun a o ha h => ?_, fun a h => ?_, slok_ow.mpr ⟨rfl, hp, us, upd_same, d⟩, by rw [fp_ow]; exact List.pairwise_singleton _ _, fun a ha => .inl (by rw [fp_ow] at ha ⊢; exact ha), fun b o h => ?_, fun a h => .inl h, slok_pu.mpr ⟨_, rfl, rfl⟩, fun a ha => ?_, by rw [fp_pu]; exact List.nodup_nil⟩
  · rw [upd_ne fun z => ha (mem_ow.mpr z)]
    exact h
  · by_cases z : a = p
    · subst z
      rw [upd_same] at h
      cases h
    · rw [upd_ne z] at h
      exact h
  · rw [upd_ne (ne_of_none h hp)]
    exact le b o h
  · rw [fp_pu] at ha
    cases ha
/-- junk -/
theorem Step.junk {s s1 : Ss} {σ : L2.St} {F1 H1 : Hp} {p : Addr} {o : HO} (st : Step K s F H s1 F1 H1 σ) (hp : H1 p = none) : Step K s F H s1 F1 (upd H1 p o) σ := by
  have sm : Same H1 (upd H1 p o) := same_upd hp
  exact ⟨⟨st.st.le.trans sm, st.st.len, fun i l o q1 q2 => SlOk.mono l (Same.refl _) (fun b _ u h1 h2 => ⟨h1, sm b u h2⟩) (st.st.ok i l o q1 q2), st.st.un, st.st.nd⟩, st.f, fun a o h h2 => sm a o (st.k a o h h2), fun a h => st.t a (sm.free h), st.n, st.o⟩
def aDicK : AE := fun s P => ∀ p, P (.nd p (.dk []) []) s
theorem fp_leaf (p : Addr) (k : NK) (hk : k.dxs = []) : fp (.nd p k []) = [p] := by rw [fp_nd, hk, fpA]; rfl
theorem sim_dicK : Sim K tDNewK aDicK := fun s P q σ F H ok Q k p hp => by
  have fpe : fp (.nd p (.dk []) []) = [p] := fp_leaf p _ rfl
  obtain ⟨st, rs⟩ := (Step.refl ok).leaf (r := .nd p (.dk []) []) (v := .ref p) (F2 := F) (H2 := upd H p (.dK [])) ⟨Same.refl _, same_upd hp, ok.le.trans (same_upd hp), fun _ h => .inl h, slok_nd.mpr ⟨rfl, ok.le.free hp, fun b hb => (by cases hb), trivial, ⟨rfl, List.nodup_nil⟩, [], upd_same, slokA_nil.mpr rfl⟩,
    fun b hb => (by rw [fpe] at hb; rw [List.mem_singleton.mp hb]; exact hp), (by rw [fpe]; exact List.pairwise_singleton _ _)⟩
  exact k _ s _ F _ (q p) st rs
theorem d_dicK {X : Cx} {pos : Pos} : DE X (.Dict [] [] pos) tDNewK aDicK := ⟨pe_dnewK, sim_dicK⟩
def keyD : D → Option Key
  | .int i => some (.inl i)
  | .str x => some (.inr x)
  | _ => none
theorem keyD_ok {d : D} {k : Key} {v : V} (h : keyD d = some k) (q : Dq K F d v) : v = kV k := by
  cases d <;> first | (cases h; done) | (cases h; exact q)
def sdApp (i : Nat) (path : Pth) (q : Addr) (k : Key) (ae : AE) (A : AEnds) (pc : Addr) (s2 : Ss) : Prop := ae s2 fun re s3 => match plc s3 i path with
  | some (.nd q3 (.dk ks) ts) => q3 = q ∧ ∃ j xs, ixA ks k = some j ∧ ts[j]? = some (.ow pc xs) ∧ xs.length < 100000 ∧ A.nx (setP s3 i path (.nd q3 (.dk ks) (ts.set j (.ow pc (xs ++ [re.d])))))
  | _ => False
def aSdApp (i : Nat) (path : Pth) (ak ae : AE) : AS := fun A s => match plc s i path with
  | some (.nd q (.dk _) _) => ak s fun rk s1 => ∃ k, keyD rk.d = some k ∧ match plc s1 i path with
    | some (.nd q1 (.dk ks) ts) => q1 = q ∧ ks.length < 100000 ∧ match ixA ks k with
      | some j => ∃ pc xs, ts[j]? = some (.ow pc xs) ∧ sdApp i path q k ae A pc s1
      | none => ∀ p, sdApp i path q k ae A p (setP s1 i path (.nd q (.dk (ks ++ [k])) (ts ++ [.ow p []])))
    | _ => False
  | _ => False
theorem sims_sdApp {i : Nat} {path : Pth} {tk te : TE} {ak ae : AE} (hc : FOk K path) (hk : Sim K tk ak) (he : Sim K te ae) :
    SimS K (tDrop (tBM K "list" rAppend (tDSetd (tFlds K (tVar i) path) tk (tLst tNil)) (tCons te tNil))) (aSdApp i path ak ae) := fun A s q σ F H ok E kn kr kb kc => by
  unfold aSdApp at q
  cases e0 : plc s i path with
  | none =>
    rw [e0] at q
    exact q.elim
  | some l0 =>
    rw [e0] at q
    cases l0 with
    | no => exact q.elim
    | pu d => exact q.elim
    | ow p xs => exact q.elim
    | nd q0 kk0 ts0 =>
      cases kk0 <;> first | exact q.elim | skip
      rename_i ks0
      obtain ⟨g1, _, _, g4, _⟩ := (Step.refl ok).placeR e0 rfl hc
      obtain ⟨_, _, _, _, _, vs0, hcell0, _⟩ := slok_nd.mp g1
      refine g4 _ ⟨q0, rfl, .inl ⟨_, Rd.of hcell0⟩, ?_⟩
      refine hk.d q ok fun rk s1 v1 F1 H1 q1 st1 d1 => ?_
      obtain ⟨k, ek, q1⟩ := q1
      cases keyD_ok ek d1
      refine ⟨Nat.zero_le _, fun p hp => ?_⟩
      cases e1 : plc s1 i path with
      | none =>
        simp only [e1] at q1
      | some l1 =>
        simp only [e1] at q1
        cases l1 with
        | no => exact q1.elim
        | pu d => exact q1.elim
        | ow p xs => exact q1.elim
        | nd q1' kk ts =>
          cases kk <;> first | exact q1.elim | skip
          rename_i ks
          simp only at q1
          obtain ⟨rfl, hlt, q1⟩ := q1
          have stj := st1.junk (o := .lst []) hp
          obtain ⟨k1, k2, k3, k4, k5⟩ := stj.placeR e1 rfl hc
          obtain ⟨_, hfq, _, _, hlen, vs, hcell, hts⟩ := slok_nd.mp k1
          have hlen2 : ks.length = vs.length := by rw [hts.len]; exact hlen.1
          -- the rest, from a state in which the list stands at pc
          have fin : ∀ (s2 : Ss) (F2 H2 : Hp) (pc : Addr), Step K s F H s2 F2 H2 σ → (∃ us, H2 pc = some (.lst us)) → sdApp i path q1' k ae A pc s2 → tyV K "list" (.ref pc) H2 ∧ tCons te tNil σ H2 fun xs H3 => rAppend (.ref pc) xs H3 fun _ H4 => E.nx σ H4 := fun s2 F2 H2 pc st2 hpc hq => by
            obtain ⟨us, hus⟩ := hpc
            refine ⟨tyV_list hus, ?_⟩
            refine he.d hq st2.st fun re s3 v3 F3 H3 q3 st3 d3 => ?_
            cases e3 : plc s3 i path with
            | none =>
              simp only [e3] at q3
            | some l3 =>
              simp only [e3] at q3
              cases l3 with
              | no => exact q3.elim
              | pu d => exact q3.elim
              | ow p xs => exact q3.elim
              | nd q3' kk3 ts3 =>
                cases kk3 <;> first | exact q3.elim | skip
                rename_i ks3
                simp only at q3
                obtain ⟨rfl, j, xs, ej, et, hx, hnx⟩ := q3
                have st23 := st2.trans st3
                obtain ⟨m1, m2, m3, m4, m5⟩ := st23.placeR e3 rfl hc
                obtain ⟨_, _, _, _, _, vs3, _, hts3⟩ := slok_nd.mp m1
                obtain ⟨x3, ex3, eok3⟩ := hts3.get et
                obtain ⟨_, _, us3, hu3, du3⟩ := slok_ow.mp eok3
                have dd : DqA K F3 (xs ++ [re.d]) (us3 ++ [v3]) := du3.append (es := [re.d]) (ys := [v3]) ⟨v3, [], rfl, d3, rfl⟩
                obtain ⟨x, c1, c2, c3⟩ := Lx.child (ex := []) (r := .pu .non) (w := .non) (c' := .ow pc (xs ++ [re.d])) (F2 := F3) (H2 := upd H3 pc (.lst (us3 ++ [v3]))) m1 m2 et (fun a ha => by cases ha)
                have exx := (slok_ow.mp c1).1
                cases exx
                have y := c3 (Lx.lst c1 st23.st.le dd)
                obtain ⟨st4, _⟩ := m5 [] exok_nil _ _ _ _ _ y
                refine ⟨pc, us3, v3, rfl, rfl, hu3, by rw [du3.length]; exact sz_lt hx, ?_⟩
                exact kn _ σ F3 _ hnx st4
          cases ei : ixA ks k with
          | some j =>
            rw [ei] at q1
            obtain ⟨pc, xs, et, hq⟩ := q1
            obtain ⟨x, ex, eok⟩ := hts.get et
            obtain ⟨exx, _, us, hus, _⟩ := slok_ow.mp eok
            cases exx
            refine ⟨ks.zip vs, k, hcell, rfl, by rw [List.length_zip]; exact Nat.lt_of_le_of_lt (Nat.min_le_left _ _) (sz_lt hlt), fun v hv => ?_, fun hv => ?_⟩
            · rw [valV_ix hlen2, ei, Option.bind_some, ex] at hv
              cases hv
              exact fin s1 F1 _ pc stj ⟨us, hus⟩ hq
            · rw [valV_ix hlen2, ei, Option.bind_some, ex] at hv
              cases hv
          | none =>
            rw [ei] at q1
            refine ⟨ks.zip vs, k, hcell, rfl, by rw [List.length_zip]; exact Nat.lt_of_le_of_lt (Nat.min_le_left _ _) (sz_lt hlt), fun v hv => ?_, fun hv => ?_⟩
            · rw [valV_ix hlen2, ei] at hv
              cases hv
            · have e2 := putK_ix ks vs k (.ref p) hlen2 hlen.2
              rw [ei] at e2
              simp only at e2
              rw [e2]
              -- from s1 with H1 to the tree with the new list
              obtain ⟨w1, w2, w3, w4, w5⟩ := st1.placeR e1 rfl hc
              obtain ⟨_, hfq1, _, _, _, vs1, hcell1, hts1⟩ := slok_nd.mp w1
              have npq : p ≠ q1' := fun z => by
                subst z
                rw [hcell1] at hp
                cases hp
              rw [fp_nd] at w2
              obtain ⟨n1, n2⟩ := List.nodup_cons.mp w2
              have n2' : (fpA ts).Nodup := by simpa [NK.dxs] using n2
              have n1' : q1' ∉ fpA ts := by simpa [NK.dxs] using n1
              have fp1 : F1 p = none := st1.st.le.free hp
              have pn : p ∉ fpA ts := fun z => by
                obtain ⟨_, u, hu⟩ := SlOkA.own ts hts1 z
                rw [hp] at hu
                cases hu
              have fpe : fp (.nd q1' (.dk (ks ++ [k])) (ts ++ [.ow p []])) = q1' :: (fpA ts ++ [p]) := by
                rw [fp_nd, fpA_app, fpA_cons, fpA_nil, fp_ow]
                rfl
              have y : Lx K [] (.nd q1' (.dk ks) ts) (.ref q1') F1 H1 (.pu .non) .non (.nd q1' (.dk (ks ++ [k])) (ts ++ [.ow p []])) F1 (upd (upd H1 p (.lst [])) q1' (.dK ((ks ++ [k]).zip (vs ++ [.ref p])))) := by
                have atp : (upd (upd H1 p (.lst [])) q1' (.dK ((ks ++ [k]).zip (vs ++ [.ref p])))) p = some (.lst []) := by
                  rw [upd_ne npq, upd_same]
                refine ⟨Same.refl _, fun a o ha h => ?_, fun a h => ?_, slok_nd.mpr ⟨rfl, hfq1, fun b hb => (by cases hb), trivial, ⟨by simp [hlen.1], ?_⟩, _, upd_same, ?_⟩, ?_, fun a ha => ?_, fun b o h => ?_, fun a h => .inl h, slok_pu.mpr ⟨_, rfl, rfl⟩, fun a ha => ?_, by rw [fp_pu]; exact List.nodup_nil⟩
                · rw [upd_ne fun z => ha (by rw [fp_nd, z]; exact List.mem_cons_self), upd_ne (ne_of_none h hp)]
                  exact h
                · by_cases z : a = q1'
                  · subst z
                    rw [upd_same] at h
                    cases h
                  · rw [upd_ne z] at h
                    exact (same_upd hp).free h
                · exact List.nodup_append.mpr ⟨hlen.2, List.pairwise_singleton _ _, fun a ha b hb z => by
                    rw [List.mem_singleton.mp hb] at z
                    subst z
                    exact ixA_none.mp ei ha⟩
                · refine slokA_snoc (SlOkA.mono ts (Same.refl _) (fun b hb u h1 h2 => ⟨h1, ?_⟩) hts) (slok_ow.mpr ⟨rfl, fp1, [], atp, rfl⟩)
                  rw [upd_ne fun z => n1' (by rw [← z]; exact hb)]
                  exact h2
                · rw [fpe]
                  refine List.nodup_cons.mpr ⟨fun z => ?_, List.nodup_append.mpr ⟨n2', List.pairwise_singleton _ _, fun a ha b hb z => ?_⟩⟩
                  · rcases List.mem_append.mp z with y | y
                    · exact n1' y
                    · exact npq (List.mem_singleton.mp y).symm
                  · rw [List.mem_singleton.mp hb] at z
                    subst z
                    exact pn ha
                · rw [fpe] at ha
                  rcases List.mem_cons.mp ha with y | y
                  · exact .inl (by rw [fp_nd, y]; exact List.mem_cons_self)
                  · rcases List.mem_append.mp y with z | z
                    · exact .inl (by rw [fp_nd]; exact List.mem_cons_of_mem _ (List.mem_append_right _ z))
                    · exact .inr (.inl (by rw [List.mem_singleton.mp z]; exact hp))
                · rw [upd_ne (ne_of_none h hfq1), upd_ne (ne_of_none h fp1)]
                  exact st1.st.le b o h
                · rw [fp_pu] at ha
                  cases ha
              obtain ⟨st2, _⟩ := w5 [] exok_nil _ _ _ _ _ y
              exact fin _ F1 _ p st2 ⟨[], by rw [upd_ne npq, upd_same]⟩ (q1 p)
end
end DL
namespace DL
open PySem L2
def strsD : List D → Option (List Str)
  | [] => some []
  | .str x :: ds => (strsD ds).map (x :: ·)
  | _ :: _ => none
theorem strsD_map : ∀ xs : List Str, strsD (xs.map D.str) = some xs
  | [] => rfl
  | x :: xs => by
    rw [List.map_cons, strsD, strsD_map xs]
    rfl
theorem strsD_eq : ∀ {ds : List D} {xs : List Str}, strsD ds = some xs → ds = xs.map D.str
  | [], xs, h => by
    cases h
    rfl
  | d :: ds, xs, h => by
    cases d <;> first | (cases h; done) | skip
    rename_i x
    rw [strsD] at h
    cases e : strsD ds with
    | none =>
      rw [e] at h
      cases h
    | some ys =>
      rw [e] at h
      cases h
      rw [strsD_eq e]
      rfl
section
variable {K : PySem.W.Frag} {F H : Hp} {te ta tb : TE} {aa ab : AE} {s : Ss} {σ : L2.St}
theorem of_dqa_strs : ∀ (ns : List Str) (xs : List V), DqA K F (ns.map D.str) xs → xs = ns.map V.str
  | [], xs, h => h
  | n :: ns, xs, h => by
    obtain ⟨x, r, h1, h2, h3⟩ := h
    have e : x = .str n := h2
    rw [h1, e, of_dqa_strs ns r h3]
    rfl
theorem dqa_strs : ∀ (ns : List Str), DqA K F (ns.map D.str) (ns.map V.str)
  | [] => rfl
  | n :: ns => ⟨.str n, ns.map V.str, rfl, rfl, dqa_strs ns⟩
def aM1 (f : Str → D → (Sl → Prop) → Prop) (a b : AE) : AE := fun s P => a s fun r s1 => match r.d with
  | .str x => b s1 fun r2 s2 => f x r2.d fun rs => P rs s2
  | _ => False
/-- a method of a text, by values -/
def RM1 (K : PySem.W.Frag) (r : V → List V → Hp → VK → Prop) (f : Str → D → (Sl → Prop) → Prop) : Prop := ∀ x d P, f x d P → ∀ F H v, Same F H → Dq K F d v → ∀ Q : VK, (∀ rs w F' H', P rs → Lf K F H rs w F' H' → Q w H') → r (.str x) [v] H Q
theorem sim_m1 {r : V → List V → Hp → VK → Prop} {f : Str → D → (Sl → Prop) → Prop} (hr : RM1 K r f) (ha : Sim K ta aa) (hb : Sim K tb ab) : Sim K (tM1 r ta tb) (aM1 f aa ab) := fun s P q σ F H ok Q k => by
  refine ha.d q ok fun r s1 v F1 H1 q1 st1 d1 => ?_
  cases e : r.d <;> simp only [e] at q1
  rename_i x
  rw [e] at d1
  cases (show v = _ from d1)
  refine ⟨⟨x, rfl⟩, ?_⟩
  refine hb.d q1 st1.st fun r2 s2 w F2 H2 q2 st2 d2 => ?_
  refine hr x _ _ q2 F2 H2 w st2.st.le d2 Q fun rs w F3 H3 hp l => ?_
  obtain ⟨st3, rs3⟩ := (st1.trans st2).leaf l
  exact k rs s2 w F3 H3 hp st3 rs3
def fSplit : Str → D → (Sl → Prop) → Prop := fun x d P => match d with
  | .str y => (y.length == 0) = false ∧ x.length ≤ 100000 ∧ ∀ p, P (.ow p ((Txt.split x y).map D.str))
  | _ => False
def rSplit : V → List V → Hp → VK → Prop := fun x xs H Q => ∃ a b, x = .str a ∧ xs = [.str b] ∧ (b.length == 0) = false ∧ a.length + 2 ≤ sizeLine ∧ rNewStrs (Txt.split a b) H Q
theorem rm_split : RM1 K rSplit fSplit := fun x d P q F H v le dv Q k => by
  cases d <;> first | exact q.elim | skip
  rename_i y
  cases (show v = _ from dv)
  obtain ⟨q1, q2, q3⟩ := q
  refine ⟨x, y, rfl, rfl, q1, by rw [sizeLine_eq]; omega, fun p hp => ?_⟩
  exact k _ _ F _ (q3 p) (Lf.newL le hp (dqa_strs (Txt.split x y)))
def seqS : D → Option (List Str)
  | .lst ds => strsD ds
  | .tup ds => strsD ds
  | _ => none
def fJoin : Str → D → (Sl → Prop) → Prop := fun x d P => ∃ ys, seqS d = some ys ∧ (ys.map (·.length)).sum + ys.length * x.length ≤ 1000000 ∧ P (.pu (.str (Txt.join x ys)))
def rJoinS (K : PySem.W.Frag) : V → List V → Hp → VK → Prop := fun x xs H Q => ∃ a p, ∃ ys : List Str, x = .str a ∧ xs = [.ref p] ∧ (SqL K H p (ys.map V.str) ∨ SqT K H p (ys.map V.str)) ∧
      (ys.map (·.length)).sum + ys.length * a.length ≤ 16777216 ∧ Q (.str (Txt.join a ys)) H
theorem rm_join : RM1 K (rJoinS K) fJoin := fun x d P q F H v le dv Q k => by
  obtain ⟨ys, e, hl, q⟩ := q
  have fin : ∀ p, (SqL K H p (ys.map V.str) ∨ SqT K H p (ys.map V.str)) → v = .ref p → rJoinS K (.str x) [v] H Q := fun p hp ev => by
    subst ev
    exact ⟨x, p, ys, rfl, rfl, hp, by omega, k _ _ F H q (Lf.same le _ _ rfl)⟩
  cases d <;> first | (cases e; done) | skip
  · rename_i ds
    obtain ⟨a, xs, rfl, h1, h2⟩ := dv
    rw [strsD_eq e] at h2
    rw [of_dqa_strs ys xs h2] at h1
    exact fin a (.inr (Same.sqt le h1)) rfl
  · rename_i ds
    obtain ⟨a, xs, rfl, h1, h2⟩ := dv
    rw [strsD_eq e] at h2
    rw [of_dqa_strs ys xs h2] at h1
    exact fin a (.inl (SqL.of (le _ _ h1))) rfl
theorem d_split {X : Cx} {o e : Expr} {apos pos : Pos} (ho : DE X o ta aa) (he : DE X e tb ab) (hs : starEach [e] X.env = [(false, eval e X.env)] := by rfl) (hbase : attributeBase o "split" X.env (eval o X.env) = eval o X.env := by rfl) (hline : (apos.endLine == pos.line) = true := by rfl) :
    DE X (.Call (.Attribute o "split" apos) [e] [] pos) (tM1 rSplit ta tb) (aM1 fSplit aa ab) := ⟨pe_split ho.pe he.pe hs hbase hline, sim_m1 rm_split ho.sm he.sm⟩
theorem d_join {X : Cx} (hK : X.K = K := by rfl) {o e : Expr} {apos pos : Pos} (ho : DE X o ta aa) (he : DE X e tb ab) (hs : starEach [e] X.env = [(false, eval e X.env)] := by rfl) (hbase : attributeBase o "join" X.env (eval o X.env) = eval o X.env := by rfl) (hline : (apos.endLine == pos.line) = true := by rfl) :
    DE X (.Call (.Attribute o "join" apos) [e] [] pos) (tM1 (rJoinS K) ta tb) (aM1 fJoin aa ab) := by
  subst hK
  exact ⟨pe_join ho.pe he.pe hs hbase hline, sim_m1 rm_join ho.sm he.sm⟩
abbrev sI (i : Int) : Str := Str.ofString (toString i)
def aStrI : ARC := fun ds P => match ds with
  | [.int i] => (-(10 ^ 60) < i ∧ i < 10 ^ 60) ∧ P (.pu (.str (sI i)))
  | _ => False
theorem rc_strI : RC K (fun xs H Q => ∃ i, xs = [.int i] ∧ i.natAbs.log2 < 1920 ∧ Q (.str (toString i)) H) aStrI := fun ds P q F H xs le dx Q k => by
  unfold aStrI at q
  split at q <;> first | exact q.elim | skip
  rename_i i
  obtain ⟨v, rfl, h⟩ := dqa1 dx
  cases (show v = _ from h)
  refine ⟨i, rfl, ?_, k _ _ F H q.2 (Lf.same le _ _ rfl)⟩
  have h1 := int60 q.1
  by_cases hz : i.natAbs = 0
  · rw [hz]
    decide
  · exact (Nat.log2_lt hz).mpr (Nat.lt_of_lt_of_le h1 (by decide +kernel))
def aIntS : ARC := fun ds P => match ds with
  | [.str x] => ∃ n, PySem.intText? x = some n ∧ x.length ≤ 640 ∧ P (.pu (.int n))
  | _ => False
theorem rc_intS : RC K (fun xs H Q => ∃ a n, xs = [.str a] ∧ PySem.intText? a = some n ∧ a.length ≤ 640 ∧ Q (.int n) H) aIntS := fun ds P q F H xs le dx Q k => by
  unfold aIntS at q
  split at q <;> first | exact q.elim | skip
  rename_i x
  obtain ⟨n, h1, h2, q⟩ := q
  obtain ⟨v, rfl, h⟩ := dqa1 dx
  cases (show v = _ from h)
  exact ⟨x, n, rfl, h1, h2, k _ _ F H q (Lf.same le _ _ rfl)⟩
def aLenS : ARC := fun ds P => match ds with
  | [.str x] => x.length ≤ 16000000 ∧ P (.pu (.int x.length))
  | _ => False
theorem rc_lenS : RC K (fun xs H Q => ∃ z, xs = [.str z] ∧ z.length ≤ sizeLine ∧ Q (.int z.length) H) aLenS := fun ds P q F H xs le dx Q k => by
  unfold aLenS at q
  split at q <;> first | exact q.elim | skip
  rename_i x
  obtain ⟨v, rfl, h⟩ := dqa1 dx
  cases (show v = _ from h)
  exact ⟨x, rfl, by have := q.1; rw [sizeLine_eq]; omega, k _ _ F H q.2 (Lf.same le _ _ rfl)⟩
def sgn1 : Str → Option Nat
  | ⟨⟨[c]⟩⟩ => some c
  | _ => none
theorem sgn1_eq {x : Str} {c : Nat} (h : sgn1 x = some c) : x = ⟨#[c]⟩ := by
  unfold sgn1 at h
  split at h
  · cases h
    rfl
  · cases h
def aInSg (neg : Bool) : AR2 := fun d e P => match d, e with
  | .str x, .str z => ∃ c, sgn1 x = some c ∧ P (.pu (.bl (if neg then !decide (c ∈ z.cps.toList) else decide (c ∈ z.cps.toList))))
  | _, _ => False
theorem rd_inSg : RD K (fun x y H Q => ∃ (c : Nat) (z : Str), x = .str ⟨#[c]⟩ ∧ y = .str z ∧ Q (.bl (decide (c ∈ z.cps.toList))) H) (aInSg false) := fun d e P q F H x y le dx dy Q k => by
  cases d <;> cases e <;> first | exact q.elim | skip
  cases (show x = _ from dx)
  cases (show y = _ from dy)
  obtain ⟨c, h1, h2⟩ := q
  rw [sgn1_eq h1]
  exact ⟨c, _, rfl, rfl, k _ _ F H h2 (Lf.same le _ _ rfl)⟩
theorem d_inSg {X : Cx} {ea eb : Expr} {pos : Pos} (ha : DE X ea ta aa) (hb : DE X eb tb ab) (hm : behindInMarks .In eb = false := by rfl) : DE X (.Compare ea [.In] [eb] pos) (tOp (fun x y H Q => ∃ (c : Nat) (z : Str), x = .str ⟨#[c]⟩ ∧ y = .str z ∧ Q (.bl (decide (c ∈ z.cps.toList))) H) ta tb) (aOp (aInSg false) aa ab) := d_cmp op_in_sign rd_inSg ha hb hm
def aIxStr : AR2 := fun d e P => match d, e with
  | .str z, .int i => z.length ≤ 16000000 ∧ ∃ c, atI z.cps.toList i = some c ∧ P (.pu (.str ⟨#[c]⟩))
  | _, _ => False
theorem rd_ixStr : RD K rIxS aIxStr := fun d e P q F H x y le dx dy Q k => by
  cases d <;> cases e <;> first | exact q.elim | skip
  cases (show x = _ from dx)
  cases (show y = _ from dy)
  obtain ⟨h1, c, h2, h3⟩ := q
  exact ⟨_, _, c, rfl, rfl, by rw [sizeLine_eq]; omega, h2, k _ _ F H h3 (Lf.same le _ _ rfl)⟩
theorem d_ixStr {X : Cx} {ea eb : Expr} {pos : Pos} (ha : DE X ea ta aa) (hb : DE X eb tb ab) (hs : PlainIx eb := by exact fun _ _ => rfl) : DE X (.Subscript ea eb pos) (tOp rIxS ta tb) (aOp aIxStr aa ab) := ⟨pe_ix ix_str ha.pe hb.pe hs, sim_op rd_ixStr ha.sm hb.sm⟩
def aItS (a : AE) : AI := fun s P => a s fun r s1 => match r.d with
  | .str z => P (z.cps.toList.map fun c => D.str ⟨#[c]⟩) s1
  | _ => False
theorem simi_str (h : Sim K te aa) : SimI K (iStr te) (aItS aa) := fun s P q σ F H ok R k => by
  refine h.d q ok fun r s1 v F1 H1 q1 st1 d1 => ?_
  cases e : r.d <;> simp only [e] at q1
  rename_i z
  rw [e] at d1
  cases (show v = _ from d1)
  refine ⟨z, rfl, k _ s1 _ F1 H1 q1 st1 ⟨fun _ => True, fun i H v H' => H' = H ∧ ∃ c, z.cps[i]? = some c ∧ v = .str ⟨#[c]⟩, ?_, fun _ _ => trivial, fun i H2 x H3 e y d hd F2 e1 e2 => ?_⟩⟩
  · have : (z.cps.toList.map fun c => D.str ⟨#[c]⟩).length = z.cps.size := by simp
    rw [this]
    exact walk_str
  · obtain ⟨rfl, c, hc, rfl⟩ := y
    rw [List.getElem?_map, Array.getElem?_toList, hc] at hd
    cases hd
    exact ⟨F2, Lf.same e2 _ _ rfl⟩
theorem di_str {X : Cx} {tg e : Expr} (h : DE X e te aa) : DI X tg e (iStr te) (aItS aa) := ⟨pi_str h.pe, simi_str h.sm⟩
end
end DL
namespace DL
open PySem PySem.Spec L2 PyProof.Rows
/-- ks are the unlike ones among ns -/
def Dist (ns ks : List Int) : Prop := ks.Nodup ∧ ∀ j, j ∈ ks ↔ j ∈ ns
def tLenSetT (K : PySem.W.Frag) (ta : TE) : TE := fun σ H Q => ta σ H fun x H1 => ∃ (l : Addr) (ns : List Int), x = .ref l ∧ SqT K H1 l (ns.map V.int) ∧ ns.length ≤ 4000 ∧ ∀ ks, Dist ns ks → Q (.int (ks.length : Nat)) H1
theorem pe_lenSetT {X : Cx} {a : Expr} {ta : TE} {p p2 q pos : Pos} (hg : Gl X "len") (hm : X.mg "len" = none) (hg2 : Gl X "set") (hm2 : X.mg "set" = none) (ha : PE X a ta) (hc : X.calm = true := by rfl)
    (na : starEach [a] X.env = (false, eval a X.env) :: starEach [] X.env := by rfl) : PE X (.Call (.Name "len" p) [.Call (.Name "set" p2) [a] [] q] [] pos) (tLenSetT X.K ta) := by
  refine ⟨fun pins s σ H Q I h => ?_⟩
  refine Call_ (ld_blt I hg hm boot_len ?_)
  refine PyProof.Rows.callWith_builtin1 (PyProof.Rows.args_cons ?_ rfl) rfl rfl
  refine Call_ (ld_blt I hg2 hm2 PyProof.Rows.boot_set ?_)
  refine PyProof.Rows.callWith_type1 (PyProof.Rows.args_cons (thn (ha.run pins s σ H _ I h) fun v s1 ⟨x, H1, I1, r1, q1⟩ => PyProof.Rows.args_nil ?_) na) na rfl
  obtain ⟨l, ns, rfl, hq, hl, q1⟩ := q1
  cases r1
  obtain ⟨its, r, pl, hz⟩ := I1.tuple hq
  refine call_set_tupI ns (I1.ok.hd hc) (show s1.heap.IsTuple l its.toArray from pl) (by simpa using RZ.intsAre_vals r) (by unfold scanBound; omega) fun h' tk c R1 hcn k => ?_
  refine PyProof.Rows.args_nil ?_
  obtain ⟨o, es, ep, t, ho, hex, hdt, g, nd, hm2, hb, hf, hn, hr, hl2⟩ := R1
  have I2 : Inv X pins σ H1 { s1 with heap := h', toks := tk } := I1.kept fun b o e => k b o e
  have hd : Dist ns (es.toList.map L2.keyOf) := ⟨nd, fun j => by rw [← hm2 j, decide_eq_true_eq]⟩
  refine call_len_set ho hex hdt hf (by unfold scanBound at hb; omega) ?_
  have hq := q1 _ hd
  rw [List.length_map, Array.length_toList] at hq
  exact ⟨.int (es.size : Nat), H1, I2.tok _, ⟨_, rfl⟩, hq⟩
end DL
namespace DL
open PySem L2
section
variable {K : PySem.W.Frag} {te : TE} {a : AE}
theorem sim_lenSetT (h : Sim K te a) : Sim K (tLenSetT K te) (fun s P => a s fun r s1 => match r.d with
    | .tup ds => ∃ ns, intsD ds = some ns ∧ ns.length ≤ 4000 ∧ ∀ ks : List Int, Dist ns ks → P (.pu (.int ks.length)) s1
    | _ => False) := fun s P q σ F H ok Q k => by
  refine h.d q ok fun r s1 v F1 H1 q1 st1 d1 => ?_
  cases e : r.d <;> simp only [e] at q1
  rename_i ds
  obtain ⟨ns, en, hl, q1⟩ := q1
  rw [e, intsD_eq en] at d1
  obtain ⟨l, xs, rfl, h1, h2⟩ := d1
  rw [of_dqa_ints ns xs h2] at h1
  exact ⟨l, ns, rfl, Same.sqt st1.st.le h1, hl, fun ks hk => k _ s1 _ F1 H1 (q1 ks hk) st1 (.pu rfl)⟩
def aLenSetT (a : AE) : AE := fun s P => a s fun r s1 => match r.d with
    | .tup ds => ∃ ns, intsD ds = some ns ∧ ns.length ≤ 4000 ∧ ∀ ks : List Int, Dist ns ks → P (.pu (.int ks.length)) s1
    | _ => False
theorem d_lenSetT {X : Cx} (hK : X.K = K := by rfl) {ea : Expr} {p p2 q pos : Pos} (hm : X.mg "len" = none) (hm2 : X.mg "set" = none) (h : DE X ea te a) (hg : Gl X "len" := by rfl) (hg2 : Gl X "set" := by rfl) (hc : X.calm = true := by rfl)
    (na : starEach [ea] X.env = (false, eval ea X.env) :: starEach [] X.env := by rfl) : DE X (.Call (.Name "len" p) [.Call (.Name "set" p2) [ea] [] q] [] pos) (tLenSetT K te) (aLenSetT a) := by
  subst hK
  exact ⟨pe_lenSetT hg hm hg2 hm2 h.pe hc na, sim_lenSetT h.sm⟩
end
end DL
namespace DL
open PySem PySem.Builtin PySem.Spec L2 PyProof.Rows
theorem special_own {prog : Program} {w : World} {A : Around} {E : Value → Shared → Prop} {s : Shared} {K : PySem.W.Frag} {a C f : Addr} {ox : Obj} {od : Option Obj} {name : Str} {Q : Option Value → Shared → Prop} (X : K.In s.heap) (I : PySem.W.InstAt s.heap a ox C od)
    (hf : PySem.W.findIn K (.ref C) name = some (some (.ref f))) (ht : PySem.W.typeIn K (.ref f) = some (.type "function")) (h : wpAny (model prog w) A (call (.ref f) [.ref a]) (fun v s' => Q (some v) s') E s) : wpAny (model prog w) A (callSpecial? (.ref a) name []) Q E s := by
  unfold callSpecial? specialOf
  refine wpAny_bind (wpAny_bind (I.type.here ((PySem.W.looks_findIn X hf).here ?_)))
  refine wpAny_holding ?_
  refine wpAny_bind ((PySem.W.bind_fn X (.ref a) ht).here ?_)
  exact wpAny_bind (wpAny_mono h (fun v s' h => wpAny_pure h) fun _ _ z => z)
section
variable {X : Cx} {CX : CXT} {k : Nat} {C f : Addr} {fd : FuncData} {ps : List Str} {sp : Sp} {E : XK}
/-- what len asks of an own class -/
structure LenC (K : PySem.W.Frag) (C f : Addr) : Prop where
  cl : Cls K C
  at_ : PySem.W.findIn K (.ref C) "__len__" = some (some (.ref f))
  fn : PySem.W.typeIn K (.ref f) = some (.type "function")
def rLenOwn (C : Addr) (sp : Sp) (E : XK) : List V → Hp → VK → Prop := fun xs H Q => ∃ a dx fs, xs = [.ref a] ∧ H a = some (.ins C dx fs) ∧ sp [.ref a] H (fun v H' => ∃ n : Int, v = .int n ∧ 0 ≤ n ∧ n < 2 ^ 63 ∧ Q (.int n) H') E
theorem cr_lenOwn (c : LenC X.K C f) (F : FnOk X.prog X.w X.K X.mg X.base CX k f fd ps sp) (hr : Room (k + 1) X.A) (hb : Binds X.K fd ps []) (hx : Passes CX X.nox E) : CallR X (.builtin "len") (rLenOwn C sp E) := by
  intro pins s σ H xs us Q I r h
  obtain ⟨a, dx, fs, rfl, ea, hsp⟩ := h
  obtain ⟨u, rfl, ru⟩ := vals1 r
  obtain rfl : u = Value.ref a := ru
  obtain ⟨mA, O, _, _, _, _⟩ := ins_get I.hok ea
  obtain ⟨od, J, _⟩ := O.look
  have hl : ([Value.ref a] ++ []).length = ps.length := by
    rw [← F.len _ _ _ _ hsp]
    rfl
  refine Calls.call_function_entry kind_len plain_len entry_len (args_len1 _) ?_
  unfold Builtin.«len»
  refine wpAny_bind (m := oneArg "len" _) (wpAny_pure ?_)
  refine wpAny_bind (m := callSpecial? (.ref a) (Str.ofString "__len__")) (special_own I.kIn J c.at_ c.fn (wpAny_call ?_))
  refine codeAny_mono (F.run _ X.stack s H ⟨[.ref a], []⟩ [.ref a] [.ref a] _ E hr.in1 I.env0.in1 (hb s [.ref a] I.kIn hl) (.cons rfl .nil) hsp) fun r s' hq => ?_
  cases r with
  | error er => exact False.elim (hx pins σ H s er s' (I.wish _) hq)
  | ok fl =>
    cases fl with
    | ret u =>
      obtain ⟨v, H', I3, rv, n, rfl, h0, h1, q3⟩ := I.after hq
      obtain ⟨t, rfl⟩ := rv
      refine wpAny_bind (wpAny_holding (wpAny_pure ?_))
      refine wpAny_bind (wpAny_letGo ?_)
      show wpAny _ _ (if n < 0 then _ else _) _ _ _
      rw [if_neg (by omega)]
      show wpAny _ _ (if n ≥ 2 ^ 63 then _ else _) _ _ _
      rw [if_neg (by omega)]
      exact wpAny_bind (wpAny_mkInt (wpAny_pure ⟨_, rfl, .int n, H', I3.tok _, ⟨_, rfl⟩, q3⟩))
    | next => exact False.elim hq
    | brk => exact False.elim hq
    | cont => exact False.elim hq
end
section
variable {K : PySem.W.Frag} {te ta tb : TE} {aa ab : AE} {F H : Hp} {s : Ss} {σ : L2.St} {t : TA} {a : AA}
/-- len of a value that is an own instance -/
def aLenOwn (c : Str) (S : ARC) : ARC := fun ds P => match ds with
  | [.ins c' ns ds] => c' = c ∧ S [.ins c' ns ds] fun rs => ∃ n : Int, rs = .pu (.int n) ∧ 0 ≤ n ∧ n < 1000000 ∧ P rs
  | _ => False
theorem rc_lenOwn {c : Str} {S : ARC} {E : XK} : RC K (rLenOwn (clsA K c) (spD K 1 S) E) (aLenOwn c S) := fun ds P q F H xs le hdx Q k => by
  unfold aLenOwn at q
  split at q <;> first | exact q.elim | skip
  rename_i c' ns ds
  obtain ⟨rfl, q⟩ := q
  obtain ⟨v, rfl, h⟩ := dqa1 hdx
  have h2 := h
  obtain ⟨a, dx, vs, rfl, g1, g2, g3⟩ := h
  refine ⟨a, dx, _, rfl, le _ _ g1, F, [.ins c' ns ds], _, le, ⟨_, _, rfl, h2, rfl⟩, rfl, q, fun rs v F' H' hp l => ?_⟩
  obtain ⟨n, rfl, h0, h1, hP⟩ := hp
  obtain ⟨w, ew, hw⟩ := slok_pu.mp l.ok
  cases ew
  cases (show v = _ from hw)
  exact ⟨n, rfl, h0, by omega, k _ _ F' H' hP l⟩
theorem d_lenOwn {X : Cx} {c : Str} {S : ARC} {C f : Addr} {fd : FuncData} {ps : List Str} {k : Nat} {e : Expr} {es : List Expr} {p pos : Pos} (hK : X.K = K := by rfl) (hC : clsA K c = C) (L : LenC K C f) (F : FnOk X.prog X.w K X.mg X.base CX0 k f fd ps (spD K 1 S)) (hr : Room (k + 1) X.A) (hb : Binds K fd ps [])
    (hm : X.mg "len" = none) (ha : DA X (e :: es) t a) (hg : Gl X "len" := by rfl)
    (he : starEach (e :: es) X.env = (false, eval e X.env) :: starEach es X.env := by rfl) (hpl : (backTo pos (starEach es X.env)).any (·.1) = false := by rfl) : DE X (.Call (.Name "len" p) (e :: es) [] pos) (tCB (rLenOwn (clsA K c) (spD K 1 S) E0) t) (aCall (aLenOwn c S) a) := by
  subst hK
  subst hC
  exact ⟨pe_callB (cr_lenOwn L F hr hb pass0) hg hm PySem.boot_len ha.pe (by decide) (by decide) he hpl, sim_cb rc_lenOwn ha.sm⟩
mutual
def eoD : D → Prop
  | .non => True
  | .bl _ => True
  | .int _ => True
  | .str _ => True
  | .tup xs => eoA xs
  | .lst xs => eoA xs
  | .scr xs => eoA xs
  | _ => False
def eoA : List D → Prop
  | [] => True
  | d :: ds => eoD d ∧ eoA ds
end
mutual
theorem dp_ok : ∀ (d : D) (v : V), eoD d → Dq K F d v → Dp K F v (pyD d)
  | .non, v, _, h => by
    cases (show v = _ from h)
    exact .non
  | .bl b, v, _, h => by
    cases (show v = _ from h)
    exact .bl b
  | .int i, v, _, h => by
    cases (show v = _ from h)
    exact .int i
  | .str x, v, _, h => by
    cases (show v = _ from h)
    exact .str x
  | .tup ds, v, hs, h => by
    obtain ⟨a, xs, rfl, h1, h2⟩ := h
    exact .tup h1 (dp_oks ds xs (by simpa only [eoD] using hs) h2)
  | .lst ds, v, hs, h => by
    obtain ⟨a, xs, rfl, h1, h2⟩ := h
    exact .lst (SqL.of h1) (dp_oks ds xs (by simpa only [eoD] using hs) h2)
  | .scr ds, v, hs, h => by
    obtain ⟨a, xs, rfl, h1, h2⟩ := h
    exact .lst h1 (dp_oks ds xs (by simpa only [eoD] using hs) h2)
  | .ob f, v, hs, h => by simp only [eoD] at hs
  | .ins _ _ _, v, hs, h => by simp only [eoD] at hs
  | .dk _ _, v, hs, h => by simp only [eoD] at hs
  | .dt _ _, v, hs, h => by simp only [eoD] at hs
theorem dp_oks : ∀ (ds : List D) (vs : List V), eoA ds → DqA K F ds vs → DpAll K F vs (pyA ds)
  | [], vs, _, h => by
    cases (show vs = [] from h)
    exact .nil
  | d :: ds, vs, hs, h => by
    obtain ⟨x, r, rfl, h1, h2⟩ := h
    simp only [eoA] at hs
    exact .cons (dp_ok d x hs.1 h1) (dp_oks ds r hs.2 h2)
end
/-- == of data of any depth -/
def aEqD (neg : Bool) : AR2 := fun d e P => eoD d ∧ eoD e ∧ SeqAt.shaped (pyD d) = true ∧ SeqAt.shaped (pyD e) = true ∧ P (.pu (.bl (if neg then !PyData.eqv (pyD d) (pyD e) else PyData.eqv (pyD d) (pyD e))))
theorem dp_same {F H : Hp} (le : Same F H) : (∀ v d, Dp K F v d → Dp K H v d) := by
  have : ∀ (n : Nat), (∀ v d, sizeOf d ≤ n → Dp K F v d → Dp K H v d) ∧ (∀ vs ds, sizeOf ds ≤ n → DpAll K F vs ds → DpAll K H vs ds) := by
    intro n
    induction n with
    | zero =>
      refine ⟨fun v d hs h => ?_, fun vs ds hs h => ?_⟩
      · cases h <;> simp at hs
      · cases h
        · exact .nil
        · simp at hs
    | succ n ih =>
      refine ⟨fun v d hs h => ?_, fun vs ds hs h => ?_⟩
      · cases h with
        | non => exact .non
        | bl b => exact .bl b
        | int i => exact .int i
        | str x => exact .str x
        | lst h1 h2 => exact .lst (Same.seq le h1) (ih.2 _ _ (by simp at hs; omega) h2)
        | tup h1 h2 => exact .tup (Same.sqt le h1) (ih.2 _ _ (by simp at hs; omega) h2)
      · cases h with
        | nil => exact .nil
        | cons h1 h2 => exact .cons (ih.1 _ _ (by simp at hs; omega) h1) (ih.2 _ _ (by simp at hs; omega) h2)
  exact fun v d h => (this _).1 v d (Nat.le_refl _) h
theorem rd_eqDD : RD K (rEqD K) (aEqD false) := fun d e P q F H x y le dx dy Q k => by
  obtain ⟨h1, h2, h3, h4, q⟩ := q
  exact ⟨pyD d, pyD e, dp_same le _ _ (dp_ok d x h1 dx), dp_same le _ _ (dp_ok e y h2 dy), h3, h4, k _ _ F H q (Lf.same le _ _ rfl)⟩
theorem rd_neDD : RD K (rNeD K) (aEqD true) := fun d e P q F H x y le dx dy Q k => by
  obtain ⟨h1, h2, h3, h4, q⟩ := q
  exact ⟨pyD d, pyD e, dp_same le _ _ (dp_ok d x h1 dx), dp_same le _ _ (dp_ok e y h2 dy), h3, h4, k _ _ F H q (Lf.same le _ _ rfl)⟩
section
variable {X : Cx} {ea eb : Expr} {pos : Pos}
theorem d_eqD (hK : X.K = K := by rfl) (hu : X.A.units + 64 < cLine) (ha : DE X ea ta aa) (hb : DE X eb tb ab) : DE X (.Compare ea [.Eq] [eb] pos) (tOp (rEqD K) ta tb) (aOp (aEqD false) aa ab) := by
  subst hK
  exact d_cmp (op_eqD hu) rd_eqDD ha hb (nomark _)
theorem d_neD (hK : X.K = K := by rfl) (hu : X.A.units + 64 < cLine) (ha : DE X ea ta aa) (hb : DE X eb tb ab) : DE X (.Compare ea [.NotEq] [eb] pos) (tOp (rNeD K) ta tb) (aOp (aEqD true) aa ab) := by
  subst hK
  exact d_cmp (op_neD hu) rd_neDD ha hb (nomark _)
end
end
end DL
namespace DL
open PySem L2 StX
structure DAS (X : Cx) (es : List Expr) (t : TA) (a : AAS) : Prop where
  pe : PA X es t
  sm : SimAS X.K t a
structure DTg (X : Cx) (e : Expr) (g : TG) (a : ATg) : Prop where
  pe : PG X e g
  sm : SimTg X.K g a
structure DTgs (X : Cx) (es : List Expr) (g : TGs) (a : ATgs) : Prop where
  pe : PGs X es g
  sm : SimTgs X.K g a
section
variable {X : Cx} {K : PySem.W.Frag} {e ea : Expr} {es : List Expr} {te ta : TE} {aa : AE} {tr : TA} {ar : AAS} {g : TG} {t : ATg} {gs : TGs} {ts : ATgs} {pos : Pos}
theorem das_nil : DAS X [] tNil aaNil := ⟨pa_nil, simas_nil⟩
theorem das_cons (ha : DE X ea ta aa) (hr : DAS X es tr ar) (hs : starEach (ea :: es) X.env = (false, eval ea X.env) :: starEach es X.env := by rfl) : DAS X (ea :: es) (tCons ta tr) (aaCons aa ar) := ⟨pa_cons ha.pe hr.pe hs, simas_cons ha.sm hr.sm⟩
theorem dtg_name {i : Nat} {x : Str} {p : Pos} (hN : X.N.Nodup) (hi : X.N[i]? = some x := by rfl) (hx : Loc X.env.scope x := by first | exact Or.inl rfl | exact Or.inr rfl) (hf : X.fn x = true ∨ X.env.scope.names.lookup x = some .local := by first | exact .inl rfl | exact .inr rfl | assumption) : DTg X (.Name x p) (gName i) (atName i) := ⟨pg_name hN hi hx hf, simtg_name⟩
theorem dtg_fld {o : Expr} {i : Nat} {path : Pth} {c f : Str} (hK : X.K = K := by rfl) (ho : PE X o (tFlds K (tVar i) path)) (hp : FOk K path) (hf : FldOk K c f)
    (ha : ∀ v, assign (.Attribute o f pos) X.env v = (do
      let ov ← holding [v] (eval o X.env)
      standAt pos.atName
      holding [v, ov] (setAttr ov f v)
      release [v, ov] []) := by intro _; rfl) : DTg X (.Attribute o f pos) (gFld K (tFlds K (tVar i) path) f) (atFld i path c f) := by
  subst hK
  exact ⟨pg_fld ho ha, simtg_fld hp hf⟩
theorem dtgs_nil : DTgs X [] gNil atNil := ⟨pgs_nil, simtgs_nil⟩
theorem dtgs_cons (h : DTg X e g t) (hr : DTgs X es gs ts) (h1 : (assignEach (e :: es) X.env).map (·.2) = assign e X.env :: (assignEach es X.env).map (·.2) := by rfl) : DTgs X (e :: es) (gCons g gs) (atCons t ts) := ⟨pgs_cons h.pe hr.pe h1, simtgs_cons h.sm hr.sm⟩
theorem s_to {tg : Expr} (he : DE X e te aa) (hg : DTg X tg g t) (hs : swapsWithSole [tg] e pos.line X.env = pure false := by rfl) (hw : swappedStores [tg] e X.env = pure none := by rfl)
    (h1 : (assignEach [tg] X.env).map (·.2) = [assign tg X.env] := by rfl) : DS X (.Assign [tg] e pos) (tAsg te g) (aTo aa t) := ⟨ps_asg he.pe hg.pe hs hw h1, sims_to he.sm hg.sm⟩
theorem s_parG {tgs : List Expr} {k1 k2 n : Nat} {p1 p2 : Pos} (hK : X.K = K := by rfl) (hc : X.calm = true) (hn : n ≤ 100) (ha : DAS X es tr ar) (hg : DTgs X tgs gs ts)
    (hl : (assignEach tgs X.env).length = n := by rfl) (hst : (assignEach tgs X.env).findIdx? (·.1) = none := by rfl)
    (hs : swapsWithSole [.Tuple tgs k1 p1] (.Tuple es k2 p2) pos.line X.env = pure false := by rfl) (hw : swappedStores [.Tuple tgs k1 p1] (.Tuple es k2 p2) X.env = pure none := by rfl)
    (h1 : (assignEach [.Tuple tgs k1 p1] X.env).map (·.2) = [assign (.Tuple tgs k1 p1) X.env] := by rfl) :
    DS X (.Assign [.Tuple tgs k1 p1] (.Tuple es k2 p2) pos) (tAsg (tTup tr) (gTup K n gs)) (aParG n ar ts) := by
  subst hK
  exact ⟨ps_asg (pe_tup ha.pe) (pg_tup hc hg.pe hl hst) hs hw h1, sims_parG hn ha.sm hg.sm⟩
theorem s_sdApp {o ek : Expr} {tk : TE} {ak : AE} {i : Nat} {path : Pth} {p1 p2 p3 p4 p5 : Pos} (hK : X.K = K := by rfl) (ho : PE X o (tFlds K (tVar i) path)) (hp : FOk K path) (hk : DE X ek tk ak) (he : DE X e te aa)
    (m : M2 X o "setdefault" p1 ek (.List [] p2) p3 := by exact ⟨rfl, rfl, rfl, rfl⟩)
    (hbase : attributeBase (.Call (.Attribute o "setdefault" p1) [ek, .List [] p2] [] p3) "append" X.env (eval (.Call (.Attribute o "setdefault" p1) [ek, .List [] p2] [] p3) X.env) = eval (.Call (.Attribute o "setdefault" p1) [ek, .List [] p2] [] p3) X.env := by rfl)
    (hfew : ((backTo p5 (starEach (e :: []) X.env)).all (fun x => !x.1) && (backToKw p5 (keywordEach [] X.env)).all (fun x => x.1.isSome) && decide ((e :: []).length + ([] : List Keyword).length + (if ([] : List Keyword).isEmpty then 0 else 1) < 30)) = true := by rfl)
    (hline : (p4.endLine == p5.line) = true := by rfl) (hs : starEach (e :: []) X.env = (false, eval e X.env) :: starEach [] X.env := by rfl) (hplain : (backTo p5 (starEach [] X.env)).any (·.1) = false := by rfl)
    (hsw : swapsWith (.Call (.Attribute (.Call (.Attribute o "setdefault" p1) [ek, .List [] p2] [] p3) "append" p4) [e] [] p5) none pos.line X.env = pure false := by rfl) :
    DS X (.Expr (.Call (.Attribute (.Call (.Attribute o "setdefault" p1) [ek, .List [] p2] [] p3) "append" p4) [e] [] p5) pos) (tDrop (tBM K "list" rAppend (tDSetd (tFlds K (tVar i) path) tk (tLst tNil)) (tCons te tNil))) (aSdApp i path ak aa) := by
  subst hK
  exact ⟨ps_expr (pe_bm PySem.F.plainAttrs_list PySem.F.slot_list_append PySem.F.type_list_append mt_append (pe_dsetd ho hk.pe (pe_lst pa_nil) m) (pa_cons he.pe pa_nil hs) hbase hfew hline hs hplain) hsw, sims_sdApp hp hk.sm he.sm⟩
end
end DL
namespace DL
open PySem L2 TL
abbrev Stg := List (List Int)
def LenOk (ls : List Int) : Prop := 2 ≤ ls.length ∧ ls.length ≤ 4 ∧ ls.Nodup ∧ ∀ l ∈ ls, 0 ≤ l ∧ l ≤ 1000000
def StOkD (st : Stg) : Prop := 1 ≤ st.length ∧ st.length ≤ 6 ∧ ∀ ls ∈ st, LenOk ls
abbrev stD (st : Stg) : D := .tup (st.map tupI)
def lineT (ls : List Int) : Str := Txt.join (" " : Str) (("stage" : Str) :: ls.map sI)
def devText (st : Stg) : Str := Txt.join ("\n" : Str) (st.map lineT)
def rowStep (rows : List (List Int)) (ls : List Int) : List (List Int) := rows.flatMap fun row => (List.range ls.length).map fun (k : Nat) => row ++ [(k : Int)]
def allRows (st : Stg) : List (List Int) := st.foldl rowStep [[]]
/-- the lengths of the lanes of a row -/
def lensOf : Stg → List Int → List Int
  | ls :: st, k :: row => ((atI ls k).getD 0) :: lensOf st row
  | _, _ => []
def sumOf (st : Stg) (row : List Int) : Int := (lensOf st row).sum
def IsRow (st : Stg) (row : List Int) : Prop := row.length = st.length ∧ ∀ (i : Nat) (k : Int) (ls : List Int), row[i]? = some k → st[i]? = some ls → 0 ≤ k ∧ k < ls.length
/-- rows by their delays -/
def grpPut (ks : List Int) (gs : List (List (List Int))) (k : Int) (row : List Int) : List Int × List (List (List Int)) := match ixA ks k with
  | some j => (ks, gs.set j ((gs.getD j []) ++ [row]))
  | none => (ks ++ [k], gs ++ [[row]])
def grp (st : Stg) : List (List Int) → List Int × List (List (List Int)) → List Int × List (List (List Int))
  | [], a => a
  | row :: rows, a => grp st rows (grpPut a.1 a.2 (sumOf st row) row)
def rowsBy (st : Stg) : List Int × List (List (List Int)) := grp st (allRows st) ([], [])
abbrev nsDev : List Str := ["own_stages", "own_text", "own_rows"]
def dkD (a : List Int × List (List (List Int))) : D := .dk (a.1.map Sum.inl) (a.2.map fun g => D.lst (g.map tupI))
def devF (st : Stg) : List D := [stD st, .str (devText st), dkD (rowsBy st)]
abbrev devD (st : Stg) : D := .ins "Device" nsDev (devF st)
theorem tl_sI (n : Nat) : tl (sI (n : Int)) = numL n := tl_num n
theorem len_sI {n : Nat} {k : Nat} (hk : 0 < k) (h : n < 10 ^ k) : (sI (n : Int)).length ≤ k := by
  rw [len_tl, tl_sI]
  exact numL_len hk h
theorem len_sI1 (n : Nat) : 1 ≤ (sI (n : Int)).length := by
  rw [len_tl, tl_sI]
  exact List.length_pos_iff.mpr (numL_ne n)
theorem tl_stage : tl ("stage" : Str) = [115, 116, 97, 103, 101] := by rw [tl_ofString]; decide
theorem tl_blank : tl (" " : Str) = [32] := by rw [tl_ofString]; decide
theorem tl_feed : tl ("\n" : Str) = [10] := by rw [tl_ofString]; decide
theorem sI_nat {i : Int} (h : 0 ≤ i) : ∃ n : Nat, i = (n : Int) ∧ n = i.toNat := ⟨i.toNat, by omega, rfl⟩
theorem free_sI {i : Int} (h : 0 ≤ i) {s : Nat} (hs : s < 48 ∨ 57 < s) : s ∉ tl (sI i) := by
  obtain ⟨n, rfl, _⟩ := sI_nat h
  rw [tl_sI]
  exact numL_free hs
theorem words_line {ls : List Int} (h : ∀ l ∈ ls, 0 ≤ l) : Txt.split (lineT ls) " " = ("stage" : Str) :: ls.map sI := by
  unfold lineT
  refine split_join tl_blank (by decide +kernel) (by simp) fun p hp => ?_
  rcases List.mem_cons.mp hp with rfl | hp
  · rw [tl_stage]
    decide
  · obtain ⟨l, hl, rfl⟩ := List.mem_map.mp hp
    exact free_sI (h l hl) (by decide)
theorem mem_joinL {S : List Nat} {c : Nat} : ∀ (ps : List (List Nat)), c ∈ joinL S ps → c ∈ S ∨ ∃ p ∈ ps, c ∈ p
  | [], h => by simp [joinL] at h
  | [p], h => .inr ⟨p, List.mem_cons_self, by simpa [joinL] using h⟩
  | p :: q :: r, h => by
    simp only [joinL, List.mem_append] at h
    rcases h with h | h | h
    · exact .inr ⟨p, List.mem_cons_self, h⟩
    · exact .inl h
    · rcases mem_joinL (q :: r) h with z | ⟨x, hx, z⟩
      · exact .inl z
      · exact .inr ⟨x, List.mem_cons_of_mem _ hx, z⟩
theorem tl_line (ls : List Int) : tl (lineT ls) = joinL [32] ([115, 116, 97, 103, 101] :: (ls.map sI).map tl) := by
  unfold lineT
  rw [join_eq, tl_join, tl_blank, List.map_cons, tl_stage]
theorem lines_text {st : Stg} (hne : st ≠ []) (h : ∀ ls ∈ st, ∀ l ∈ ls, 0 ≤ l) : Txt.split (devText st) "\n" = st.map lineT := by
  unfold devText
  refine split_join tl_feed (by decide +kernel) (by simpa using hne) fun p hp => ?_
  obtain ⟨ls, hls, rfl⟩ := List.mem_map.mp hp
  intro hc
  rw [tl_line] at hc
  rcases mem_joinL _ hc with z | ⟨x, hx, z⟩
  · revert z
    decide
  · rcases List.mem_cons.mp hx with rfl | hx
    · revert z
      decide
    · rw [List.map_map] at hx
      obtain ⟨l, hl, rfl⟩ := List.mem_map.mp hx
      exact free_sI (h ls hls l hl) (by decide) z
theorem len_joinL (S : List Nat) (k m : Nat) : ∀ ps : List (List Nat), (∀ p ∈ ps, p.length ≤ k) → S.length ≤ m → (joinL S ps).length ≤ ps.length * (k + m)
  | [], _, _ => by simp [joinL]
  | [p], h, _ => by
    have := h p List.mem_cons_self
    simp [joinL]
    omega
  | p :: q :: r, h, hm => by
    have h1 := h p List.mem_cons_self
    have h2 := len_joinL S k m (q :: r) (fun x hx => h x (List.mem_cons_of_mem _ hx)) hm
    simp only [joinL, List.length_append, List.length_cons] at h2 ⊢
    have e : (r.length + 1 + 1) * (k + m) = (r.length + 1) * (k + m) + (k + m) := Nat.succ_mul _ _
    omega
theorem len_line {ls : List Int} (h : LenOk ls) : (lineT ls).length ≤ 100 := by
  rw [len_tl, tl_line]
  refine Nat.le_trans (len_joinL [32] 10 1 _ (fun p hp => ?_) (by decide)) ?_
  · rcases List.mem_cons.mp hp with rfl | hp
    · decide
    · rw [List.map_map] at hp
      obtain ⟨l, hl, rfl⟩ := List.mem_map.mp hp
      obtain ⟨n, rfl, _⟩ := sI_nat (h.2.2.2 l hl).1
      show (tl (sI (n : Int))).length ≤ 10
      rw [tl_sI]
      exact numL_len (by decide) (by have := (h.2.2.2 _ hl).2; omega)
  · have := h.2.1
    simp only [List.length_cons, List.length_map]
    omega
theorem len_text {st : Stg} (h : StOkD st) : (devText st).length ≤ 1000 := by
  unfold devText
  rw [len_tl, join_eq, tl_join, tl_feed]
  refine Nat.le_trans (len_joinL [10] 100 1 _ (fun p hp => ?_) (by decide)) ?_
  · rw [List.map_map] at hp
    obtain ⟨ls, hls, rfl⟩ := List.mem_map.mp hp
    show (tl (lineT ls)).length ≤ 100
    rw [← len_tl]
    exact len_line (h.2.2 ls hls)
  · have := h.2.1
    simp only [List.length_map]
    omega
/-- a number's first sign -/
theorem numL_head : ∀ n : Nat, n ≠ 0 → ∃ c r, numL n = c :: r ∧ c ≠ 48 := by
  intro n
  induction n using Nat.strongRecOn with
  | ind n ih =>
    intro h0
    by_cases h : n < 10
    · rw [numL_lt h]
      exact ⟨_, _, rfl, by omega⟩
    · obtain ⟨c, r, e, hc⟩ := ih (n / 10) (by omega) (by omega)
      rw [numL_step (by omega), e]
      exact ⟨c, r ++ [48 + n % 10], rfl, hc⟩
theorem sI_zero {n : Nat} : sI (n : Int) = "0" ↔ n = 0 := by
  constructor
  · intro h
    refine numL_inj ?_
    have := congrArg tl h
    rw [tl_sI, tl_ofString] at this
    rw [this, numL_lt (by decide)]
    decide
  · rintro rfl
    decide +kernel
theorem rowStep_count (rows : List (List Int)) (ls : List Int) : (rowStep rows ls).length = rows.length * ls.length := by
  unfold rowStep
  induction rows with
  | nil => simp
  | cons r rows ih =>
    rw [List.flatMap_cons, List.length_append, ih, List.length_map, List.length_range, List.length_cons, Nat.succ_mul]
    omega
theorem allRows_count : ∀ (st : Stg) (rows : List (List Int)), (∀ ls ∈ st, ls.length ≤ 4) → (st.foldl rowStep rows).length ≤ rows.length * 4 ^ st.length
  | [], rows, h => by simp
  | ls :: st, rows, h => by
    rw [List.foldl_cons]
    have h1 := allRows_count st (rowStep rows ls) fun l hl => h l (List.mem_cons_of_mem _ hl)
    rw [rowStep_count] at h1
    have h2 : rows.length * ls.length ≤ rows.length * 4 := Nat.mul_le_mul_left _ (h ls List.mem_cons_self)
    have h3 := Nat.mul_le_mul_right (4 ^ st.length) h2
    rw [List.length_cons, Nat.pow_succ]
    have h4 : rows.length * 4 * 4 ^ st.length = rows.length * (4 ^ st.length * 4) := by rw [Nat.mul_assoc, Nat.mul_comm 4]
    omega
/-- rows of the stages so far -/
theorem rowStep_ok {st : Stg} {ls : List Int} {rows : List (List Int)} (h : ∀ r ∈ rows, IsRow st r) : ∀ r ∈ rowStep rows ls, IsRow (st ++ [ls]) r := fun r hr => by
  obtain ⟨row, h1, h2⟩ := List.mem_flatMap.mp hr
  obtain ⟨k, hk, rfl⟩ := List.mem_map.mp h2
  obtain ⟨g1, g2⟩ := h row h1
  have hk := List.mem_range.mp hk
  refine ⟨by simp [g1], fun i x l e1 e2 => ?_⟩
  by_cases hi : i < row.length
  · rw [List.getElem?_append_left hi] at e1
    rw [List.getElem?_append_left (by omega)] at e2
    exact g2 i x l e1 e2
  · by_cases hi2 : i = row.length
    · subst hi2
      rw [List.getElem?_append_right (Nat.le_refl _), Nat.sub_self] at e1
      rw [List.getElem?_append_right (by omega), g1, Nat.sub_self] at e2
      cases e1
      cases e2
      omega
    · rw [List.getElem?_append_right (by omega)] at e1
      have : row.length < i := by omega
      rw [List.getElem?_eq_none (by simp only [List.length_cons, List.length_nil]; omega)] at e1
      cases e1
theorem foldl_rows : ∀ (st pre : Stg) (rows : List (List Int)), (∀ r ∈ rows, IsRow pre r) → ∀ r ∈ st.foldl rowStep rows, IsRow (pre ++ st) r
  | [], pre, rows, h, r, hr => by
    rw [List.append_nil]
    exact h r hr
  | ls :: st, pre, rows, h, r, hr => by
    have := foldl_rows st (pre ++ [ls]) (rowStep rows ls) (rowStep_ok h) r hr
    rwa [List.append_assoc] at this
theorem allRows_ok (st : Stg) : ∀ r ∈ allRows st, IsRow st r := fun r hr => by
  have := foldl_rows st [] [[]] (fun r hr => by
    rw [List.mem_singleton.mp hr]
    exact ⟨rfl, fun i k ls e _ => by simp at e⟩) r hr
  simpa using this
theorem IsRow.tail {ls : List Int} {st : Stg} {k : Int} {row : List Int} (h : IsRow (ls :: st) (k :: row)) : (0 ≤ k ∧ k < ls.length) ∧ IsRow st row := by
  refine ⟨h.2 0 k ls rfl rfl, by simpa using h.1, fun i x l e1 e2 => h.2 (i + 1) x l (by simpa using e1) (by simpa using e2)⟩
end DL
namespace DL
open PySem L2
structure ZApart (z TI TO i1 i2 a b : Addr) : Prop where
  S : ZipSep2 z TI TO i1 i2 [i1, a] [i2, b]
  n1 : a ≠ i1
  n2 : b ≠ i2
def sqD (k : Bool) (d : D) : Option (List D) := if k then (match d with | .tup xs => some xs | _ => none) else lstD d
end DL
namespace DL
open PySem L2 TL
theorem zipD_map {α β : Type} (f : α → D) (g : β → D) : ∀ (xs : List α) (ys : List β), zipD (xs.map f) (ys.map g) = (xs.zip ys).map fun p => D.tup [f p.1, g p.2]
  | [], ys => by simp [zipD]
  | x :: xs, [] => by simp [zipD]
  | x :: xs, y :: ys => by
    have := zipD_map f g xs ys
    unfold zipD at this ⊢
    simp only [List.map_cons, List.zip_cons_cons]
    rw [this]
theorem enum_map {α : Type} (f : α → D) (xs : List α) : enumD (xs.map f) = ((List.range xs.length).zip xs).map fun p => D.tup [.int (p.1 : Nat), f p.2] := by
  unfold enumD
  rw [List.length_map, List.zip_map_right, List.map_map]
  rfl
theorem dist_len {ns ks : List Int} (h : Dist ns ks) (hn : ns.Nodup) : ks.length = ns.length := ((List.perm_ext_iff_of_nodup h.1 hn).mpr h.2).length_eq
theorem cut_tail (x : D) (xs : List D) : cutD (x :: xs) (some 1) none = xs := by
  unfold cutD
  rw [show (some (1 : Int)) = some ((1 : Nat) : Int) from rfl, HT.sIx_nat, HT.sIx_none]
  rw [Nat.min_eq_left (by simp only [List.length_cons]; omega)]
  simp only [List.length_cons, Nat.add_sub_cancel, List.drop_succ_cons, List.drop_zero]
  exact List.take_of_length_le (Nat.le_refl _)
theorem sq_t (xs : List D) : seqD (.tup xs) = some xs := rfl
theorem sq_l (xs : List D) : seqD (.lst xs) = some xs := rfl
theorem bls_all (n : Nat) : ((List.replicate n true).all id) = true := by
  rw [List.all_eq_true]
  intro x hx
  rw [(List.mem_replicate.mp hx).2]
  rfl
theorem lens_zip : ∀ (st : Stg) (row : List Int), (st.zip row).map (fun z => (atI z.1 z.2).getD 0) = lensOf st row
  | [], row => rfl
  | ls :: st, [] => rfl
  | ls :: st, k :: row => by
    rw [List.zip_cons_cons, List.map_cons, lens_zip st row]
    rfl
theorem row_zip {st : Stg} {row : List Int} (h : IsRow st row) : ∀ z ∈ st.zip row, 0 ≤ z.2 ∧ z.2 < z.1.length := by
  induction st generalizing row with
  | nil => intro z hz; simp at hz
  | cons ls st ih =>
    cases row with
    | nil => intro z hz; simp at hz
    | cons k row =>
      intro z hz
      rw [List.zip_cons_cons] at hz
      rcases List.mem_cons.mp hz with rfl | hz
      · exact h.tail.1
      · exact ih h.tail.2 z hz
theorem atI_ints {ls : List Int} {k : Int} (h0 : 0 ≤ k) (h1 : k < ls.length) : atI (ls.map D.int) k = some (.int ((atI ls k).getD 0)) := by
  unfold atI ixN
  rw [if_pos h0, if_pos h0, List.length_map, if_pos h1]
  show (ls.map D.int)[k.toNat]? = some (D.int ((ls[k.toNat]?).getD 0))
  rw [List.getElem?_map, List.getElem?_eq_getElem (by omega)]
  rfl
/-- what a dict of lists holds -/
def OwsOk (ows : List Sl) (gs : List (List (List Int))) : Prop := ows.length = gs.length ∧ ∀ (j : Nat) g, gs[j]? = some g → ∃ p, ows[j]? = some (.ow p (g.map tupI))
theorem dsA_get : ∀ (ts : List Sl) (j : Nat), (dsA ts)[j]? = (ts[j]?).map Sl.d
  | [], j => by
    unfold dsA
    simp
  | t :: ts, 0 => by
    unfold dsA
    simp
  | t :: ts, j + 1 => by
    unfold dsA
    rw [List.getElem?_cons_succ, List.getElem?_cons_succ, dsA_get ts j]
theorem OwsOk.ds {ows : List Sl} {gs : List (List (List Int))} (h : OwsOk ows gs) : dsA ows = gs.map fun g => D.lst (g.map tupI) := by
  refine List.ext_getElem? fun j => ?_
  rw [dsA_get, List.getElem?_map]
  cases e : gs[j]? with
  | none =>
    have : gs.length ≤ j := List.getElem?_eq_none_iff.mp e
    rw [List.getElem?_eq_none (by rw [h.1]; exact this)]
    rfl
  | some g =>
    obtain ⟨p, e2⟩ := h.2 j g e
    rw [e2]
    rfl
theorem ixA_inl : ∀ (ks : List Int) (k : Int), ixA (ks.map (Sum.inl : Int → Key)) (Sum.inl k) = ixA ks k
  | [], k => rfl
  | n :: ks, k => by
    rw [List.map_cons]
    unfold ixA
    rw [ixA_inl ks k]
    by_cases h : n = k
    · rw [if_pos h, if_pos (congrArg _ h)]
    · rw [if_neg h, if_neg (fun e => h (Sum.inl.inj e))]
theorem ixA_snoc {α : Type} [DecidableEq α] : ∀ {ks : List α} {k : α}, ixA ks k = none → ixA (ks ++ [k]) k = some ks.length
  | [], k, h => by
    show (if k = k then some 0 else _) = _
    rw [if_pos rfl]
    rfl
  | n :: ks, k, h => by
    unfold ixA at h
    by_cases e : n = k
    · rw [if_pos e] at h
      cases h
    · rw [if_neg e] at h
      have h2 : ixA ks k = none := by
        cases e2 : ixA ks k with
        | none => rfl
        | some j =>
          rw [e2] at h
          cases h
      rw [List.cons_append]
      unfold ixA
      rw [if_neg e, ixA_snoc h2]
      rfl
theorem OwsOk.set {ows : List Sl} {gs : List (List (List Int))} (h : OwsOk ows gs) (j : Nat) (p : Addr) (g : List (List Int)) : OwsOk (ows.set j (.ow p (g.map tupI))) (gs.set j g) := by
  refine ⟨by rw [List.length_set, List.length_set]; exact h.1, fun i g' e => ?_⟩
  by_cases hi : j = i
  · subst hi
    have hl : j < gs.length := by
      have := (List.getElem?_eq_some_iff.mp e).1
      rwa [List.length_set] at this
    rw [List.getElem?_set_self hl] at e
    cases e
    exact ⟨p, List.getElem?_set_self (by rw [h.1]; exact hl)⟩
  · rw [List.getElem?_set_ne hi] at e
    rw [List.getElem?_set_ne hi]
    exact h.2 i g' e
theorem sum_len_le {k : Nat} : ∀ {ys : List Str}, (∀ x ∈ ys, x.length ≤ k) → (ys.map (·.length)).sum ≤ ys.length * k
  | [], _ => by simp
  | y :: ys, h => by
    have h1 := h y List.mem_cons_self
    have h2 := sum_len_le (ys := ys) fun x hx => h x (List.mem_cons_of_mem _ hx)
    rw [List.map_cons, List.sum_cons, List.length_cons, Nat.succ_mul]
    omega
theorem set_snoc {α : Type} (xs : List α) (x y : α) : (xs ++ [x]).set xs.length y = xs ++ [y] := by
  rw [List.set_append_right _ _ (Nat.le_refl _), Nat.sub_self]
  rfl
def RuleOk (st : Stg) (rows : List (List Int)) : Prop := 1 ≤ rows.length ∧ rows.length ≤ 401 ∧ ∀ (i : Nat) row, rows[i]? = some row → IsRow st row ∧ sumOf st row = i
end DL
namespace DL
open PySem L2 TL PyProof
theorem lay_ints : ∀ bs : List Int, PyData.canLayAll0 (pyA (bs.map D.int)) = true ∧ PyData.depthAll (pyA (bs.map D.int)) = 0 ∧ eoA (bs.map D.int)
  | [] => by simp [pyA, PyData.canLayAll0, PyData.depthAll, eoA]
  | b :: bs => by
    obtain ⟨h1, h2, h3⟩ := lay_ints bs
    simp [pyA, pyD, PyData.canLayAll0, PyData.canLay0, PyData.depthAll, PyData.depth, eoA, eoD, h1, h2, h3]
theorem sh_ints (k : Nat) : ∀ {xs : List Int}, (∀ x ∈ xs, 0 ≤ x ∧ x ≤ 1267650600228229401496703205376) → shA k (xs.map D.int) ∧ sizA (xs.map D.int) = xs.length
  | [], h => ⟨by simp only [List.map_nil, shA], by simp only [List.map_nil, sizA, List.length_nil]⟩
  | x :: xs, h => by
    obtain ⟨h1, h2⟩ := sh_ints k (xs := xs) fun y hy => h y (List.mem_cons_of_mem _ hy)
    have := h x List.mem_cons_self
    simp only [List.map_cons, shA, sizA, shD, sizD, h2, List.length_cons]
    exact ⟨⟨⟨by omega, by omega⟩, h1⟩, by omega⟩
theorem rngD_len (lo : Int) (n : Nat) : (rngD lo n).length = n := by
  unfold rngD
  rw [List.length_map, List.length_range]
end DL
namespace DL
open PySem PySem.Spec L2 PyProof.Rows
section
variable {K : PySem.W.Frag} {te ta tb : TE} {a aa ab : AE} {F H : Hp} {s : Ss} {σ : L2.St}
theorem DqA.erase : ∀ {ds : List D} {xs : List V} (k : Nat), DqA K H ds xs → DqA K H (ds.eraseIdx k) (xs.eraseIdx k)
  | [], xs, k, h => by
    cases (show xs = [] from h)
    exact h
  | d :: ds, xs, 0, h => by
    obtain ⟨x, r, rfl, h1, h2⟩ := h
    exact h2
  | d :: ds, xs, k + 1, h => by
    obtain ⟨x, r, rfl, h1, h2⟩ := h
    exact ⟨x, r.eraseIdx k, rfl, h1, DqA.erase k h2⟩
def aPopAt (i : Nat) (a : AE) : AE := fun s P => match s[i]? with
  | some (.ow _ _) => a s fun r s1 => match r.d, s1[i]? with
    | .int j, some (.ow p xs) => 0 ≤ j ∧ j < xs.length ∧ xs.length ≤ 100000 ∧ ∀ d, xs[j.toNat]? = some d → P (.pu d) (s1.set i (.ow p (xs.eraseIdx j.toNat)))
    | _, _ => False
  | _ => False
theorem sim_popAt {i : Nat} (h : Sim K te a) : Sim K (tBM K "list" rPopAt (tVar i) (tCons te tNil)) (aPopAt i a) := fun s P q σ F H ok Q k => by
  unfold aPopAt at q
  cases e : s[i]? with
  | none =>
    rw [e] at q
    exact q.elim
  | some l =>
    rw [e] at q
    cases l with
    | no => exact q.elim
    | pu d => exact q.elim
    | nd _ _ _ => exact q.elim
    | ow p0 xs0 =>
      obtain ⟨o, h1, h2⟩ := ok.get e
      obtain ⟨rfl, g1, vs0, g2, g3⟩ := slok_ow.mp h2
      refine ⟨.ref p0, h1, tyV_list g2, ?_⟩
      refine h.d q ok fun r s1 v F1 H1 q1 st1 d1 => ?_
      cases e1 : r.d <;> simp only [e1] at q1
      rename_i j
      rw [e1] at d1
      cases (show v = _ from d1)
      cases e2 : s1[i]? with
      | none =>
        simp only [e2] at q1
      | some l =>
        simp only [e2] at q1
        cases l with
        | no => exact q1.elim
        | pu d => exact q1.elim
        | nd _ _ _ => exact q1.elim
        | ow p xs =>
          simp only at q1
          obtain ⟨b0, b1, b2, q2⟩ := q1
          obtain ⟨o, z1, z2⟩ := st1.st.get e2
          obtain ⟨z3, y1, vs, y2, y3⟩ := slok_ow.mp z2
          rw [h1] at z1
          cases z1
          cases z3
          have hd : xs[j.toNat]? = some (xs[j.toNat]'(by omega)) := List.getElem?_eq_getElem (by omega)
          obtain ⟨y, g4, g5⟩ := y3.get hd
          have st2 := st1.chg e2 (y3.erase j.toNat)
          refine ⟨_, vs, j, j.toNat, y, rfl, rfl, y2, by omega, by omega, ?_, g4, k _ _ y F1 _ (q2 _ hd) st2 (.pu g5)⟩
          unfold seqIndex?
          rw [y3.length, if_neg (show ¬ j < 0 by omega)]
          exact if_pos (by rw [decide_eq_true b0, decide_eq_true b1]; rfl)
theorem d_popAt {X : Cx} {i : Nat} {x : Str} {p2 apos cpos : Pos} {ea : Expr} (he : DE X ea te a) (hv : DE X (.Name x p2) (tVar i) (aVar i)) (hbase : attributeBase (.Name x p2) "pop" X.env (eval (.Name x p2) X.env) = eval (.Name x p2) X.env := by rfl)
    (hfew : ((backTo cpos (starEach (ea :: []) X.env)).all (fun x => !x.1) && (backToKw cpos (keywordEach [] X.env)).all (fun x => x.1.isSome) && decide ((ea :: []).length + ([] : List Keyword).length + (if ([] : List Keyword).isEmpty then 0 else 1) < 30)) = true := by rfl)
    (hline : (apos.endLine == cpos.line) = true := by rfl) (hs : starEach (ea :: []) X.env = (false, eval ea X.env) :: starEach [] X.env := by rfl) (hplain : (backTo cpos (starEach [] X.env)).any (·.1) = false := by rfl) :
    DE X (.Call (.Attribute (.Name x p2) "pop" apos) [ea] [] cpos) (tBM X.K "list" rPopAt (tVar i) (tCons te tNil)) (aPopAt i a) :=
  ⟨pe_bm PySem.F.plainAttrs_list PySem.F.slot_list_pop PySem.F.type_list_pop mt_popAt hv.pe (pa_cons he.pe pa_nil hs) hbase hfew hline hs hplain, sim_popAt he.sm⟩
def aRevL (a : AE) : AE := fun s P => a s fun r s1 => match lstD r.d with
  | some ds => ∀ p, P (.ow p ds.reverse) s1
  | none => False
theorem DqA.reverse : ∀ {ds : List D} {xs : List V}, DqA K H ds xs → DqA K H ds.reverse xs.reverse
  | [], xs, h => by
    cases (show xs = [] from h)
    exact h
  | d :: ds, xs, h => by
    obtain ⟨x, r, rfl, h1, h2⟩ := h
    rw [List.reverse_cons, List.reverse_cons]
    exact (DqA.reverse h2).append ⟨x, [], rfl, h1, rfl⟩
theorem sim_revL (h : Sim K te a) : Sim K (tRevL K te) (aRevL a) := fun s P q σ F H ok Q k => by
  refine h.d q ok fun r s1 v F1 H1 q1 st1 d1 => ?_
  cases e : lstD r.d with
  | none =>
    rw [e] at q1
    exact q1.elim
  | some ds =>
    rw [e] at q1
    obtain ⟨b, us, rfl, u1, u2⟩ := lstD_ok e d1
    refine ⟨b, us, rfl, Same.seq st1.st.le u1, fun p hp => ?_⟩
    obtain ⟨st2, rs2⟩ := st1.leaf (Lf.newL st1.st.le hp u2.reverse)
    exact k _ s1 _ _ _ (q1 p) st2 rs2
theorem d_revL {X : Cx} (hK : X.K = K := by rfl) {e : Expr} {k : Nat} {p1 p2 p3 pos : Pos} (he : DE X e te a) : DE X (.Subscript e (.Slice none none (some (.UnaryOp .USub (.Constant (.int 1) k p1) p2)) p3) pos) (tRevL K te) (aRevL a) := by
  subst hK
  exact ⟨pe_revL he.pe, sim_revL he.sm⟩
def aInB (neg : Bool) (a : AE) (i : Nat) : AE := fun s P => match s[i]? with
  | some (.ow _ _) => a s fun r s1 => match s1[i]? with
    | some (.ow _ xs) => flatD r.d = true ∧ xs.all flatD = true ∧ P (.pu (.bl (if neg then !inF r.d xs else inF r.d xs))) s1
    | _ => False
  | _ => False
theorem sim_inB {i : Nat} {neg : Bool} (h : Sim K te a) : Sim K (tOp (rIn K neg) te (tVar i)) (aInB neg a i) := fun s P q σ F H ok Q k => by
  unfold aInB at q
  cases e : s[i]? with
  | none =>
    rw [e] at q
    exact q.elim
  | some l =>
    rw [e] at q
    cases l with
    | no => exact q.elim
    | pu d => exact q.elim
    | nd _ _ _ => exact q.elim
    | ow p0 xs0 =>
      obtain ⟨o, h1, h2⟩ := ok.get e
      obtain ⟨rfl, g1, vs0, g2, g3⟩ := slok_ow.mp h2
      refine h.d q ok fun r s1 v F1 H1 q1 st1 d1 => ?_
      refine ⟨.ref p0, h1, ?_⟩
      cases e2 : s1[i]? with
      | none =>
        simp only [e2] at q1
      | some l =>
        simp only [e2] at q1
        cases l with
        | no => exact q1.elim
        | pu d => exact q1.elim
        | nd _ _ _ => exact q1.elim
        | ow p xs =>
          simp only at q1
          obtain ⟨b1, b2, q2⟩ := q1
          obtain ⟨o, z1, z2⟩ := st1.st.get e2
          obtain ⟨z3, y1, vs, y2, y3⟩ := slok_ow.mp z2
          rw [h1] at z1
          cases z1
          cases z3
          refine ⟨_, vs, rfl, .inl (SqL.of y2), flat_ok b1 d1, flat_all b2 y3, ?_⟩
          rw [flat_in b1 d1 b2 y3]
          exact k _ s1 _ F1 H1 q2 st1 (.pu rfl)
theorem t_ninB {X : Cx} (hK : X.K = K := by rfl) {i : Nat} {x : Str} {p2 pos : Pos} {ea : Expr} (ha : DE X ea te a) (hv : DE X (.Name x p2) (tVar i) (aVar i)) (hm : behindInMarks .NotIn (.Name x p2) = false := by rfl) : DT X (.Compare ea [.NotIn] [.Name x p2] pos) (tTest (tOp (rIn K true) te (tVar i))) (aTest (aInB true a i)) := by
  subst hK
  exact ⟨pt_cmpR op_notIn_seq ha.pe hv.pe hm, sim_test (sim_inB ha.sm)⟩
end
end DL
namespace DL
open PySem PySem.Spec L2 PyProof.Rows
section
variable {K : PySem.W.Frag} {F H : Hp} {s : Ss} {σ : L2.St} {te to tk tf : TE} {ae ao ak af : AE}
end
section
variable {X : Cx} {K : PySem.W.Frag} {te to tk tf : TE} {ae ao ak af : AE} {pos : Pos}
theorem d_list_range2 {ea eb : Expr} {ta tb : TE} {aa ab : AE} {p p2 pos pos2 : Pos} (hm : X.mg "list" = none) (hm2 : X.mg "range" = none) (hc : X.calm = true) (ha : DE X ea ta aa) (hb : DE X eb tb ab) (hg : Gl X "list" := by rfl) (hg2 : Gl X "range" := by rfl) (n1 : starEach [ea, eb] X.env = (false, eval ea X.env) :: starEach [eb] X.env := by rfl) (n2 : starEach [eb] X.env = (false, eval eb X.env) :: starEach [] X.env := by rfl) (n3 : (backTo pos (starEach [eb] X.env)).any (·.1) = false := by rfl)
    (na : starEach [.Call (.Name "range" p) [ea, eb] [] pos] X.env = (false, eval (.Call (.Name "range" p) [ea, eb] [] pos) X.env) :: starEach [] X.env := by rfl) :
    DE X (.Call (.Name "list" p2) [.Call (.Name "range" p) [ea, eb] [] pos] [] pos2) (tLstRg (tRg2 ta tb)) (aListRange2 (aCons aa (aCons ab aNil))) :=
  ⟨pe_listRg hc hg hm (prg_2 hg2 hm2 ha.pe hb.pe n1 n2 n3) na, fun s P q σ F H ok Q k => by
    refine ha.sm.d q ok fun r s1 v F1 H1 q1 st1 d1 => ?_
    refine hb.sm.d q1 st1.st fun r2 s2 v2 F2 H2 q2 st2 d2 => ?_
    have q3 : (match [r.d, r2.d] with | [.int i, .int j] => RgOk i j ∧ ∀ p, P (.ow p (rngD i (j - i).toNat)) s2 | _ => False) := q2
    cases e : r.d <;> simp only [e] at q3
    rename_i i
    cases e2 : r2.d <;> simp only [e2] at q3
    rename_i j
    rw [e] at d1
    rw [e2] at d2
    refine ⟨i, j, d1, d2, q3.1, fun p hp => ?_⟩
    have hd := dqa_rng (K := X.K) (F := F2) i j
    obtain ⟨st3, rs3⟩ := (st1.trans st2).leaf (Lf.newL st2.st.le hp hd)
    exact k _ s2 _ _ _ (q3.2 p) st3 rs3⟩
end
end DL
namespace DL
open PySem L2 TL
abbrev stL (st : Stg) : D := .lst (st.map lstI)
/-- some of es, in any order -/
def Drawn (fs es : List D) (m : Nat) : Prop := fs.length = m ∧ ∃ rest, (fs ++ rest).Perm es
/-- lengths that a drawn stage has -/
def LenM (most : Int) (ls : List Int) : Prop := 2 ≤ ls.length ∧ ls.length ≤ 4 ∧ ls.Nodup ∧ ∀ l ∈ ls, 0 ≤ l ∧ l ≤ most
theorem LenM.ok {most : Int} {ls : List Int} (h : LenM most ls) (hm : most ≤ 1000000) : LenOk ls := ⟨h.1, h.2.1, h.2.2.1, fun l hl => ⟨(h.2.2.2 l hl).1, Int.le_trans (h.2.2.2 l hl).2 hm⟩⟩
theorem mulSt_ok {b m : Int} (b0 : 2 ≤ b) (b1 : b ≤ 4) (m0 : 1 ≤ m) (m1 : m ≤ 1024) : LenOk ((List.range b.toNat).map fun (i : Nat) => (i : Int) * m) := by
  refine ⟨by rw [List.length_map, List.length_range]; omega, by rw [List.length_map, List.length_range]; omega, ?_, ?_⟩
  · refine List.pairwise_map.mpr (List.nodup_range.imp fun {i j} hne e => hne ?_)
    have := Int.eq_of_mul_eq_mul_right (by omega : m ≠ 0) e
    omega
  · intro l hl
    obtain ⟨i, hi, rfl⟩ := List.mem_map.mp hl
    have hi := List.mem_range.mp hi
    have := mul_le (a := (i : Int)) (b := m) (A := 4) (B := 1024) (by omega) (by omega) (by omega) m1
    omega
/-- what is known of rows by their delays -/
structure GrpOk (st : Stg) (all : List (List Int)) (a : List Int × List (List (List Int))) (n : Nat) : Prop where
  len : a.1.length = a.2.length
  nd : a.1.Nodup
  le : a.1.length ≤ n
  gle : ∀ g ∈ a.2, g.length ≤ n
  sum : ∀ (j : Nat) k g, a.1[j]? = some k → a.2[j]? = some g → g ≠ [] ∧ ∀ r ∈ g, r ∈ all ∧ sumOf st r = k
theorem GrpOk.put {st : Stg} {all : List (List Int)} {a : List Int × List (List (List Int))} {n : Nat} (h : GrpOk st all a n) {row : List Int} (hr : row ∈ all) : GrpOk st all (grpPut a.1 a.2 (sumOf st row) row) (n + 1) := by
  unfold grpPut
  cases e : ixA a.1 (sumOf st row) with
  | some j =>
    obtain ⟨j1, j2⟩ := ixA_lt e
    have j3 : j < a.2.length := by rw [← h.len]; exact j1
    have eg : a.2.getD j [] = a.2[j] := by
      rw [List.getD_eq_getElem?_getD, List.getElem?_eq_getElem j3]
      rfl
    refine ⟨by rw [List.length_set]; exact h.len, h.nd, Nat.le_succ_of_le h.le, fun g hg => ?_, fun i k g e1 e2 => ?_⟩
    · rcases List.mem_or_eq_of_mem_set hg with hg | rfl
      · exact Nat.le_succ_of_le (h.gle g hg)
      · have := h.gle _ (List.getElem_mem j3)
        rw [eg, List.length_append, List.length_cons, List.length_nil]
        omega
    · by_cases hi : j = i
      · subst hi
        rw [List.getElem?_set_self j3] at e2
        cases e2
        have e1 : a.1[j]? = some k := e1
        rw [j2] at e1
        cases e1
        refine ⟨by simp, fun r hr2 => ?_⟩
        rcases List.mem_append.mp hr2 with hr2 | hr2
        · rw [eg] at hr2
          exact (h.sum j _ _ j2 (List.getElem?_eq_getElem j3)).2 r hr2
        · rw [List.mem_singleton.mp hr2]
          exact ⟨hr, rfl⟩
      · rw [List.getElem?_set_ne hi] at e2
        exact h.sum i k g e1 e2
  | none =>
    have hn : sumOf st row ∉ a.1 := ixA_none.mp e
    refine ⟨by simp [h.len], List.nodup_append.mpr ⟨h.nd, List.pairwise_singleton _ _, fun x hx y hy z => ?_⟩, by simp; exact h.le, fun g hg => ?_, fun i k g e1 e2 => ?_⟩
    · rw [List.mem_singleton.mp hy] at z
      subst z
      exact hn hx
    · rcases List.mem_append.mp hg with hg | hg
      · exact Nat.le_succ_of_le (h.gle g hg)
      · rw [List.mem_singleton.mp hg, List.length_cons, List.length_nil]
        omega
    · by_cases hi : i < a.1.length
      · have e1 : (a.1 ++ [sumOf st row])[i]? = some k := e1
        have e2 : (a.2 ++ [[row]])[i]? = some g := e2
        rw [List.getElem?_append_left hi] at e1
        rw [List.getElem?_append_left (by rw [← h.len]; exact hi)] at e2
        exact h.sum i k g e1 e2
      · have e1 : (a.1 ++ [sumOf st row])[i]? = some k := e1
        have e2 : (a.2 ++ [[row]])[i]? = some g := e2
        have hi2 : i = a.1.length := by
          have := (List.getElem?_eq_some_iff.mp e1).1
          rw [List.length_append, List.length_cons, List.length_nil] at this
          omega
        subst hi2
        rw [List.getElem?_append_right (Nat.le_refl _), Nat.sub_self] at e1
        rw [h.len, List.getElem?_append_right (Nat.le_refl _), Nat.sub_self] at e2
        cases e1
        cases e2
        exact ⟨by simp, fun r hr2 => by rw [List.mem_singleton.mp hr2]; exact ⟨hr, rfl⟩⟩
theorem allRows_cnt {st : Stg} (ok : StOkD st) : (allRows st).length ≤ 4096 := by
  have := allRows_count st [[]] fun ls hm => (ok.2.2 ls hm).2.1
  rw [List.length_cons, List.length_nil, Nat.one_mul] at this
  exact Nat.le_trans this (Nat.le_trans (Nat.pow_le_pow_right (by decide) ok.2.1) (by decide))
theorem dsA_set : ∀ (ts : List Sl) (j : Nat) (t : Sl), dsA (ts.set j t) = (dsA ts).set j t.d
  | [], j, t => by simp [dsA]
  | u :: ts, 0, t => by simp [dsA]
  | u :: ts, j + 1, t => by simp [dsA, dsA_set ts j t]
theorem dsA_app : ∀ (ts us : List Sl), dsA (ts ++ us) = dsA ts ++ dsA us
  | [], us => by simp [dsA]
  | t :: ts, us => by simp [dsA, dsA_app ts us]
theorem grpPut_some {a : List Int × List (List (List Int))} {k : Int} {row : List Int} {j : Nat} (e : ixA a.1 k = some j) (j3 : j < a.2.length) : grpPut a.1 a.2 k row = (a.1, a.2.set j ((a.2[j]) ++ [row])) := by
  unfold grpPut
  rw [e]
  show (a.1, a.2.set j ((a.2.getD j []) ++ [row])) = _
  rw [List.getD_eq_getElem?_getD, List.getElem?_eq_getElem j3]
  rfl
theorem grpPut_none {a : List Int × List (List (List Int))} {k : Int} {row : List Int} (e : ixA a.1 k = none) : grpPut a.1 a.2 k row = (a.1 ++ [k], a.2 ++ [[row]]) := by
  unfold grpPut
  rw [e]
theorem perm_erase {α : Type} : ∀ {l : List α} {k : Nat} {d : α}, l[k]? = some d → (d :: l.eraseIdx k).Perm l
  | [], k, d, h => by simp at h
  | x :: l, 0, d, h => by
    have : x = d := by simpa using h
    subst this
    exact List.Perm.refl _
  | x :: l, k + 1, d, h => by
    have := perm_erase (l := l) (k := k) (d := d) (by simpa using h)
    exact (List.Perm.swap x d _).trans (this.cons x)
theorem rngD_one (n : Nat) : rngD 1 n = ((List.range n).map fun (i : Nat) => (1 : Int) + (i : Int)).map D.int := by
  unfold rngD
  rw [List.map_map]
  rfl
theorem rng_one_mem {n : Nat} {k : Int} (h : k ∈ (List.range n).map fun (i : Nat) => (1 : Int) + (i : Int)) : 1 ≤ k ∧ k ≤ n := by
  obtain ⟨i, hi, rfl⟩ := List.mem_map.mp h
  have := List.mem_range.mp hi
  omega
theorem rng_one_nodup (n : Nat) : ((List.range n).map fun (i : Nat) => (1 : Int) + (i : Int)).Nodup := List.pairwise_map.mpr (List.nodup_range.imp fun {i j} hne e => hne (by omega))
theorem LenOk.perm {ls ms : List Int} (h : LenOk ls) (p : ms.Perm ls) : LenOk ms := ⟨by rw [p.length_eq]; exact h.1, by rw [p.length_eq]; exact h.2.1, p.symm.nodup h.2.2.1, fun l hl => h.2.2.2 l (p.mem_iff.mp hl)⟩
/-- a perm of what a map gives is the map of a perm -/
theorem perm_map {α β : Type} (f : α → β) : ∀ {fs : List β} {es : List α}, fs.Perm (es.map f) → ∃ gs : List α, fs = gs.map f ∧ gs.Perm es := by
  intro fs es h
  generalize hm : es.map f = ms at h
  induction h generalizing es with
  | nil =>
    cases es with
    | nil => exact ⟨[], rfl, List.Perm.nil⟩
    | cons e es => cases hm
  | cons x h ih =>
    cases es with
    | nil => cases hm
    | cons e es =>
      cases hm
      obtain ⟨gs, e1, e2⟩ := ih rfl
      exact ⟨e :: gs, by rw [List.map_cons, e1], e2.cons e⟩
  | swap x y l =>
    cases es with
    | nil => cases hm
    | cons e es =>
      cases es with
      | nil => cases hm
      | cons e2 es =>
        cases hm
        exact ⟨e2 :: e :: es, rfl, List.Perm.swap _ _ _⟩
  | trans h1 h2 ih1 ih2 =>
    obtain ⟨gs, e1, e2⟩ := ih2 hm
    obtain ⟨hs, e3, e4⟩ := ih1 e1.symm
    exact ⟨hs, e3, e4.trans e2⟩
theorem drawn_map {α : Type} {f : α → D} {es : List α} {fs : List D} {m : Nat} (h : Drawn fs (es.map f) m) : ∃ gs rest : List α, fs = gs.map f ∧ gs.length = m ∧ (gs ++ rest).Perm es := by
  obtain ⟨h1, rest, h2⟩ := h
  obtain ⟨gs, e1, e2⟩ := perm_map f h2
  have hl : fs.length ≤ (gs.map f).length := by rw [← e1, List.length_append]; omega
  have a1 : (gs.map f).take fs.length = fs := by rw [← e1, List.take_left' rfl]
  refine ⟨gs.take fs.length, gs.drop fs.length, by rw [List.map_take, a1], ?_, by rw [List.take_append_drop]; exact e2⟩
  rw [List.length_take]
  rw [List.length_map] at hl
  omega
theorem drawn_all {α : Type} {f : α → D} {es : List α} {fs : List D} (h : Drawn fs (es.map f) es.length) : ∃ gs : List α, fs = gs.map f ∧ gs.Perm es := by
  obtain ⟨gs, rest, e1, e2, e3⟩ := drawn_map h
  have := e3.length_eq
  rw [List.length_append] at this
  have : rest = [] := List.length_eq_zero_iff.mp (by omega)
  subst this
  rw [List.append_nil] at e3
  exact ⟨gs, e1, e3⟩
end DL
namespace DL
open PySem L2 TL PyProof
theorem sh_rows (m : Nat) : ∀ {st : List (List Int)}, (∀ ls ∈ st, ls.length ≤ m ∧ ∀ x ∈ ls, 0 ≤ x ∧ x ≤ 1267650600228229401496703205376) → shA 39 (st.map tupI) ∧ sizA (st.map tupI) ≤ st.length * (m + 1)
  | [], h => ⟨by simp only [List.map_nil, shA], by simp [sizA]⟩
  | ls :: st, h => by
    obtain ⟨h1, h2⟩ := sh_rows m (st := st) fun y hy => h y (List.mem_cons_of_mem _ hy)
    obtain ⟨h3, h4⟩ := h ls List.mem_cons_self
    obtain ⟨h5, h6⟩ := sh_ints 38 h4
    simp only [List.map_cons, shA, sizA, tupI, shD, sizD, h6, List.length_cons]
    refine ⟨⟨⟨by decide, h5⟩, h1⟩, ?_⟩
    rw [Nat.succ_mul]
    omega
end DL
namespace L2
open PySem PySem.Spec PyProof.Rows
end L2
namespace DL
open PySem L2
end DL
namespace DL
open PySem L2 TL PyProof
end DL
namespace DL
open PySem L2 TL PyProof
end DL
namespace PySem
section
variable {prog : Program} {w : World} {A : Around} {E : Value → Shared → Prop} {s : Shared} {z TI TO i1 i2 : Addr} {fp1 fp2 : List Addr} {n1 n2 i : Nat} {P1 P2 : Nat → Value → Prop} {St1 St2 : Nat → Heap → Prop} {a1 a2 o : Value} {f : Bool}
end
open AutoSeq1 (wpAny_loadPart')
section
variable {pr : Program} {wd : World} {Ar : Around} {E : Value → Shared → Prop} {sh : Shared}
end
end PySem
namespace DL
open PySem L2
structure EApart (e z TI TO i1 i2 a b : Addr) : Prop where
  Z : ZApart z TI TO i1 i2 a b
  ez : e ≠ z
  eI : e ≠ TI
  eT : e ≠ TO
  e1 : e ≠ i1
  e2 : e ≠ i2
  ea : e ≠ a
  eb : e ≠ b
theorem Lf.pus {K : PySem.W.Frag} {F H F1 H1 F2 H2 : Hp} {d e : D} {v w : V} (a : Lf K F H (.pu d) v F1 H1) (b : Lf K F1 H1 (.pu e) w F2 H2) : Lf K F H (.pu e) w F2 H2 where
  f := a.f.trans b.f
  h := a.h.trans b.h
  le := b.le
  n := fun x hx => by
    rcases b.n x hx with z | z
    · exact a.n x z
    · refine .inr ?_
      cases q : H x with
      | none => rfl
      | some u =>
        rw [a.h x u q] at z
        cases z
  ok := b.ok
  fr := fun q hq => by
    rw [fp_pu] at hq
    cases hq
  nd := by
    rw [fp_pu]
    exact List.nodup_nil
section
variable {X : Cx} {K : PySem.W.Frag} {to tk : TE} {ao ak : AE} {pos : Pos} {ek eo : Expr}
end
end DL
namespace SrtO
open PySem PyProof.Rows Srt
section
variable {prog : Program} {w : World} {A : Around} {E : Value → Shared → Prop} {s : Shared}
end
end SrtO
namespace L2
open PySem PySem.Spec PyProof.Rows
end L2
namespace DL
open PySem L2
end DL
namespace DL
open PySem L2
section
variable {K : PySem.W.Frag} {F H : Hp} {s : Ss} {σ : L2.St} {te to tf : TE} {ae ao af : AE} {tka : TA} {aka : AA}
end
section
variable {X : Cx} {K : PySem.W.Frag} {te to tf : TE} {ae ao af : AE} {tka : TA} {aka : AA} {pos : Pos}
end
end DL
namespace DL
open PySem L2
section
variable {K : PySem.W.Frag} {F H F1 H1 F2 H2 : Hp} {s : Ss} {σ : L2.St}
structure PotAt (K : PySem.W.Frag) (F H : Hp) (z : Addr × List D) : Prop where
  f : F z.1 = none
  h : ∃ vs, H z.1 = some (.lst vs) ∧ DqA K F z.2 vs
theorem PotAt.mono {F H F' H' : Hp} {z : Addr × List D} (x : PotAt K F H z) (hf : Same F F') (hn : F' z.1 = none) (hh : ∀ o, H z.1 = some o → H' z.1 = some o) : PotAt K F' H' z := by
  obtain ⟨vs, h1, h2⟩ := x.h
  exact ⟨hn, vs, hh _ h1, DqA.mono hf _ _ h2⟩
end
end DL
namespace DL
open PySem PySem.Spec L2 PyProof.Rows HT
section
variable {prog : Program} {w : World} {A : Around} {E : Value → Shared → Prop} {s : Shared}
end
section
variable {K : PySem.W.Frag} {te : TE} {a : AE} {F H : Hp} {s : Ss} {σ : L2.St}
end
end DL
namespace DL
open PySem L2
section
variable {K : PySem.W.Frag}
end
end DL
namespace DL
open PySem L2
section
variable {K : PySem.W.Frag}
end
end DL
namespace L2
open PySem PySem.Spec PyProof.Rows
end L2
namespace DL
open PySem PySem.Spec L2 PyProof.Rows
end DL
namespace DL
open PySem PySem.Spec L2 PyProof.Rows
section
variable {K : PySem.W.Frag} {te ta tb tk : TE} {ab ak : AE}
end
section
variable {X : Cx} {K : PySem.W.Frag} {p pos p2 : Pos} {y : Str} {i : Nat} {path : Pth} {ek eo eb : Expr} {tk tb : TE} {ak ab : AE}
end
end DL
namespace DL
open PySem PySem.Spec L2 PyProof.Rows
abbrev AAB := Ss → (List D → List D → Ss → Prop) → Prop
def SimB (K : PySem.W.Frag) (i : Nat) (t : TA) (a : AAB) : Prop := ∀ s P, a s P → ∀ σ F H, StOk K F H σ s → ∀ Q : List V → Hp → Prop,
  (∀ ds es s' vs us p xs F' H', P ds es s' → s'[i]? = some (.ow p xs) → Step K s F H s' F' H' σ → DqA K F' ds vs → DqA K F' es us → Q (vs ++ .ref p :: us) H') → t σ H Q
section
variable {K : PySem.W.Frag} {ta : TE} {tr : TA} {aa : AE} {ar : AA} {ab : AAB} {i : Nat}
end
structure DAB (X : Cx) (es : List Expr) (i : Nat) (t : TA) (a : AAB) : Prop where
  pe : PA X es t
  sm : SimB X.K i t a
section
variable {X : Cx} {K : PySem.W.Frag} {p pos p2 : Pos} {x y : Str} {i : Nat} {e : Expr} {es : List Expr} {ta : TE} {tr : TA} {aa : AE} {ar : AA} {ab : AAB}
end
end DL
namespace L2
open PySem PySem.Spec PyProof.Rows
section
variable {X : Cx} {pins : List (Addr × Obj)} {σ : St} {H : Hp} {s : Shared} {a b : Addr} {r : Value} {d : V} {kk : List Key} {A : Around} {E : Value → Shared → Prop}
end
section
variable {X : Cx} {o e f : Expr} {td ty tx : TE} {apos cpos : Pos}
end
end L2
namespace DL
open PySem PySem.Spec L2 PyProof.Rows
section
variable {K : PySem.W.Frag} {te tn : TE} {a an : AE} {g : TG} {ag : AG} {c : TT} {ac1 : AT} {L vs : List Nat} {s : Ss} {σ : L2.St} {F H : Hp}
end
section
variable {X : Cx} {K : PySem.W.Frag}
end
end DL
namespace DL
open PySem PySem.Spec L2 PyProof.Rows
section
variable {K : PySem.W.Frag} {te : TE} {a : AE} {g : TG} {ag : AG} {c : TT} {ac1 : AT} {s : Ss} {σ : L2.St} {F H : Hp}
structure LcO (K : PySem.W.Frag) (s : Ss) (F H : Hp) (σ : L2.St) (p : Addr) (F1 : Hp) (vs : List Nat) (s' : Ss) (F' H' : Hp) (acc : List Sl) : Prop where
  st : Step K s F H s' F' H' σ
  f : Same F1 F'
  pf : F' p = none
  po : ¬ Own s' p
  pl : ∃ us, H' p = some (.lst us) ∧ SlOkA K F' H' acc us
  fr : ∀ b, b ∈ fpA acc → (H b = none ∨ Own s b) ∧ ¬ Own s' b
  nd : (p :: fpA acc).Nodup
  w : Wiped s' vs
theorem LcO.next {p : Addr} {F1 : Hp} {vs : List Nat} {s' s2 : Ss} {F' H' F2 H2 : Hp} {acc : List Sl} {σ2 : L2.St} (x : LcO K s F H σ p F1 vs s' F' H' acc) (st : Step K s' F' H' s2 F2 H2 σ2) (hl : σ2.length = σ.length) (e : ∀ j, j ∉ vs → σ2[j]? = σ[j]?) : LcO K s F H σ p F1 vs (wipeS s2 vs) F2 H2 acc := by
  obtain ⟨us, g1, g2⟩ := x.pl
  have stay : ∀ b u, H' b = some u → ¬ Own s' b → ¬ Own (wipeS s2 vs) b := fun b u hb hn z => by
    rcases st.o b (own_wipe z) with y | y
    · exact hn y
    · rw [hb] at y
      cases y
  have keep : ∀ b, b ∈ fpA acc → ∀ u, F' b = none → H' b = some u → F2 b = none ∧ H2 b = some u := fun b hb u h1 h2 => st.unf h1 h2 (x.fr b hb).2
  exact ⟨x.st.trans (st.outof hl e), x.f.trans st.f, (st.unf x.pf g1 x.po).1, stay p _ g1 x.po, ⟨us, st.k p _ g1 x.po, SlOkA.mono acc st.f keep g2⟩, fun b hb => ⟨(x.fr b hb).1, by
    obtain ⟨_, u, hu⟩ := SlOkA.own acc g2 hb
    exact stay b u hu (x.fr b hb).2⟩, x.nd, wiped_wipe _ _⟩
end
section
variable {X : Cx} {K : PySem.W.Frag} {te : TE} {aa : AE}
end
end DL
namespace DL
open PySem L2
section
variable {K : PySem.W.Frag} {F H : Hp}
end
end DL
namespace L2
open PySem PySem.Spec PyProof.Rows
def EmSt (h : Heap) (e it l S : Addr) (items : Array Value) (i : Nat) : Prop :=
  h.IsListIter it l i ∧ h.IsList l items ∧ ((∃ old, IsEnum h e it i old) ∨ ∃ old T f oT, IsEnumHeld h e it i old T f ∧ h.get? T = some oT ∧ T ≠ e ∧ T ≠ it ∧ T ≠ S)
theorem EmSt.keep {h h' : Heap} {e it l S : Addr} {items : Array Value} {i : Nat} (x : EmSt h e it l S items i) (hk : ∀ b o, b ≠ S → h.get? b = some o → h'.get? b = some o) (h1 : e ≠ S) (h2 : it ≠ S) (h3 : l ≠ S) : EmSt h' e it l S items i := by
  obtain ⟨hit, hl, he⟩ := x
  refine ⟨hit.at fun o x => hk _ o h2 x, hl.at fun o x => hk _ o h3 x, ?_⟩
  rcases he with ⟨old, he⟩ | ⟨old, T, f, oT, he, hT, r1, r2, r3⟩
  · exact .inl ⟨old, hk _ _ h1 he⟩
  · exact .inr ⟨old, T, f, oT, hk _ _ h1 he, hk _ _ r3 hT, r1, r2, r3⟩
section
variable {prog : Program} {w : World} {A : Around} {E : Value → Shared → Prop} {s : Shared} {R : Result → Shared → Prop} {items : Array Value} {e it l S : Addr}
end
end L2
namespace DL
open PySem L2 PyProof.Rows
end DL
namespace DL
open PySem PySem.Spec L2 PyProof.Rows
section
variable {prog : Program} {w : World} {A : Around} {E : Value → Shared → Prop} {s : Shared} {l : Addr} {xs : Array (Int × Tok)}
end
end DL
namespace DL
open PySem PySem.Spec L2 PyProof.Rows
section
variable {K : PySem.W.Frag} {i : Nat} {path : Pth}
mutual
def noL : D → Bool
  | .non => true
  | .bl _ => true
  | .int _ => true
  | .str _ => true
  | .tup xs => noLA xs
  | _ => false
def noLA : List D → Bool
  | [] => true
  | d :: ds => noL d && noLA ds
end
mutual
theorem noL_off : ∀ (d : D) {F : Hp} {v : V} {p : Addr} {ws : List V}, noL d = true → F p = some (.lst ws) → Dq K F d v → Dq K (fun b => if b = p then none else F b) d v
  | .non, F, v, p, ws, h, e, q => q
  | .bl _, F, v, p, ws, h, e, q => q
  | .int _, F, v, p, ws, h, e, q => q
  | .str _, F, v, p, ws, h, e, q => q
  | .tup xs, F, v, p, ws, h, e, q => by
    obtain ⟨a, ys, rfl, g1, g2⟩ := q
    refine ⟨a, ys, rfl, ?_, noL_offA xs (by simpa [noL] using h) e g2⟩
    rcases g1 with g1 | g1
    · refine .inl ?_
      by_cases z : a = p
      · subst z
        rcases g1 with g1 | ⟨o, g1⟩
        · rw [e] at g1
          cases g1
        · rw [e] at g1
          cases g1
      · rcases g1 with g1 | ⟨o, g1⟩
        · exact .inl ((if_neg z).trans g1)
        · exact .inr ⟨o, (if_neg z).trans g1⟩
    · exact .inr g1
  | .lst _, F, v, p, ws, h, e, q => by simp [noL] at h
  | .scr _, F, v, p, ws, h, e, q => by simp [noL] at h
  | .ob _, F, v, p, ws, h, e, q => by simp [noL] at h
  | .ins _ _ _, F, v, p, ws, h, e, q => by simp [noL] at h
  | .dk _ _, F, v, p, ws, h, e, q => by simp [noL] at h
  | .dt _ _, F, v, p, ws, h, e, q => by simp [noL] at h
theorem noL_offA : ∀ (ds : List D) {F : Hp} {vs : List V} {p : Addr} {ws : List V}, noLA ds = true → F p = some (.lst ws) → DqA K F ds vs → DqA K (fun b => if b = p then none else F b) ds vs
  | [], F, vs, p, ws, h, e, q => q
  | d :: ds, F, vs, p, ws, h, e, q => by
    simp only [noLA, Bool.and_eq_true] at h
    obtain ⟨x, r, rfl, g1, g2⟩ := q
    exact ⟨x, r, rfl, noL_off d h.1 e g1, noL_offA ds h.2 e g2⟩
end
def SimBP (K : PySem.W.Frag) (i : Nat) (path : Pth) (t : TA) (a : AAB) : Prop := ∀ s P, a s P → ∀ σ F H, StOk K F H σ s → ∀ Q : List V → Hp → Prop,
  (∀ ds es s' vs us p xs F' H', P ds es s' → plc s' i path = some (.ow p xs) → Step K s F H s' F' H' σ → DqA K F' ds vs → DqA K F' es us → Q (vs ++ .ref p :: us) H') → t σ H Q
theorem slokA_erase {F H : Hp} : ∀ {ts : List Sl} {vs : List V} (j : Nat), SlOkA K F H ts vs → SlOkA K F H (ts.eraseIdx j) (vs.eraseIdx j)
  | [], vs, j, h => by
    rw [slokA_nil.mp h]
    exact slokA_nil.mpr rfl
  | t :: ts, vs, 0, h => by
    obtain ⟨x, r, rfl, _, h2⟩ := slokA_cons.mp h
    exact h2
  | t :: ts, vs, j + 1, h => by
    obtain ⟨x, r, rfl, h1, h2⟩ := slokA_cons.mp h
    exact slokA_cons.mpr ⟨x, _, rfl, h1, slokA_erase j h2⟩
theorem fpA_erase : ∀ {ts : List Sl} {j : Nat} {c : Sl}, (fpA ts).Nodup → ts[j]? = some c → (fpA (ts.eraseIdx j)).Nodup ∧ (∀ b, b ∈ fpA (ts.eraseIdx j) → b ∈ fpA ts) ∧ ∀ b, b ∈ fp c → b ∉ fpA (ts.eraseIdx j)
  | [], j, c, h, e => by cases e
  | t :: ts, 0, c, h, e => by
    cases e
    rw [fpA_cons] at h
    obtain ⟨h1, h2, h3⟩ := List.nodup_append.mp h
    refine ⟨h2, fun b hb => ?_, fun b hb z => h3 b hb b z rfl⟩
    rw [fpA_cons]
    exact List.mem_append_right _ hb
  | t :: ts, j + 1, c, h, e => by
    rw [fpA_cons] at h
    obtain ⟨h1, h2, h3⟩ := List.nodup_append.mp h
    have e' : ts[j]? = some c := by simpa using e
    obtain ⟨g1, g2, g3⟩ := fpA_erase (j := j) h2 e'
    have e3 : fpA ((t :: ts).eraseIdx (j + 1)) = fp t ++ fpA (ts.eraseIdx j) := by rw [List.eraseIdx_cons_succ, fpA_cons]
    rw [e3]
    refine ⟨List.nodup_append.mpr ⟨h1, g1, fun a ha b hb => h3 a ha b (g2 b hb)⟩, fun b hb => ?_, fun b hb z => ?_⟩
    · rw [fpA_cons]
      rcases List.mem_append.mp hb with y | y
      · exact List.mem_append_left _ y
      · exact List.mem_append_right _ (g2 b y)
    · rcases List.mem_append.mp z with y | y
      · exact h3 b y b (mem_fpA e' hb) rfl
      · exact g3 b hb y
/-- a dict gives one of its own lists away -/
theorem Lx.drop {F H : Hp} {q r : Addr} {ks : List Key} {ts : List Sl} {vs : List V} {xs : List D} {j : Nat} (ok : SlOk K F H (.nd q (.dk ks) ts) (some (.ref q))) (hn : (fp (.nd q (.dk ks) ts)).Nodup) (le : Same F H) (hcell : H q = some ((NK.dk ks).cell K vs)) (hts : SlOkA K F H ts vs) (e : ts[j]? = some (.ow r xs)) :
    Lx K [] (.nd q (.dk ks) ts) (.ref q) F H (.ow r xs) (.ref r) (.nd q (.dk (ks.eraseIdx j)) (ts.eraseIdx j)) F (upd H q (.dK ((ks.eraseIdx j).zip (vs.eraseIdx j)))) := by
  obtain ⟨_, hq, _, _, hlen, _⟩ := slok_nd.mp ok
  have hlen' : ks.length = ts.length ∧ ks.Nodup := hlen
  rw [fp_nd] at hn
  obtain ⟨n1, n2⟩ := List.nodup_cons.mp hn
  have n2' : (fpA ts).Nodup := by simpa [NK.dxs] using n2
  have n1' : q ∉ fpA ts := by simpa [NK.dxs] using n1
  obtain ⟨f1, f2, f3⟩ := fpA_erase n2' e
  obtain ⟨x, ex, hx⟩ := hts.get e
  obtain ⟨hxr, hr, us, hus, du⟩ := slok_ow.mp hx
  cases hxr
  have rin : r ∈ fpA ts := mem_fpA e (by rw [fp_ow]; exact List.mem_cons_self)
  have rq : r ≠ q := fun z => n1' (by rw [← z]; exact rin)
  have up : ∀ b u, b ≠ q → H b = some u → (upd H q (.dK ((ks.eraseIdx j).zip (vs.eraseIdx j)))) b = some u := fun b u hb h => by
    rw [upd_ne hb]
    exact h
  have fpe : fp (.nd q (.dk (ks.eraseIdx j)) (ts.eraseIdx j)) = q :: fpA (ts.eraseIdx j) := by
    rw [fp_nd]
    simp [NK.dxs]
  have fpo : fp (.nd q (.dk ks) ts) = q :: fpA ts := by
    rw [fp_nd]
    simp [NK.dxs]
  have hjl : j < ts.length := (List.getElem?_eq_some_iff.mp e).1
  refine ⟨Same.refl _, fun a o ha h => ?_, fun a h => ?_, slok_nd.mpr ⟨rfl, hq, fun b hb => (by cases hb), trivial, ⟨?_, ?_⟩, vs.eraseIdx j, upd_same, ?_⟩, ?_, fun a ha => ?_, fun b o h => ?_, fun a h => .inl h, slok_ow.mpr ⟨rfl, hr, us, up r _ rq hus, du⟩, fun a ha => ?_, by rw [fp_ow]; exact List.pairwise_singleton _ _⟩
  · refine up a o (fun z => ha ?_) h
    rw [fpo, z]
    exact List.mem_cons_self
  · by_cases z : a = q
    · subst z
      rw [upd_same] at h
      cases h
    · rw [upd_ne z] at h
      exact h
  · rw [List.length_eraseIdx, List.length_eraseIdx, hlen'.1]
  · exact hlen'.2.sublist (List.eraseIdx_sublist _ _)
  · exact SlOkA.mono _ (Same.refl _) (fun b hb u h1 h2 => ⟨h1, up b u (fun z => n1' (by rw [← z]; exact f2 b hb)) h2⟩) (slokA_erase j hts)
  · rw [fpe]
    exact List.nodup_cons.mpr ⟨fun z => n1' (f2 q z), f1⟩
  · rw [fpe] at ha
    rw [fpo]
    rcases List.mem_cons.mp ha with y | y
    · exact .inl (by rw [y]; exact List.mem_cons_self)
    · exact .inl (List.mem_cons_of_mem _ (f2 a y))
  · exact up b o (ne_of_none h hq) (le b o h)
  · rw [fp_ow] at ha
    cases List.mem_singleton.mp ha
    refine ⟨.inl (by rw [fpo]; exact List.mem_cons_of_mem _ rin), fun z => ?_⟩
    rw [fpe] at z
    rcases List.mem_cons.mp z with y | y
    · exact rq y
    · exact f3 r (by rw [fp_ow]; exact List.mem_cons_self) y
end
end DL
namespace DL
open PySem PySem.Spec L2 PyProof.Rows
structure DABP (X : Cx) (es : List Expr) (i : Nat) (path : Pth) (t : TA) (a : AAB) : Prop where
  pe : PA X es t
  sm : SimBP X.K i path t a
section
variable {X : Cx} {K : PySem.W.Frag} {p pos p2 : Pos} {x y : Str} {i : Nat} {path : Pth} {e eo : Expr} {es : List Expr} {ta : TE} {tr : TA} {aa : AE} {ar : AA} {ab : AAB}
end
end DL
namespace DL
open PySem L2
def pickL {α : Type} (ix : List Nat) (ws : List α) : List α := ix.filterMap fun i => ws[i]?
def tPerm (m : Nat) (ix : List Nat) (t : TA) : TA := fun σ H Q => t σ H fun zs H1 => zs.length = m ∧ Q (pickL ix zs) H1
def aPerm (m : Nat) (ix : List Nat) (a : AA) : AA := fun s P => a s fun ds s1 => ds.length = m ∧ P (pickL ix ds) s1
theorem sim_perm {K : PySem.W.Frag} {m : Nat} {ix : List Nat} {t : TA} {a : AA} (h : SimA K t a) : SimA K (tPerm m ix t) (aPerm m ix a) := fun s P q σ F H ok Q k => by
  show t σ H fun zs H1 => zs.length = m ∧ Q (pickL ix zs) H1
  refine h s _ q σ F H ok _ fun ds s1 zs F1 H1 q1 st1 d1 => ?_
  exact ⟨by rw [d1.length]; exact q1.1, k _ s1 _ F1 H1 q1.2 st1 (dqa_pick d1 ix)⟩
def gU {α : Type} (ix : List Nat) (us ws : List α) : List α := us ++ pickL ix ws
theorem kbn_fun {K : PySem.W.Frag} {x qual : Str} {st : Stmt} {f : Addr} {fd : FuncData} {ps ks : List Str} {ix : List Nat} (F : Fun K x qual st f fd)
    (h : ∀ (kV doc pm : Value) (an : Option Addr) (cdv ct : Value) (u : Value) (ws : List Value), ws.length = ks.length → bindArgs (PySem.W.fnOf x qual (defArgs st) (defBody st) (defScope st) .none kV doc pm an cdv ct) ⟨[u], ks.zip ws⟩ = pure (ps.zip (u :: pickL ix ws))) : KBn K fd ps 1 ks (gU ix) (gU ix) := by
  obtain ⟨oc, od, kV, doc, pm, an, cdv, ct, osl, rfl, lk, hcd⟩ := F.ex
  refine ⟨fun s us ws _ h1 h2 => ?_, fun {vs us zs ws} r rz => r.append (vals_pick rz ix)⟩
  match us, h1 with
  | [u], _ => exact .of_eq (h kV doc pm an cdv ct u ws h2)
section
variable {X : Cx} {k n : Nat} {f C : Addr} {fd : FuncData} {ps ks : List Str} {sp : Sp} {x m : Str} {p pos apos : Pos} {o : Expr} {kws : List Keyword} {tk : TA} {ta : TE} {ix : List Nat} {E : XK} {CX : CXT}
theorem pe_makeP (M : Mk X.K C f) (F : FnOk X.prog X.w X.K X.mg X.base CX k f fd ps sp) (hr : Room (k + 1) X.A) (hg : Gl X x) (hm : X.mg x = some (.ref C)) (hb : KBn X.K fd ps 1 ks (gU ix) (gU ix)) (hx : Passes CX X E) (hkw : PK X kws tk)
    (hall : (backToKw pos (keywordEach kws X.env)).all (·.1.isSome) = true := by rfl) (hks : (backToKw pos (keywordEach kws X.env)).filterMap (·.1) = ks := by rfl) (hdb : (x == ("__debug__" : Str)) = false := by decide)
    (hpl : ((backTo pos (starEach [] X.env)).any (·.1) || (backToKw pos (keywordEach kws X.env)).any (·.1.isNone)) = false := by rfl) :
    PE X (.Call (.Name x p) [] kws pos) (tMake C sp [] E (tPerm ks.length ix tk)) := by
  have h1 := pe_makeK0 (p := p) M F hr hg hm hb hx hkw hall hks hdb hpl
  refine ⟨fun pins s σ H Q I h => h1.run pins s σ H Q I ?_⟩
  have h : tk σ H fun zs H1 => zs.length = ks.length ∧ ∀ x dx, H1 x = none → H1 dx = none → dx ≠ x → sp (.ref x :: (pickL ix zs ++ [])) (upd (upd H1 dx (.own x)) x (.ins C dx [])) (fun v H2 => v = .non ∧ Q (.ref x) H2) E := h
  show tk σ H fun zs H2 => ([] : List V).length = 0 ∧ zs.length = ks.length ∧ ∀ x dx, H2 x = none → H2 dx = none → dx ≠ x → sp (gU ix [.ref x] zs) (upd (upd H2 dx (.own x)) x (.ins C dx [])) (fun v H3 => v = .non ∧ Q (.ref x) H3) E
  have e : (fun (zs : List V) (H1 : Hp) => zs.length = ks.length ∧ ∀ x dx, H1 x = none → H1 dx = none → dx ≠ x → sp (.ref x :: (pickL ix zs ++ [])) (upd (upd H1 dx (.own x)) x (.ins C dx [])) (fun v H2 => v = .non ∧ Q (.ref x) H2) E)
      = fun zs H2 => ([] : List V).length = 0 ∧ zs.length = ks.length ∧ ∀ x dx, H2 x = none → H2 dx = none → dx ≠ x → sp (gU ix [.ref x] zs) (upd (upd H2 dx (.own x)) x (.ins C dx [])) (fun v H3 => v = .non ∧ Q (.ref x) H3) E := by
    funext zs H1
    unfold gU
    simp
  rw [← e]
  exact h
end
section
variable {X : Cx} {K : PySem.W.Frag} {k n : Nat} {f C : Addr} {fd : FuncData} {ps ks : List Str} {x : Str} {p pos : Pos} {kws : List Keyword} {tr : TA} {aar : AA} {ix : List Nat} {ST : ART}
theorem d_makeK {c : Str} (hK : X.K = K := by rfl) (hC : clsA K c = C) (M : Mk K C f) (F : FnOk X.prog X.w K X.mg X.base CX0 k f fd ps (spT K n ST)) (hr : Room (k + 1) X.A) (hm : X.mg x = some (.ref C)) (hb : KBn K fd ps 1 ks (gU ix) (gU ix))
    (ha : DK X kws tr aar) (hg : Gl X x := by rfl) (hall : (backToKw pos (keywordEach kws X.env)).all (·.1.isSome) = true := by rfl) (hks : (backToKw pos (keywordEach kws X.env)).filterMap (·.1) = ks := by rfl)
    (hdb : (x == ("__debug__" : Str)) = false := by decide) (hpl : ((backTo pos (starEach [] X.env)).any (·.1) || (backToKw pos (keywordEach kws X.env)).any (·.1.isNone)) = false := by rfl) :
    DE X (.Call (.Name x p) [] kws pos) (tMake (clsA K c) (spT K n ST) [] E0 (tPerm ks.length ix tr)) (aMake n c ST (aPerm ks.length ix aar)) := by
  subst hK
  subst hC
  exact ⟨pe_makeP M F hr hg hm hb pass0 ha.pe hall hks hdb hpl, sim_make (sim_perm ha.sm)⟩
end
end DL
namespace DL
open PySem L2
section
variable {K : PySem.W.Frag} {X : Cx}
end
end DL
namespace L2
open PySem PySem.Spec PySem.W PyProof.Rows SeqAt
section
variable {X : Cx}
end
end L2
namespace L2
open PySem PySem.Spec PyProof.Rows
section
variable {X : Cx}
end
end L2
namespace DL
open PySem L2
section
variable {K : PySem.W.Frag} {F H : Hp}
end
section
variable {X : Cx} {ea eb ec : Expr} {ta tb : TE} {aa ab : AE} {pos p : Pos} {tg : Expr}
end
end DL
namespace DL
open PySem L2
section
variable {K : PySem.W.Frag} {te : TE} {a : AE}
end
end DL
namespace L2
open PySem PySem.Spec PyProof.Rows
structure EqC (K : PySem.W.Frag) (C f : Addr) : Prop where
  at_ : PySem.W.findIn K (.ref C) "__eq__" = some (some (.ref f))
  fn : PySem.W.isFn K (.ref f) = true
  raw : ∃ (nm q : Str) (N : Addr) (bs : List Value) (hdct : Bool) (sn : List Str) (sub : List Value) (ab : Bool) (col : Option Bool) (dd : Option Addr) (k0 k1 k2 k3 k5 : Option Value) (newId : String) (on : Obj) (es : Array DictEntry) (ep : Nat),
    K.lookup C = some (excClassObj nm q C N bs [.type "object"] hdct sn sub ab col dd k0 k1 k2 k3 k5 newId) ∧ K.lookup N = some on ∧ on.data = .dict es ep ∧
    (es.toList.all fun e => match e.key with | .str _ _ => true | _ => false) = true ∧ nsFind es "__eq__" = some (.ref f) ∧ nsFind es "__ne__" = none
theorem isFn_obj {K : PySem.W.Frag} {f : Addr} (h : PySem.W.isFn K (.ref f) = true) : ∃ of, K.lookup f = some of ∧ of.cls = .type "function" := by
  unfold PySem.W.isFn at h
  rw [beq_iff_eq] at h
  unfold PySem.W.typeIn at h
  cases e : K.lookup f with
  | none =>
    simp only [e] at h
    cases h
  | some o =>
    simp only [e] at h
    exact ⟨o, rfl, Option.some.inj h⟩
section
variable {X : Cx} {CX : CXT} {k : Nat} {C f : Addr} {fd : FuncData} {ps : List Str} {sp : Sp} {E : XK}
def rEqOwn (K : PySem.W.Frag) (C : Addr) (sp : Sp) (E : XK) : R2 := fun x y H Q => ∃ (a dx : Addr) (fs : List (Str × V)) (t : Value), x = .ref a ∧ H a = some (.ins C dx fs) ∧ TyX K H y t ∧ PySem.W.notFirst K C t = true ∧ sp [x, y] H (fun v H' => ∃ b, v = .bl b ∧ Q (.bl b) H') E
theorem op_eqOwn (c : EqC X.K C f) (F : FnOk X.prog X.w X.K X.mg X.base CX k f fd ps sp) (hr : Room (k + 1) X.A) (hb : Binds X.K fd ps []) (hx : Passes CX X.nox E) : OpR X (compareOp .Eq) (rEqOwn X.K C sp E) := by
  intro pins s σ H x y v u Q I rx ry h
  obtain ⟨a, dx, fs, t, rfl, ha, ty, hn, hsp⟩ := h
  cases rx
  obtain ⟨mA, O, _⟩ := ins_get I.hok ha
  obtain ⟨od, J, _⟩ := O.look
  obtain ⟨P, Z, hP, _⟩ := kit_of I ry ty
  obtain ⟨m, hF⟩ := I.fr
  show wpAny (model X.prog X.w) X.A (richCompare .Eq (.ref a) u) (EP X pins σ Q) X.xe s
  refine PySem.W.cmp_K (op := .Eq) (tb := t) (by have := hr.un; omega) hF I.ok.mod.kin J (Z.ty _ _ I.kIn hP) hn c.at_ c.fn ?_
  have hl := F.len _ _ _ _ hsp
  have r2 : Vals [V.ref a, y] [Value.ref a, u] := .cons rfl (.cons ry .nil)
  refine wpAny_call (codeAny_mono (F.run X.A X.stack s H ⟨[.ref a, u], []⟩ [.ref a, u] [.ref a, y] _ E (hr.mono (Nat.le_succ _)) I.env0 (by
    have := hb s [.ref a, u] I.kIn (by simpa using hl)
    simpa using this) r2 hsp) fun r s' hq => ?_)
  cases r with
  | error er => exact False.elim (hx pins σ H s er s' (I.wish _) hq)
  | ok fl =>
    cases fl with
    | ret w =>
      obtain ⟨z, H', I', rz, b, ez, q'⟩ := I.after hq
      subst ez
      cases rz
      exact ⟨.bl b, H', I', rfl, q'⟩
    | next => exact False.elim hq
    | brk => exact False.elim hq
    | cont => exact False.elim hq
def rNeOwn (C : Addr) (sp : Sp) (E : XK) : R2 := fun x y H Q => ∃ (a b dx dy : Addr) (fs gs : List (Str × V)), x = .ref a ∧ y = .ref b ∧ H a = some (.ins C dx fs) ∧ H b = some (.ins C dy gs) ∧ sp [x, y] H (fun v H' => ∃ b, v = .bl b ∧ Q (.bl (!b)) H') E
theorem op_neOwn (c : EqC X.K C f) (Fo : FnOk X.prog X.w X.K X.mg X.base CX k f fd ps sp) (hr : Room (k + 1) X.A) (hb : Binds X.K fd ps []) (hx : Passes CX X.nox E) : OpR X (compareOp .NotEq) (rNeOwn C sp E) := by
  intro pins s σ H x y v u Q I rx ry h
  obtain ⟨a, b, dx, dy, fs, gs, rfl, rfl, ha, hb2, hsp⟩ := h
  cases rx
  cases ry
  obtain ⟨mA, ⟨oa, na, nea⟩, _⟩ := ins_get I.hok ha
  obtain ⟨mB, ⟨ob, nb, neb⟩, _⟩ := ins_get I.hok hb2
  obtain ⟨nm, q, N, bs, hdct, sn, sub, ab, col, dd, k0, k1, k2, k3, k5, newId, on, es, ep, hC, hN, hNd, hes, he, hne⟩ := c.raw
  obtain ⟨hp, g, d, tk, os⟩ := s
  have kin := I.kIn
  obtain ⟨of, hf, hfc⟩ := isFn_obj c.fn
  have hsk : StrKeys es := fun e hm => by
    have := List.all_eq_true.mp hes e (Array.mem_toList_iff.mpr hm)
    revert this
    cases e.key <;> intro h <;> first | exact ⟨_, _, rfl⟩ | cases h
  have OX : Heap.OwnEqNoNe hp a C f "object" [.type "object"] :=
    ⟨_, of, nm, q, N, bs, hdct, sn, sub, ab, col, dd, k0, k1, k2, k3, k5, newId, nsFind es, _, oa, rfl, kin C _ hC, ⟨on, es, ep, kin N _ hN, hNd, hsk, fun _ => rfl⟩, he, kin f _ hf, hfc, F.cmp_object.mro, F.cmp_object.eq.lookup, hne⟩
  show wpAny (model X.prog X.w) X.A (richCompare .NotEq (.ref a) (.ref b)) (EP X pins σ Q) X.xe ⟨hp, g, d, tk, os⟩
  have hl := Fo.len _ _ _ _ hsp
  have r2 : Vals [V.ref a, V.ref b] [Value.ref a, Value.ref b] := .cons rfl (.cons rfl .nil)
  refine richCompare_ne_ownEq F.cmp_object OX ob rfl (by have := hr.un; omega) ?_
  refine wpAny_call (codeAny_mono (Fo.run X.A.in1 X.stack ⟨hp, g, d, tk, os⟩ H ⟨[.ref a, .ref b], []⟩ [.ref a, .ref b] [.ref a, .ref b] _ E hr.in1 I.env0.in1 (by
    have := hb ⟨hp, g, d, tk, os⟩ [.ref a, .ref b] I.kIn (by simpa using hl)
    simpa using this) r2 hsp) fun r s' hq => ?_)
  cases r with
  | error er => exact False.elim (hx pins σ H ⟨hp, g, d, tk, os⟩ er s' (I.wish _) hq)
  | ok fl =>
    cases fl with
    | ret w =>
      obtain ⟨z, H', I', rz, b, ez, q'⟩ := I.after hq
      subst ez
      cases rz
      exact ⟨b, rfl, .bl (!b), H', I', rfl, q'⟩
    | next => exact False.elim hq
    | brk => exact False.elim hq
    | cont => exact False.elim hq
end
end L2
namespace DL
open PySem L2
/-- what isinstance asks of an own class -/
structure IsC (K : PySem.W.Frag) (C : Addr) : Prop where
  cl : Cls K C
  ha : PySem.W.findIn K (.ref C) "__class__" = some (some (.builtin "object.__class__"))
  hn : PySem.W.specialIn K (.builtin "object.__class__") "__get__" = some (some (.builtin "getset_descriptor.__get__"))
  htk : PySem.W.takesIn K (.builtin "object.__class__") = some true
  hm : PySem.W.mroIn K C (.type "object") = some true
  hk : ((PySem.W.clsIn K C).isSome && PySem.W.typeIn K (.ref C) == some (.type "type")) = true
theorem clsTy {K : PySem.W.Frag} {C : Addr} (h1 : PySem.W.isClsIn K C = true) (h2 : PySem.W.typeIn K (.ref C) = some (.type "type")) : ((PySem.W.clsIn K C).isSome && PySem.W.typeIn K (.ref C) == some (.type "type")) = true := by
  unfold PySem.W.isClsIn at h1
  rw [h1, h2]
  rfl
section
variable {K : PySem.W.Frag} {te ta tb : TE} {aa ab : AE} {F H : Hp}
def isCD (c : Str) : D → Option Bool
  | .ins c' _ _ => if c' = c then some true else none
  | .ob _ => none
  | _ => some false
/-- a value's type, own class c among them -/
def tyC (C : Addr) : D → Value
  | .ins _ _ _ => .ref C
  | d => .type ((tyD d).getD "object")
theorem tyC_ok {c : Str} {d : D} {x : V} {b : Bool} (T : IsC K (clsA K c)) (le : Same F H) (h : Dq K F d x) (e : isCD c d = some b) : TyX K H x (tyC (clsA K c) d) ∧ PySem.W.kitOne K (tyC (clsA K c) d) (.ref (clsA K c)) = some b ∧ PySem.W.notFirst K (clsA K c) (tyC (clsA K c) d) = true := by
  have kit : ∀ t : String, PySem.W.subIn K (.type t) (.ref (clsA K c)) = some false → PySem.W.kitOne K (.type t) (.ref (clsA K c)) = some false ∧ PySem.W.notFirst K (clsA K c) (.type t) = true := fun t ht => by
    refine ⟨?_, ?_⟩
    · unfold PySem.W.kitOne
      rw [if_neg (by simp)]
      unfold PySem.W.kitCls
      simp only
      rw [if_pos T.hk, ht]
    · unfold PySem.W.notFirst
      rw [ht]
      simp
  cases d with
  | ins c' ns ds =>
    have e : (if c' = c then some true else none) = some b := e
    split at e
    · rename_i hc
      cases e
      subst hc
      obtain ⟨a, dx, vs, rfl, g1, g2, g3⟩ := h
      refine ⟨.base (.ins (le _ _ g1) T.cl T.ha T.hn T.htk T.hm), ?_, ?_⟩
      · show PySem.W.kitOne K (.ref (clsA K c')) (.ref (clsA K c')) = some true
        unfold PySem.W.kitOne
        rw [if_pos (by simp)]
      · show PySem.W.notFirst K (clsA K c') (.ref (clsA K c')) = true
        unfold PySem.W.notFirst
        simp
    · cases e
  | ob f => cases e
  | non =>
    cases e
    obtain ⟨t, h1, h2⟩ := ty_ok (T := .int) (b := false) le h rfl
    cases h1
    exact ⟨h2, kit _ rfl⟩
  | bl i =>
    cases e
    obtain ⟨t, h1, h2⟩ := ty_ok (T := .str) (b := false) le h rfl
    cases h1
    exact ⟨h2, kit _ rfl⟩
  | int i =>
    cases e
    obtain ⟨t, h1, h2⟩ := ty_ok (T := .str) (b := false) le h rfl
    cases h1
    exact ⟨h2, kit _ rfl⟩
  | str i =>
    cases e
    obtain ⟨t, h1, h2⟩ := ty_ok (T := .int) (b := false) le h rfl
    cases h1
    exact ⟨h2, kit _ rfl⟩
  | tup i =>
    cases e
    obtain ⟨t, h1, h2⟩ := ty_ok (T := .int) (b := false) le h rfl
    cases h1
    exact ⟨h2, kit _ rfl⟩
  | lst i =>
    cases e
    obtain ⟨t, h1, h2⟩ := ty_ok (T := .int) (b := false) le h rfl
    cases h1
    exact ⟨h2, kit _ rfl⟩
  | scr i =>
    cases e
    obtain ⟨t, h1, h2⟩ := ty_ok (T := .int) (b := false) le h rfl
    cases h1
    exact ⟨h2, kit _ rfl⟩
  | dk ks i =>
    cases e
    obtain ⟨t, h1, h2⟩ := ty_ok (T := .int) (b := false) le h rfl
    cases h1
    exact ⟨h2, kit _ rfl⟩
  | dt ks i =>
    cases e
    obtain ⟨t, h1, h2⟩ := ty_ok (T := .int) (b := false) le h rfl
    cases h1
    exact ⟨h2, kit _ rfl⟩
def aIsC (c : Str) (a : AE) : AE := fun s P => a s fun r s1 => match isCD c r.d with
  | some b => P (.pu (.bl b)) s1
  | none => False
theorem sim_isC {c : Str} (T : IsC K (clsA K c)) (h : Sim K ta aa) : Sim K (tCB (rIsi K) (tCons ta (tCons (tC (.ref (clsA K c))) tNil))) (aIsC c aa) := fun s P q σ F H ok Q k => by
  refine h.d q ok fun r s1 v F1 H1 q1 st1 d1 => ?_
  cases e : isCD c r.d with
  | none =>
    rw [e] at q1
    exact q1.elim
  | some b =>
    rw [e] at q1
    obtain ⟨g1, g2, _⟩ := tyC_ok T st1.st.le d1 e
    exact ⟨v, .ref (clsA K c), _, .ref (clsA K c), b, rfl, .own _, g1, g2, k _ s1 _ F1 H1 q1 st1 (.pu rfl)⟩
/-- == by an own __eq__ -/
def aEqOwn (c : Str) (S : ARC) : AR2 := fun d e P => match d with
  | .ins c' ns ds => c' = c ∧ (isCD c e).isSome = true ∧ S [.ins c' ns ds, e] fun rs => ∃ b, rs = .pu (.bl b) ∧ P rs
  | _ => False
theorem rd_eqOwn {c : Str} {S : ARC} {E : XK} (T : IsC K (clsA K c)) : RD K (rEqOwn K (clsA K c) (spD K 2 S) E) (aEqOwn c S) := fun d e P q F H x y le dx dy Q k => by
  unfold aEqOwn at q
  split at q <;> first | exact q.elim | skip
  rename_i c' ns ds
  obtain ⟨rfl, hi, q⟩ := q
  obtain ⟨b0, hb0⟩ := Option.isSome_iff_exists.mp hi
  obtain ⟨g1, _, g3⟩ := tyC_ok T le dy hb0
  have h2 := dx
  obtain ⟨a, dx', vs, rfl, f1, f2, f3⟩ := dx
  refine ⟨a, dx', _, _, rfl, le _ _ f1, g1, g3, F, [.ins c' ns ds, e], _, le, ⟨_, _, rfl, h2, _, _, rfl, dy, rfl⟩, rfl, q, fun rs v F' H' hp l => ?_⟩
  obtain ⟨b, rfl, hP⟩ := hp
  obtain ⟨w, ew, hw⟩ := slok_pu.mp l.ok
  cases ew
  cases (show v = _ from hw)
  exact ⟨b, rfl, k _ _ F' H' hP l⟩
/-- != by an own __eq__, of two of the class -/
def aNeOwn (c : Str) (S : ARC) : AR2 := fun d e P => match d, e with
  | .ins c' ns ds, .ins c2 ns2 ds2 => c' = c ∧ c2 = c ∧ S [.ins c' ns ds, .ins c2 ns2 ds2] fun rs => ∃ b, rs = .pu (.bl b) ∧ P (.pu (.bl (!b)))
  | _, _ => False
theorem rd_neOwn {c : Str} {S : ARC} {E : XK} : RD K (rNeOwn (clsA K c) (spD K 2 S) E) (aNeOwn c S) := fun d e P q F H x y le dx dy Q k => by
  unfold aNeOwn at q
  split at q <;> first | exact q.elim | skip
  rename_i c' ns ds c2 ns2 ds2
  obtain ⟨rfl, rfl, q⟩ := q
  have h2 := dx
  have h3 := dy
  obtain ⟨a, dx', vs, rfl, f1, f2, f3⟩ := dx
  obtain ⟨b, dy', ws, rfl, f4, f5, f6⟩ := dy
  refine ⟨a, b, dx', dy', _, _, rfl, rfl, le _ _ f1, le _ _ f4, F, [.ins c2 ns ds, .ins c2 ns2 ds2], _, le, ⟨_, _, rfl, h2, _, _, rfl, h3, rfl⟩, rfl, q, fun rs v F' H' hp l => ?_⟩
  obtain ⟨b, rfl, hP⟩ := hp
  obtain ⟨w, ew, hw⟩ := slok_pu.mp l.ok
  cases ew
  cases (show v = _ from hw)
  exact ⟨b, rfl, k _ _ F' H' hP { l with ok := slok_pu.mpr ⟨_, rfl, rfl⟩, fr := fun p hp => (by rw [fp_pu] at hp; cases hp), nd := by rw [fp_pu]; exact List.nodup_nil }⟩
end
section
variable {X : Cx} {K : PySem.W.Frag} {ea eb : Expr} {ta tb : TE} {aa ab : AE} {p pos p2 : Pos}
theorem d_isC (hK : X.K = K := by rfl) {c y : Str} {C : Addr} (hC : clsA K c = C) (T : IsC K C) (ha : DE X ea ta aa) (hm : X.mg "isinstance" = none) (hmC : X.mg y = some (.ref C)) (hg : Gl X "isinstance" := by rfl) (hgC : Gl X y := by rfl) (hdb : (y == ("__debug__" : Str)) = false := by decide)
    (he : starEach (ea :: [.Name y p2]) X.env = (false, eval ea X.env) :: starEach [.Name y p2] X.env := by rfl) (he2 : starEach [.Name y p2] X.env = (false, eval (.Name y p2) X.env) :: starEach [] X.env := by rfl) (hpl : (backTo pos (starEach [.Name y p2] X.env)).any (·.1) = false := by rfl) :
    DE X (.Call (.Name "isinstance" p) [ea, .Name y p2] [] pos) (tCB (rIsi K) (tCons ta (tCons (tC (.ref C)) tNil))) (aIsC c aa) := by
  subst hK
  subst hC
  exact ⟨pe_callB call_isi hg hm (by decide +kernel) (pa_cons ha.pe (pa_cons (pe_glob hgC hmC rfl hdb) pa_nil he2) he) (by decide) (by decide) he hpl, sim_isC T ha.sm⟩
theorem d_eqOwn {c : Str} {S : ARC} {C f : Addr} {fd : FuncData} {ps : List Str} {k : Nat} (hK : X.K = K := by rfl) (hC : clsA K c = C) (T : IsC K C) (Q : EqC K C f) (F : FnOk X.prog X.w K X.mg X.base CX0 k f fd ps (spD K 2 S)) (hr : Room (k + 1) X.A) (hb : Binds K fd ps []) (ha : DE X ea ta aa) (hbb : DE X eb tb ab) :
    DE X (.Compare ea [.Eq] [eb] pos) (tOp (rEqOwn K C (spD K 2 S) E0) ta tb) (aOp (aEqOwn c S) aa ab) := by
  subst hK
  subst hC
  exact d_cmp (op_eqOwn Q F hr hb pass0) (rd_eqOwn T) ha hbb (nomark _)
theorem d_neOwn {c : Str} {S : ARC} {C f : Addr} {fd : FuncData} {ps : List Str} {k : Nat} (hK : X.K = K := by rfl) (hC : clsA K c = C) (Q : EqC K C f) (F : FnOk X.prog X.w K X.mg X.base CX0 k f fd ps (spD K 2 S)) (hr : Room (k + 1) X.A) (hb : Binds K fd ps []) (ha : DE X ea ta aa) (hbb : DE X eb tb ab) :
    DE X (.Compare ea [.NotEq] [eb] pos) (tOp (rNeOwn C (spD K 2 S) E0) ta tb) (aOp (aNeOwn c S) aa ab) := by
  subst hK
  subst hC
  exact d_cmp (op_neOwn Q F hr hb pass0) rd_neOwn ha hbb (nomark _)
theorem t_eqOwn {c : Str} {S : ARC} {C f : Addr} {fd : FuncData} {ps : List Str} {k : Nat} (hK : X.K = K := by rfl) (hC : clsA K c = C) (T : IsC K C) (Q : EqC K C f) (F : FnOk X.prog X.w K X.mg X.base CX0 k f fd ps (spD K 2 S)) (hr : Room (k + 1) X.A) (hb : Binds K fd ps []) (ha : DE X ea ta aa) (hbb : DE X eb tb ab) :
    DT X (.Compare ea [.Eq] [eb] pos) (tTest (tOp (rEqOwn K C (spD K 2 S) E0) ta tb)) (aTest (aOp (aEqOwn c S) aa ab)) := by
  subst hK
  subst hC
  exact t_cmp (op_eqOwn Q F hr hb pass0) (rd_eqOwn T) ha hbb (nomark _)
theorem t_neOwn {c : Str} {S : ARC} {C f : Addr} {fd : FuncData} {ps : List Str} {k : Nat} (hK : X.K = K := by rfl) (hC : clsA K c = C) (Q : EqC K C f) (F : FnOk X.prog X.w K X.mg X.base CX0 k f fd ps (spD K 2 S)) (hr : Room (k + 1) X.A) (hb : Binds K fd ps []) (ha : DE X ea ta aa) (hbb : DE X eb tb ab) :
    DT X (.Compare ea [.NotEq] [eb] pos) (tTest (tOp (rNeOwn C (spD K 2 S) E0) ta tb)) (aTest (aOp (aNeOwn c S) aa ab)) := by
  subst hK
  subst hC
  exact t_cmp (op_neOwn Q F hr hb pass0) rd_neOwn ha hbb (nomark _)
end
end DL
namespace DL
open PySem L2
inductive TK where
  | ju | pu | ow | ei
  | ins (c : Str) (ns : List Str) (ks : List TK)
  | dk (k : TK) | dt (k : TK) | ls (k : TK)
mutual
def Has : TK → Sl → Prop
  | .ju, _ => True
  | .pu, l => ∃ d, l = .pu d
  | .ow, l => ∃ p xs, l = .ow p xs
  | .ei, l => isNo l = false
  | .ins c ns ks, l => ∃ p dx ts, l = .nd p (.ins c dx ns) ts ∧ HasA ks ts
  | .dk k, l => ∃ p ke ts, l = .nd p (.dk ke) ts ∧ ∀ t ∈ ts, Has k t
  | .dt k, l => ∃ p ke ts, l = .nd p (.dt ke) ts ∧ ∀ t ∈ ts, Has k t
  | .ls k, l => ∃ p ts, l = .nd p .ls ts ∧ ∀ t ∈ ts, Has k t
def HasA : List TK → List Sl → Prop
  | [], ts => ts = []
  | k :: ks, ts => ∃ t r, ts = t :: r ∧ Has k t ∧ HasA ks r
end
theorem has_pu (d : D) : Has .pu (.pu d) := by unfold Has; exact ⟨d, rfl⟩
theorem has_ow (p : Addr) (xs : List D) : Has .ow (.ow p xs) := by unfold Has; exact ⟨p, xs, rfl⟩
theorem has_ju (l : Sl) : Has .ju l := by unfold Has; trivial
theorem of_pu {l : Sl} (h : Has .pu l) : l = .pu l.d := by
  unfold Has at h
  obtain ⟨d, rfl⟩ := h
  unfold Sl.d
  rfl
theorem of_ow {l : Sl} (h : Has .ow l) : ∃ p xs, l = .ow p xs := by
  unfold Has at h
  exact h
abbrev En := List D
def evS : TK → Sl → D
  | .ju, _ => .non
  | _, l => l.d
structure Mt (Ks : List TK) (s : Ss) (e : En) : Prop where
  l1 : s.length = Ks.length
  l2 : e.length = Ks.length
  at' : ∀ (i : Nat) (k : TK), Ks[i]? = some k → ∃ l : Sl, s[i]? = some l ∧ Has k l ∧ e[i]? = some (evS k l)
def Rk (s s' : Ss) : Prop := ∀ (j : Nat) (p : Addr), (s'[j]?).bind root = some p → (s[j]?).bind root = some p
structure Un (T : List Nat) (s s' : Ss) : Prop where
  t : ∀ j : Nat, j ∉ T → s'[j]? = s[j]?
  r : Rk s s'
theorem Rk.refl (s : Ss) : Rk s s := fun _ _ h => h
theorem Rk.trans {s s1 s2 : Ss} (a : Rk s s1) (b : Rk s1 s2) : Rk s s2 := fun j p h => a j p (b j p h)
theorem Un.refl (s : Ss) : Un [] s s := ⟨fun _ _ => rfl, .refl s⟩
theorem Un.trans {s s1 s2 : Ss} {T U : List Nat} (a : Un T s s1) (b : Un U s1 s2) : Un (T ++ U) s s2 :=
  ⟨fun j h => (b.t j fun z => h (List.mem_append_right _ z)).trans (a.t j fun z => h (List.mem_append_left _ z)), a.r.trans b.r⟩
theorem Mt.ix {Ks : List TK} {s : Ss} {e : En} (m : Mt Ks s e) {i : Nat} {k : TK} (h : Ks[i]? = some k) : ∃ l, s[i]? = some l ∧ Has k l ∧ e[i]? = some (evS k l) := m.at' i k h
theorem ev_d {k : TK} {l : Sl} (h : k ≠ .ju) : evS k l = l.d := by
  cases k <;> first | exact absurd rfl h | rfl
theorem get_set {α : Type} {l : List α} {i j : Nat} {x : α} (h : i < l.length) : (l.set i x)[j]? = if i = j then some x else l[j]? := by
  rw [List.getElem?_set]
  split
  · rfl
  · rfl
theorem Mt.set {Ks : List TK} {s : Ss} {e : En} (m : Mt Ks s e) {i : Nat} {k : TK} {l : Sl} (h : Has k l) : Mt (Ks.set i k) (s.set i l) (e.set i (evS k l)) where
  l1 := by rw [List.length_set, List.length_set, m.l1]
  l2 := by rw [List.length_set, List.length_set, m.l2]
  at' := fun j k2 q => by
    rw [List.getElem?_set] at q
    by_cases hij : i = j
    · subst hij
      rw [if_pos rfl] at q
      split at q
      · rename_i hl
        cases q
        exact ⟨l, by rw [get_set (by rw [m.l1]; exact hl), if_pos rfl], h, by rw [get_set (by rw [m.l2]; exact hl), if_pos rfl]⟩
      · cases q
    · rw [if_neg hij] at q
      obtain ⟨l2, g1, g2, g3⟩ := m.ix q
      exact ⟨l2, by rw [List.getElem?_set, if_neg hij]; exact g1, g2, by rw [List.getElem?_set, if_neg hij]; exact g3⟩
/-- the slot changes, what it says does not -/
theorem Mt.same {Ks : List TK} {s : Ss} {e : En} (m : Mt Ks s e) {i : Nat} {k : TK} {l : Sl} (h : Has k l) (hk : k ≠ .ju) (he : e[i]? = some l.d) : Mt (Ks.set i k) (s.set i l) e := by
  have := m.set (i := i) h
  rw [ev_d hk, set_self he] at this
  exact this
theorem rk_set {s : Ss} {i : Nat} {l l0 : Sl} (e : s[i]? = some l0) (h : ∀ p, root l = some p → root l0 = some p) : Rk s (s.set i l) := fun j p q => by
  by_cases hij : i = j
  · subst hij
    have hl := (List.getElem?_eq_some_iff.mp e).1
    rw [get_set hl, if_pos rfl] at q
    rw [e]
    exact h p q
  · rwa [List.getElem?_set, if_neg hij] at q
theorem un_set {s : Ss} {i : Nat} {l l0 : Sl} (e : s[i]? = some l0) (h : ∀ p, root l = some p → root l0 = some p) : Un [i] s (s.set i l) :=
  ⟨fun j hj => by rw [List.getElem?_set, if_neg fun z => hj (by rw [z]; exact List.mem_cons_self)], rk_set e h⟩
abbrev FE := En → Option (D × En)
abbrev FT := En → Option (Bool × En)
abbrev FA := En → Option (List D × En)
abbrev FO := En → Option (Option Int × En)
abbrev FG := D → En → Option En
abbrev FGs := List D → En → Option En
def SE (K : List TK) (a : AE) (f : FE) (k : TK) (K' : List TK) (T : List Nat) : Prop := ∀ s e r e', Mt K s e → f e = some (r, e') → ∀ P, (∀ l s', Has k l → l.d = r → Mt K' s' e' → Un T s s' → P l s') → a s P
def ST (K : List TK) (a : AT) (f : FT) (K' : List TK) (T : List Nat) : Prop := ∀ s e r e', Mt K s e → f e = some (r, e') → ∀ P, (∀ s', Mt K' s' e' → Un T s s' → P r s') → a s P
def SA (K : List TK) (a : AA) (f : FA) (K' : List TK) (T : List Nat) : Prop := ∀ s e r e', Mt K s e → f e = some (r, e') → ∀ P, (∀ s', Mt K' s' e' → Un T s s' → P r s') → a s P
def SO (K : List TK) (a : AO) (f : FO) (K' : List TK) (T : List Nat) : Prop := ∀ s e r e', Mt K s e → f e = some (r, e') → ∀ P, (∀ s', Mt K' s' e' → Un T s s' → P r s') → a s P
/-- values -/
def V2 (r : AR2) (g : D → D → Option D) (k : TK) : Prop := ∀ d e x, g d e = some x → ∀ P, (∀ l, Has k l → l.d = x → P l) → r d e P
def VC (r : ARC) (g : List D → Option D) (k : TK) : Prop := ∀ ds x, g ds = some x → ∀ P, (∀ l, Has k l → l.d = x → P l) → r ds P
theorem ex_bind {α β : Type} {o : Option α} {f : α → Option β} {b : β} (h : o.bind f = some b) : ∃ a, o = some a ∧ f a = some b := Option.bind_eq_some_iff.mp h
theorem ex_map {α β : Type} {o : Option α} {f : α → β} {b : β} (h : o.map f = some b) : ∃ a, o = some a ∧ f a = b := Option.map_eq_some_iff.mp h
def fVar (i : Nat) : FE := fun e => (e[i]?).map fun d => (d, e)
def fC (d : D) : FE := fun e => some (d, e)
theorem se_c {K : List TK} {d : D} : SE K (aC d) (fC d) .pu K [] := fun s e r e' m h P hP => by
  cases h
  exact hP (.pu d) s (has_pu d) (by unfold Sl.d; rfl) m (.refl s)
theorem se_var {K : List TK} {i : Nat} (h : K[i]? = some .pu) : SE K (aVar i) (fVar i) .pu K [] := fun s e r e' m hf P hP => by
  obtain ⟨l, g1, g2, g3⟩ := m.ix h
  obtain ⟨d, h1, h2⟩ := ex_map hf
  cases h2
  rw [g3] at h1
  cases h1
  unfold aVar
  rw [g1]
  rw [of_pu g2]
  exact hP _ s (has_pu _) (by unfold Sl.d; rw [ev_d (by simp)]) m (.refl s)
/-- a tree of the def's own becomes a value -/
theorem se_frz {K : List TK} {i : Nat} {k : TK} (h : K[i]? = some k) (hk : k ≠ .ju := by simp) : SE K (aVar i) (fVar i) .pu (K.set i .pu) [i] := fun s e r e' m hf P hP => by
  obtain ⟨l, g1, g2, g3⟩ := m.ix h
  obtain ⟨d, h1, h2⟩ := ex_map hf
  cases h2
  rw [g3] at h1
  cases h1
  rw [ev_d hk] at g3 hP
  have fin : P (.pu l.d) (s.set i (.pu l.d)) := hP _ _ (has_pu _) (by rw [Sl.d]) (m.same (has_pu _) (by simp) (by rw [Sl.d]; exact g3)) (un_set g1 fun p q => by cases q)
  unfold aVar
  rw [g1]
  cases l with
  | no =>
    exfalso
    cases k <;> simp [Has, isNo] at g2 hk
  | pu d =>
    have : s.set i (.pu (Sl.pu d).d) = s := set_self (by rw [g1, Sl.d])
    rw [this, Sl.d] at fin
    exact fin
  | ow p xs =>
    rw [Sl.d] at fin
    exact fin
  | nd p kk ts =>
    rw [Sl.d] at fin
    exact fin
theorem se_mov {K : List TK} {i : Nat} {k : TK} (h : K[i]? = some k) (hk : k = .ow ∨ (∃ c ns ks, k = .ins c ns ks) ∨ ∃ k', k = .dk k') : SE K (aMov i) (fun e => (e[i]?).map fun d => (d, e.set i .non)) k (K.set i .ju) [i] := fun s e r e' m hf P hP => by
  obtain ⟨l, g1, g2, g3⟩ := m.ix h
  obtain ⟨d, h1, h2⟩ := ex_map hf
  cases h2
  rw [g3] at h1
  cases h1
  have kj : k ≠ .ju := by rcases hk with rfl | ⟨c, ns, ks, rfl⟩ | ⟨k', rfl⟩ <;> simp
  rw [ev_d kj] at g3 hP
  have mm : Mt (K.set i .ju) (s.set i .no) (e.set i .non) := m.set (has_ju .no)
  have fin : P l (s.set i .no) := hP l _ g2 rfl mm (un_set g1 fun p q => by cases q)
  unfold aMov
  rw [g1]
  rcases hk with rfl | ⟨c, ns, ks, rfl⟩ | ⟨k', rfl⟩ <;> unfold Has at g2
  · obtain ⟨p, xs, rfl⟩ := g2
    exact fin
  · obtain ⟨p, dx, ts, rfl, _⟩ := g2
    exact fin
  · obtain ⟨p, ke, ts, rfl, _⟩ := g2
    exact fin
def fMov (i : Nat) : FE := fun e => (e[i]?).map fun d => (d, e.set i .non)
section
variable {K K1 K2 K3 : List TK} {a b c : AE} {fa fb fc : FE} {ka kb kc k : TK} {T T1 T2 T3 : List Nat}
def fOp (g : D → D → Option D) (a b : FE) : FE := fun e => (a e).bind fun x => (b x.2).bind fun y => (g x.1 y.1).map fun r => (r, y.2)
theorem se_op {r : AR2} {g : D → D → Option D} (hr : V2 r g k) (ha : SE K a fa ka K1 T1) (hb : SE K1 b fb kb K2 T2) : SE K (aOp r a b) (fOp g fa fb) k K2 (T1 ++ T2) := fun s e x e' m h P hP => by
  obtain ⟨⟨d1, e1⟩, h1, h⟩ := ex_bind h
  obtain ⟨⟨d2, e2⟩, h2, h⟩ := ex_bind h
  obtain ⟨d3, h3, h4⟩ := ex_map h
  cases h4
  refine ha s e d1 e1 m h1 _ fun l1 s1 k1 q1 m1 u1 => ?_
  refine hb s1 e1 d2 e2 m1 h2 _ fun l2 s2 k2 q2 m2 u2 => ?_
  subst q1 q2
  exact hr _ _ _ h3 _ fun l hk hd => hP l s2 hk hd m2 (u1.trans u2)
def gI (f : Int → Int → Int) : D → D → Option D
  | .int i, .int j => some (.int (f i j))
  | _, _ => none
def gB (f : Int → Int → Bool) : D → D → Option D
  | .int i, .int j => some (.bl (f i j))
  | _, _ => none
def gIC (C : Int → Int → Prop) [∀ i j, Decidable (C i j)] (f : Int → Int → Int) : D → D → Option D
  | .int i, .int j => if C i j then some (.int (f i j)) else none
  | _, _ => none
theorem puP {x : D} {P : Sl → Prop} (hP : ∀ l, Has .pu l → l.d = x → P l) : P (.pu x) := hP _ (has_pu x) (by rw [Sl.d])
theorem owP {xs : List D} {P : Sl → Prop} (hP : ∀ l, Has .ow l → l.d = .lst xs → P l) (p : Addr) : P (.ow p xs) := hP _ (has_ow p xs) (by rw [Sl.d])
theorem v_i {f : Int → Int → Int} : V2 (aI f) (gI f) .pu := fun d e x h P hP => by
  cases d <;> cases e <;> first | (cases h; done) | skip
  cases h
  exact puP hP
theorem v_b {f : Int → Int → Bool} : V2 (aB f) (gB f) .pu := fun d e x h P hP => by
  cases d <;> cases e <;> first | (cases h; done) | skip
  cases h
  exact puP hP
theorem v_ic {C : Int → Int → Prop} [∀ i j, Decidable (C i j)] {f : Int → Int → Int} : V2 (aIC C f) (gIC C f) .pu := fun d e x h P hP => by
  cases d <;> cases e <;> first | (cases h; done) | skip
  rename_i i j
  have h : (if C i j then some (D.int (f i j)) else none) = some x := h
  split at h
  · rename_i hc
    cases h
    exact ⟨hc, puP hP⟩
  · cases h
def gEq (neg : Bool) : D → D → Option D := fun d e => (eqS d e).map fun b => .bl (if neg then !b else b)
theorem v_eq : V2 aEq (gEq false) .pu := fun d e x h P hP => by
  obtain ⟨b, h1, h2⟩ := ex_map h
  subst h2
  unfold aEq
  rw [h1]
  exact puP hP
theorem v_ne : V2 aNe (gEq true) .pu := fun d e x h P hP => by
  obtain ⟨b, h1, h2⟩ := ex_map h
  subst h2
  unfold aNe
  rw [h1]
  exact puP hP
def gIsN (neg : Bool) : D → D → Option D := fun d e => match e with
  | .non => (isN d).map fun b => .bl (if neg then !b else b)
  | _ => none
theorem v_isN : V2 aIsN (gIsN false) .pu := fun d e x h P hP => by
  unfold gIsN at h
  cases e <;> first | (cases h; done) | skip
  obtain ⟨b, h1, h2⟩ := ex_map h
  subst h2
  unfold aIsN
  rw [h1]
  exact puP hP
def gIx : D → D → Option D := fun d e => (seqD d).bind fun ds => match e with
  | .int i => atI ds i
  | _ => none
theorem v_ix : V2 aIx gIx .pu := fun d e x h P hP => by
  obtain ⟨ds, h1, h2⟩ := ex_bind h
  clear h
  cases e <;> first | (cases h2; done) | skip
  rename_i i
  have h : atI ds i = some x := h2
  unfold aIx
  rw [h1]
  simp only [h]
  exact puP hP
def gCatL : D → D → Option D
  | .lst xs, .lst ys => if xs.length + ys.length ≤ 200000 then some (.lst (xs ++ ys)) else none
  | _, _ => none
def gCatT : D → D → Option D
  | .tup xs, .tup ys => if xs.length + ys.length ≤ 200000 then some (.tup (xs ++ ys)) else none
  | _, _ => none
theorem v_catL : V2 aCatL gCatL .ow := fun d e x h P hP => by
  cases d <;> cases e <;> first | (cases h; done) | skip
  rename_i xs ys
  have h : (if xs.length + ys.length ≤ 200000 then some (D.lst (xs ++ ys)) else none) = some x := h
  split at h
  · rename_i hc
    cases h
    exact ⟨hc, fun p => owP hP p⟩
  · cases h
def gMulT : D → D → Option D
  | .tup ds, .int k => if ds ≠ [] ∧ ds.length ≤ 1000 ∧ 0 ≤ k ∧ k ≤ 1000 then some (.tup (List.replicate k.toNat ds).flatten) else none
  | _, _ => none
instance {α : Type} (ds : List α) : Decidable (ds ≠ []) := match ds with
  | [] => .isFalse fun h => h rfl
  | _ :: _ => .isTrue fun h => by cases h
def gIsB (neg : Bool) : D → D → Option D
  | .bl a, .bl b => some (.bl (if neg then !decide (a = b) else decide (a = b)))
  | _, _ => none
def gInSg : D → D → Option D
  | .str x, .str z => (sgn1 x).map fun c => .bl (decide (c ∈ z.cps.toList))
  | _, _ => none
theorem v_inSg : V2 (aInSg false) gInSg .pu := fun d e x h P hP => by
  cases d <;> cases e <;> first | (cases h; done) | skip
  rename_i y z
  obtain ⟨c, h1, h2⟩ := ex_map (show ((sgn1 y).map fun c => D.bl (decide (c ∈ z.cps.toList))) = some x from h)
  subst h2
  exact ⟨c, h1, puP hP⟩
def gIxStr : D → D → Option D
  | .str z, .int i => if z.length ≤ 16000000 then (atI z.cps.toList i).map fun c => .str ⟨#[c]⟩ else none
  | _, _ => none
theorem v_ixStr : V2 aIxStr gIxStr .pu := fun d e x h P hP => by
  cases d <;> cases e <;> first | (cases h; done) | skip
  rename_i z i
  have h : (if z.length ≤ 16000000 then (atI z.cps.toList i).map fun c => D.str ⟨#[c]⟩ else none) = some x := h
  split at h
  · rename_i hc
    obtain ⟨c, h1, h2⟩ := ex_map h
    subst h2
    exact ⟨hc, c, h1, puP hP⟩
  · cases h
mutual
def eoB : D → Bool
  | .non => true
  | .bl _ => true
  | .int _ => true
  | .str _ => true
  | .tup xs => eoBA xs
  | .lst xs => eoBA xs
  | .scr xs => eoBA xs
  | _ => false
def eoBA : List D → Bool
  | [] => true
  | d :: ds => eoB d && eoBA ds
end
mutual
theorem eoB_ok : ∀ d : D, eoB d = true → eoD d
  | .non, _ => by unfold eoD; trivial
  | .bl _, _ => by unfold eoD; trivial
  | .int _, _ => by unfold eoD; trivial
  | .str _, _ => by unfold eoD; trivial
  | .tup xs, h => by unfold eoD; exact eoBA_ok xs (by rwa [eoB] at h)
  | .lst xs, h => by unfold eoD; exact eoBA_ok xs (by rwa [eoB] at h)
  | .scr xs, h => by unfold eoD; exact eoBA_ok xs (by rwa [eoB] at h)
  | .ob _, h => by simp [eoB] at h
  | .ins _ _ _, h => by simp [eoB] at h
  | .dk _ _, h => by simp [eoB] at h
  | .dt _ _, h => by simp [eoB] at h
theorem eoBA_ok : ∀ ds : List D, eoBA ds = true → eoA ds
  | [], _ => by unfold eoA; trivial
  | d :: ds, h => by
    rw [eoBA, Bool.and_eq_true] at h
    unfold eoA
    exact ⟨eoB_ok d h.1, eoBA_ok ds h.2⟩
end
/-- == of lists and tuples -/
def gEqD (neg : Bool) : D → D → Option D := fun d e => if eoB d = true ∧ eoB e = true ∧ SeqAt.shaped (pyD d) = true ∧ SeqAt.shaped (pyD e) = true then some (.bl (if neg then !PyData.eqv (pyD d) (pyD e) else PyData.eqv (pyD d) (pyD e))) else none
theorem v_eqD {neg : Bool} : V2 (aEqD neg) (gEqD neg) .pu := fun d e x h P hP => by
  unfold gEqD at h
  split at h
  · rename_i hc
    cases h
    exact ⟨eoB_ok _ hc.1, eoB_ok _ hc.2.1, hc.2.2.1, hc.2.2.2, puP hP⟩
  · cases h
def fNeg (a : FE) : FE := fun e => (a e).bind fun x => match x.1 with
  | .int i => some (.int (-i), x.2)
  | _ => none
def fNotV (a : FE) : FE := fun e => (a e).bind fun x => match x.1 with
  | .bl b => some (.bl (!b), x.2)
  | _ => none
theorem se_notV (ha : SE K a fa ka K1 T1) : SE K (aNotV a) (fNotV fa) .pu K1 T1 := fun s e x e' m h P hP => by
  obtain ⟨⟨d1, e1⟩, h1, h⟩ := ex_bind h
  cases d1 <;> first | (cases h; done) | skip
  cases h
  refine ha s e _ e1 m h1 _ fun l1 s1 k1 q1 m1 u1 => ?_
  rw [q1]
  exact hP _ _ (has_pu _) (by rw [Sl.d]) m1 u1
def fAndV (a b : FE) : FE := fun e => (a e).bind fun x => match x.1 with
  | .bl c => if c = true then b x.2 else some (.bl false, x.2)
  | _ => none
def fOrV (a b : FE) : FE := fun e => (a e).bind fun x => match x.1 with
  | .bl c => if c = true then some (.bl true, x.2) else b x.2
  | _ => none
theorem se_andV (ha : SE K a fa ka K1 T1) (hb : SE K1 b fb .pu K1 T2) : SE K (aAndV a b) (fAndV fa fb) .pu K1 (T1 ++ T2) := fun s e x e' m h P hP => by
  obtain ⟨⟨d1, e1⟩, h1, h⟩ := ex_bind h
  cases d1 <;> first | (cases h; done) | skip
  rename_i c
  refine ha s e _ e1 m h1 _ fun l1 s1 k1 q1 m1 u1 => ?_
  rw [q1]
  have h : (if c = true then fb e1 else some (.bl false, e1)) = some (x, e') := h
  show if c = true then b s1 P else P (.pu (.bl false)) s1
  split
  · rename_i hc
    rw [if_pos hc] at h
    exact hb s1 e1 _ _ m1 h _ fun l2 s2 k2 q2 m2 u2 => hP l2 s2 k2 q2 m2 (u1.trans u2)
  · rename_i hc
    rw [if_neg hc] at h
    cases h
    exact hP _ _ (has_pu _) (by rw [Sl.d]) m1 ⟨fun j hj => u1.t j fun z => hj (List.mem_append_left _ z), u1.r⟩
theorem se_orV (ha : SE K a fa ka K1 T1) (hb : SE K1 b fb .pu K1 T2) : SE K (aOrV a b) (fOrV fa fb) .pu K1 (T1 ++ T2) := fun s e x e' m h P hP => by
  obtain ⟨⟨d1, e1⟩, h1, h⟩ := ex_bind h
  cases d1 <;> first | (cases h; done) | skip
  rename_i c
  refine ha s e _ e1 m h1 _ fun l1 s1 k1 q1 m1 u1 => ?_
  rw [q1]
  have h : (if c = true then some (.bl true, e1) else fb e1) = some (x, e') := h
  show if c = true then P (.pu (.bl true)) s1 else b s1 P
  split
  · rename_i hc
    rw [if_pos hc] at h
    cases h
    exact hP _ _ (has_pu _) (by rw [Sl.d]) m1 ⟨fun j hj => u1.t j fun z => hj (List.mem_append_left _ z), u1.r⟩
  · rename_i hc
    rw [if_neg hc] at h
    exact hb s1 e1 _ _ m1 h _ fun l2 s2 k2 q2 m2 u2 => hP l2 s2 k2 q2 m2 (u1.trans u2)
/-- a op b op c -/
def fChain (g g' : D → D → Option D) (a b c : FE) : FE := fun e => (a e).bind fun x => (b x.2).bind fun y => (g x.1 y.1).bind fun z => match z with
  | .bl t => if t = true then (c y.2).bind fun w => (g' y.1 w.1).map fun r => (r, w.2) else some (.bl false, y.2)
  | _ => none
theorem se_chain {r r' : AR2} {g g' : D → D → Option D} (hr : V2 r g .pu) (hr' : V2 r' g' .pu) (ha : SE K a fa ka K1 T1) (hb : SE K1 b fb kb K2 T2) (hc : SE K2 c fc kc K2 T3) : SE K (aChain r r' a b c) (fChain g g' fa fb fc) .pu K2 (T1 ++ T2 ++ T3) := fun s e x e' m h P hP => by
  obtain ⟨⟨d1, e1⟩, h1, h'⟩ := ex_bind h
  clear h
  obtain ⟨⟨d2, e2⟩, h2, h⟩ := ex_bind h'
  clear h'
  obtain ⟨z, h3, h'⟩ := ex_bind h
  clear h
  cases z <;> first | (cases h'; done) | skip
  rename_i t
  refine ha s e d1 e1 m h1 _ fun l1 s1 k1 q1 m1 u1 => ?_
  refine hb s1 e1 d2 e2 m1 h2 _ fun l2 s2 k2 q2 m2 u2 => ?_
  subst q1 q2
  refine hr _ _ _ h3 _ fun l hk hd => ?_
  rw [of_pu hk, hd]
  have h : (if t = true then (fc e2).bind fun w => (g' l2.d w.1).map fun r => (r, w.2) else some (.bl false, e2)) = some (x, e') := h'
  show if t = true then c s2 _ else P (.pu (.bl false)) s2
  split
  · rename_i ht
    rw [if_pos ht] at h
    obtain ⟨⟨d3, e3⟩, h4, h⟩ := ex_bind h
    obtain ⟨d4, h5, h6⟩ := ex_map h
    cases h6
    refine hc s2 e2 d3 e3 m2 h4 _ fun l3 s3 k3 q3 m3 u3 => ?_
    subst q3
    exact hr' _ _ _ h5 _ fun l hk hd => hP l s3 hk hd m3 ((u1.trans u2).trans u3)
  · rename_i ht
    rw [if_neg ht] at h
    cases h
    exact hP _ _ (has_pu _) (by rw [Sl.d]) m2 ⟨fun j hj => (u1.trans u2).t j fun z => hj (List.mem_append_left _ z), (u1.trans u2).r⟩
variable {t u : AT} {ft fu : FT}
def fTest (a : FE) : FT := fun e => (a e).bind fun x => match x.1 with
  | .bl b => some (b, x.2)
  | _ => none
theorem st_test (ha : SE K a fa ka K1 T1) : ST K (aTest a) (fTest fa) K1 T1 := fun s e x e' m h P hP => by
  obtain ⟨⟨d1, e1⟩, h1, h⟩ := ex_bind h
  cases d1 <;> first | (cases h; done) | skip
  cases h
  refine ha s e _ e1 m h1 _ fun l1 s1 k1 q1 m1 u1 => ?_
  rw [q1]
  exact hP s1 m1 u1
def fAnd (a b : FT) : FT := fun e => (a e).bind fun x => if x.1 = true then b x.2 else some (false, x.2)
def fOr (a b : FT) : FT := fun e => (a e).bind fun x => if x.1 = true then some (true, x.2) else b x.2
def fNot (a : FT) : FT := fun e => (a e).map fun x => (!x.1, x.2)
def fYes : FT := fun e => some (true, e)
theorem st_yes : ST K aYes fYes K [] := fun s e x e' m h P hP => by
  cases h
  exact hP s m (.refl s)
theorem st_and (ha : ST K t ft K1 T1) (hb : ST K1 u fu K1 T2) : ST K (aAnd t u) (fAnd ft fu) K1 (T1 ++ T2) := fun s e x e' m h P hP => by
  obtain ⟨⟨c, e1⟩, h1, h⟩ := ex_bind h
  refine ha s e _ e1 m h1 _ fun s1 m1 u1 => ?_
  have h : (if c = true then fu e1 else some (false, e1)) = some (x, e') := h
  show if c = true then u s1 P else P false s1
  split
  · rename_i hc
    rw [if_pos hc] at h
    exact hb s1 e1 _ _ m1 h _ fun s2 m2 u2 => hP s2 m2 (u1.trans u2)
  · rename_i hc
    rw [if_neg hc] at h
    cases h
    exact hP _ m1 ⟨fun j hj => u1.t j fun z => hj (List.mem_append_left _ z), u1.r⟩
theorem st_or (ha : ST K t ft K1 T1) (hb : ST K1 u fu K1 T2) : ST K (aOr t u) (fOr ft fu) K1 (T1 ++ T2) := fun s e x e' m h P hP => by
  obtain ⟨⟨c, e1⟩, h1, h⟩ := ex_bind h
  refine ha s e _ e1 m h1 _ fun s1 m1 u1 => ?_
  have h : (if c = true then some (true, e1) else fu e1) = some (x, e') := h
  show if c = true then P true s1 else u s1 P
  split
  · rename_i hc
    rw [if_pos hc] at h
    cases h
    exact hP _ m1 ⟨fun j hj => u1.t j fun z => hj (List.mem_append_left _ z), u1.r⟩
  · rename_i hc
    rw [if_neg hc] at h
    exact hb s1 e1 _ _ m1 h _ fun s2 m2 u2 => hP s2 m2 (u1.trans u2)
theorem st_not (ha : ST K t ft K1 T1) : ST K (aNot t) (fNot ft) K1 T1 := fun s e x e' m h P hP => by
  obtain ⟨⟨c, e1⟩, h1, h⟩ := ex_map h
  cases h
  exact ha s e _ e1 m h1 _ fun s1 m1 u1 => hP s1 m1 u1
def fIf (c : FT) (a b : FE) : FE := fun e => (c e).bind fun x => if x.1 = true then a x.2 else b x.2
end
end DL
namespace DL
open PySem L2
mutual
def leK : TK → TK → Bool
  | k, .ei => match k with
    | .ju => false
    | _ => true
  | .ju, .ju => true
  | .pu, .pu => true
  | .ow, .ow => true
  | .ins c ns ks, .ins c' ns' ks' => decide (c = c') && decide (ns = ns') && leKs ks ks'
  | .dk k, .dk k' => leK k k'
  | .dt k, .dt k' => leK k k'
  | .ls k, .ls k' => leK k k'
  | _, _ => false
def leKs : List TK → List TK → Bool
  | [], [] => true
  | k :: ks, k' :: ks' => leK k k' && leKs ks ks'
  | _, _ => false
end
theorem isNo_of {k : TK} {l : Sl} (hk : k ≠ .ju) (h : Has k l) : isNo l = false := by
  cases k <;> unfold Has at h
  · exact absurd rfl hk
  · obtain ⟨d, rfl⟩ := h
    rfl
  · obtain ⟨p, xs, rfl⟩ := h
    rfl
  · exact h
  · obtain ⟨p, dx, ts, rfl, _⟩ := h
    rfl
  · obtain ⟨p, dx, ts, rfl, _⟩ := h
    rfl
  · obtain ⟨p, dx, ts, rfl, _⟩ := h
    rfl
  · obtain ⟨p, ts, rfl, _⟩ := h
    rfl
mutual
theorem le_has : ∀ (k k' : TK) (l : Sl), leK k k' = true → Has k l → Has k' l
  | .ju, k', l, h, q => by
    cases k' <;> first | (simp [leK] at h; done) | exact q
  | .pu, k', l, h, q => by
    cases k' <;> first | (simp [leK] at h; done) | exact q | (unfold Has; exact isNo_of (by simp) q)
  | .ow, k', l, h, q => by
    cases k' <;> first | (simp [leK] at h; done) | exact q | (unfold Has; exact isNo_of (by simp) q)
  | .ei, k', l, h, q => by
    cases k' <;> first | (simp [leK] at h; done) | exact q
  | .ins c ns ks, k', l, h, q => by
    cases k' <;> first | (simp [leK] at h; done) | (unfold Has; exact isNo_of (by simp) q) | skip
    rename_i c' ns' ks'
    simp only [leK, Bool.and_eq_true, decide_eq_true_eq] at h
    obtain ⟨⟨rfl, rfl⟩, h3⟩ := h
    unfold Has at q ⊢
    obtain ⟨p, dx, ts, rfl, h4⟩ := q
    exact ⟨p, dx, ts, rfl, le_hasA ks ks' ts h3 h4⟩
  | .dk k, k', l, h, q => by
    cases k' <;> first | (simp [leK] at h; done) | (unfold Has; exact isNo_of (by simp) q) | skip
    rename_i k2
    simp only [leK] at h
    unfold Has at q ⊢
    obtain ⟨p, ke, ts, rfl, h4⟩ := q
    exact ⟨p, ke, ts, rfl, fun t ht => le_has k k2 t h (h4 t ht)⟩
  | .dt k, k', l, h, q => by
    cases k' <;> first | (simp [leK] at h; done) | (unfold Has; exact isNo_of (by simp) q) | skip
    rename_i k2
    simp only [leK] at h
    unfold Has at q ⊢
    obtain ⟨p, ke, ts, rfl, h4⟩ := q
    exact ⟨p, ke, ts, rfl, fun t ht => le_has k k2 t h (h4 t ht)⟩
  | .ls k, k', l, h, q => by
    cases k' <;> first | (simp [leK] at h; done) | (unfold Has; exact isNo_of (by simp) q) | skip
    rename_i k2
    simp only [leK] at h
    unfold Has at q ⊢
    obtain ⟨p, ts, rfl, h4⟩ := q
    exact ⟨p, ts, rfl, fun t ht => le_has k k2 t h (h4 t ht)⟩
theorem le_hasA : ∀ (ks ks' : List TK) (ts : List Sl), leKs ks ks' = true → HasA ks ts → HasA ks' ts
  | [], [], ts, h, q => q
  | [], k' :: ks', ts, h, q => by simp [leKs] at h
  | k :: ks, [], ts, h, q => by simp [leKs] at h
  | k :: ks, k' :: ks', ts, h, q => by
    simp only [leKs, Bool.and_eq_true] at h
    unfold HasA at q ⊢
    obtain ⟨t, r, rfl, h1, h2⟩ := q
    exact ⟨t, r, rfl, le_has k k' t h.1 h1, le_hasA ks ks' r h.2 h2⟩
end
theorem le_ev {k k' : TK} {l : Sl} (h : leK k k' = true) : evS k l = evS k' l := by
  cases k <;> cases k' <;> simp [leK] at h <;> rfl
theorem leKs_len : ∀ {ks ks' : List TK}, leKs ks ks' = true → ks.length = ks'.length
  | [], [], _ => rfl
  | [], k' :: ks', h => by simp [leKs] at h
  | k :: ks, [], h => by simp [leKs] at h
  | k :: ks, k' :: ks', h => by
    simp only [leKs, Bool.and_eq_true] at h
    rw [List.length_cons, List.length_cons, leKs_len h.2]
theorem leKs_get : ∀ {ks ks' : List TK} {i : Nat} {k' : TK}, leKs ks ks' = true → ks'[i]? = some k' → ∃ k, ks[i]? = some k ∧ leK k k' = true
  | [], [], i, k', _, e => by simp at e
  | [], k' :: ks', i, _, h, _ => by simp [leKs] at h
  | k :: ks, [], i, _, h, _ => by simp [leKs] at h
  | k :: ks, k' :: ks', 0, k2, h, e => by
    simp only [leKs, Bool.and_eq_true] at h
    cases e
    exact ⟨k, rfl, h.1⟩
  | k :: ks, k' :: ks', i + 1, k2, h, e => by
    simp only [leKs, Bool.and_eq_true] at h
    exact leKs_get (i := i) h.2 (by simpa using e)
theorem Mt.wk {Ks Ks' : List TK} {s : Ss} {e : En} (m : Mt Ks s e) (h : leKs Ks Ks' = true) : Mt Ks' s e where
  l1 := by rw [m.l1, leKs_len h]
  l2 := by rw [m.l2, leKs_len h]
  at' := fun i k' q => by
    obtain ⟨k, g1, g2⟩ := leKs_get h q
    obtain ⟨l, h1, h2, h3⟩ := m.ix g1
    exact ⟨l, h1, le_has _ _ _ g2 h2, by rw [h3, le_ev g2]⟩
def fScr : List Nat → En → En
  | [], e => e
  | v :: vs, e => (fScr vs e).set v .non
def scrK : List Nat → List TK → List TK
  | [], e => e
  | v :: vs, e => (scrK vs e).set v .ju
theorem Mt.wipe {Ks : List TK} {s : Ss} {e : En} (m : Mt Ks s e) : ∀ vs : List Nat, Mt (scrK vs Ks) (wipeS s vs) (fScr vs e)
  | [] => m
  | v :: vs => (m.wipe vs).set (l := .no) (has_ju _)
theorem Mt.scr1 {Ks : List TK} {s : Ss} {e : En} (m : Mt Ks s e) (i : Nat) : Mt (Ks.set i .ju) s (e.set i .non) where
  l1 := by rw [List.length_set, m.l1]
  l2 := by rw [List.length_set, List.length_set, m.l2]
  at' := fun j k q => by
    rw [List.getElem?_set] at q
    by_cases hij : i = j
    · subst hij
      rw [if_pos rfl] at q
      split at q
      · rename_i hl
        cases q
        exact ⟨s[i]'(by rw [m.l1]; exact hl), List.getElem?_eq_getElem _, has_ju _, by rw [get_set (by rw [m.l2]; exact hl), if_pos rfl]; rfl⟩
      · cases q
    · rw [if_neg hij] at q
      obtain ⟨l2, g1, g2, g3⟩ := m.ix q
      exact ⟨l2, g1, g2, by rw [List.getElem?_set, if_neg hij]; exact g3⟩
theorem Mt.scr {Ks : List TK} {s : Ss} {e : En} (m : Mt Ks s e) : ∀ vs : List Nat, Mt (scrK vs Ks) s (fScr vs e)
  | [] => m
  | v :: vs => (m.scr vs).scr1 v
theorem un_wipe (s : Ss) : ∀ vs : List Nat, Un vs s (wipeS s vs)
  | [] => .refl s
  | v :: vs => by
    have h := un_wipe s vs
    refine ⟨fun j hj => ?_, fun j p q => ?_⟩
    · show ((wipeS s vs).set v .no)[j]? = _
      rw [List.getElem?_set, if_neg fun z => hj (by rw [z]; exact List.mem_cons_self)]
      exact h.t j fun z => hj (List.mem_cons_of_mem _ z)
    · have q : (((wipeS s vs).set v .no)[j]?).bind root = some p := q
      by_cases hv : v = j
      · subst hv
        rw [List.getElem?_set, if_pos rfl] at q
        split at q <;> cases q
      · rw [List.getElem?_set, if_neg hv] at q
        exact h.r j p q
theorem Un.mono {T U : List Nat} {s s' : Ss} (h : Un T s s') (hs : ∀ j, j ∈ T → j ∈ U) : Un U s s' := ⟨fun j hj => h.t j fun z => hj (hs j z), h.r⟩
section
variable {K K1 K2 K3 Kl Kt Ke Kg : List TK} {a b c : AE} {fa fb fc : FE} {ka kb kc k : TK} {T T1 T2 T3 : List Nat} {t u : AT} {ft fu : FT} {aa ar : AA} {faa far : FA} {ao al au : AO} {fo fl fu' : FO}
theorem se_le (h : SE K a fa k K1 T) (w : leKs K1 K2 = true := by rfl) : SE K a fa k K2 T := fun s e x e' m hf P hP => h s e x e' m hf P fun l s' k q m' u => hP l s' k q (m'.wk w) u
theorem se_k {k' : TK} (h : SE K a fa k K1 T) (w : leK k k' = true := by rfl) : SE K a fa k' K1 T := fun s e x e' m hf P hP => h s e x e' m hf P fun l s' hk q m' u => hP l s' (le_has _ _ _ w hk) q m' u
theorem se_if (ht : ST K t ft K1 T) (ha : SE K1 a fa k K2 T1) (hb : SE K1 b fb k K2 T2) : SE K (aIf t a b) (fIf ft fa fb) k K2 (T ++ (T1 ++ T2)) := fun s e x e' m h P hP => by
  obtain ⟨⟨c, e1⟩, h1, h'⟩ := ex_bind h
  clear h
  refine ht s e _ e1 m h1 _ fun s1 m1 u1 => ?_
  have h : (if c = true then fa e1 else fb e1) = some (x, e') := h'
  show if c = true then a s1 P else b s1 P
  split
  · rename_i hc
    rw [if_pos hc] at h
    exact ha s1 e1 _ _ m1 h _ fun l2 s2 k2 q2 m2 u2 => hP l2 s2 k2 q2 m2 (u1.trans (u2.mono fun j hj => List.mem_append_left _ hj))
  · rename_i hc
    rw [if_neg hc] at h
    exact hb s1 e1 _ _ m1 h _ fun l2 s2 k2 q2 m2 u2 => hP l2 s2 k2 q2 m2 (u1.trans (u2.mono fun j hj => List.mem_append_right _ hj))
def fIsi (T : TyN) (a : FE) : FE := fun e => (a e).bind fun x => (isi T x.1).map fun b => (.bl b, x.2)
theorem se_isi {N : TyN} (ha : SE K a fa ka K1 T1) : SE K (aIsi N a) (fIsi N fa) .pu K1 T1 := fun s e x e' m h P hP => by
  obtain ⟨⟨d1, e1⟩, h1, h⟩ := ex_bind h
  obtain ⟨b, h2, h3⟩ := ex_map h
  cases h3
  refine ha s e _ e1 m h1 _ fun l1 s1 k1 q1 m1 u1 => ?_
  rw [q1]
  simp only at h2
  rw [h2]
  exact hP _ _ (has_pu _) (by rw [Sl.d]) m1 u1
def fNil : FA := fun e => some ([], e)
def fCons (a : FE) (r : FA) : FA := fun e => (a e).bind fun x => (r x.2).map fun y => (x.1 :: y.1, y.2)
theorem sa_nil : SA K aNil fNil K [] := fun s e x e' m h P hP => by
  cases h
  exact hP s m (.refl s)
theorem sa_cons (ha : SE K a fa ka K1 T1) (hr : SA K1 ar far K2 T2) : SA K (aCons a ar) (fCons fa far) K2 (T1 ++ T2) := fun s e x e' m h P hP => by
  obtain ⟨⟨d1, e1⟩, h1, h⟩ := ex_bind h
  obtain ⟨⟨ds, e2⟩, h2, h3⟩ := ex_map h
  cases h3
  refine ha s e _ e1 m h1 _ fun l1 s1 k1 q1 m1 u1 => ?_
  refine hr s1 e1 _ _ m1 h2 _ fun s2 m2 u2 => ?_
  rw [q1]
  exact hP s2 m2 (u1.trans u2)
def fStar (a : FE) (r : FA) : FA := fun e => (a e).bind fun x => (seqD x.1).bind fun xs => (r x.2).map fun y => (xs ++ y.1, y.2)
theorem sa_star (ha : SE K a fa ka K1 T1) (hr : SA K1 ar far K2 T2) : SA K (aStar a ar) (fStar fa far) K2 (T1 ++ T2) := fun s e x e' m h P hP => by
  obtain ⟨⟨d1, e1⟩, h1, h⟩ := ex_bind h
  obtain ⟨xs, h4, h⟩ := ex_bind h
  obtain ⟨⟨ds, e2⟩, h2, h3⟩ := ex_map h
  cases h3
  refine ha s e _ e1 m h1 _ fun l1 s1 k1 q1 m1 u1 => ?_
  rw [q1]
  simp only at h4
  rw [h4]
  exact hr s1 e1 _ _ m1 h2 _ fun s2 m2 u2 => hP s2 m2 (u1.trans u2)
def fTup (a : FA) : FE := fun e => (a e).bind fun x => if x.1.length ≤ 100000 then some (.tup x.1, x.2) else none
def fLst (a : FA) : FE := fun e => (a e).bind fun x => if x.1.length ≤ 100000 then some (.lst x.1, x.2) else none
theorem se_tup (ha : SA K aa faa K1 T1) : SE K (aTup aa) (fTup faa) .pu K1 T1 := fun s e x e' m h P hP => by
  obtain ⟨⟨ds, e1⟩, h1, h'⟩ := ex_bind h
  clear h
  have h : (if ds.length ≤ 100000 then some (D.tup ds, e1) else none) = some (x, e') := h'
  split at h
  · rename_i hc
    cases h
    exact ha s e _ _ m h1 _ fun s1 m1 u1 => ⟨hc, hP _ _ (has_pu _) (by rw [Sl.d]) m1 u1⟩
  · cases h
theorem se_lst (ha : SA K aa faa K1 T1) : SE K (aLst aa) (fLst faa) .ow K1 T1 := fun s e x e' m h P hP => by
  obtain ⟨⟨ds, e1⟩, h1, h'⟩ := ex_bind h
  clear h
  have h : (if ds.length ≤ 100000 then some (D.lst ds, e1) else none) = some (x, e') := h'
  split at h
  · rename_i hc
    cases h
    exact ha s e _ _ m h1 _ fun s1 m1 u1 => ⟨hc, fun p => hP _ _ (has_ow p _) (by rw [Sl.d]) m1 u1⟩
  · cases h
def fCall (g : List D → Option D) (a : FA) : FE := fun e => (a e).bind fun x => (g x.1).map fun r => (r, x.2)
theorem se_call {r : ARC} {g : List D → Option D} (hr : VC r g k) (ha : SA K aa faa K1 T1) : SE K (aCall r aa) (fCall g faa) k K1 T1 := fun s e x e' m h P hP => by
  obtain ⟨⟨ds, e1⟩, h1, h⟩ := ex_bind h
  obtain ⟨y, h2, h3⟩ := ex_map h
  cases h3
  exact ha s e _ _ m h1 _ fun s1 m1 u1 => hr _ _ h2 _ fun l hk hd => hP l s1 hk hd m1 u1
def fNoP : FO := fun e => some (none, e)
def fPart (a : FE) : FO := fun e => (a e).bind fun x => match x.1 with
  | .int i => some (some i, x.2)
  | _ => none
theorem so_no : SO K aNoP fNoP K [] := fun s e x e' m h P hP => by
  cases h
  exact hP s m (.refl s)
theorem so_part (ha : SE K a fa ka K1 T1) : SO K (aPart a) (fPart fa) K1 T1 := fun s e x e' m h P hP => by
  obtain ⟨⟨d1, e1⟩, h1, h⟩ := ex_bind h
  cases d1 <;> first | (cases h; done) | skip
  cases h
  refine ha s e _ e1 m h1 _ fun l1 s1 k1 q1 m1 u1 => ?_
  rw [q1]
  exact hP _ m1 u1
def tupD : D → Option (List D)
  | .tup xs => some xs
  | _ => none
def fSlL (a : FE) (l u : FO) : FE := fun e => (a e).bind fun x => (l x.2).bind fun lo => (u lo.2).bind fun hi => (lstD x.1).map fun xs => (.lst (cutD xs lo.1 hi.1), hi.2)
def fSlT (a : FE) (l u : FO) : FE := fun e => (a e).bind fun x => (l x.2).bind fun lo => (u lo.2).bind fun hi => (tupD x.1).map fun xs => (.tup (cutD xs lo.1 hi.1), hi.2)
theorem se_slL (ha : SE K a fa ka K1 T1) (hl : SO K1 al fl K2 T2) (hu : SO K2 au fu' K3 T3) : SE K (aSlL a al au) (fSlL fa fl fu') .ow K3 (T1 ++ (T2 ++ T3)) := fun s e x e' m h P hP => by
  obtain ⟨⟨d1, e1⟩, h1, h⟩ := ex_bind h
  obtain ⟨⟨lo, e2⟩, h2, h⟩ := ex_bind h
  obtain ⟨⟨hi, e3⟩, h3, h⟩ := ex_bind h
  obtain ⟨xs, h4, h5⟩ := ex_map h
  cases h5
  refine ha s e _ e1 m h1 _ fun l1 s1 k1 q1 m1 u1 => ?_
  refine hl s1 e1 _ _ m1 h2 _ fun s2 m2 u2 => ?_
  refine hu s2 e2 _ _ m2 h3 _ fun s3 m3 u3 => ?_
  rw [q1]
  simp only at h4
  rw [h4]
  exact fun p => hP _ _ (has_ow p _) (by rw [Sl.d]) m3 (u1.trans (u2.trans u3))
def fRevL (a : FE) : FE := fun e => (a e).bind fun x => (lstD x.1).map fun ds => (.lst ds.reverse, x.2)
theorem se_revL (ha : SE K a fa ka K1 T1) : SE K (aRevL a) (fRevL fa) .ow K1 T1 := fun s e x e' m h P hP => by
  obtain ⟨⟨d1, e1⟩, h1, h⟩ := ex_bind h
  obtain ⟨xs, h4, h5⟩ := ex_map h
  cases h5
  refine ha s e _ e1 m h1 _ fun l1 s1 k1 q1 m1 u1 => ?_
  rw [q1]
  simp only at h4
  rw [h4]
  exact fun p => hP _ _ (has_ow p _) (by rw [Sl.d]) m1 u1
def fM1 (g : Str → D → Option D) (a b : FE) : FE := fun e => (a e).bind fun x => (b x.2).bind fun y => match x.1 with
  | .str z => (g z y.1).map fun r => (r, y.2)
  | _ => none
def V1 (r : Str → D → (Sl → Prop) → Prop) (g : Str → D → Option D) (k : TK) : Prop := ∀ z d x, g z d = some x → ∀ P, (∀ l, Has k l → l.d = x → P l) → r z d P
theorem se_m1 {r : Str → D → (Sl → Prop) → Prop} {g : Str → D → Option D} (hr : V1 r g k) (ha : SE K a fa ka K1 T1) (hb : SE K1 b fb kb K2 T2) : SE K (aM1 r a b) (fM1 g fa fb) k K2 (T1 ++ T2) := fun s e x e' m h P hP => by
  obtain ⟨⟨d1, e1⟩, h1, h'⟩ := ex_bind h
  clear h
  obtain ⟨⟨d2, e2⟩, h2, h⟩ := ex_bind h'
  clear h'
  cases d1 <;> first | (cases h; done) | skip
  rename_i z
  obtain ⟨y, h3, h4⟩ := ex_map h
  cases h4
  refine ha s e _ e1 m h1 _ fun l1 s1 k1 q1 m1 u1 => ?_
  rw [q1]
  refine hb s1 e1 _ _ m1 h2 _ fun l2 s2 k2 q2 m2 u2 => ?_
  subst q2
  exact hr _ _ _ h3 _ fun l hk hd => hP l s2 hk hd m2 (u1.trans u2)
def gSplit : Str → D → Option D := fun x d => match d with
  | .str y => if (y.length == 0) = false ∧ x.length ≤ 100000 then some (.lst ((Txt.split x y).map D.str)) else none
  | _ => none
theorem v_split : V1 fSplit gSplit .ow := fun z d x h P hP => by
  unfold gSplit at h
  cases d <;> first | (cases h; done) | skip
  simp only at h
  split at h
  · rename_i hc
    cases h
    exact ⟨hc.1, hc.2, fun p => owP hP p⟩
  · cases h
def gJoin : Str → D → Option D := fun x d => (seqS d).bind fun ys => if (ys.map (·.length)).sum + ys.length * x.length ≤ 1000000 then some (.str (Txt.join x ys)) else none
theorem v_join : V1 fJoin gJoin .pu := fun z d x h P hP => by
  obtain ⟨ys, h1, h⟩ := ex_bind h
  split at h
  · rename_i hc
    cases h
    exact ⟨ys, h1, hc, puP hP⟩
  · cases h
def fIxO (i : Nat) (b : FE) : FE := fun e => (b e).bind fun x => (x.2[i]?).bind fun d => match d, x.1 with
  | .lst xs, .int k => (atI xs k).map fun r => (r, x.2)
  | _, _ => none
theorem se_ixO {i : Nat} (h0 : K[i]? = some .ow) (h1 : K1[i]? = some .ow) (hb : SE K b fb kb K1 T1) : SE K (aIxO i b) (fIxO i fb) .pu K1 T1 := fun s e x e' m h P hP => by
  obtain ⟨⟨d1, e1⟩, h2, h'⟩ := ex_bind h
  clear h
  obtain ⟨d2, h3, h⟩ := ex_bind h'
  clear h'
  obtain ⟨l0, g1, g2, _⟩ := m.ix h0
  obtain ⟨p0, xs0, rfl⟩ := of_ow g2
  unfold aIxO
  rw [g1]
  refine hb s e _ _ m h2 _ fun l1 s1 k1 q1 m1 u1 => ?_
  obtain ⟨l3, z1, z2, z3⟩ := m1.ix h1
  obtain ⟨p3, xs3, rfl⟩ := of_ow z2
  simp only at h3
  rw [z3] at h3
  cases h3
  rw [q1, z1]
  rw [ev_d (by simp), Sl.d] at h
  cases d1 <;> first | (cases h; done) | skip
  rename_i k
  obtain ⟨r, h4, h5⟩ := ex_map h
  cases h5
  simp only [h4]
  exact hP _ _ (has_pu _) (by rw [Sl.d]) m1 u1
def fBor (g : List D → Option D) (i : Nat) : FE := fun e => (e[i]?).bind fun d => (g [d]).bind fun r => if flatD r = true then some (r, e) else none
theorem se_bor {r : ARC} {g : List D → Option D} {i : Nat} (hr : VC r g .pu) (h0 : K[i]? = some .ow) : SE K (aBor r i) (fBor g i) .pu K [] := fun s e x e' m h P hP => by
  obtain ⟨d, h1, h⟩ := ex_bind h
  obtain ⟨y, h2, h'⟩ := ex_bind h
  clear h
  obtain ⟨l0, g1, g2, g3⟩ := m.ix h0
  obtain ⟨p0, xs0, rfl⟩ := of_ow g2
  rw [g3] at h1
  cases h1
  rw [ev_d (by simp), Sl.d] at h2
  split at h'
  · rename_i hc
    cases h'
    unfold aBor
    rw [g1]
    exact hr _ _ h2 _ fun l hk hd => ⟨x, by rw [of_pu hk, hd], hc, hP _ _ (has_pu _) (by rw [Sl.d]) m (.refl s)⟩
  · cases h'
def fInB (neg : Bool) (a : FE) (i : Nat) : FE := fun e => (a e).bind fun x => (x.2[i]?).bind fun d => match d with
  | .lst xs => if flatD x.1 = true ∧ xs.all flatD = true then some (.bl (if neg then !inF x.1 xs else inF x.1 xs), x.2) else none
  | _ => none
theorem se_inB {neg : Bool} {i : Nat} (h0 : K[i]? = some .ow) (h1 : K1[i]? = some .ow) (ha : SE K a fa ka K1 T1) : SE K (aInB neg a i) (fInB neg fa i) .pu K1 T1 := fun s e x e' m h P hP => by
  obtain ⟨⟨d1, e1⟩, h2, h'⟩ := ex_bind h
  clear h
  obtain ⟨d2, h3, h⟩ := ex_bind h'
  clear h'
  obtain ⟨l0, g1, g2, _⟩ := m.ix h0
  obtain ⟨p0, xs0, rfl⟩ := of_ow g2
  unfold aInB
  rw [g1]
  refine ha s e _ _ m h2 _ fun l1 s1 k1 q1 m1 u1 => ?_
  obtain ⟨l3, z1, z2, z3⟩ := m1.ix h1
  obtain ⟨p3, xs3, rfl⟩ := of_ow z2
  simp only at h3
  rw [z3] at h3
  cases h3
  rw [q1, z1]
  rw [ev_d (by simp), Sl.d] at h
  simp only at h
  split at h
  · rename_i hc
    cases h
    exact ⟨hc.1, hc.2, hP _ _ (has_pu _) (by rw [Sl.d]) m1 u1⟩
  · cases h
def fPopAt (i : Nat) (a : FE) : FE := fun e => (a e).bind fun x => (x.2[i]?).bind fun d => match d, x.1 with
  | .lst xs, .int j => if 0 ≤ j ∧ j < xs.length ∧ xs.length ≤ 100000 then (xs[j.toNat]?).map fun r => (r, x.2.set i (.lst (xs.eraseIdx j.toNat))) else none
  | _, _ => none
theorem se_popAt {i : Nat} (h0 : K[i]? = some .ow) (h1 : K1[i]? = some .ow) (ha : SE K a fa ka K1 T1) : SE K (aPopAt i a) (fPopAt i fa) .pu K1 (T1 ++ [i]) := fun s e x e' m h P hP => by
  obtain ⟨⟨d1, e1⟩, h2, h'⟩ := ex_bind h
  clear h
  obtain ⟨d2, h3, h⟩ := ex_bind h'
  clear h'
  obtain ⟨l0, g1, g2, _⟩ := m.ix h0
  obtain ⟨p0, xs0, rfl⟩ := of_ow g2
  unfold aPopAt
  rw [g1]
  refine ha s e _ _ m h2 _ fun l1 s1 k1 q1 m1 u1 => ?_
  obtain ⟨l3, z1, z2, z3⟩ := m1.ix h1
  obtain ⟨p3, xs3, rfl⟩ := of_ow z2
  simp only at h3
  rw [z3] at h3
  cases h3
  rw [q1, z1]
  rw [ev_d (by simp), Sl.d] at h
  cases d1 <;> first | (cases h; done) | skip
  rename_i j
  simp only at h
  split at h
  · rename_i hc
    obtain ⟨r, h4, h5⟩ := ex_map h
    cases h5
    refine ⟨hc.1, hc.2.1, hc.2.2, fun d hd => ?_⟩
    rw [h4] at hd
    cases hd
    have mm := m1.set (i := i) (has_ow p3 (xs3.eraseIdx j.toNat))
    rw [ev_d (by simp), Sl.d, set_self h1] at mm
    exact hP _ _ (has_pu _) (by rw [Sl.d]) mm (u1.trans (un_set z1 fun p q => q))
  · cases h
def fListRange1 (a : FA) : FE := fun e => (a e).bind fun x => match x.1 with
  | [.int j] => if 0 ≤ j ∧ j ≤ 16777216 then some (.lst (rngD 0 j.toNat), x.2) else none
  | _ => none
theorem se_listRange1 (ha : SA K aa faa K1 T1) : SE K (aListRange1 aa) (fListRange1 faa) .ow K1 T1 := fun s e x e' m h P hP => by
  obtain ⟨⟨ds, e1⟩, h1, h'⟩ := ex_bind h
  clear h
  refine ha s e _ _ m h1 _ fun s1 m1 u1 => ?_
  simp only at h'
  split at h'
  · rename_i j
    split at h'
    · rename_i hc
      cases h'
      exact ⟨hc, fun p => hP _ _ (has_ow p _) (by rw [Sl.d]) m1 u1⟩
    · cases h'
  · cases h'
instance {i j : Int} : Decidable (RgOk i j) := by unfold RgOk; infer_instance
def fListRange2 (a : FA) : FE := fun e => (a e).bind fun x => match x.1 with
  | [.int i, .int j] => if RgOk i j then some (.lst (rngD i (j - i).toNat), x.2) else none
  | _ => none
theorem se_listRange2 (ha : SA K aa faa K1 T1) : SE K (aListRange2 aa) (fListRange2 faa) .ow K1 T1 := fun s e x e' m h P hP => by
  obtain ⟨⟨ds, e1⟩, h1, h'⟩ := ex_bind h
  clear h
  refine ha s e _ _ m h1 _ fun s1 m1 u1 => ?_
  simp only at h'
  split at h'
  · rename_i i j
    split at h'
    · rename_i hc
      cases h'
      exact ⟨hc, fun p => hP _ _ (has_ow p _) (by rw [Sl.d]) m1 u1⟩
    · cases h'
  · cases h'
/-- some unlike ones -/
def dedup : List Int → List Int
  | [] => []
  | x :: xs => if x ∈ dedup xs then dedup xs else x :: dedup xs
theorem dedup_dist : ∀ ns : List Int, Dist ns (dedup ns)
  | [] => ⟨List.nodup_nil, fun j => Iff.rfl⟩
  | x :: xs => by
    obtain ⟨h1, h2⟩ := dedup_dist xs
    unfold dedup
    split
    · rename_i hx
      refine ⟨h1, fun j => ?_⟩
      rw [h2, List.mem_cons]
      constructor
      · exact .inr
      · rintro (rfl | h)
        · exact (h2 j).mp hx
        · exact h
    · rename_i hx
      exact ⟨List.nodup_cons.mpr ⟨hx, h1⟩, fun j => by rw [List.mem_cons, List.mem_cons, h2]⟩
theorem dist_uniq {ns ks js : List Int} (a : Dist ns ks) (b : Dist ns js) : ks.length = js.length := ((List.perm_ext_iff_of_nodup a.1 b.1).mpr fun j => (a.2 j).trans (b.2 j).symm).length_eq
def fLenSetT (a : FE) : FE := fun e => (a e).bind fun x => match x.1 with
  | .tup ds => (intsD ds).bind fun ns => if ns.length ≤ 4000 then some (.int (dedup ns).length, x.2) else none
  | _ => none
def fLenSetL (a : FE) : FE := fun e => (a e).bind fun x => match x.1 with
  | .lst ds => (intsD ds).bind fun ns => if ns.length ≤ 4000 then some (.int (dedup ns).length, x.2) else none
  | _ => none
theorem se_lenSetT (ha : SE K a fa ka K1 T1) : SE K (aLenSetT a) (fLenSetT fa) .pu K1 T1 := fun s e x e' m h P hP => by
  obtain ⟨⟨d1, e1⟩, h1, h'⟩ := ex_bind h
  clear h
  cases d1 <;> first | (cases h'; done) | skip
  obtain ⟨ns, h2, h⟩ := ex_bind h'
  clear h'
  refine ha s e _ e1 m h1 _ fun l1 s1 k1 q1 m1 u1 => ?_
  rw [q1]
  split at h
  · rename_i hc
    cases h
    exact ⟨ns, h2, hc, fun ks hk => hP _ _ (has_pu _) (by rw [Sl.d, dist_uniq hk (dedup_dist ns)]) m1 u1⟩
  · cases h
end
end DL
namespace DL
open PySem L2
def gI1 (f : Int → Int) : List D → Option D
  | [.int i] => some (.int (f i))
  | _ => none
def gI2 (f : Int → Int → Int) : List D → Option D
  | [.int i, .int j] => some (.int (f i j))
  | _ => none
def gInt : List D → Option D
  | [.int i] => some (.int i)
  | [.bl b] => some (.int (if b then 1 else 0))
  | _ => none
def gLen : List D → Option D
  | [d] => (seqD d).map fun xs => .int xs.length
  | _ => none
theorem vc_i1 {f : Int → Int} : VC (aI1 f) (gI1 f) .pu := fun ds x h P hP => by
  unfold gI1 at h
  split at h
  · cases h
    exact puP hP
  · cases h
theorem vc_i2 {f : Int → Int → Int} : VC (aI2 f) (gI2 f) .pu := fun ds x h P hP => by
  unfold gI2 at h
  split at h
  · cases h
    exact puP hP
  · cases h
theorem vc_int : VC aInt gInt .pu := fun ds x h P hP => by
  unfold gInt at h
  split at h
  · cases h
    exact puP hP
  · cases h
    exact puP hP
  · cases h
theorem vc_len : VC aLen gLen .pu := fun ds x h P hP => by
  unfold gLen at h
  split at h
  · obtain ⟨xs, h1, h2⟩ := ex_map h
    cases h2
    unfold aLen
    simp only [h1]
    exact puP hP
  · cases h
def nSum : List Int → Option D := fun ns => some (.int ns.sum)
def VN (f : List Int → (D → Prop) → Prop) (g : List Int → Option D) : Prop := ∀ ns x, g ns = some x → ∀ P : D → Prop, P x → f ns P
theorem vn_sum : VN fSum nSum := fun ns x h P hP => by
  cases h
  exact hP
def gInts (g : List Int → Option D) : List D → Option D
  | [d] => ((lstD d).bind intsD).bind g
  | _ => none
def gIntsT (g : List Int → Option D) : List D → Option D
  | [.tup es] => (intsD es).bind g
  | _ => none
def gBls (f : List Bool → Bool) : List D → Option D
  | [d] => ((lstD d).bind blsD).map fun bs => .bl (f bs)
  | _ => none
theorem vc_ints {f : List Int → (D → Prop) → Prop} {g : List Int → Option D} (hn : VN f g) : VC (aInts f) (gInts g) .pu := fun ds x h P hP => by
  unfold gInts at h
  split at h
  · obtain ⟨ns, h1, h2⟩ := ex_bind h
    unfold aInts
    simp only [h1]
    exact hn _ _ h2 _ (puP hP)
  · cases h
theorem vc_bls {f : List Bool → Bool} : VC (aBls f) (gBls f) .pu := fun ds x h P hP => by
  unfold gBls at h
  split at h
  · obtain ⟨ns, h1, h2⟩ := ex_map h
    cases h2
    unfold aBls
    simp only [h1]
    exact puP hP
  · cases h
def gList : List D → Option D
  | [d] => (seqD d).map D.lst
  | _ => none
def gTupl : List D → Option D
  | [d] => (seqD d).map D.tup
  | _ => none
theorem vc_list : VC aList gList .ow := fun ds x h P hP => by
  unfold gList at h
  split at h
  · obtain ⟨xs, h1, h2⟩ := ex_map h
    cases h2
    unfold aList
    simp only [h1]
    exact fun p => owP hP p
  · cases h
theorem vc_tupl : VC aTupl gTupl .pu := fun ds x h P hP => by
  unfold gTupl at h
  split at h
  · obtain ⟨xs, h1, h2⟩ := ex_map h
    cases h2
    unfold aTupl
    simp only [h1]
    exact puP hP
  · cases h
mutual
def shB : Nat → D → Bool
  | _, .non => true
  | _, .bl _ => true
  | _, .int i => decide (-(10 ^ 60) < i) && decide (i < 10 ^ 60)
  | _, .str x => x.cps.toList.all (fun c => decide (c < 16 ^ 8))
  | k, .tup xs => decide (0 < k) && shBA (k - 1) xs
  | k, .lst xs => decide (0 < k) && shBA (k - 1) xs
  | k, .scr xs => decide (0 < k) && shBA (k - 1) xs
  | _, _ => false
def shBA : Nat → List D → Bool
  | _, [] => true
  | k, d :: ds => shB k d && shBA k ds
end
mutual
theorem shB_ok : ∀ (d : D) (k : Nat), shB k d = true → shD k d
  | .non, k, _ => by unfold shD; trivial
  | .bl _, k, _ => by unfold shD; trivial
  | .int i, k, h => by
    simp only [shB, Bool.and_eq_true, decide_eq_true_eq] at h
    unfold shD
    exact h
  | .str x, k, h => by
    simp only [shB] at h
    unfold shD
    exact h
  | .tup xs, k, h => by
    simp only [shB, Bool.and_eq_true, decide_eq_true_eq] at h
    unfold shD
    exact ⟨h.1, shBA_ok xs _ h.2⟩
  | .lst xs, k, h => by
    simp only [shB, Bool.and_eq_true, decide_eq_true_eq] at h
    unfold shD
    exact ⟨h.1, shBA_ok xs _ h.2⟩
  | .scr xs, k, h => by
    simp only [shB, Bool.and_eq_true, decide_eq_true_eq] at h
    unfold shD
    exact ⟨h.1, shBA_ok xs _ h.2⟩
  | .ob _, k, h => by simp [shB] at h
  | .ins _ _ _, k, h => by simp [shB] at h
  | .dk _ _, k, h => by simp [shB] at h
  | .dt _ _, k, h => by simp [shB] at h
theorem shBA_ok : ∀ (ds : List D) (k : Nat), shBA k ds = true → shA k ds
  | [], k, _ => by unfold shA; trivial
  | d :: ds, k, h => by
    simp only [shBA, Bool.and_eq_true] at h
    unfold shA
    exact ⟨shB_ok d k h.1, shBA_ok ds k h.2⟩
end
def gRepr : List D → Option D
  | [d] => if shB 40 d = true ∧ sizD d ≤ 200000 then some (.str (rpD d)) else none
  | _ => none
theorem vc_repr : VC aRepr gRepr .pu := fun ds x h P hP => by
  unfold gRepr at h
  split at h
  · split at h
    · rename_i hc
      cases h
      exact ⟨⟨shB_ok _ _ hc.1, hc.2⟩, puP hP⟩
    · cases h
  · cases h
def intS (l : List Int) : List Int := l.mergeSort fun a b => decide (a ≤ b)
def gSortI : List D → Option D
  | [d] => ((lstD d).bind intsD).map fun ns => lstI (intS ns)
  | _ => none
def gStrI : List D → Option D
  | [.int i] => if -(10 ^ 60) < i ∧ i < 10 ^ 60 then some (.str (sI i)) else none
  | _ => none
theorem vc_strI : VC aStrI gStrI .pu := fun ds x h P hP => by
  unfold gStrI at h
  split at h
  · split at h
    · rename_i hc
      cases h
      exact ⟨hc, puP hP⟩
    · cases h
  · cases h
def gIntS : List D → Option D
  | [.str x] => if x.length ≤ 640 then (PySem.intText? x).map fun n => .int n else none
  | _ => none
theorem vc_intS : VC aIntS gIntS .pu := fun ds x h P hP => by
  unfold gIntS at h
  split at h
  · split at h
    · rename_i hc
      obtain ⟨n, h1, h2⟩ := ex_map h
      cases h2
      exact ⟨n, h1, hc, puP hP⟩
    · cases h
  · cases h
def gLenS : List D → Option D
  | [.str x] => if x.length ≤ 16000000 then some (.int x.length) else none
  | _ => none
theorem vc_lenS : VC aLenS gLenS .pu := fun ds x h P hP => by
  unfold gLenS at h
  split at h
  · split at h
    · rename_i hc
      cases h
      exact ⟨hc, puP hP⟩
    · cases h
  · cases h
def lowD (k : TK) (F : List D → Option D) : ARC := fun ds P => ∃ r, F ds = some r ∧ ∀ l, Has k l → l.d = r → P l
def lowM (k : TK) (F : List D → Option (D × D)) : ARM := fun xs ds P => ∃ r d', F (.lst xs :: ds) = some (r, d') ∧ ∀ l ys, Has k l → l.d = r → d' = .lst ys → P l ys
def lowT (k0 k0' k : TK) (F : List D → Option (D × D)) : ART := fun l ds P => Has k0 l ∧ ∃ r d', F (l.d :: ds) = some (r, d') ∧ ∀ lr l', Has k lr → lr.d = r → Has k0' l' → l'.d = d' → root l' = root l → P lr l'
def gFn (n : Nat) (F : List D → Option D) : List D → Option D := fun ds => if ds.length = n then F ds else none
theorem vc_fn {n : Nat} {k : TK} {F : List D → Option D} : VC (aFn n (lowD k F)) (gFn n F) k := fun ds x h P hP => by
  unfold gFn at h
  split at h
  · rename_i hc
    exact ⟨hc, x, h, hP⟩
  · cases h
def gLenOwn (c : Str) (F : List D → Option D) : List D → Option D
  | [.ins c' ns ds] => if c' = c then (F [.ins c' ns ds]).bind fun r => match r with
    | .int n => if 0 ≤ n ∧ n < 1000000 then some (.int n) else none
    | _ => none
    else none
  | _ => none
theorem vc_lenOwn {c : Str} {F : List D → Option D} : VC (aLenOwn c (lowD .pu F)) (gLenOwn c F) .pu := fun ds x h P hP => by
  unfold gLenOwn at h
  split at h
  · split at h
    · rename_i hc
      obtain ⟨r, h1, h2⟩ := ex_bind h
      cases r <;> first | (cases h2; done) | skip
      rename_i n
      simp only at h2
      split at h2
      · rename_i hn
        cases h2
        refine ⟨hc, _, h1, fun l hk hd => ?_⟩
        have e : l = .pu (.int n) := by rw [of_pu hk, hd]
        exact ⟨n, e, hn.1, hn.2, by rw [e]; exact puP hP⟩
      · cases h2
    · cases h
  · cases h
section
variable {K K1 K2 K3 Kl Kt Ke Kg : List TK} {a b c : AE} {fa fb fc : FE} {ka kb kc k : TK} {T T1 T2 T3 : List Nat} {t u : AT} {ft fu : FT} {aa ar : AA} {faa far : FA}
def fCallK (n m : Nat) (ix : List Nat) (F : List D → Option D) (a : FA) : FE := fun e => (a e).bind fun x => if x.1.length = m then (gFn n F (ix.filterMap (fun i => x.1[i]?))).map fun r => (r, x.2) else none
theorem se_callK {n m : Nat} {ix : List Nat} {F : List D → Option D} (ha : SA K aa faa K1 T1) : SE K (aCallK n m ix (lowD k F) aa) (fCallK n m ix F faa) k K1 T1 := fun s e x e' m' h P hP => by
  obtain ⟨⟨ds, e1⟩, h1, h'⟩ := ex_bind h
  clear h
  refine ha s e _ _ m' h1 _ fun s1 m1 u1 => ?_
  simp only at h'
  split at h'
  · rename_i hc
    obtain ⟨y, h2, h3⟩ := ex_map h'
    cases h3
    exact ⟨hc, vc_fn _ _ h2 _ fun l hk hd => hP l s1 hk hd m1 u1⟩
  · cases h'
def fCallM (n j : Nat) (F : List D → Option (D × D)) (a : FA) : FE := fun e => (a e).bind fun x => (x.2[j]?).bind fun d => if x.1.length + 1 = n then (F (d :: x.1)).bind fun y => match y.2 with
  | .lst ys => some (y.1, x.2.set j (.lst ys))
  | _ => none
  else none
theorem se_callM {n j : Nat} {F : List D → Option (D × D)} (h0 : K[j]? = some .ow) (h1 : K1[j]? = some .ow) (ha : SA K aa faa K1 T1) : SE K (aCallM n j (lowM k F) aa) (fCallM n j F faa) k K1 (T1 ++ [j]) := fun s e x e' m h P hP => by
  obtain ⟨⟨ds, e1⟩, h2, h'⟩ := ex_bind h
  clear h
  obtain ⟨d2, h3, h⟩ := ex_bind h'
  clear h'
  obtain ⟨l0, g1, g2, _⟩ := m.ix h0
  obtain ⟨p0, xs0, rfl⟩ := of_ow g2
  unfold aCallM
  rw [g1]
  refine ha s e _ _ m h2 _ fun s1 m1 u1 => ?_
  obtain ⟨l3, z1, z2, z3⟩ := m1.ix h1
  obtain ⟨p3, xs3, rfl⟩ := of_ow z2
  simp only at h3
  rw [z3] at h3
  cases h3
  rw [z1]
  rw [ev_d (by simp), Sl.d] at h
  simp only at h
  split at h
  · rename_i hc
    obtain ⟨⟨r, d'⟩, h4, h5⟩ := ex_bind h
    cases d' <;> first | (cases h5; done) | skip
    rename_i ys
    cases h5
    have hp : p3 = p0 := by
      have := u1.r j p3 (by rw [z1]; rfl)
      rw [g1] at this
      cases this
      rfl
    refine ⟨hp, hc, r, _, h4, fun l ys' hk hd he => ?_⟩
    cases he
    have mm := m1.set (i := j) (has_ow p3 ys)
    rw [ev_d (by simp), Sl.d, set_self h1] at mm
    exact hP l _ hk hd mm (u1.trans (un_set z1 fun p q => q))
  · cases h
def fCallT (n : Nat) (F : List D → Option (D × D)) (a0 : FE) (a : FA) : FE := fun e => (a0 e).bind fun d => (a d.2).bind fun x => if x.1.length + 1 = n then (F (d.1 :: x.1)).bind fun y => match y.2 with
  | .lst _ => some (y.1, x.2)
  | _ => none
  else none
theorem se_callT {n : Nat} {F : List D → Option (D × D)} {a0 : AE} {f0 : FE} (h0 : SE K a0 f0 .ow K1 T1) (ha : SA K1 aa faa K2 T2) : SE K (aCallT n (lowM k F) a0 aa) (fCallT n F f0 faa) k K2 (T1 ++ T2) := fun s e x e' m h P hP => by
  obtain ⟨⟨d1, e1⟩, h1, h'⟩ := ex_bind h
  clear h
  obtain ⟨⟨ds, e2⟩, h2, h⟩ := ex_bind h'
  clear h'
  refine h0 s e _ _ m h1 _ fun l1 s1 k1 q1 m1 u1 => ?_
  obtain ⟨p, xs, rfl⟩ := of_ow k1
  rw [Sl.d] at q1
  subst q1
  refine ha s1 e1 _ _ m1 h2 _ fun s2 m2 u2 => ?_
  simp only at h
  split at h
  · rename_i hc
    obtain ⟨⟨r, d'⟩, h4, h5⟩ := ex_bind h
    cases d' <;> first | (cases h5; done) | skip
    rename_i ys
    cases h5
    exact ⟨hc, _, _, h4, fun l ys' hk hd he => hP l s2 hk hd m2 (u1.trans u2)⟩
  · cases h
def fItL (a : FE) : FA := fun e => (a e).bind fun x => match x.1 with
  | .lst ds => some (ds, x.2)
  | .scr ds => some (ds, x.2)
  | _ => none
def fItT (a : FE) : FA := fun e => (a e).bind fun x => match x.1 with
  | .tup ds => some (ds, x.2)
  | _ => none
theorem si_l (ha : SE K a fa ka K1 T1) : SA K (aItL a) (fItL fa) K1 T1 := fun s e x e' m h P hP => by
  obtain ⟨⟨d1, e1⟩, h1, h'⟩ := ex_bind h
  clear h
  refine ha s e _ e1 m h1 _ fun l1 s1 k1 q1 m1 u1 => ?_
  rw [q1]
  cases d1 <;> first | (cases h'; done) | skip
  all_goals
    cases h'
    exact hP s1 m1 u1
theorem si_t (ha : SE K a fa ka K1 T1) : SA K (aItT a) (fItT fa) K1 T1 := fun s e x e' m h P hP => by
  obtain ⟨⟨d1, e1⟩, h1, h'⟩ := ex_bind h
  clear h
  refine ha s e _ e1 m h1 _ fun l1 s1 k1 q1 m1 u1 => ?_
  rw [q1]
  cases d1 <;> first | (cases h'; done) | skip
  cases h'
  exact hP s1 m1 u1
def fItS (a : FE) : FA := fun e => (a e).bind fun x => match x.1 with
  | .str z => some (z.cps.toList.map fun c => D.str ⟨#[c]⟩, x.2)
  | _ => none
theorem si_s (ha : SE K a fa ka K1 T1) : SA K (aItS a) (fItS fa) K1 T1 := fun s e x e' m h P hP => by
  obtain ⟨⟨d1, e1⟩, h1, h'⟩ := ex_bind h
  clear h
  refine ha s e _ e1 m h1 _ fun l1 s1 k1 q1 m1 u1 => ?_
  rw [q1]
  cases d1 <;> first | (cases h'; done) | skip
  cases h'
  exact hP s1 m1 u1
def fRng1 (a : FA) : FA := fun e => (a e).bind fun x => match x.1 with
  | [.int j] => if -(2 ^ 62) ≤ j ∧ j < 2 ^ 62 then some (rngD 0 j.toNat, x.2) else none
  | _ => none
def fRng2 (a : FA) : FA := fun e => (a e).bind fun x => match x.1 with
  | [.int i, .int j] => if -(2 ^ 62) ≤ i ∧ i < 2 ^ 62 ∧ -(2 ^ 62) ≤ j ∧ j < 2 ^ 62 then some (rngD i (j - i).toNat, x.2) else none
  | _ => none
theorem si_rng1 (ha : SA K aa faa K1 T1) : SA K (aRng1 aa) (fRng1 faa) K1 T1 := fun s e x e' m h P hP => by
  obtain ⟨⟨ds, e1⟩, h1, h'⟩ := ex_bind h
  clear h
  refine ha s e _ e1 m h1 _ fun s1 m1 u1 => ?_
  simp only at h'
  split at h'
  · split at h'
    · rename_i hc
      cases h'
      exact ⟨hc.1, hc.2, hP s1 m1 u1⟩
    · cases h'
  · cases h'
def fItEnT (a : FA) : FA := fun e => (a e).bind fun x => match x.1 with
  | [.tup es] => some (enumD es, x.2)
  | _ => none
def fItEnL (a : FA) : FA := fun e => (a e).bind fun x => match x.1 with
  | [d] => (lstD d).map fun es => (enumD es, x.2)
  | _ => none
theorem si_enL (ha : SA K aa faa K1 T1) : SA K (aItEnL aa) (fItEnL faa) K1 T1 := fun s e x e' m h P hP => by
  obtain ⟨⟨ds, e1⟩, h1, h'⟩ := ex_bind h
  clear h
  refine ha s e _ e1 m h1 _ fun s1 m1 u1 => ?_
  simp only at h'
  split at h'
  · obtain ⟨es, h2, h3⟩ := ex_map h'
    cases h3
    simp only [h2]
    exact hP s1 m1 u1
  · cases h'
def gZip : List D → Option (List D)
  | [.tup xs, .tup ys] => some (zipD xs ys)
  | [d, e] => (lstD d).bind fun xs => (lstD e).map fun ys => zipD xs ys
  | _ => none
def fItZip (a : FA) : FA := fun e => (a e).bind fun x => (gZip x.1).map fun r => (r, x.2)
theorem si_zip (ha : SA K aa faa K1 T1) : SA K (aItZip aa) (fItZip faa) K1 T1 := fun s e x e' m h P hP => by
  obtain ⟨⟨ds, e1⟩, h1, h'⟩ := ex_bind h
  clear h
  obtain ⟨y, h2, h3⟩ := ex_map h'
  cases h3
  refine ha s e _ e1 m h1 _ fun s1 m1 u1 => ?_
  simp only at h2
  unfold gZip at h2
  split at h2
  · cases h2
    exact hP s1 m1 u1
  · rename_i d f hne
    obtain ⟨xs, h4, h5⟩ := ex_bind h2
    obtain ⟨ys, h6, h7⟩ := ex_map h5
    cases h7
    cases d <;> first | (cases h4; done) | skip
    all_goals
      cases f <;> first | (cases h6; done) | skip
      all_goals
        cases h4
        cases h6
        exact hP s1 m1 u1
  · cases h2
def fItZipX (k1 k2 : Bool) (a : FA) : FA := fun e => (a e).bind fun x => match x.1 with
  | [d, f] => (sqD k1 d).bind fun xs => (sqD k2 f).map fun ys => (zipD xs ys, x.2)
  | _ => none
def SGu (L : List Nat) (K : List TK) (g : AG) (f : FG) (K' : List TK) : Prop := ∀ d s e e', Mt K s e → f d e = some e' → ∀ P, (∀ s', Mt K' s' e' → Un L s s' → P s') → g d s P
def SGsu (L : List Nat) (K : List TK) (g : AGs) (f : FGs) (K' : List TK) : Prop := ∀ d s e e', Mt K s e → f d e = some e' → ∀ P, (∀ s', Mt K' s' e' → Un L s s' → P s') → g d s P
def gName (i : Nat) : FG := fun d e => some (e.set i d)
def gNil : FGs := fun ds e => match ds with
  | [] => some e
  | _ => none
def gCons (g : FG) (r : FGs) : FGs := fun ds e => match ds with
  | d :: ds => (g d e).bind fun e1 => r ds e1
  | [] => none
def gTup (g : FGs) : FG := fun d e => match d with
  | .tup ds => g ds e
  | _ => none
theorem sg_name {i : Nat} {k0 : TK} (hi : K[i]? = some k0) : SGu [i] K (agName i) (gName i) (K.set i .pu) := fun d s e e' m h P hP => by
  cases h
  obtain ⟨l, g1, _, _⟩ := m.ix hi
  have mm := m.set (i := i) (has_pu d)
  rw [ev_d (by simp), Sl.d] at mm
  exact hP _ mm (un_set g1 fun p q => by cases q)
theorem sgs_nil : SGsu [] K agNil gNil K := fun ds s e e' m h P hP => by
  unfold gNil at h
  split at h
  · cases h
    exact ⟨rfl, hP s m (.refl s)⟩
  · cases h
theorem sgs_cons {L M : List Nat} {g : AG} {gs : AGs} {f : FG} {fs : FGs} (h1 : SGu L K g f K1) (h2 : SGsu M K1 gs fs K2) : SGsu (L ++ M) K (agCons g gs) (gCons f fs) K2 := fun ds s e e' m h P hP => by
  unfold gCons at h
  split at h
  · obtain ⟨e1, h3, h4⟩ := ex_bind h
    exact h1 _ s e e1 m h3 _ fun s1 m1 u1 => h2 _ s1 e1 e' m1 h4 _ fun s2 m2 u2 => hP s2 m2 (u1.trans u2)
  · cases h
theorem sg_tup {L : List Nat} {gs : AGs} {fs : FGs} (h1 : SGsu L K gs fs K1) : SGu L K (agTup gs) (gTup fs) K1 := fun d s e e' m h P hP => by
  unfold gTup at h
  split at h
  · exact h1 _ s e e' m h P hP
  · cases h
def fLcD (g : FG) (t : FT) (el : FE) (vs : List Nat) : List D → En → List D → Option (List D × En)
  | [], e, acc => some (acc, e)
  | d :: ds, e, acc => (g d e).bind fun e1 => (t e1).bind fun x => if x.1 = true then (el x.2).bind fun y => if acc.length < 100000 then fLcD g t el vs ds (fScr vs y.2) (acc ++ [y.1]) else none else fLcD g t el vs ds (fScr vs x.2) acc
def fLc (i : FA) (g : FG) (t : FT) (el : FE) (vs : List Nat) : FE := fun e => (i e).bind fun x => (fLcD g t el vs x.1 (fScr vs x.2) []).map fun y => (.lst y.1, y.2)
theorem lcD_ok {L vs : List Nat} {g : AG} {f : FG} {U : List Nat} (hg : SGu L Kl g f Kg) (ht : ST Kg t ft Kt T1) (he : SE Kt a fa ke Ke T2) (h1 : leKs (scrK vs Kt) Kl = true) (h2 : leKs (scrK vs Ke) Kl = true)
    (u1 : ∀ j, j ∈ L → j ∈ U) (u2 : ∀ j, j ∈ T1 → j ∈ U) (u3 : ∀ j, j ∈ T2 → j ∈ U) (u4 : ∀ j, j ∈ vs → j ∈ U) :
    ∀ (ds : List D) (s : Ss) (e : En) (acc : List D) (r : List D) (e' : En), Mt Kl s e → fLcD f ft fa vs ds e acc = some (r, e') → ∀ P : List D → Ss → Prop, (∀ s', Mt Kl s' e' → Un U s s' → P r s') → aLcD g t a vs ds s acc P
  | [], s, e, acc, r, e', m, h, P, hP => by
    cases h
    exact hP s m ⟨fun _ _ => rfl, .refl s⟩
  | d :: ds, s, e, acc, r, e', m, h, P, hP => by
    obtain ⟨e1, g1, h'⟩ := ex_bind h
    clear h
    obtain ⟨⟨b, e2⟩, g2, h⟩ := ex_bind h'
    clear h'
    have tr : ∀ {s1 s2 : Ss}, Un U s1 s2 → ∀ {s0 : Ss}, Un U s0 s1 → Un U s0 s2 := fun b s0 a => (a.trans b).mono fun j hj => by
      rcases List.mem_append.mp hj with z | z <;> exact z
    unfold aLcD
    refine hg d s e e1 m g1 _ fun s1 m1 v1 => ?_
    refine ht s1 e1 b e2 m1 g2 _ fun s2 m2 v2 => ?_
    have v12 : Un U s s2 := tr (v2.mono u2) (v1.mono u1)
    have h : (if b = true then (fa e2).bind fun y => if acc.length < 100000 then fLcD f ft fa vs ds (fScr vs y.2) (acc ++ [y.1]) else none else fLcD f ft fa vs ds (fScr vs e2) acc) = some (r, e') := h
    split
    · rename_i hb
      rw [if_pos hb] at h
      obtain ⟨⟨y, e3⟩, g3, h'⟩ := ex_bind h
      clear h
      simp only at h'
      split at h'
      · rename_i hc
        refine he s2 e2 y e3 m2 g3 _ fun l3 s3 k3 q3 m3 v3 => ⟨hc, ?_⟩
        rw [q3]
        exact lcD_ok hg ht he h1 h2 u1 u2 u3 u4 ds _ _ _ r e' ((m3.wipe vs).wk h2) h' P fun s' m' v' => hP s' m' (tr v' (tr ((un_wipe s3 vs).mono u4) (tr (v3.mono u3) v12)))
      · cases h'
    · rename_i hb
      rw [if_neg hb] at h
      exact lcD_ok hg ht he h1 h2 u1 u2 u3 u4 ds _ _ _ r e' ((m2.wipe vs).wk h1) h P fun s' m' v' => hP s' m' (tr v' (tr ((un_wipe s2 vs).mono u4) v12))
theorem se_lc {L vs : List Nat} {i : AI} {fi : FA} {g : AG} {f : FG} {ke : TK} (Kl : List TK) (hi : SA K i fi K1 T) (w : leKs (scrK vs K1) Kl = true) (hg : SGu L Kl g f Kg) (ht : ST Kg t ft Kt T1) (he : SE Kt a fa ke Ke T2) (h1 : leKs (scrK vs Kt) Kl = true) (h2 : leKs (scrK vs Ke) Kl = true) :
    SE K (aLc i g t a vs) (fLc fi f ft fa vs) .ow Kl (T ++ (vs ++ (L ++ (vs ++ (T1 ++ T2))))) := fun s e x e' m h P hP => by
  obtain ⟨⟨ds, e1⟩, g1, h'⟩ := ex_bind h
  clear h
  obtain ⟨⟨r, e2⟩, g2, g3⟩ := ex_map h'
  cases g3
  refine hi s e _ _ m g1 _ fun s1 m1 v1 p => ?_
  refine lcD_ok (U := L ++ (vs ++ (T1 ++ T2))) hg ht he h1 h2 (fun j hj => by simp [hj]) (fun j hj => by simp [hj]) (fun j hj => by simp [hj]) (fun j hj => by simp [hj]) ds _ _ _ r e2 ((m1.wipe vs).wk w) g2 _ fun s' m' v' => ?_
  exact hP _ _ (has_ow p r) (by rw [Sl.d]) m' (v1.trans ((un_wipe s1 vs).trans v'))
end
end DL
namespace DL
open PySem L2
inductive Out where
  | er
  | nx (e : En)
  | rt (d : D) (e : En)
  | bk (e : En)
  | ct (e : En)
abbrev FS := En → Out
def R0 (s s' : Ss) : Prop := ∀ p : Addr, (s'[0]?).bind root = some p → (s[0]?).bind root = some p
theorem R0.refl (s : Ss) : R0 s s := fun _ h => h
theorem R0.trans {s s1 s2 : Ss} (a : R0 s s1) (b : R0 s1 s2) : R0 s s2 := fun p h => a p (b p h)
theorem Rk.r0 {s s' : Ss} (h : Rk s s') : R0 s s' := fun p q => h 0 p q
structure Cn (z : Bool) (s : Ss) (A : AEnds) (o : Out) (Kn Kb Kc : List TK) (kr k0 : TK) : Prop where
  ne : o ≠ .er
  nx : ∀ e' s', o = .nx e' → Mt Kn s' e' → (z = true → R0 s s') → A.nx s'
  rt : ∀ r e' l s', o = .rt r e' → Has kr l → l.d = r → (k0 = .ju ∨ ∃ l0, s'[0]? = some l0 ∧ Has k0 l0 ∧ e'[0]? = some l0.d) → (z = true → R0 s s') → A.rt l s'
  bk : ∀ e' s', o = .bk e' → Mt Kb s' e' → (z = true → R0 s s') → A.bk s'
  ct : ∀ e' s', o = .ct e' → Mt Kc s' e' → (z = true → R0 s s') → A.ct s'
def SS (z : Bool) (K : List TK) (a : AS) (f : FS) (Kn Kb Kc : List TK) (kr k0 : TK) : Prop := ∀ s e, Mt K s e → ∀ A : AEnds, Cn z s A (f e) Kn Kb Kc kr k0 → a A s
section
variable {z : Bool} {K K1 K2 K3 Kl Kn Kb Kc Kt Ke Kg : List TK} {kr k0 : TK} {a b c : AE} {fa fb fc : FE} {ka kb kc k : TK} {T T1 T2 T3 : List Nat} {t u : AT} {ft fu : FT} {aa ar : AA} {faa far : FA} {as au : AS} {fs fu' : FS} {s s1 : Ss} {A : AEnds} {o : Out}
theorem Cn.mov (h : Cn z s A o Kn Kb Kc kr k0) (r : z = true → R0 s s1) : Cn z s1 A o Kn Kb Kc kr k0 where
  ne := h.ne
  nx := fun e' s' q m g => h.nx e' s' q m fun z => (r z).trans (g z)
  rt := fun d e' l s' q h1 h2 h3 g => h.rt d e' l s' q h1 h2 h3 fun z => (r z).trans (g z)
  bk := fun e' s' q m g => h.bk e' s' q m fun z => (r z).trans (g z)
  ct := fun e' s' q m g => h.ct e' s' q m fun z => (r z).trans (g z)
theorem Cn.ofNx {e1 : En} (h : ∀ s', Mt Kn s' e1 → (z = true → R0 s s') → A.nx s') : Cn z s A (.nx e1) Kn Kb Kc kr k0 where
  ne := by simp
  nx := fun e' s' q m g => by
    cases q
    exact h s' m g
  rt := fun _ _ _ _ q => by cases q
  bk := fun _ _ q => by cases q
  ct := fun _ _ q => by cases q
theorem Cn.ofRt {d : D} {e1 : En} (h : ∀ l s', Has kr l → l.d = d → (k0 = .ju ∨ ∃ l0, s'[0]? = some l0 ∧ Has k0 l0 ∧ e1[0]? = some l0.d) → (z = true → R0 s s') → A.rt l s') : Cn z s A (.rt d e1) Kn Kb Kc kr k0 where
  ne := by simp
  nx := fun _ _ q => by cases q
  rt := fun r e' l s' q h1 h2 h3 h4 => by
    cases q
    exact h l s' h1 h2 h3 h4
  bk := fun _ _ q => by cases q
  ct := fun _ _ q => by cases q
theorem Cn.ofBk {e1 : En} (h : ∀ s', Mt Kb s' e1 → (z = true → R0 s s') → A.bk s') : Cn z s A (.bk e1) Kn Kb Kc kr k0 where
  ne := by simp
  nx := fun _ _ q => by cases q
  rt := fun _ _ _ _ q => by cases q
  bk := fun e' s' q m g => by
    cases q
    exact h s' m g
  ct := fun _ _ q => by cases q
theorem Cn.ofCt {e1 : En} (h : ∀ s', Mt Kc s' e1 → (z = true → R0 s s') → A.ct s') : Cn z s A (.ct e1) Kn Kb Kc kr k0 where
  ne := by simp
  nx := fun _ _ q => by cases q
  rt := fun _ _ _ _ q => by cases q
  bk := fun _ _ q => by cases q
  ct := fun e' s' q m g => by
    cases q
    exact h s' m g
theorem Cn.toRt {d : D} {e1 : En} {Kn2 Kb2 Kc2 : List TK} {A2 : AEnds} (q : Cn z s A (.rt d e1) Kn Kb Kc kr k0) (h : A2.rt = A.rt) : Cn z s A2 (.rt d e1) Kn2 Kb2 Kc2 kr k0 := .ofRt fun l s' h1 h2 h3 h4 => by
  rw [h]
  exact q.rt d e1 l s' rfl h1 h2 h3 h4
def fNext : FS := fun e => .nx e
def fNev : FS := fun _ => .er
def fBrk (J : List Nat) : FS := fun e => .bk (fScr J e)
def fCnt (J : List Nat) : FS := fun e => .ct (fScr J e)
def fSeq (a b : FS) : FS := fun e => match a e with
  | .nx e1 => b e1
  | o => o
theorem ss_next : SS z K aNext fNext K Kb Kc kr k0 := fun s e m A q => q.nx e s rfl m fun _ => .refl s
theorem ss_nev : SS z K aNev fNev Kn Kb Kc kr k0 := fun s e m A q => absurd rfl q.ne
theorem ss_seq (h1 : SS z K as fs K1 Kb Kc kr k0) (h2 : SS z K1 au fu' Kn Kb Kc kr k0) : SS z K (aSeq as au) (fSeq fs fu') Kn Kb Kc kr k0 := fun s e m A q => by
  refine h1 s e m { A with nx := au A } ?_
  unfold fSeq at q
  cases ho : fs e with
  | er =>
    rw [ho] at q
    exact absurd rfl q.ne
  | nx e1 =>
    rw [ho] at q
    exact .ofNx fun s' m' r => h2 s' e1 m' A (q.mov r)
  | rt d e1 =>
    rw [ho] at q
    exact q.toRt rfl
  | bk e1 =>
    rw [ho] at q
    exact .ofBk fun s' m' r => q.bk _ s' rfl m' r
  | ct e1 =>
    rw [ho] at q
    exact .ofCt fun s' m' r => q.ct _ s' rfl m' r
def fWk (J : List Nat) (f : FS) : FS := fun e => match f e with
  | .nx e1 => .nx (fScr J e1)
  | o => o
theorem ss_wk (J : List Nat) (h : SS z K as fs K1 Kb Kc kr k0) (w : leKs (scrK J K1) Kn = true) : SS z K as (fWk J fs) Kn Kb Kc kr k0 := fun s e m A q => by
  refine h s e m A ?_
  unfold fWk at q
  cases ho : fs e with
  | er =>
    rw [ho] at q
    exact absurd rfl q.ne
  | nx e1 =>
    rw [ho] at q
    exact .ofNx fun s' m' r => q.nx _ s' rfl ((m'.scr J).wk w) r
  | rt d e1 =>
    rw [ho] at q
    exact q.toRt rfl
  | bk e1 =>
    rw [ho] at q
    exact .ofBk fun s' m' r => q.bk _ s' rfl m' r
  | ct e1 =>
    rw [ho] at q
    exact .ofCt fun s' m' r => q.ct _ s' rfl m' r
/-- an expression, and what is done with what it gives -/
def fE (a : FE) (f : D → En → Out) : FS := fun e => match a e with
  | some x => f x.1 x.2
  | none => .er
theorem Cn.ex {f : D → En → Out} {e : En} (q : Cn z s A (fE fa f e) Kn Kb Kc kr k0) : ∃ r e1, fa e = some (r, e1) ∧ fE fa f e = f r e1 := by
  cases h : fa e with
  | none =>
    refine absurd ?_ q.ne
    unfold fE
    rw [h]
  | some x => exact ⟨x.1, x.2, rfl, by unfold fE; rw [h]⟩
def fDrop (a : FE) : FS := fE a fun _ e => .nx e
def fRet (a : FE) : FS := fE a fun d e => .rt d e
def fRetN : FS := fun e => .rt .non e
theorem ss_ret (ha : SE K a fa ka K1 T) (w : leK ka kr = true) (w0 : k0 = .ju ∨ ∃ k, K1[0]? = some k ∧ leK k k0 = true ∧ k ≠ .ju) : SS z K (aRet a) (fRet fa) Kn Kb Kc kr k0 := fun s e m A q => by
  obtain ⟨r, e1, h1, h2⟩ := q.ex
  refine ha s e r e1 m h1 _ fun l s' k1 q1 m1 u1 => ?_
  refine q.rt r e1 l s' (by unfold fRet; rw [h2]) (le_has _ _ _ w k1) q1 ?_ fun _ => u1.r.r0
  rcases w0 with rfl | ⟨k, g1, g2, g3⟩
  · exact .inl rfl
  · obtain ⟨l0, z1, z2, z3⟩ := m1.ix g1
    exact .inr ⟨l0, z1, le_has _ _ _ g2 z2, by rw [z3, ev_d g3]⟩
def fIfS (c : FT) (a b : FS) : FS := fun e => match c e with
  | some x => if x.1 = true then a x.2 else b x.2
  | none => .er
theorem ss_if (ht : ST K t ft K1 T) (h1 : SS z K1 as fs Kn Kb Kc kr k0) (h2 : SS z K1 au fu' Kn Kb Kc kr k0) : SS z K (aIfS t as au) (fIfS ft fs fu') Kn Kb Kc kr k0 := fun s e m A q => by
  unfold fIfS at q
  cases hc : ft e with
  | none =>
    rw [hc] at q
    exact absurd rfl q.ne
  | some x =>
    rw [hc] at q
    obtain ⟨b, e1⟩ := x
    refine ht s e b e1 m hc _ fun s' m1 u1 => ?_
    have q : Cn z s A (if b = true then fs e1 else fu' e1) Kn Kb Kc kr k0 := q
    split
    · rename_i hb
      rw [if_pos hb] at q
      exact h1 s' e1 m1 A (q.mov fun _ => u1.r.r0)
    · rename_i hb
      rw [if_neg hb] at q
      exact h2 s' e1 m1 A (q.mov fun _ => u1.r.r0)
def fSet (i : Nat) (a : FE) : FS := fE a fun d e => .nx (e.set i d)
theorem set_r0 {i : Nat} {l : Sl} {s' : Ss} (h : i ≠ 0) : R0 s' (s'.set i l) := fun p q => by
  rw [List.getElem?_set, if_neg h] at q
  exact q
theorem ss_set {i : Nat} (ha : SE K a fa ka K1 T) (hk : ka ≠ .ju) (hi : i ≠ 0 ∨ z = false) : SS z K (aSet i a) (fSet i fa) (K1.set i ka) Kb Kc kr k0 := fun s e m A q => by
  obtain ⟨r, e1, h1, h2⟩ := q.ex
  refine ha s e r e1 m h1 _ fun l s' k1 q1 m1 u1 => ?_
  have mm := m1.set (i := i) k1
  rw [ev_d hk, q1] at mm
  refine q.nx _ _ (by unfold fSet; rw [h2]) mm fun hz => ?_
  rcases hi with hi | hi
  · exact u1.r.r0.trans (set_r0 hi)
  · rw [hi] at hz
    cases hz
def fAsg (a : FE) (g : FG) : FS := fE a fun d e => match g d e with
  | some e1 => .nx e1
  | none => .er
theorem ss_asg {L : List Nat} {g : AG} {f : FG} (ha : SE K a fa ka K1 T) (hg : SGu L K1 g f Kn) : SS z K (aAsg a g) (fAsg fa f) Kn Kb Kc kr k0 := fun s e m A q => by
  obtain ⟨r, e1, h1, h2⟩ := q.ex
  unfold fAsg at q
  rw [h2] at q
  refine ha s e r e1 m h1 _ fun l s' k1 q1 m1 u1 => ?_
  cases hh : f r e1 with
  | none =>
    simp only [hh] at q
    exact absurd rfl q.ne
  | some e2 =>
    simp only [hh] at q
    rw [q1]
    exact hg r s' e1 e2 m1 hh _ fun s2 m2 u2 => q.nx e2 s2 rfl m2 fun _ => (u1.r.trans u2.r).r0
def fPar (i j : Nat) (a b : FE) : FS := fE a fun x e1 => fE b (fun y e2 => .nx ((e2.set i x).set j y)) e1
theorem ss_par {i j : Nat} (ha : SE K a fa ka K1 T1) (hb : SE K1 b fb kb K2 T2) (h1 : ka ≠ .ju) (h2 : kb ≠ .ju) (hi : (i ≠ 0 ∧ j ≠ 0) ∨ z = false) : SS z K (aPar i j a b) (fPar i j fa fb) ((K2.set i ka).set j kb) Kb Kc kr k0 := fun s e m A q => by
  obtain ⟨r, e1, g1, g2⟩ := q.ex
  unfold fPar at q
  rw [g2] at q
  obtain ⟨r2, e2, g3, g4⟩ := q.ex
  rw [g4] at q
  refine ha s e r e1 m g1 _ fun l s1 k1 q1 m1 u1 => ?_
  refine hb s1 e1 r2 e2 m1 g3 _ fun l2 s2 k2 q2 m2 u2 => ?_
  have mm := (m2.set (i := i) k1).set (i := j) k2
  rw [ev_d h1, ev_d h2, q1, q2] at mm
  refine q.nx _ _ rfl mm fun hz => ?_
  rcases hi with hi | hi
  · exact ((u1.r.trans u2.r).r0.trans (set_r0 hi.1)).trans (set_r0 hi.2)
  · rw [hi] at hz
    cases hz
def fPar3 (i j l0 : Nat) (a b c : FE) : FS := fE a fun x e1 => fE b (fun y e2 => fE c (fun w e3 => .nx (((e3.set i x).set j y).set l0 w)) e2) e1
def fAug (i : Nat) (f : Int → Int → Int) (a : FE) : FS := fun e => match e[i]? with
  | some (.int x) => fE a (fun d e1 => match d with
    | .int y => .nx (e1.set i (.int (f x y)))
    | _ => .er) e
  | _ => .er
def fApp (i : Nat) (a : FE) : FS := fE a fun d e1 => match e1[i]? with
  | some (.lst xs) => if xs.length < 100000 then .nx (e1.set i (.lst (xs ++ [d]))) else .er
  | _ => .er
theorem Mt.ow1 {e : En} {i : Nat} (m : Mt K s e) (h : K[i]? = some .ow) : ∃ p xs, s[i]? = some (.ow p xs) ∧ e[i]? = some (.lst xs) ∧ ∀ ys, Mt K (s.set i (.ow p ys)) (e.set i (.lst ys)) ∧ Un [i] s (s.set i (.ow p ys)) := by
  obtain ⟨l, g1, g2, g3⟩ := m.ix h
  obtain ⟨p, xs, rfl⟩ := of_ow g2
  rw [ev_d (by simp), Sl.d] at g3
  refine ⟨p, xs, g1, g3, fun ys => ⟨?_, un_set g1 fun p q => q⟩⟩
  have mm := m.set (i := i) (has_ow p ys)
  rw [ev_d (by simp), Sl.d, set_self h] at mm
  exact mm
theorem ss_app {i : Nat} (h0 : K[i]? = some .ow) (h1 : K1[i]? = some .ow) (ha : SE K a fa ka K1 T) : SS z K (aApp i a) (fApp i fa) K1 Kb Kc kr k0 := fun s e m A q => by
  obtain ⟨r, e1, g1, g2⟩ := q.ex
  unfold fApp at q
  rw [g2] at q
  obtain ⟨p0, xs0, z1, _, _⟩ := m.ow1 h0
  unfold aApp
  rw [z1]
  refine ha s e r e1 m g1 _ fun l s1 k1 q1 m1 u1 => ?_
  obtain ⟨p, xs, y1, y2, y3⟩ := m1.ow1 h1
  rw [y2] at q
  rw [y1]
  simp only at q
  split at q
  · rename_i hc
    obtain ⟨w1, w2⟩ := y3 (xs ++ [r])
    rw [q1]
    exact ⟨hc, q.nx _ _ rfl w1 fun _ => (u1.r.trans w2.r).r0⟩
  · exact absurd rfl q.ne
def fExt (i : Nat) (a : FE) : FS := fE a fun d e1 => match d, e1[i]? with
  | .lst ys, some (.lst xs) => if xs.length + ys.length < 100000 then .nx (e1.set i (.lst (xs ++ ys))) else .er
  | _, _ => .er
theorem ss_ext {i : Nat} (h0 : K[i]? = some .ow) (h1 : K1[i]? = some .ow) (ha : SE K a fa ka K1 T) : SS z K (aExt i a) (fExt i fa) K1 Kb Kc kr k0 := fun s e m A q => by
  obtain ⟨r, e1, g1, g2⟩ := q.ex
  unfold fExt at q
  rw [g2] at q
  obtain ⟨p0, xs0, z1, _, _⟩ := m.ow1 h0
  unfold aExt
  rw [z1]
  refine ha s e r e1 m g1 _ fun l s1 k1 q1 m1 u1 => ?_
  obtain ⟨p, xs, y1, y2, y3⟩ := m1.ow1 h1
  rw [y2] at q
  rw [y1, q1]
  cases r <;> first | exact absurd rfl q.ne | skip
  rename_i ys
  simp only at q
  split at q
  · rename_i hc
    obtain ⟨w1, w2⟩ := y3 (xs ++ ys)
    exact ⟨hc, q.nx _ _ rfl w1 fun _ => (u1.r.trans w2.r).r0⟩
  · exact absurd rfl q.ne
def fPut (i : Nat) (a b : FE) : FS := fE a fun d e1 => fE b (fun dk e2 => match dk, e2[i]? with
  | .int k, some (.lst xs) => match ixN xs.length k with
    | some j => .nx (e2.set i (.lst (xs.set j d)))
    | none => .er
  | _, _ => .er) e1
theorem ss_put {i : Nat} (h1 : K1[i]? = some .ow) (h2 : K2[i]? = some .ow) (ha : SE K a fa ka K1 T1) (hb : SE K1 b fb kb K2 T2) : SS z K (aPut i a b) (fPut i fa fb) K2 Kb Kc kr k0 := fun s e m A q => by
  obtain ⟨r, e1, g1, g2⟩ := q.ex
  unfold fPut at q
  rw [g2] at q
  obtain ⟨r2, e2, g3, g4⟩ := q.ex
  rw [g4] at q
  refine ha s e r e1 m g1 _ fun l s1 k1 q1 m1 u1 => ?_
  obtain ⟨p0, xs0, z1, _, _⟩ := m1.ow1 h1
  rw [z1]
  refine hb s1 e1 r2 e2 m1 g3 _ fun l2 s2 k2 q2 m2 u2 => ?_
  obtain ⟨p, xs, y1, y2, y3⟩ := m2.ow1 h2
  rw [y2] at q
  rw [q2, y1, q1]
  cases r2 <;> first | exact absurd rfl q.ne | skip
  rename_i k
  simp only at q ⊢
  cases hj : ixN xs.length k with
  | none =>
    rw [hj] at q
    exact absurd rfl q.ne
  | some j =>
    rw [hj] at q
    obtain ⟨w1, w2⟩ := y3 (xs.set j r)
    exact q.nx _ _ rfl w1 fun _ => ((u1.r.trans u2.r).trans w2.r).r0
def fForD (g : FG) (b : FS) : List D → En → Out
  | [], e => .nx e
  | d :: ds, e => match g d e with
    | none => .er
    | some e1 => match b e1 with
      | .nx e2 => fForD g b ds e2
      | .ct e2 => fForD g b ds e2
      | .bk e2 => .nx e2
      | .rt r e2 => .rt r e2
      | .er => .er
def fFor (i : FA) (J : List Nat) (g : FG) (b : FS) : FS := fun e => match i e with
  | some x => fForD g b x.1 (fScr J x.2)
  | none => .er
theorem forD_ok {L : List Nat} {g : AG} {f : FG} (hg : SGu L Kl g f Kg) (hb : SS z Kg as fs Kl Kl Kl kr k0) : ∀ (ds : List D) (s : Ss) (e : En), Mt Kl s e → ∀ A : AEnds, Cn z s A (fForD f fs ds e) Kl Kb Kc kr k0 → aForD g as A ds s
  | [], s, e, m, A, q => q.nx e s rfl m fun _ => .refl s
  | d :: ds, s, e, m, A, q => by
    unfold aForD
    unfold fForD at q
    cases h1 : f d e with
    | none =>
      rw [h1] at q
      exact absurd rfl q.ne
    | some e1 =>
      rw [h1] at q
      refine hg d s e e1 m h1 _ fun s1 m1 u1 => ?_
      have q1 := q.mov (s1 := s1) fun _ => u1.r.r0
      refine hb s1 e1 m1 _ ?_
      cases h2 : fs e1 with
      | er =>
        simp only [h2] at q1
        exact absurd rfl q1.ne
      | nx e2 =>
        simp only [h2] at q1
        exact .ofNx fun s' m' r => forD_ok hg hb ds s' e2 m' A (q1.mov r)
      | ct e2 =>
        simp only [h2] at q1
        exact .ofCt fun s' m' r => forD_ok hg hb ds s' e2 m' A (q1.mov r)
      | bk e2 =>
        simp only [h2] at q1
        exact .ofBk fun s' m' r => q1.nx e2 s' rfl m' r
      | rt d2 e2 =>
        simp only [h2] at q1
        exact q1.toRt rfl
theorem ss_for {L J : List Nat} {i : AI} {fi : FA} {g : AG} {f : FG} (Kl : List TK) (hi : SA K i fi K1 T) (w : leKs (scrK J K1) Kl = true) (hg : SGu L Kl g f Kg) (hb : SS z Kg as fs Kl Kl Kl kr k0) : SS z K (aFor i g as) (fFor fi J f fs) Kl Kb Kc kr k0 := fun s e m A q => by
  unfold fFor at q
  cases h1 : fi e with
  | none =>
    rw [h1] at q
    exact absurd rfl q.ne
  | some x =>
    rw [h1] at q
    refine hi s e x.1 x.2 m h1 _ fun s1 m1 u1 => ?_
    exact forD_ok hg hb x.1 s1 _ ((m1.scr J).wk w) A (q.mov fun _ => u1.r.r0)
end
def K0D (n N : Nat) : List TK := List.replicate n .pu ++ List.replicate (N - n) .ju
def K0M (k : TK) (n N : Nat) : List TK := k :: (List.replicate (n - 1) .pu ++ List.replicate (N - n) .ju)
/-- a def's body at its arguments -/
def runD (n N : Nat) (f : FS) : List D → Option D := fun ds => if ds.length = n then match f (ds ++ List.replicate (N - n) .non) with
  | .rt r _ => some r
  | .nx _ => some .non
  | _ => none
  else none
/-- the same, of a def that ends by a return -/
def runR (n N : Nat) (f : FS) : List D → Option D := fun ds => if ds.length = n then match f (ds ++ List.replicate (N - n) .non) with
  | .rt r _ => some r
  | _ => none
  else none
def runM (n N : Nat) (f : FS) : List D → Option (D × D) := fun ds => if ds.length = n then match f (ds ++ List.replicate (N - n) .non) with
  | .rt r e => (e[0]?).map fun d => (r, d)
  | .nx e => (e[0]?).map fun d => (.non, d)
  | _ => none
  else none
def runMR (n N : Nat) (f : FS) : List D → Option (D × D) := fun ds => if ds.length = n then match f (ds ++ List.replicate (N - n) .non) with
  | .rt r e => (e[0]?).map fun d => (r, d)
  | _ => none
  else none
theorem mt_pus : ∀ (ds : List D) (m : Nat), Mt (List.replicate ds.length .pu ++ List.replicate m .ju) (ds.map Sl.pu ++ List.replicate m .no) (ds ++ List.replicate m .non)
  | [], m => ⟨by simp, by simp, fun i k q => by
    rw [List.length_nil, List.replicate_zero, List.nil_append, List.getElem?_replicate] at q
    split at q
    · rename_i hi
      cases q
      exact ⟨.no, by simp [List.getElem?_replicate, hi], has_ju _, by simp [List.getElem?_replicate, hi, evS]⟩
    · cases q⟩
  | d :: ds, m => by
    have h := mt_pus ds m
    refine ⟨by simp; omega, by simp; omega, fun i k q => ?_⟩
    cases i with
    | zero =>
      rw [List.length_cons, List.replicate_succ, List.cons_append, List.getElem?_cons_zero] at q
      cases q
      exact ⟨.pu d, rfl, has_pu d, by rw [ev_d (by simp), Sl.d]; rfl⟩
    | succ i =>
      rw [List.length_cons, List.replicate_succ, List.cons_append, List.getElem?_cons_succ] at q
      obtain ⟨l, g1, g2, g3⟩ := h.ix q
      exact ⟨l, by simpa using g1, g2, by simpa using g3⟩
theorem mt_start {n N : Nat} {ds : List D} (hl : ds.length = n) : Mt (K0D n N) (startS N (ds.map .pu)) (ds ++ List.replicate (N - n) .non) := by
  subst hl
  unfold K0D startS
  rw [List.length_map]
  exact mt_pus ds _
theorem mt_cons {Ks : List TK} {s : Ss} {e : En} (m : Mt Ks s e) {k : TK} {l : Sl} (h : Has k l) : Mt (k :: Ks) (l :: s) (evS k l :: e) := ⟨by rw [List.length_cons, List.length_cons, m.l1], by rw [List.length_cons, List.length_cons, m.l2], fun i k2 q => by
  cases i with
  | zero =>
    cases q
    exact ⟨l, rfl, h, rfl⟩
  | succ i => exact m.ix (i := i) q⟩
theorem mt_startM {n N : Nat} {ds : List D} {l : Sl} {k : TK} (hk : Has k l) (kj : k ≠ .ju) (hl : ds.length + 1 = n) : Mt (K0M k n N) (startS N (l :: ds.map .pu)) (l.d :: ds ++ List.replicate (N - n) .non) := by
  subst hl
  unfold K0M startS
  have := mt_cons (mt_pus ds (N - (ds.length + 1))) hk
  rw [ev_d kj] at this
  rw [Nat.add_sub_cancel, List.length_cons, List.length_map]
  exact this
section
variable {N n : Nat} {A : AS} {f : FS} {Kn Kb Kc : List TK} {kr k0 : TK}
theorem lawD (h : SS false (K0D n N) A f Kn Kb Kc kr .ju) (hk : leK .pu kr = true) : ∀ ds Q, ds.length = n → lowD kr (runD n N f) ds Q → A (endsD Q) (startS N (ds.map .pu)) := fun ds Q hl q => by
  obtain ⟨r, h1, h2⟩ := q
  unfold runD at h1
  rw [if_pos hl] at h1
  refine h _ _ (mt_start hl) _ ?_
  cases ho : f (ds ++ List.replicate (N - n) .non) with
  | er =>
    rw [ho] at h1
    cases h1
  | nx e =>
    rw [ho] at h1
    cases h1
    exact .ofNx fun s' _ _ => h2 (.pu .non) (le_has _ _ _ hk (has_pu _)) (by rw [Sl.d])
  | rt d e =>
    rw [ho] at h1
    cases h1
    exact .ofRt fun l s' g1 g2 _ _ => h2 l g1 g2
  | bk e =>
    rw [ho] at h1
    cases h1
  | ct e =>
    rw [ho] at h1
    cases h1
theorem lawR (h : SS false (K0D n N) A f Kn Kb Kc kr .ju) : ∀ ds Q, ds.length = n → lowD kr (runR n N f) ds Q → A (endsD Q) (startS N (ds.map .pu)) := fun ds Q hl q => by
  obtain ⟨r, h1, h2⟩ := q
  unfold runR at h1
  rw [if_pos hl] at h1
  refine h _ _ (mt_start hl) _ ?_
  cases ho : f (ds ++ List.replicate (N - n) .non) with
  | er =>
    rw [ho] at h1
    cases h1
  | nx e =>
    rw [ho] at h1
    cases h1
  | rt d e =>
    rw [ho] at h1
    cases h1
    exact .ofRt fun l s' g1 g2 _ _ => h2 l g1 g2
  | bk e =>
    rw [ho] at h1
    cases h1
  | ct e =>
    rw [ho] at h1
    cases h1
theorem lawMR (h : SS true (K0M .ow n N) A f Kn Kb Kc kr .ow) : ∀ xs ds Q p, ds.length + 1 = n → lowM kr (runMR n N f) xs ds Q → A (endsM Q p) (startS N (.ow p xs :: ds.map .pu)) := fun xs ds Q p hl q => by
  obtain ⟨r, d', h1, h2⟩ := q
  unfold runMR at h1
  rw [if_pos (by rw [List.length_cons, hl])] at h1
  have m := mt_startM (N := N) (has_ow p xs) (by simp) hl
  rw [Sl.d] at m
  refine h _ _ m _ ?_
  have r00 : ((startS N (Sl.ow p xs :: ds.map .pu))[0]?).bind root = some p := by unfold startS; rfl
  have rr : ∀ (s' : Ss) (p' : Addr) (ys : List D), R0 (startS N (Sl.ow p xs :: ds.map .pu)) s' → s'[0]? = some (.ow p' ys) → p' = p := fun s' p' ys r e => by
    have := r p' (by rw [e]; rfl)
    rw [r00] at this
    cases this
    rfl
  cases ho : f (.lst xs :: ds ++ List.replicate (N - n) .non) with
  | er =>
    rw [ho] at h1
    cases h1
  | nx e =>
    rw [ho] at h1
    cases h1
  | rt d e =>
    rw [ho] at h1
    obtain ⟨d2, g1, g2⟩ := ex_map h1
    cases g2
    refine .ofRt fun l s' w1 w2 w3 rz => ?_
    rcases w3 with w3 | ⟨l0, y1, y2, y3⟩
    · cases w3
    · obtain ⟨p', ys, rfl⟩ := of_ow y2
      rw [g1, Sl.d] at y3
      cases y3
      cases rr s' p' ys (rz rfl) y1
      exact ⟨ys, y1, h2 l ys w1 w2 rfl⟩
  | bk e =>
    rw [ho] at h1
    cases h1
  | ct e =>
    rw [ho] at h1
    cases h1
theorem root_d {l : Sl} {k : TK} (h : Has k l) (hk : k ≠ .ju) (hk2 : k ≠ .pu) (hk3 : k ≠ .ei) : ∃ p, root l = some p := by
  cases k <;> unfold Has at h
  · exact absurd rfl hk
  · exact absurd rfl hk2
  · obtain ⟨p, xs, rfl⟩ := h
    exact ⟨p, rfl⟩
  · exact absurd rfl hk3
  · obtain ⟨p, dx, ts, rfl, _⟩ := h
    exact ⟨p, rfl⟩
  · obtain ⟨p, dx, ts, rfl, _⟩ := h
    exact ⟨p, rfl⟩
  · obtain ⟨p, dx, ts, rfl, _⟩ := h
    exact ⟨p, rfl⟩
  · obtain ⟨p, ts, rfl, _⟩ := h
    exact ⟨p, rfl⟩
theorem lawT {k1 : TK} (h : SS true (K0M k1 n N) A f Kn Kb Kc kr k0) (hk : leK .pu kr = true) (hn : Kn[0]? = some k0) (a1 : k1 ≠ .ju) (a2 : k0 ≠ .ju ∧ k0 ≠ .pu ∧ k0 ≠ .ei) : ∀ l ds Q p, ds.length + 1 = n → root l = some p → lowT k1 k0 kr (runM n N f) l ds Q → A (endsT Q p) (startS N (l :: ds.map .pu)) := fun l ds Q p hl hr q => by
  obtain ⟨h0, r, d', h1, h2⟩ := q
  unfold runM at h1
  rw [if_pos (by rw [List.length_cons, hl])] at h1
  have m := mt_startM (N := N) h0 a1 hl
  refine h _ _ m _ ?_
  have r00 : ((startS N (l :: ds.map .pu))[0]?).bind root = some p := by unfold startS; exact hr
  have rr : ∀ (s' : Ss) (l' : Sl), R0 (startS N (l :: ds.map .pu)) s' → s'[0]? = some l' → Has k0 l' → root l' = some p := fun s' l' r e hh => by
    obtain ⟨p', hp⟩ := root_d hh a2.1 a2.2.1 a2.2.2
    have := r p' (by rw [e]; exact hp)
    rw [r00] at this
    cases this
    exact hp
  cases ho : f (l.d :: ds ++ List.replicate (N - n) .non) with
  | er =>
    rw [ho] at h1
    cases h1
  | nx e =>
    rw [ho] at h1
    obtain ⟨d2, g1, g2⟩ := ex_map h1
    cases g2
    refine .ofNx fun s' m' rz => ?_
    obtain ⟨l', y1, y2, y3⟩ := m'.ix hn
    rw [g1, ev_d a2.1] at y3
    cases y3
    have e0 := rr s' l' (rz rfl) y1 y2
    exact ⟨l', y1, e0, h2 (.pu .non) l' (le_has _ _ _ hk (has_pu _)) (by rw [Sl.d]) y2 rfl (by rw [e0, hr])⟩
  | rt d e =>
    rw [ho] at h1
    obtain ⟨d2, g1, g2⟩ := ex_map h1
    cases g2
    refine .ofRt fun lr s' w1 w2 w3 rz => ?_
    rcases w3 with w3 | ⟨l0, y1, y2, y3⟩
    · exact absurd w3 a2.1
    · rw [g1] at y3
      cases y3
      have e0 := rr s' l0 (rz rfl) y1 y2
      exact ⟨l0, y1, e0, h2 lr l0 w1 w2 y2 rfl (by rw [e0, hr])⟩
  | bk e =>
    rw [ho] at h1
    cases h1
  | ct e =>
    rw [ho] at h1
    cases h1
end
end DL
namespace DL
open PySem L2
def subD : D → Pth → Option D
  | d, [] => some d
  | .ins c ns ds, (c', f) :: r => if c' = c then (ixF ns f).bind fun k => (ds[k]?).bind fun d => subD d r else none
  | _, _ :: _ => none
def putD : D → Pth → D → D
  | _, [], t => t
  | .ins c ns ds, (_, f) :: r, t => match ixF ns f with
    | some k => match ds[k]? with
      | some u => .ins c ns (ds.set k (putD u r t))
      | none => .ins c ns ds
    | none => .ins c ns ds
  | l, _ :: _, _ => l
def subK : TK → Pth → Option TK
  | k, [] => some k
  | .ins c ns ks, (c', f) :: r => if c' = c then (ixF ns f).bind fun k => (ks[k]?).bind fun d => subK d r else none
  | _, _ :: _ => none
def putKd : TK → Pth → TK → TK
  | _, [], t => t
  | .ins c ns ks, (_, f) :: r, t => match ixF ns f with
    | some k => match ks[k]? with
      | some u => .ins c ns (ks.set k (putKd u r t))
      | none => .ins c ns ks
    | none => .ins c ns ks
  | l, _ :: _, _ => l
theorem hasA_get : ∀ {ks : List TK} {ts : List Sl} {i : Nat} {k : TK}, HasA ks ts → ks[i]? = some k → ∃ t, ts[i]? = some t ∧ Has k t
  | [], ts, i, k, h, e => by simp at e
  | k0 :: ks, ts, 0, k, h, e => by
    unfold HasA at h
    obtain ⟨t, r, rfl, h1, h2⟩ := h
    cases e
    exact ⟨t, rfl, h1⟩
  | k0 :: ks, ts, i + 1, k, h, e => by
    unfold HasA at h
    obtain ⟨t, r, rfl, h1, h2⟩ := h
    exact hasA_get (i := i) h2 (by simpa using e)
theorem hasA_set : ∀ {ks : List TK} {ts : List Sl} {i : Nat} {k : TK} {t : Sl}, HasA ks ts → Has k t → HasA (ks.set i k) (ts.set i t)
  | [], ts, i, k, t, h, q => by
    unfold HasA at h
    subst h
    simp [HasA]
  | k0 :: ks, ts, 0, k, t, h, q => by
    unfold HasA at h
    obtain ⟨t0, r, rfl, h1, h2⟩ := h
    rw [List.set_cons_zero, List.set_cons_zero, HasA]
    exact ⟨t, r, rfl, q, h2⟩
  | k0 :: ks, ts, i + 1, k, t, h, q => by
    unfold HasA at h
    obtain ⟨t0, r, rfl, h1, h2⟩ := h
    rw [List.set_cons_succ, List.set_cons_succ, HasA]
    exact ⟨t0, _, rfl, h1, hasA_set h2 q⟩
theorem hasA_snoc : ∀ {ks : List TK} {ts : List Sl} {k : TK} {t : Sl}, HasA ks ts → Has k t → HasA (ks ++ [k]) (ts ++ [t])
  | [], ts, k, t, h, q => by
    unfold HasA at h
    subst h
    rw [List.nil_append, List.nil_append, HasA]
    exact ⟨t, [], rfl, q, by rw [HasA]⟩
  | k0 :: ks, ts, k, t, h, q => by
    unfold HasA at h
    obtain ⟨t0, r, rfl, h1, h2⟩ := h
    rw [List.cons_append, List.cons_append, HasA]
    exact ⟨t0, _, rfl, h1, hasA_snoc h2 q⟩
/-- the place of a kind -/
theorem sub_has : ∀ (path : Pth) (k k' : TK) (l : Sl), subK k path = some k' → Has k l → ∃ t, subT l path = some t ∧ Has k' t ∧ subD l.d path = some t.d
  | [], k, k', l, h, q => by
    unfold subK at h
    cases h
    exact ⟨l, by unfold subT; rfl, q, by unfold subD; rfl⟩
  | (c, f) :: r, k, k', l, h, q => by
    cases k <;> first | (simp [subK] at h; done) | skip
    rename_i c2 ns ks
    unfold subK at h
    split at h
    · rename_i hc
      obtain ⟨i, h1, h'⟩ := ex_bind h
      obtain ⟨k2, h2, h3⟩ := ex_bind h'
      unfold Has at q
      obtain ⟨p, dx, ts, rfl, q⟩ := q
      obtain ⟨t, g1, g2⟩ := hasA_get q h2
      obtain ⟨t', g3, g4, g5⟩ := sub_has r k2 k' t h3 g2
      refine ⟨t', ?_, g4, ?_⟩
      · unfold subT
        rw [if_pos hc, h1]
        simp only [Option.bind_some, g1]
        exact g3
      · rw [Sl.d]
        show subD (.ins c2 ns (dsA ts)) _ = _
        unfold subD
        rw [if_pos hc, h1]
        simp only [Option.bind_some, dsA_get, g1, Option.map_some]
        exact g5
    · cases h
theorem put_has : ∀ (path : Pth) (k k' k2 : TK) (l t : Sl), subK k path = some k' → Has k l → Has k2 t → Has (putKd k path k2) (putT l path t) ∧ (putT l path t).d = putD l.d path t.d ∧ (path ≠ [] → root (putT l path t) = root l)
  | [], k, k', k2, l, t, h, q, q2 => by
    unfold putKd putT putD
    exact ⟨q2, rfl, fun h => absurd rfl h⟩
  | (c, f) :: r, k, k', k2, l, t, h, q, q2 => by
    cases k <;> first | (simp [subK] at h; done) | skip
    rename_i c2 ns ks
    unfold subK at h
    split at h
    · rename_i hc
      obtain ⟨i, h1, h'⟩ := ex_bind h
      obtain ⟨k3, h2, h3⟩ := ex_bind h'
      unfold Has at q
      obtain ⟨p, dx, ts, rfl, q⟩ := q
      obtain ⟨t0, g1, g2⟩ := hasA_get q h2
      obtain ⟨w1, w2, _⟩ := put_has r k3 k' k2 t0 t h3 g2 q2
      have e1 : putT (.nd p (.ins c2 dx ns) ts) ((c, f) :: r) t = .nd p (.ins c2 dx ns) (ts.set i (putT t0 r t)) := by
        rw [putT, h1]
        simp only [g1]
      have e2 : putKd (.ins c2 ns ks) ((c, f) :: r) k2 = .ins c2 ns (ks.set i (putKd k3 r k2)) := by
        rw [putKd, h1]
        simp only [h2]
      rw [e1, e2]
      refine ⟨?_, ?_, fun _ => rfl⟩
      · unfold Has
        exact ⟨p, dx, _, rfl, hasA_set q w1⟩
      · rw [Sl.d, Sl.d]
        show D.ins c2 ns (dsA (ts.set i (putT t0 r t))) = putD (.ins c2 ns (dsA ts)) _ _
        rw [putD, h1]
        simp only [dsA_get, g1, Option.map_some, dsA_set, w2]
    · cases h
section
variable {z : Bool} {K K1 K2 K3 Kl Kn Kb Kc Kt Ke Kg : List TK} {kr k0 : TK} {a b c : AE} {fa fb fc : FE} {ka kb kc k k' : TK} {T T1 T2 T3 : List Nat} {aa ar : AA} {faa far : FA} {s s1 : Ss} {e : En}
/-- a place of the state: from its kinds -/
theorem Mt.plc (m : Mt K s e) {i : Nat} {path : Pth} (h : K[i]? = some k) (h2 : subK k path = some k') : ∃ l t, s[i]? = some l ∧ DL.plc s i path = some t ∧ Has k l ∧ Has k' t ∧ subT l path = some t ∧ e[i]? = some (evS k l) ∧ (k ≠ .ju → subD l.d path = some t.d) := by
  obtain ⟨l, g1, g2, g3⟩ := m.ix h
  obtain ⟨t, w1, w2, w3⟩ := sub_has path k k' l h2 g2
  exact ⟨l, t, g1, by unfold DL.plc; rw [g1]; exact w1, g2, w2, w1, g3, fun _ => w3⟩
theorem setP_eq {i : Nat} {path : Pth} {l t : Sl} (h : s[i]? = some l) : setP s i path t = s.set i (putT l path t) := by
  unfold setP
  rw [h]
def fGet (i : Nat) (path : Pth) : FE := fun e => (e[i]?).bind fun d => (subD d path).map fun r => (r, e)
/-- of a value -/
theorem se_getP {i : Nat} {path : Pth} (h : K[i]? = some .pu) : SE K (aGet i path) (fGet i path) .pu K [] := fun s e x e' m hf P hP => by
  obtain ⟨d, h1, hf'⟩ := ex_bind hf
  clear hf
  obtain ⟨r, h2, h3⟩ := ex_map hf'
  cases h3
  obtain ⟨l, g1, g2, g3⟩ := m.ix h
  rw [ev_d (by simp)] at g3
  rw [g3] at h1
  cases h1
  rw [of_pu g2] at g1
  have go : ∀ (path : Pth) (d t : D), subD d path = some t → subT (.pu d) path = some (.pu t) := fun path => by
    induction path with
    | nil =>
      intro d t h
      unfold subD at h
      cases h
      unfold subT
      rfl
    | cons cf r ih =>
      intro d t h
      obtain ⟨c, f⟩ := cf
      cases d <;> first | (simp [subD] at h; done) | skip
      rename_i c2 ns ds
      unfold subD at h
      split at h
      · rename_i hc
        obtain ⟨i, h1, h'⟩ := ex_bind h
        obtain ⟨u, h2, h3⟩ := ex_bind h'
        unfold subT
        rw [if_pos hc, h1]
        simp only [Option.bind_some, h2]
        exact ih u t h3
      · cases h
  unfold aGet
  rw [g1]
  simp only [go path _ _ h2]
  exact hP _ _ (has_pu _) (by rw [Sl.d]) m (.refl s)
/-- of a tree: a value -/
theorem se_getK {i : Nat} {path : Pth} (h : K[i]? = some k) (h2 : subK k path = some .pu) (hk : k ≠ .ju := by simp) : SE K (aGet i path) (fGet i path) .pu K [] := fun s e x e' m hf P hP => by
  obtain ⟨d, h1, hf'⟩ := ex_bind hf
  clear hf
  obtain ⟨r, h3, h4⟩ := ex_map hf'
  cases h4
  obtain ⟨l, t, g1, g2, g3, g4, g5, g6, g7⟩ := m.plc h h2
  rw [g6, ev_d hk] at h1
  cases h1
  rw [g7 hk] at h3
  cases h3
  unfold aGet
  rw [g1]
  rw [of_pu g4] at g5
  simp only [g5]
  exact hP _ _ (has_pu _) (by rw [Sl.d]) m (.refl s)
def fFldD (c f : Str) (a : FE) : FE := fun e => (a e).bind fun x => match x.1 with
  | .ins c' ns ds => if c' = c then (ixF ns f).bind fun k => (ds[k]?).map fun d => (d, x.2) else none
  | _ => none
def fPropD (c : Str) (F : List D → Option D) (a : FE) : FE := fun e => (a e).bind fun x => match x.1 with
  | .ins c' ns ds => if c' = c then (F [.ins c' ns ds]).map fun r => (r, x.2) else none
  | _ => none
theorem se_propD {c : Str} {F : List D → Option D} (ha : SE K a fa ka K1 T1) : SE K (aPropD c (lowD k F) a) (fPropD c F fa) k K1 T1 := fun s e x e' m h P hP => by
  obtain ⟨⟨d1, e1⟩, h1, h'⟩ := ex_bind h
  clear h
  refine ha s e _ e1 m h1 _ fun l1 s1 k1 q1 m1 u1 => ?_
  rw [q1]
  cases d1 <;> first | (cases h'; done) | skip
  simp only at h'
  split at h'
  · rename_i hc
    obtain ⟨r, h2, h3⟩ := ex_map h'
    cases h3
    exact ⟨hc, _, h2, fun l hk hd => hP l s1 hk hd m1 u1⟩
  · cases h'
/-- an instance is made -/
def fMake (n : Nat) (c : Str) (F : List D → Option (D × D)) (ar : FA) : FE := fun e => (ar e).bind fun y => if y.1.length + 1 = n then (F (.ins c [] [] :: y.1)).bind fun r => match r.1 with
  | .non => some (r.2, y.2)
  | _ => none
  else none
theorem se_make {n : Nat} {c : Str} {k0' : TK} {F : List D → Option (D × D)} (hr : SA K ar far K1 T1) : SE K (aMake n c (lowT (.ins c [] []) k0' .pu F) ar) (fMake n c F far) k0' K1 T1 := fun s e x e' m h P hP => by
  obtain ⟨⟨ds, e1⟩, g1, h'⟩ := ex_bind h
  clear h
  refine hr s e _ _ m g1 _ fun s1 m1 u1 => ?_
  simp only at h'
  split at h'
  · rename_i hn
    obtain ⟨⟨r, d⟩, g2, g3⟩ := ex_bind h'
    cases r <;> first | (cases g3; done) | skip
    cases g3
    refine ⟨hn, fun q dx => ⟨?_, .non, d, ?_, fun lr l' k1 q1 k2 q2 q3 => ⟨?_, hP l' s1 k2 q2 m1 u1⟩⟩⟩
    · unfold Has
      exact ⟨q, dx, [], rfl, by rw [HasA]⟩
    · rw [Sl.d, dsA]
      exact g2
    · rw [of_pu k1, q1]
  · cases h'
abbrev FAS := En → Option (List D × En)
def SAS (K : List TK) (a : AAS) (f : FAS) (ks : List TK) (K' : List TK) (T : List Nat) : Prop := ∀ s e r e', Mt K s e → f e = some (r, e') → ∀ P, (∀ ls s', HasA ks ls → dsA ls = r → Mt K' s' e' → Un T s s' → P ls s') → a s P
def STg (K : List TK) (k : TK) (g : ATg) (f : FG) (K' : List TK) : Prop := ∀ l s e e', Mt K s e → Has k l → f l.d e = some e' → ∀ P, (∀ s', Mt K' s' e' → R0 s s' → P s') → g l s P
def STgs (K : List TK) (ks : List TK) (g : ATgs) (f : FGs) (K' : List TK) : Prop := ∀ ls s e e', Mt K s e → HasA ks ls → f (dsA ls) e = some e' → ∀ P, (∀ s', Mt K' s' e' → R0 s s' → P s') → g ls s P
theorem sas_nil : SAS K aaNil fNil [] K [] := fun s e x e' m h P hP => by
  cases h
  exact hP [] s (by rw [HasA]) (by rw [dsA]) m (.refl s)
theorem sas_cons {ks : List TK} {aas : AAS} {fas : FAS} (ha : SE K a fa ka K1 T1) (hr : SAS K1 aas fas ks K2 T2) : SAS K (aaCons a aas) (fCons fa fas) (ka :: ks) K2 (T1 ++ T2) := fun s e x e' m h P hP => by
  obtain ⟨⟨d1, e1⟩, h1, h'⟩ := ex_bind h
  obtain ⟨⟨ds, e2⟩, h2, h3⟩ := ex_map h'
  cases h3
  refine ha s e _ e1 m h1 _ fun l1 s1 k1 q1 m1 u1 => ?_
  refine hr s1 e1 _ _ m1 h2 _ fun ls s2 k2 q2 m2 u2 => ?_
  refine hP (l1 :: ls) s2 ?_ ?_ m2 (u1.trans u2)
  · rw [HasA]
    exact ⟨l1, ls, rfl, k1, k2⟩
  · rw [dsA, q1, q2]
theorem stg_name {i : Nat} (hk : k ≠ .ju) (hi : i ≠ 0) : STg K k (atName i) (gName i) (K.set i k) := fun l s e e' m q h P hP => by
  cases h
  have mm := m.set (i := i) q
  rw [ev_d hk] at mm
  exact hP _ mm (set_r0 hi)
/-- a field is set -/
def fldD (d : D) (f : Str) (v : D) : D := match d with
  | .ins c ns ds => match ixF ns f with
    | some k => .ins c ns (ds.set k v)
    | none => .ins c (ns ++ [f]) (ds ++ [v])
  | d => d
def fldK (d : TK) (f : Str) (v : TK) : TK := match d with
  | .ins c ns ks => match ixF ns f with
    | some k => .ins c ns (ks.set k v)
    | none => .ins c (ns ++ [f]) (ks ++ [v])
  | d => d
def gFldF (i : Nat) (path : Pth) (f : Str) : FG := fun v e => (e[i]?).bind fun d => (subD d path).bind fun t => match t with
  | .ins c ns ds => some (e.set i (putD d path (fldD (.ins c ns ds) f v)))
  | _ => none
theorem stg_fld {i : Nat} {path : Pth} {c f : Str} {ns : List Str} {ks : List TK} (h0 : K[i]? = some k') (h1 : subK k' path = some (.ins c ns ks)) (hn : ns.length < 900) (hk' : k' ≠ .ju) (hk : k ≠ .ju) : STg K k (atFld i path c f) (gFldF i path f) (K.set i (putKd k' path (fldK (.ins c ns ks) f k))) := fun l s e e' m q h P hP => by
  obtain ⟨d, g1, h'⟩ := ex_bind h
  clear h
  obtain ⟨t, g2, h⟩ := ex_bind h'
  clear h'
  obtain ⟨l0, tt, y1, y2, y3, y4, y5, y6, y7⟩ := m.plc h0 h1
  rw [ev_d hk'] at y6
  rw [y6] at g1
  cases g1
  rw [y7 hk'] at g2
  cases g2
  have y4' := y4
  unfold Has at y4
  obtain ⟨p, dx, ts, rfl, y8⟩ := y4
  have h : some (e.set i (putD l0.d path (fldD (.ins c ns (dsA ts)) f l.d))) = some e' := h
  cases h
  unfold atFld
  rw [y2]
  refine ⟨rfl, hn, ?_⟩
  rw [setP_eq y1]
  have hp : Has (fldK (.ins c ns ks) f k) (putFl p c dx ns ts f l) ∧ (putFl p c dx ns ts f l).d = fldD (.ins c ns (dsA ts)) f l.d ∧ root (putFl p c dx ns ts f l) = some p := by
    unfold fldK putFl fldD
    simp only
    cases ixF ns f with
    | some j =>
      simp only
      refine ⟨?_, ?_, rfl⟩
      · unfold Has
        exact ⟨p, dx, _, rfl, hasA_set y8 q⟩
      · rw [Sl.d, dsA_set]
        rfl
    | none =>
      simp only
      refine ⟨?_, ?_, rfl⟩
      · unfold Has
        exact ⟨p, dx, _, rfl, hasA_snoc y8 q⟩
      · rw [Sl.d, dsA_app]
        show D.ins c (ns ++ [f]) (dsA ts ++ dsA [l]) = _
        simp [dsA]
  obtain ⟨w1, w2, w3⟩ := put_has path k' _ _ l0 _ h1 y3 hp.1
  have kj : putKd k' path (fldK (.ins c ns ks) f k) ≠ .ju := by
    cases path with
    | nil =>
      unfold putKd fldK
      simp only
      split <;> simp
    | cons cf r =>
      cases k' <;> first | (simp [subK] at h1; done) | skip
      unfold putKd
      split
      · split <;> simp
      · simp
  have mm := m.set (i := i) w1
  rw [ev_d kj, w2, hp.2.1] at mm
  refine hP _ mm fun p2 hp2 => ?_
  rw [List.getElem?_set] at hp2
  split at hp2
  · rename_i hi
    subst hi
    split at hp2
    · rw [y1]
      cases path with
      | nil =>
        unfold putT at hp2
        unfold subT at y5
        cases y5
        have e1 : root (putFl p c dx ns ts f l) = some p2 := hp2
        rw [hp.2.2] at e1
        exact e1
      | cons cf r =>
        have e1 : root (putT l0 (cf :: r) (putFl p c dx ns ts f l)) = some p2 := hp2
        rw [w3 (by simp)] at e1
        exact e1
    · cases hp2
  · exact hp2
theorem stgs_nil : STgs K [] atNil gNil K := fun ls s e e' m q h P hP => by
  unfold HasA at q
  subst q
  have h : some e = some e' := by rw [dsA] at h; exact h
  cases h
  exact ⟨rfl, hP s m (.refl s)⟩
theorem stgs_cons {ks : List TK} {g : ATg} {gs : ATgs} {f : FG} {fs : FGs} (h1 : STg K k g f K1) (h2 : STgs K1 ks gs fs K2) : STgs K (k :: ks) (atCons g gs) (gCons f fs) K2 := fun ls s e e' m q h P hP => by
  unfold HasA at q
  obtain ⟨l, r, rfl, q1, q2⟩ := q
  rw [dsA] at h
  obtain ⟨e1, h3, h4⟩ := ex_bind (show (f l.d e).bind (fun e1 => fs (dsA r) e1) = some e' from h)
  exact h1 l s e e1 m q1 h3 _ fun s1 m1 u1 => h2 r s1 e1 e' m1 q2 h4 _ fun s2 m2 u2 => hP s2 m2 (u1.trans u2)
def fTo (a : FE) (g : FG) : FS := fE a fun d e => match g d e with
  | some e1 => .nx e1
  | none => .er
theorem ss_to {g : ATg} {f : FG} (ha : SE K a fa ka K1 T) (hg : STg K1 ka g f Kn) : SS z K (aTo a g) (fTo fa f) Kn Kb Kc kr k0 := fun s e m A q => by
  obtain ⟨r, e1, h1, h2⟩ := q.ex
  unfold fTo at q
  rw [h2] at q
  refine ha s e r e1 m h1 _ fun l s' k1 q1 m1 u1 => ?_
  subst q1
  cases hh : f l.d e1 with
  | none =>
    simp only [hh] at q
    exact absurd rfl q.ne
  | some e2 =>
    simp only [hh] at q
    exact hg l s' e1 e2 m1 k1 hh _ fun s2 m2 u2 => q.nx e2 s2 rfl m2 fun _ => u1.r.r0.trans u2
def fParG (n : Nat) (a : FAS) (g : FGs) : FS := fun e => match a e with
  | some x => if x.1.length = n then match g x.1 x.2 with
    | some e1 => .nx e1
    | none => .er
    else .er
  | none => .er
theorem ss_parG {n : Nat} {ks : List TK} {aas : AAS} {fas : FAS} {gs : ATgs} {fs : FGs} (ha : SAS K aas fas ks K1 T) (hg : STgs K1 ks gs fs Kn) : SS z K (aParG n aas gs) (fParG n fas fs) Kn Kb Kc kr k0 := fun s e m A q => by
  unfold fParG at q
  cases h1 : fas e with
  | none =>
    rw [h1] at q
    exact absurd rfl q.ne
  | some x =>
    rw [h1] at q
    simp only at q
    split at q
    · rename_i hn
      refine ha s e x.1 x.2 m h1 _ fun ls s' k1 q1 m1 u1 => ?_
      refine ⟨by rw [← dsA_len, q1]; exact hn, ?_⟩
      cases hh : fs x.1 x.2 with
      | none =>
        rw [hh] at q
        exact absurd rfl q.ne
      | some e2 =>
        rw [hh] at q
        exact hg ls s' x.2 e2 m1 k1 (by rw [q1]; exact hh) _ fun s2 m2 u2 => q.nx e2 s2 rfl m2 fun _ => u1.r.r0.trans u2
    · exact absurd rfl q.ne
theorem se_dicK {k : TK} : SE K aDicK (fC (.dk [] [])) (.dk k) K [] := fun s e x e' m h P hP => by
  cases h
  intro p
  refine hP _ s ?_ ?_ m (.refl s)
  · unfold Has
    exact ⟨p, [], [], rfl, fun t ht => by cases ht⟩
  · rw [Sl.d, dsA]
    rfl
def fGetD (o k f : FE) : FE := fun e => (o e).bind fun x => match x.1 with
  | .dk ks ds => (k x.2).bind fun y => (f y.2).bind fun w => (keyD y.1).bind fun kk => match ixA ks kk with
    | some j => (ds[j]?).map fun d => (d, w.2)
    | none => some (w.1, w.2)
  | _ => none
def fIxK (o k : FE) : FE := fun e => (o e).bind fun x => match x.1 with
  | .dk ks ds => (k x.2).bind fun y => (keyD y.1).bind fun kk => (ixA ks kk).bind fun j => (ds[j]?).map fun d => (d, y.2)
  | _ => none
def fInK (neg : Bool) (k o : FE) : FE := fun e => (k e).bind fun x => (o x.2).bind fun y => match y.1 with
  | .dk ks _ => (keyD x.1).map fun kk => (.bl (if neg then !(ixA ks kk).isSome else (ixA ks kk).isSome), y.2)
  | _ => none
end
end DL
namespace DL
open PySem L2
section
variable {z : Bool} {K K1 K2 K3 Kl Kn Kb Kc Kt Ke Kg : List TK} {kr k0 : TK} {a b c : AE} {fa fb fc : FE} {ka kb kc k k' : TK} {T T1 T2 T3 : List Nat} {aa ar : AA} {faa far : FA} {s s1 : Ss} {e : En}
theorem putKd_self : ∀ (path : Pth) (k t : TK), subK k path = some t → putKd k path t = k
  | [], d, t, h => by
    unfold subK at h
    cases h
    unfold putKd
    rfl
  | (c, f) :: r, d, t, h => by
    cases d <;> first | (simp [subK] at h; done) | skip
    rename_i c2 ns ds
    unfold subK at h
    split at h
    · obtain ⟨i, h1, h'⟩ := ex_bind h
      obtain ⟨u, h2, h3⟩ := ex_bind h'
      rw [putKd, h1]
      simp only [h2]
      rw [putKd_self r u t h3, set_self h2]
    · cases h
/-- a dict of a place is replaced by one of the same kind -/
theorem Mt.putP (m : Mt K s e) {i : Nat} {path : Pth} (h : K[i]? = some k) (h2 : subK k path = some k') (hk : k ≠ .ju) (hk' : k' ≠ .ju) {l t : Sl} (hs : s[i]? = some l) (hp : subT l path = some t) {t' : Sl} (q : Has k' t') (hr : root t' = root t) :
    Mt K (setP s i path t') (e.set i (putD l.d path t'.d)) ∧ Rk s (setP s i path t') ∧ (∀ j, j ∉ [i] → (setP s i path t')[j]? = s[j]?) := by
  obtain ⟨l0, t0, y1, y2, y3, y4, y5, y6, y7⟩ := m.plc h h2
  rw [y1] at hs
  cases hs
  rw [y5] at hp
  cases hp
  obtain ⟨w1, w2, w3⟩ := put_has path k k' k' l t' h2 y3 q
  rw [putKd_self path k k' h2] at w1
  have mm := m.set (i := i) w1
  rw [ev_d hk, w2, set_self h] at mm
  rw [setP_eq y1]
  have u : Un [i] s (s.set i (putT l path t')) := un_set y1 fun p hp => by
    cases path with
    | nil =>
      unfold putT at hp
      unfold subT at y5
      cases y5
      rw [hr] at hp
      exact hp
    | cons cf r =>
      rw [w3 (by simp)] at hp
      exact hp
  exact ⟨mm, u.r, u.t⟩
def fGetO (i : Nat) (path : Pth) (k f : FE) : FE := fun e => (k e).bind fun y => (f y.2).bind fun w => (w.2[i]?).bind fun d => (subD d path).bind fun t => match t with
  | .dk ks ds => (keyD y.1).bind fun kk => match ixA ks kk with
    | some j => (ds[j]?).map fun d => (d, w.2)
    | none => some (w.1, w.2)
  | _ => none
theorem dk_mem {kk : TK} {p : Addr} {ks : List Key} {ts : List Sl} (h : Has (.dk kk) (.nd p (.dk ks) ts)) : ∀ t ∈ ts, Has kk t := by
  unfold Has at h
  obtain ⟨_, _, _, e, h⟩ := h
  cases e
  exact h
def putKey (ks : List Key) (ds : List D) (kk : Key) (d : D) : D := match ixA ks kk with
  | some j => .dk ks (ds.set j d)
  | none => .dk (ks ++ [kk]) (ds ++ [d])
def fPutO (i : Nat) (path : Pth) (a k : FE) : FS := fE a fun d e1 => fE k (fun dk e2 => match (e2[i]?).bind fun x => subD x path, e2[i]?, keyD dk with
  | some (.dk ks ds), some x, some kk => if ks.length < 100000 then .nx (e2.set i (putD x path (putKey ks ds kk d))) else .er
  | _, _, _ => .er) e1
/-- d.setdefault(k, []).append(e) -/
def fSdApp (i : Nat) (path : Pth) (k a : FE) : FS := fE k fun dk e1 => match (e1[i]?).bind fun x => subD x path, e1[i]?, keyD dk with
  | some (.dk ks ds), some x, some kk => if ks.length < 100000 ∧ ks.length = ds.length then
    (fun (e2 : En) (x2 : D) (ks2 : List Key) (ds2 : List D) => fE a (fun d e3 => match ixA ks2 kk with
      | some j => match ds2[j]? with
        | some (.lst xs) => if xs.length < 100000 then .nx (e3.set i (putD x2 path (.dk ks2 (ds2.set j (.lst (xs ++ [d])))))) else .er
        | _ => .er
      | none => .er) e2)
    (match ixA ks kk with | some _ => e1 | none => e1.set i (putD x path (.dk (ks ++ [kk]) (ds ++ [.lst []]))))
    (match ixA ks kk with | some _ => x | none => putD x path (.dk (ks ++ [kk]) (ds ++ [.lst []])))
    (match ixA ks kk with | some _ => ks | none => ks ++ [kk]) (match ixA ks kk with | some _ => ds | none => ds ++ [.lst []]) else .er
  | _, _, _ => .er
theorem subD_put : ∀ (path : Pth) (d t t' : D), subD d path = some t → subD (putD d path t') path = some t' ∧ ∀ t2, putD (putD d path t') path t2 = putD d path t2
  | [], d, t, t', h => ⟨by unfold putD subD; rfl, fun t2 => by unfold putD; rfl⟩
  | (c, f) :: r, d, t, t', h => by
    cases d <;> first | (simp [subD] at h; done) | skip
    rename_i c2 ns ds
    unfold subD at h
    split at h
    · rename_i hc
      obtain ⟨i, h1, h'⟩ := ex_bind h
      obtain ⟨u, h2, h3⟩ := ex_bind h'
      have hl := (List.getElem?_eq_some_iff.mp h2).1
      obtain ⟨g1, g2⟩ := subD_put r u t t' h3
      have e1 : putD (.ins c2 ns ds) ((c, f) :: r) t' = .ins c2 ns (ds.set i (putD u r t')) := by
        rw [putD, h1]
        simp only [h2]
      have e3 : (ds.set i (putD u r t'))[i]? = some (putD u r t') := by rw [get_set hl, if_pos rfl]
      rw [e1]
      refine ⟨?_, fun t2 => ?_⟩
      · unfold subD
        rw [if_pos hc, h1]
        simp only [Option.bind_some, e3]
        exact g1
      · rw [putD, h1]
        simp only [e3]
        rw [putD, h1]
        simp only [h2]
        rw [g2, List.set_set]
    · cases h
theorem ss_sdApp {i : Nat} {path : Pth} (h : K[i]? = some k) (h2 : subK k path = some (.dk .ow)) (hk : k ≠ .ju) (ha : SE K a fa ka K T1) (hb : SE K b fb kb K T2) (n1 : i ∉ T1) (n2 : i ∉ T2) : SS z K (aSdApp i path a b) (fSdApp i path fa fb) K Kb Kc kr k0 := fun s e m A q => by
  obtain ⟨r, e1, g1, g2⟩ := q.ex
  unfold fSdApp at q
  rw [g2] at q
  obtain ⟨l, t, y1, y2, y3, y4, y5, y6, y7⟩ := m.plc h h2
  unfold aSdApp
  rw [y2]
  have y4' := y4
  unfold Has at y4
  obtain ⟨p, ke, ts, rfl, y8⟩ := y4
  simp only
  refine ha s e r e1 m g1 _ fun l1 s1 k1 q1 m1 u1 => ?_
  have es : s1[i]? = some l := by rw [u1.t i n1]; exact y1
  have ep : DL.plc s1 i path = some (.nd p (.dk ke) ts) := by
    unfold DL.plc
    rw [es]
    exact y5
  obtain ⟨l3, z1, z2, z3⟩ := m1.ix h
  rw [es] at z1
  cases z1
  rw [ev_d hk] at z3
  simp only [z3, Option.bind_some, y7 hk] at q
  rw [Sl.d] at q
  cases hkey : keyD r with
  | none =>
    rw [hkey] at q
    exact absurd rfl q.ne
  | some kv =>
    rw [hkey] at q
    change Cn z s A (if ke.length < 100000 ∧ ke.length = (dsA ts).length then _ else _) K Kb Kc kr k0 at q
    refine ⟨kv, by rw [q1]; exact hkey, ?_⟩
    rw [ep]
    split at q
    · rename_i hl
      obtain ⟨hl, hlen⟩ := hl
      rw [dsA_len] at hlen
      refine ⟨rfl, hl, ?_⟩
      -- the rest, from a state in which the key is there
      have rest : ∀ (s2 : Ss) (e2 : En) (x2 : D) (ke2 : List Key) (ts2 : List Sl) (l2 : Sl) (pc : Addr) (j : Nat), Mt K s2 e2 → Rk s s2 → s2[i]? = some l2 → l2.d = x2 → subT l2 path = some (.nd p (.dk ke2) ts2) → ixA ke2 kv = some j → (∃ xs, ts2[j]? = some (.ow pc xs)) →
          Cn z s A (fE fb (fun d e3 => match ixA ke2 kv with
            | some j => match (dsA ts2)[j]? with
              | some (.lst xs) => if xs.length < 100000 then .nx (e3.set i (putD x2 path (.dk ke2 ((dsA ts2).set j (.lst (xs ++ [d])))))) else .er
              | _ => .er
            | none => .er) e2) K Kb Kc kr k0 → sdApp i path p kv b A pc s2 := fun s2 e2 x2 ke2 ts2 l2 pc j m2 u2 es2 ex2 ep2 hj hpc q => by
        obtain ⟨r2, e3, g3, g4⟩ := q.ex
        rw [g4] at q
        unfold sdApp
        refine hb s2 e2 r2 e3 m2 g3 _ fun l4 s3 k4 q4 m3 u3 => ?_
        have es3 : s3[i]? = some l2 := by rw [u3.t i n2]; exact es2
        have ep3 : DL.plc s3 i path = some (.nd p (.dk ke2) ts2) := by
          unfold DL.plc
          rw [es3]
          exact ep2
        rw [ep3]
        obtain ⟨xs, hx⟩ := hpc
        rw [hj] at q
        simp only [dsA_get, hx, Option.map_some] at q
        rw [Sl.d] at q
        change Cn z s A (if xs.length < 100000 then _ else _) K Kb Kc kr k0 at q
        split at q
        · rename_i hx2
          refine ⟨rfl, j, xs, hj, hx, hx2, ?_⟩
          have hh : Has (.dk .ow) (.nd p (.dk ke2) ts2) := by
            obtain ⟨l5, t5, w1, w2, w3, w4, w5, _⟩ := m2.plc h h2
            rw [es2] at w1
            cases w1
            rw [ep2] at w5
            cases w5
            exact w4
          have hd : Has (.dk .ow) (.nd p (.dk ke2) (ts2.set j (.ow pc (xs ++ [l4.d])))) := by
            unfold Has
            refine ⟨p, ke2, _, rfl, fun t' ht => ?_⟩
            rcases List.mem_or_eq_of_mem_set ht with z | rfl
            · exact dk_mem hh t' z
            · exact has_ow _ _
          obtain ⟨w1, w2, w3⟩ := m3.putP h h2 hk (by simp) es3 ep2 hd rfl
          rw [ex2] at w1
          have eD : (Sl.nd p (.dk ke2) (ts2.set j (.ow pc (xs ++ [l4.d])))).d = .dk ke2 ((dsA ts2).set j (.lst (xs ++ [r2]))) := by
            rw [Sl.d, dsA_set, Sl.d, q4]
            rfl
          rw [eD] at w1
          exact q.nx _ _ rfl w1 fun _ => ((u2.trans u3.r).trans w2).r0
        · exact absurd rfl q.ne
      cases hj : ixA ke kv with
      | some j =>
        rw [hj] at q
        simp only at q ⊢
        have hjl : j < ts.length := by
          have h7 := (ixA_lt hj).1
          have h8 : fE fb _ e1 ≠ Out.er := q.ne
          -- the child is there, or nothing is told
          obtain ⟨r2, e3, g3, g4⟩ := q.ex
          rw [g4] at q
          simp only [hj] at q
          by_cases hlt : j < ts.length
          · exact hlt
          · exfalso
            have : (dsA ts)[j]? = none := List.getElem?_eq_none (by rw [dsA_len]; omega)
            simp only [this] at q
            exact q.ne rfl
        have ht := y8 _ (List.getElem_mem hjl)
        obtain ⟨pc, xs, ex⟩ := of_ow ht
        have e5 : ts[j]? = some (.ow pc xs) := by rw [List.getElem?_eq_getElem hjl, ex]
        exact ⟨pc, xs, e5, rest s1 e1 l.d ke ts l pc j m1 u1.r es rfl y5 hj ⟨xs, e5⟩ q⟩
      | none =>
        rw [hj] at q
        simp only at q ⊢
        intro pn
        have hd : Has (.dk .ow) (.nd p (.dk (ke ++ [kv])) (ts ++ [.ow pn []])) := by
          unfold Has
          refine ⟨p, _, _, rfl, fun t' ht => ?_⟩
          rcases List.mem_append.mp ht with z | z
          · exact y8 t' z
          · rw [List.mem_singleton.mp z]
            exact has_ow _ _
        obtain ⟨w1, w2, w3⟩ := m1.putP h h2 hk (by simp) es y5 hd rfl
        have ed : (Sl.nd p (.dk (ke ++ [kv])) (ts ++ [.ow pn []])).d = .dk (ke ++ [kv]) (dsA ts ++ [.lst []]) := by
          rw [Sl.d, dsA_app]
          show D.dk (ke ++ [kv]) (dsA ts ++ dsA [.ow pn []]) = _
          simp [dsA, Sl.d]
        rw [ed] at w1
        obtain ⟨v1, v2, v3⟩ := put_has path k _ _ l _ h2 y3 hd
        rw [setP_eq es] at w1 w2 ⊢
        have e6 : (ts ++ [Sl.ow pn []])[ke.length]? = some (.ow pn []) := by rw [hlen, List.getElem?_append_right (Nat.le_refl _), Nat.sub_self]; rfl
        have hil : i < s1.length := (List.getElem?_eq_some_iff.mp es).1
        have st : subT (putT l path (.nd p (.dk (ke ++ [kv])) (ts ++ [.ow pn []]))) path = some (.nd p (.dk (ke ++ [kv])) (ts ++ [.ow pn []])) := subT_put path l _ y5
        refine rest _ _ (putD l.d path (.dk (ke ++ [kv]) (dsA ts ++ [.lst []]))) _ _ _ pn ke.length w1 (u1.r.trans w2) (by rw [get_set hil, if_pos rfl]) (by rw [v2, ed]) st (ixA_snoc hj) ⟨[], e6⟩ ?_
        rw [show dsA (ts ++ [Sl.ow pn []]) = dsA ts ++ [.lst []] by rw [dsA_app]; simp [dsA, Sl.d]]
        exact q
    · exact absurd rfl q.ne
where
  subT_put : ∀ (path : Pth) (l : Sl) {p : Addr} {ke : List Key} {ts : List Sl} (t' : Sl), subT l path = some (.nd p (.dk ke) ts) → subT (putT l path t') path = some t'
    | [], l, p, ke, ts, t', h => by unfold putT subT; rfl
    | (c, f) :: r, l, p, ke, ts, t', h => by
      cases l with
      | no => simp [subT] at h
      | ow p xs => simp [subT] at h
      | pu dd =>
        exfalso
        exact pu_no _ dd h
      | nd p2 kk us =>
        cases kk <;> first | (simp [subT] at h; done) | skip
        rename_i c2 dx ns
        unfold subT at h
        split at h
        · rename_i hc
          obtain ⟨i, h1, h'⟩ := ex_bind h
          obtain ⟨u, h2, h3⟩ := ex_bind h'
          have hl := (List.getElem?_eq_some_iff.mp h2).1
          have e1 : putT (.nd p2 (.ins c2 dx ns) us) ((c, f) :: r) t' = .nd p2 (.ins c2 dx ns) (us.set i (putT u r t')) := by
            rw [putT, h1]
            simp only [h2]
          rw [e1]
          unfold subT
          rw [if_pos hc, h1]
          simp only [Option.bind_some, get_set hl, if_pos]
          exact subT_put r u t' h3
        · cases h
  pu_no : ∀ (path : Pth) (d : D) {p : Addr} {ke : List Key} {ts : List Sl}, subT (.pu d) path = some (.nd p (.dk ke) ts) → False
    | [], d, p, ke, ts, h => by
      unfold subT at h
      cases h
    | (c, f) :: r, d, p, ke, ts, h => by
      cases d <;> first | (simp [subT] at h; done) | skip
      unfold subT at h
      split at h
      · obtain ⟨i, h1, h'⟩ := ex_bind h
        obtain ⟨u, h2, h3⟩ := ex_bind h'
        exact pu_no r u h3
      · cases h
end
end DL
namespace DL
open PySem L2
instance (i j : Int) : Decidable (CMul i j) := by unfold CMul; infer_instance
instance (i j : Int) : Decidable (CMulW i j) := by unfold CMulW; infer_instance
instance (i j : Int) : Decidable (CPow i j) := by unfold CPow; infer_instance
instance (i j : Int) : Decidable (CDiv i j) := by unfold CDiv; infer_instance
instance (i j : Int) : Decidable (CDivW i j) := by unfold CDivW; infer_instance
instance (i j : Int) : Decidable (CPowW i j) := by unfold CPowW; infer_instance
abbrev gAdd : D → D → Option D := gI fun i j => i + j
abbrev gSub : D → D → Option D := gI fun i j => i - j
abbrev gMul : D → D → Option D := gIC CMul fun i j => i * j
abbrev gDivW : D → D → Option D := gIC CDivW fun i j => i / j
abbrev gMod : D → D → Option D := gIC (fun _ j => 0 < j) fun i j => i % j
abbrev gPow : D → D → Option D := gIC CPow fun i j => i ^ j.toNat
abbrev gPowW : D → D → Option D := gIC CPowW fun i j => i ^ j.toNat
abbrev gLt : D → D → Option D := gB fun i j => decide (i < j)
abbrev gLe : D → D → Option D := gB fun i j => decide (i ≤ j)
abbrev gGt : D → D → Option D := gB fun i j => decide (j < i)
abbrev gGe : D → D → Option D := gB fun i j => decide (j ≤ i)
end DL
namespace DL
open PySem L2
/-- an equation that simp takes as a proof, not by unfolding -/
theorem nr {α : Sort _} {a b : α} (h : a = b) : a = b := h
theorem ge_0 {α : Type} {a : α} {l : List α} : (a :: l)[0]? = some a := nr rfl
theorem ge_s {α : Type} {a : α} {l : List α} {n : Nat} : (a :: l)[n + 1]? = l[n]? := nr rfl
theorem sz_0 {α : Type} {a b : α} {l : List α} : (a :: l).set 0 b = b :: l := nr rfl
theorem sz_s {α : Type} {a b : α} {l : List α} {n : Nat} : (a :: l).set (n + 1) b = a :: l.set n b := nr rfl
theorem ap_c {α : Type} {a : α} {l m : List α} : (a :: l) ++ m = a :: (l ++ m) := nr rfl
theorem ap_n {α : Type} {m : List α} : ([] : List α) ++ m = m := nr rfl
section
variable {α γ : Type} {a b c : FE} {ft fu : FT} {fa fr : FA} {fo fl fh : FO} {e e1 : En} {fs fu' fb : FS} {i j l n m : Nat} {d x y : D} {ds xs ys : List D} {g g' : D → D → Option D}
def u1 (h : α → Option γ) : Option (α × En) → Option (γ × En)
  | some (x, e) => match h x with
    | some r => some (r, e)
    | none => none
  | none => none
def pr : Option γ → En → Option (γ × En)
  | some r, e => some (r, e)
  | none, _ => none
theorem u1_some {h : α → Option γ} {x : α} : u1 h (some (x, e)) = pr (h x) e := by
  unfold u1 pr
  try simp only [Option.bind_some]
  cases h x <;> rfl
theorem pr_some {r : γ} : pr (some r) e = some (r, e) := nr rfl
theorem pr_ite {p : Prop} [Decidable p] {r s : Option γ} : pr (if p then r else s) e = if p then pr r e else pr s e := by split <;> rfl
theorem w_var : fVar i e = pr e[i]? e := by
  unfold fVar pr
  try simp only [Option.bind_some]
  cases e[i]? <;> rfl
theorem w_c : fC d e = some (d, e) := nr rfl
def mv1 (i : Nat) : Option (D × En) → Option (D × En)
  | some (x, e) => some (x, e.set i .non)
  | none => none
theorem mv1_some : mv1 i (some (d, e)) = some (d, e.set i .non) := nr rfl
theorem w_mov : fMov i e = mv1 i (pr e[i]? e) := by
  unfold fMov pr mv1
  try simp only [Option.bind_some]
  cases e[i]? <;> rfl
def op1 (g : D → D → Option D) (b : FE) : Option (D × En) → Option (D × En)
  | some (x, e) => match b e with
    | some (y, e2) => pr (g x y) e2
    | none => none
  | none => none
def op2 (g : D → D → Option D) (x : D) : Option (D × En) → Option (D × En)
  | some (y, e) => pr (g x y) e
  | none => none
theorem op1_some : op1 g b (some (x, e)) = op2 g x (b e) := by
  unfold op1 op2
  try simp only [Option.bind_some]
  all_goals (cases b e <;> rfl)
theorem op2_some : op2 g x (some (y, e)) = pr (g x y) e := nr rfl
theorem op2_ite {p : Prop} [Decidable p] {r s : Option (D × En)} : op2 g x (if p then r else s) = if p then op2 g x r else op2 g x s := by split <;> rfl
theorem op1_ite {p : Prop} [Decidable p] {r s : Option (D × En)} : op1 g b (if p then r else s) = if p then op1 g b r else op1 g b s := by split <;> rfl
theorem w_op : fOp g a b e = op1 g b (a e) := by
  unfold fOp op1 pr
  try simp only [Option.bind_some]
  cases a e with
  | none => rfl
  | some z =>
    simp only [Option.bind_some]
    try simp only [Option.bind_some]
    cases b z.2 with
    | none => rfl
    | some w =>
      simp only [Option.bind_some]
      try simp only [Option.bind_some]
      cases g z.1 w.1 <;> rfl
def hNeg : D → Option D
  | .int i => some (.int (-i))
  | _ => none
def hNot : D → Option D
  | .bl b => some (.bl (!b))
  | _ => none
theorem hNeg_int (i : Int) : hNeg (.int i) = some (.int (-i)) := nr rfl
theorem hNot_bl (b : Bool) : hNot (.bl b) = some (.bl (!b)) := nr rfl
theorem w_neg : fNeg a e = u1 hNeg (a e) := by
  unfold fNeg u1
  try simp only [Option.bind_some]
  cases a e with
  | none => rfl
  | some z =>
    obtain ⟨z1, z2⟩ := z
    cases z1 <;> rfl
theorem w_notV : fNotV a e = u1 hNot (a e) := by
  unfold fNotV u1
  try simp only [Option.bind_some]
  cases a e with
  | none => rfl
  | some z =>
    obtain ⟨z1, z2⟩ := z
    cases z1 <;> rfl
def an1 (b : FE) : Option (D × En) → Option (D × En)
  | some (.bl c, e) => if c = true then b e else some (.bl false, e)
  | _ => none
def or1 (b : FE) : Option (D × En) → Option (D × En)
  | some (.bl c, e) => if c = true then some (.bl true, e) else b e
  | _ => none
theorem an1_bl {c : Bool} : an1 b (some (.bl c, e)) = if c = true then b e else some (.bl false, e) := nr rfl
theorem or1_bl {c : Bool} : or1 b (some (.bl c, e)) = if c = true then some (.bl true, e) else b e := nr rfl
theorem w_andV : fAndV a b e = an1 b (a e) := by
  unfold fAndV an1
  try simp only [Option.bind_some]
  cases a e with
  | none => rfl
  | some z =>
    obtain ⟨z1, z2⟩ := z
    cases z1 <;> rfl
theorem w_orV : fOrV a b e = or1 b (a e) := by
  unfold fOrV or1
  try simp only [Option.bind_some]
  cases a e with
  | none => rfl
  | some z =>
    obtain ⟨z1, z2⟩ := z
    cases z1 <;> rfl
theorem an1_ite {p : Prop} [Decidable p] {r s : Option (D × En)} : an1 b (if p then r else s) = if p then an1 b r else an1 b s := by split <;> rfl
theorem or1_ite {p : Prop} [Decidable p] {r s : Option (D × En)} : or1 b (if p then r else s) = if p then or1 b r else or1 b s := by split <;> rfl
def ch1 (g g' : D → D → Option D) (b c : FE) : Option (D × En) → Option (D × En)
  | some (x, e) => match b e with
    | some (y, e2) => match g x y with
      | some (.bl t) => if t = true then op2 g' y (c e2) else some (.bl false, e2)
      | _ => none
    | none => none
  | none => none
def ch2 (g g' : D → D → Option D) (c : FE) (x : D) : Option (D × En) → Option (D × En)
  | some (y, e2) => match g x y with
      | some (.bl t) => if t = true then op2 g' y (c e2) else some (.bl false, e2)
      | _ => none
  | none => none
def ch3 (g' : D → D → Option D) (c : FE) (y : D) (e2 : En) : Option D → Option (D × En)
  | some (.bl t) => if t = true then op2 g' y (c e2) else some (.bl false, e2)
  | _ => none
theorem ch1_some : ch1 g g' b c (some (x, e)) = ch2 g g' c x (b e) := by
  unfold ch1 ch2
  try simp only [Option.bind_some]
  all_goals (cases b e <;> rfl)
theorem ch2_some : ch2 g g' c x (some (y, e)) = ch3 g' c y e (g x y) := by
  unfold ch2 ch3
  rfl
theorem ch3_bl {t : Bool} : ch3 g' c y e (some (.bl t)) = if t = true then op2 g' y (c e) else some (.bl false, e) := nr rfl
theorem w_chain : fChain g g' a b c e = ch1 g g' b c (a e) := by
  unfold fChain ch1 op2 pr
  try simp only [Option.bind_some]
  cases a e with
  | none => rfl
  | some z =>
    simp only [Option.bind_some]
    try simp only [Option.bind_some]
    cases b z.2 with
    | none => rfl
    | some w =>
      simp only [Option.bind_some]
      try simp only [Option.bind_some]
      cases g z.1 w.1 with
      | none => rfl
      | some u =>
        try simp only [Option.bind_some]
        cases u <;> first | rfl | skip
        rename_i t
        try simp only [Option.bind_some]
        cases t
        · rfl
        · simp only [Option.bind_some, if_true]
          try simp only [Option.bind_some]
          cases c w.2 with
          | none => rfl
          | some v =>
            simp only [Option.bind_some]
            try simp only [Option.bind_some]
            cases g' w.1 v.1 <;> rfl
def hTest : D → Option Bool
  | .bl b => some b
  | _ => none
theorem hTest_bl (b : Bool) : hTest (.bl b) = some b := nr rfl
theorem w_test : fTest a e = u1 hTest (a e) := by
  unfold fTest u1
  try simp only [Option.bind_some]
  cases a e with
  | none => rfl
  | some z =>
    obtain ⟨z1, z2⟩ := z
    cases z1 <;> rfl
theorem u1_ite {h : α → Option γ} {p : Prop} [Decidable p] {r s : Option (α × En)} : u1 h (if p then r else s) = if p then u1 h r else u1 h s := by split <;> rfl
def ta1 (b : FT) : Option (Bool × En) → Option (Bool × En)
  | some (c, e) => if c = true then b e else some (false, e)
  | none => none
def to1 (b : FT) : Option (Bool × En) → Option (Bool × En)
  | some (c, e) => if c = true then some (true, e) else b e
  | none => none
theorem ta1_some {t : Bool} : ta1 fu (some (t, e)) = if t = true then fu e else some (false, e) := nr rfl
theorem to1_some {t : Bool} : to1 fu (some (t, e)) = if t = true then some (true, e) else fu e := nr rfl
theorem ta1_ite {p : Prop} [Decidable p] {r s : Option (Bool × En)} : ta1 fu (if p then r else s) = if p then ta1 fu r else ta1 fu s := by split <;> rfl
theorem to1_ite {p : Prop} [Decidable p] {r s : Option (Bool × En)} : to1 fu (if p then r else s) = if p then to1 fu r else to1 fu s := by split <;> rfl
theorem w_tand : fAnd ft fu e = ta1 fu (ft e) := by
  unfold fAnd ta1
  try simp only [Option.bind_some]
  cases ft e <;> rfl
theorem w_tor : fOr ft fu e = to1 fu (ft e) := by
  unfold fOr to1
  try simp only [Option.bind_some]
  cases ft e <;> rfl
def hNotB : Bool → Option Bool := fun b => some (!b)
theorem hNotB_eq (b : Bool) : hNotB b = some (!b) := nr rfl
theorem w_not : fNot ft e = u1 hNotB (ft e) := by
  unfold fNot u1 hNotB
  try simp only [Option.bind_some]
  cases ft e <;> rfl
theorem w_yes : fYes e = some (true, e) := nr rfl
def if0 (a b : FE) : Option (Bool × En) → Option (D × En)
  | some (c, e) => if c = true then a e else b e
  | none => none
theorem if0_some {t : Bool} : if0 a b (some (t, e)) = if t = true then a e else b e := nr rfl
theorem if0_ite {p : Prop} [Decidable p] {r s : Option (Bool × En)} : if0 a b (if p then r else s) = if p then if0 a b r else if0 a b s := by split <;> rfl
theorem w_if : fIf ft a b e = if0 a b (ft e) := by
  unfold fIf if0
  try simp only [Option.bind_some]
  cases ft e <;> rfl
def hIsi (T : TyN) : D → Option D := fun d => match isi T d with
  | some b => some (.bl b)
  | none => none
theorem w_isi {T : TyN} : fIsi T a e = u1 (hIsi T) (a e) := by
  unfold fIsi u1 hIsi
  try simp only [Option.bind_some]
  cases a e with
  | none => rfl
  | some z =>
    simp only [Option.bind_some]
    try simp only [Option.bind_some]
    cases isi T z.1 <;> rfl
theorem w_nil : fNil e = some ([], e) := nr rfl
def co1 (r : FA) : Option (D × En) → Option (List D × En)
  | some (x, e) => match r e with
    | some (xs, e2) => some (x :: xs, e2)
    | none => none
  | none => none
def co2 (x : D) : Option (List D × En) → Option (List D × En)
  | some (xs, e) => some (x :: xs, e)
  | none => none
theorem co1_some : co1 fr (some (x, e)) = co2 x (fr e) := by
  unfold co1 co2
  try simp only [Option.bind_some]
  all_goals (cases fr e <;> rfl)
theorem co2_some : co2 x (some (xs, e)) = some (x :: xs, e) := nr rfl
theorem co1_ite {p : Prop} [Decidable p] {r s : Option (D × En)} : co1 fr (if p then r else s) = if p then co1 fr r else co1 fr s := by split <;> rfl
theorem co2_ite {p : Prop} [Decidable p] {r s : Option (List D × En)} : co2 x (if p then r else s) = if p then co2 x r else co2 x s := by split <;> rfl
theorem w_cons : fCons a fr e = co1 fr (a e) := by
  unfold fCons co1
  try simp only [Option.bind_some]
  cases a e with
  | none => rfl
  | some z =>
    simp only [Option.bind_some]
    try simp only [Option.bind_some]
    cases fr z.2 <;> rfl
def sr1 (r : FA) : Option (D × En) → Option (List D × En)
  | some (x, e) => match seqD x with
    | some xs => match r e with
      | some (ys, e2) => some (xs ++ ys, e2)
      | none => none
    | none => none
  | none => none
def sr2 (xs : List D) : Option (List D × En) → Option (List D × En)
  | some (ys, e) => some (xs ++ ys, e)
  | none => none
theorem sr2_some : sr2 xs (some (ys, e)) = some (xs ++ ys, e) := nr rfl
theorem sr1_t : sr1 fr (some (.tup xs, e)) = sr2 xs (fr e) := by
  unfold sr1 sr2
  simp only [sq_t]
  try simp only [Option.bind_some]
  all_goals (cases fr e <;> rfl)
theorem sr1_l : sr1 fr (some (.lst xs, e)) = sr2 xs (fr e) := by
  unfold sr1 sr2
  simp only [sq_l]
  try simp only [Option.bind_some]
  all_goals (cases fr e <;> rfl)
theorem w_star : fStar a fr e = sr1 fr (a e) := by
  unfold fStar sr1
  try simp only [Option.bind_some]
  cases a e with
  | none => rfl
  | some z =>
    simp only [Option.bind_some]
    try simp only [Option.bind_some]
    cases seqD z.1 with
    | none => rfl
    | some xs =>
      simp only [Option.bind_some]
      try simp only [Option.bind_some]
      cases fr z.2 <;> rfl
def hTup : List D → Option D := fun xs => if xs.length ≤ 100000 then some (.tup xs) else none
def hLst : List D → Option D := fun xs => if xs.length ≤ 100000 then some (.lst xs) else none
theorem hTup_eq (h : xs.length ≤ 100000) : hTup xs = some (.tup xs) := if_pos h
theorem hLst_eq (h : xs.length ≤ 100000) : hLst xs = some (.lst xs) := if_pos h
theorem hTup_nil : hTup [] = some (.tup []) := nr rfl
theorem hLst_nil : hLst [] = some (.lst []) := nr rfl
theorem hTup_1 (a : D) : hTup [a] = some (.tup [a]) := nr rfl
theorem hTup_2 (a b : D) : hTup [a, b] = some (.tup [a, b]) := nr rfl
theorem hTup_3 (a b c : D) : hTup [a, b, c] = some (.tup [a, b, c]) := nr rfl
theorem hTup_4 (a b c d : D) : hTup [a, b, c, d] = some (.tup [a, b, c, d]) := nr rfl
theorem hTup_5 (a b c d f : D) : hTup [a, b, c, d, f] = some (.tup [a, b, c, d, f]) := nr rfl
theorem hLst_1 (a : D) : hLst [a] = some (.lst [a]) := nr rfl
theorem hLst_2 (a b : D) : hLst [a, b] = some (.lst [a, b]) := nr rfl
theorem hLst_3 (a b c : D) : hLst [a, b, c] = some (.lst [a, b, c]) := nr rfl
theorem hLst_4 (a b c d : D) : hLst [a, b, c, d] = some (.lst [a, b, c, d]) := nr rfl
theorem hLst_5 (a b c d f : D) : hLst [a, b, c, d, f] = some (.lst [a, b, c, d, f]) := nr rfl
theorem hLst_6 (a b c d f g : D) : hLst [a, b, c, d, f, g] = some (.lst [a, b, c, d, f, g]) := nr rfl
theorem w_tup : fTup fa e = u1 hTup (fa e) := by
  unfold fTup u1 hTup
  try simp only [Option.bind_some]
  cases fa e with
  | none => rfl
  | some z =>
    simp only [Option.bind_some]
    split <;> rfl
theorem w_lst : fLst fa e = u1 hLst (fa e) := by
  unfold fLst u1 hLst
  try simp only [Option.bind_some]
  cases fa e with
  | none => rfl
  | some z =>
    simp only [Option.bind_some]
    split <;> rfl
theorem w_call {f : List D → Option D} : fCall f fa e = u1 f (fa e) := by
  unfold fCall u1
  try simp only [Option.bind_some]
  cases fa e with
  | none => rfl
  | some z =>
    simp only [Option.bind_some]
    try simp only [Option.bind_some]
    cases f z.1 <;> rfl
theorem w_noP : fNoP e = some (none, e) := nr rfl
def hPart : D → Option (Option Int)
  | .int i => some (some i)
  | _ => none
theorem hPart_int (i : Int) : hPart (.int i) = some (some i) := nr rfl
theorem w_part : fPart a e = u1 hPart (a e) := by
  unfold fPart u1
  try simp only [Option.bind_some]
  cases a e with
  | none => rfl
  | some z =>
    obtain ⟨z1, z2⟩ := z
    cases z1 <;> rfl
def sl1 (h : D → Option Int → Option Int → Option D) (l u : FO) : Option (D × En) → Option (D × En)
  | some (x, e) => match l e with
    | some (lo, e2) => match u e2 with
      | some (hi, e3) => pr (h x lo hi) e3
      | none => none
    | none => none
  | none => none
def sl2 (h : D → Option Int → Option Int → Option D) (u : FO) (x : D) : Option (Option Int × En) → Option (D × En)
  | some (lo, e2) => match u e2 with
      | some (hi, e3) => pr (h x lo hi) e3
      | none => none
  | none => none
def sl3 (h : D → Option Int → Option Int → Option D) (x : D) (lo : Option Int) : Option (Option Int × En) → Option (D × En)
  | some (hi, e3) => pr (h x lo hi) e3
  | none => none
theorem sl1_some {h : D → Option Int → Option Int → Option D} : sl1 h fl fh (some (x, e)) = sl2 h fh x (fl e) := by
  unfold sl1 sl2
  try simp only [Option.bind_some]
  all_goals (cases fl e <;> rfl)
theorem sl2_some {h : D → Option Int → Option Int → Option D} {lo : Option Int} : sl2 h fh x (some (lo, e)) = sl3 h x lo (fh e) := by
  unfold sl2 sl3
  try simp only [Option.bind_some]
  all_goals (cases fh e <;> rfl)
theorem sl3_some {h : D → Option Int → Option Int → Option D} {lo hi : Option Int} : sl3 h x lo (some (hi, e)) = pr (h x lo hi) e := nr rfl
def hSlL : D → Option Int → Option Int → Option D := fun x lo hi => match lstD x with
  | some xs => some (.lst (cutD xs lo hi))
  | none => none
def hSlT : D → Option Int → Option Int → Option D := fun x lo hi => match tupD x with
  | some xs => some (.tup (cutD xs lo hi))
  | none => none
theorem hSlL_l {lo hi : Option Int} : hSlL (.lst xs) lo hi = some (.lst (cutD xs lo hi)) := nr rfl
theorem hSlL_s {lo hi : Option Int} : hSlL (.scr xs) lo hi = some (.lst (cutD xs lo hi)) := nr rfl
theorem hSlT_t {lo hi : Option Int} : hSlT (.tup xs) lo hi = some (.tup (cutD xs lo hi)) := nr rfl
theorem w_slL : fSlL a fl fh e = sl1 hSlL fl fh (a e) := by
  unfold fSlL sl1 hSlL pr
  try simp only [Option.bind_some]
  cases a e with
  | none => rfl
  | some z =>
    simp only [Option.bind_some]
    try simp only [Option.bind_some]
    cases fl z.2 with
    | none => rfl
    | some w =>
      simp only [Option.bind_some]
      try simp only [Option.bind_some]
      cases fh w.2 with
      | none => rfl
      | some v =>
        simp only [Option.bind_some]
        try simp only [Option.bind_some]
        cases lstD z.1 <;> rfl
theorem w_slT : fSlT a fl fh e = sl1 hSlT fl fh (a e) := by
  unfold fSlT sl1 hSlT pr
  try simp only [Option.bind_some]
  cases a e with
  | none => rfl
  | some z =>
    simp only [Option.bind_some]
    try simp only [Option.bind_some]
    cases fl z.2 with
    | none => rfl
    | some w =>
      simp only [Option.bind_some]
      try simp only [Option.bind_some]
      cases fh w.2 with
      | none => rfl
      | some v =>
        simp only [Option.bind_some]
        try simp only [Option.bind_some]
        cases tupD z.1 <;> rfl
def hRevL : D → Option D := fun x => match lstD x with
  | some xs => some (.lst xs.reverse)
  | none => none
theorem hRevL_l : hRevL (.lst xs) = some (.lst xs.reverse) := nr rfl
theorem w_revL : fRevL a e = u1 hRevL (a e) := by
  unfold fRevL u1 hRevL
  try simp only [Option.bind_some]
  cases a e with
  | none => rfl
  | some z =>
    simp only [Option.bind_some]
    try simp only [Option.bind_some]
    cases lstD z.1 <;> rfl
def m11 (h : Str → D → Option D) (b : FE) : Option (D × En) → Option (D × En)
  | some (x, e) => match b e with
    | some (y, e2) => match x with
      | .str z => pr (h z y) e2
      | _ => none
    | none => none
  | none => none
def m12 (h : Str → D → Option D) (z : Str) : Option (D × En) → Option (D × En)
  | some (y, e2) => pr (h z y) e2
  | none => none
theorem m11_str {h : Str → D → Option D} {z : Str} : m11 h b (some (.str z, e)) = m12 h z (b e) := by
  unfold m11 m12
  try simp only [Option.bind_some]
  all_goals (cases b e <;> rfl)
theorem m12_some {h : Str → D → Option D} {z : Str} : m12 h z (some (y, e)) = pr (h z y) e := nr rfl
theorem w_m1 {h : Str → D → Option D} : fM1 h a b e = m11 h b (a e) := by
  unfold fM1 m11 pr
  rcases a e with _ | ⟨z1, z2⟩
  · rfl
  · simp only [Option.bind_some]
    rcases hb : b z2 with _ | ⟨w1, w2⟩
    · rfl
    · cases z1 <;> first | rfl | skip
      rename_i z
      simp only [Option.bind_some]
      try simp only [Option.bind_some]
      cases h z w1 <;> rfl
def io1 (i : Nat) : Option (D × En) → Option (D × En)
  | some (.int k, e) => match e[i]? with
    | some (.lst xs) => pr (atI xs k) e
    | _ => none
  | _ => none
def io2 (k : Int) (e : En) : Option D → Option (D × En)
  | some (.lst xs) => pr (atI xs k) e
  | _ => none
theorem io1_int {k : Int} : io1 i (some (.int k, e)) = io2 k e e[i]? := by
  unfold io1 io2
  rfl
theorem io2_lst {k : Int} : io2 k e (some (.lst xs)) = pr (atI xs k) e := nr rfl
theorem w_ixO : fIxO i b e = io1 i (b e) := by
  unfold fIxO io1 pr
  rcases b e with _ | ⟨z1, z2⟩
  · rfl
  · simp only [Option.bind_some]
    cases z1 <;> simp only <;> generalize z2[i]? = o <;> rcases o with _ | w <;> first | rfl | skip
    all_goals
      cases w <;> first | rfl | skip
      simp only [Option.bind_some]
      rename_i k xs
      try simp only [Option.bind_some]
      cases atI xs k <;> rfl
def bo1 (f : List D → Option D) (e : En) : Option D → Option (D × En)
  | some d => match f [d] with
    | some r => if flatD r = true then some (r, e) else none
    | none => none
  | none => none
def bo2 (e : En) : Option D → Option (D × En)
  | some r => if flatD r = true then some (r, e) else none
  | none => none
theorem bo1_some {f : List D → Option D} : bo1 f e (some d) = bo2 e (f [d]) := by
  unfold bo1 bo2
  rfl
theorem bo2_int {k : Int} : bo2 e (some (.int k)) = some (.int k, e) := nr rfl
theorem bo2_bl {k : Bool} : bo2 e (some (.bl k)) = some (.bl k, e) := nr rfl
theorem w_bor {f : List D → Option D} : fBor f i e = bo1 f e e[i]? := by
  unfold fBor bo1
  try simp only [Option.bind_some]
  cases e[i]? with
  | none => rfl
  | some z =>
    simp only [Option.bind_some]
    try simp only [Option.bind_some]
    cases f [z] <;> rfl
def ib1 (neg : Bool) (i : Nat) : Option (D × En) → Option (D × En)
  | some (x, e) => match e[i]? with
    | some (.lst xs) => if flatD x = true ∧ xs.all flatD = true then some (.bl (if neg then !inF x xs else inF x xs), e) else none
    | _ => none
  | none => none
def ib2 (neg : Bool) (x : D) (e : En) : Option D → Option (D × En)
  | some (.lst xs) => if flatD x = true ∧ xs.all flatD = true then some (.bl (if neg then !inF x xs else inF x xs), e) else none
  | _ => none
theorem ib1_some {neg : Bool} : ib1 neg i (some (x, e)) = ib2 neg x e e[i]? := by
  unfold ib1 ib2
  rfl
theorem ib2_lst {neg : Bool} (h : flatD x = true) (h2 : xs.all flatD = true) : ib2 neg x e (some (.lst xs)) = some (.bl (if neg then !inF x xs else inF x xs), e) := if_pos ⟨h, h2⟩
theorem w_inB {neg : Bool} : fInB neg a i e = ib1 neg i (a e) := by
  unfold fInB ib1
  try simp only [Option.bind_some]
  cases a e with
  | none => rfl
  | some z =>
    simp only [Option.bind_some]
    try simp only [Option.bind_some]
    cases z.2[i]? with
    | none => rfl
    | some w => cases w <;> rfl
def po1 (i : Nat) : Option (D × En) → Option (D × En)
  | some (.int j, e) => match e[i]? with
    | some (.lst xs) => if 0 ≤ j ∧ j < xs.length ∧ xs.length ≤ 100000 then (xs[j.toNat]?).map fun r => (r, e.set i (.lst (xs.eraseIdx j.toNat))) else none
    | _ => none
  | _ => none
theorem po1_at {j : Int} (h : e[i]? = some (.lst xs)) (h0 : 0 ≤ j) (h1 : j < xs.length) (h2 : xs.length ≤ 100000) (h3 : xs[j.toNat]? = some d) : po1 i (some (.int j, e)) = some (d, e.set i (.lst (xs.eraseIdx j.toNat))) := by
  unfold po1
  simp only [h, h3, Option.map_some]
  rw [if_pos ⟨h0, h1, h2⟩]
theorem w_popAt : fPopAt i a e = po1 i (a e) := by
  unfold fPopAt po1
  rcases a e with _ | ⟨z1, z2⟩
  · rfl
  · simp only [Option.bind_some]
    cases z1 <;> simp only <;> generalize z2[i]? = o <;> rcases o with _ | w <;> first | rfl | skip
    all_goals
      cases w <;> rfl
def hLr1 : List D → Option D := fun ds => match ds with
  | [.int j] => if 0 ≤ j ∧ j ≤ 16777216 then some (.lst (rngD 0 j.toNat)) else none
  | _ => none
def hLr2 : List D → Option D := fun ds => match ds with
  | [.int i, .int j] => if RgOk i j then some (.lst (rngD i (j - i).toNat)) else none
  | _ => none
theorem hLr1_eq {j : Int} (h0 : 0 ≤ j) (h1 : j ≤ 16777216) : hLr1 [.int j] = some (.lst (rngD 0 j.toNat)) := if_pos ⟨h0, h1⟩
theorem hLr2_eq {i j : Int} (h0 : RgOk i j) : hLr2 [.int i, .int j] = some (.lst (rngD i (j - i).toNat)) := if_pos h0
theorem w_lr1 : fListRange1 fa e = u1 hLr1 (fa e) := by
  unfold fListRange1 u1 hLr1
  rcases fa e with _ | ⟨z1, z2⟩
  · rfl
  · simp only [Option.bind_some]
    rcases z1 with _ | ⟨d, _ | ⟨d2, r⟩⟩ <;> (try rfl) <;> cases d <;> (try rfl)
    all_goals
      simp only
      split <;> rfl
theorem w_lr2 : fListRange2 fa e = u1 hLr2 (fa e) := by
  unfold fListRange2 u1 hLr2
  rcases fa e with _ | ⟨z1, z2⟩
  · rfl
  · simp only [Option.bind_some]
    rcases z1 with _ | ⟨d, _ | ⟨d2, _ | ⟨d3, r⟩⟩⟩ <;> (try rfl) <;> cases d <;> (try rfl) <;> cases d2 <;> (try rfl)
    all_goals
      simp only
      split <;> rfl
def hLsT : D → Option D := fun d => match d with
  | .tup ds => (intsD ds).bind fun ns => if ns.length ≤ 4000 then some (.int (dedup ns).length) else none
  | _ => none
def hLsL : D → Option D := fun d => match d with
  | .lst ds => (intsD ds).bind fun ns => if ns.length ≤ 4000 then some (.int (dedup ns).length) else none
  | _ => none
theorem hLsT_eq {ns : List Int} (h : ns.length ≤ 4000) : hLsT (tupI ns) = some (.int (dedup ns).length) := by
  unfold hLsT
  simp only [intsD_map, Option.bind_some]
  rw [if_pos h]
theorem hLsL_eq {ns : List Int} (h : ns.length ≤ 4000) : hLsL (lstI ns) = some (.int (dedup ns).length) := by
  unfold hLsL
  simp only [intsD_map, Option.bind_some]
  rw [if_pos h]
theorem w_lsT : fLenSetT a e = u1 hLsT (a e) := by
  unfold fLenSetT u1 hLsT
  try simp only [Option.bind_some]
  cases a e with
  | none => rfl
  | some z =>
    obtain ⟨z1, z2⟩ := z
    cases z1 <;> first | rfl | skip
    simp only [Option.bind_some]
    try simp only [Option.bind_some]
    cases intsD _ with
    | none => rfl
    | some ns =>
      simp only [Option.bind_some]
      split <;> rfl
theorem w_lsL : fLenSetL a e = u1 hLsL (a e) := by
  unfold fLenSetL u1 hLsL
  try simp only [Option.bind_some]
  cases a e with
  | none => rfl
  | some z =>
    obtain ⟨z1, z2⟩ := z
    cases z1 <;> first | rfl | skip
    simp only [Option.bind_some]
    try simp only [Option.bind_some]
    cases intsD _ with
    | none => rfl
    | some ns =>
      simp only [Option.bind_some]
      split <;> rfl
def cm1 (n j : Nat) (F : List D → Option (D × D)) : Option (List D × En) → Option (D × En)
  | some (ds, e) => match e[j]? with
    | some d => if ds.length + 1 = n then (F (d :: ds)).bind fun y => match y.2 with
      | .lst ys => some (y.1, e.set j (.lst ys))
      | _ => none
      else none
    | none => none
  | none => none
def cm2 (j : Nat) (e : En) : Option (D × D) → Option (D × En)
  | some (r, .lst ys) => some (r, e.set j (.lst ys))
  | _ => none
theorem cm2_some {r : D} : cm2 j e (some (r, .lst ys)) = some (r, e.set j (.lst ys)) := nr rfl
def cm3 (n j : Nat) (F : List D → Option (D × D)) (ds : List D) (e : En) : Option D → Option (D × En)
  | some d => if ds.length + 1 = n then cm2 j e (F (d :: ds)) else none
  | none => none
theorem cm1_some {F : List D → Option (D × D)} : cm1 n j F (some (ds, e)) = cm3 n j F ds e e[j]? := by
  unfold cm1 cm3 cm2
  simp only
  cases e[j]? with
  | none => rfl
  | some d =>
    simp only
    split
    · rcases F (d :: ds) with _ | ⟨z1, z2⟩
      · rfl
      · cases z2 <;> rfl
    · rfl
theorem cm3_1 {F : List D → Option (D × D)} : cm3 1 j F [] e (some d) = cm2 j e (F [d]) := nr rfl
theorem cm3_2 {F : List D → Option (D × D)} : cm3 2 j F [x] e (some d) = cm2 j e (F [d, x]) := nr rfl
theorem cm3_3 {F : List D → Option (D × D)} : cm3 3 j F [x, y] e (some d) = cm2 j e (F [d, x, y]) := nr rfl
theorem cm3_4 {F : List D → Option (D × D)} {z : D} : cm3 4 j F [x, y, z] e (some d) = cm2 j e (F [d, x, y, z]) := nr rfl
theorem cm3_5 {F : List D → Option (D × D)} {z w : D} : cm3 5 j F [x, y, z, w] e (some d) = cm2 j e (F [d, x, y, z, w]) := nr rfl
theorem w_callM {F : List D → Option (D × D)} : fCallM n j F fa e = cm1 n j F (fa e) := by
  unfold fCallM cm1
  try simp only [Option.bind_some]
  cases fa e with
  | none => rfl
  | some z =>
    simp only [Option.bind_some]
    try simp only [Option.bind_some]
    cases z.2[j]? <;> rfl
def ct1 (n : Nat) (F : List D → Option (D × D)) (x : D) : Option (List D × En) → Option (D × En)
  | some (ds, e) => if ds.length + 1 = n then match F (x :: ds) with
    | some (r, .lst _) => some (r, e)
    | _ => none
    else none
  | none => none
def ct0 (n : Nat) (F : List D → Option (D × D)) (r : FA) : Option (D × En) → Option (D × En)
  | some (x, e) => ct1 n F x (r e)
  | none => none
def ct2 (e : En) : Option (D × D) → Option (D × En)
  | some (r, .lst _) => some (r, e)
  | _ => none
theorem ct2_some {r : D} : ct2 e (some (r, .lst ys)) = some (r, e) := nr rfl
theorem ct0_some {F : List D → Option (D × D)} : ct0 n F fr (some (x, e)) = ct1 n F x (fr e) := nr rfl
theorem ct1_1 {F : List D → Option (D × D)} : ct1 1 F x (some ([], e)) = ct2 e (F [x]) := nr rfl
theorem ct1_2 {F : List D → Option (D × D)} : ct1 2 F x (some ([d], e)) = ct2 e (F [x, d]) := nr rfl
theorem ct1_3 {F : List D → Option (D × D)} : ct1 3 F x (some ([d, y], e)) = ct2 e (F [x, d, y]) := nr rfl
theorem w_callT {F : List D → Option (D × D)} : fCallT n F a fr e = ct0 n F fr (a e) := by
  unfold fCallT ct0 ct1
  rcases a e with _ | ⟨z1, z2⟩
  · rfl
  · simp only [Option.bind_some]
    rcases fr z2 with _ | ⟨w1, w2⟩
    · rfl
    · simp only [Option.bind_some]
      split
      · rcases F (z1 :: w1) with _ | ⟨v1, v2⟩
        · rfl
        · cases v2 <;> rfl
      · rfl
theorem gFn_1 {F : List D → Option D} : gFn 1 F [x] = F [x] := nr rfl
theorem gFn_2 {F : List D → Option D} : gFn 2 F [x, y] = F [x, y] := nr rfl
theorem gFn_3 {F : List D → Option D} {z : D} : gFn 3 F [x, y, z] = F [x, y, z] := nr rfl
theorem gFn_4 {F : List D → Option D} {z w : D} : gFn 4 F [x, y, z, w] = F [x, y, z, w] := nr rfl
theorem gFn_5 {F : List D → Option D} {z w v : D} : gFn 5 F [x, y, z, w, v] = F [x, y, z, w, v] := nr rfl
theorem gFn_6 {F : List D → Option D} {z w v u : D} : gFn 6 F [x, y, z, w, v, u] = F [x, y, z, w, v, u] := nr rfl
def ck1 (n m : Nat) (ix : List Nat) (F : List D → Option D) : List D → Option D := fun ds => if ds.length = m then gFn n F (ix.filterMap (fun i => ds[i]?)) else none
theorem w_callK {ix : List Nat} {F : List D → Option D} : fCallK n m ix F fa e = u1 (ck1 n m ix F) (fa e) := by
  unfold fCallK u1 ck1
  try simp only [Option.bind_some]
  cases fa e with
  | none => rfl
  | some z =>
    simp only [Option.bind_some]
    split
    · cases gFn n F _ <;> rfl
    · rfl
theorem ck1_1 {F : List D → Option D} : ck1 1 1 [0] F [x] = F [x] := nr rfl
theorem ck1_2 {F : List D → Option D} : ck1 2 2 [1, 0] F [x, y] = F [y, x] := nr rfl
theorem ck1_2' {F : List D → Option D} : ck1 2 2 [0, 1] F [x, y] = F [x, y] := nr rfl
def hItL : D → Option (List D)
  | .lst ds => some ds
  | .scr ds => some ds
  | _ => none
def hItT : D → Option (List D)
  | .tup ds => some ds
  | _ => none
def hItS : D → Option (List D)
  | .str z => some (z.cps.toList.map fun c => D.str ⟨#[c]⟩)
  | _ => none
theorem hItL_l : hItL (.lst ds) = some ds := nr rfl
theorem hItL_s : hItL (.scr ds) = some ds := nr rfl
theorem hItT_t : hItT (.tup ds) = some ds := nr rfl
theorem hItS_s {z : Str} : hItS (.str z) = some (z.cps.toList.map fun c => D.str ⟨#[c]⟩) := nr rfl
theorem w_itL : fItL a e = u1 hItL (a e) := by
  unfold fItL u1
  try simp only [Option.bind_some]
  cases a e with
  | none => rfl
  | some z =>
    obtain ⟨z1, z2⟩ := z
    cases z1 <;> rfl
theorem w_itT : fItT a e = u1 hItT (a e) := by
  unfold fItT u1
  try simp only [Option.bind_some]
  cases a e with
  | none => rfl
  | some z =>
    obtain ⟨z1, z2⟩ := z
    cases z1 <;> rfl
theorem w_itS : fItS a e = u1 hItS (a e) := by
  unfold fItS u1
  try simp only [Option.bind_some]
  cases a e with
  | none => rfl
  | some z =>
    obtain ⟨z1, z2⟩ := z
    cases z1 <;> rfl
def hRng1 : List D → Option (List D) := fun ds => match ds with
  | [.int j] => if -(2 ^ 62) ≤ j ∧ j < 2 ^ 62 then some (rngD 0 j.toNat) else none
  | _ => none
def hRng2 : List D → Option (List D) := fun ds => match ds with
  | [.int i, .int j] => if -(2 ^ 62) ≤ i ∧ i < 2 ^ 62 ∧ -(2 ^ 62) ≤ j ∧ j < 2 ^ 62 then some (rngD i (j - i).toNat) else none
  | _ => none
theorem hRng1_eq {j : Int} (h0 : -4611686018427387904 ≤ j) (h1 : j < 4611686018427387904) : hRng1 [.int j] = some (rngD 0 j.toNat) := by
  unfold hRng1
  exact if_pos ⟨by omega, by omega⟩
theorem hRng1_nat {j : Nat} (h1 : j < 4611686018427387904) : hRng1 [.int (j : Int)] = some (rngD 0 j) := by
  unfold hRng1
  exact if_pos ⟨by omega, by omega⟩
theorem hRng2_eq {i j : Int} (h0 : -4611686018427387904 ≤ i) (h1 : i < 4611686018427387904) (h2 : -4611686018427387904 ≤ j) (h3 : j < 4611686018427387904) : hRng2 [.int i, .int j] = some (rngD i (j - i).toNat) := by
  unfold hRng2
  exact if_pos ⟨by omega, by omega, by omega, by omega⟩
theorem w_rng1 : fRng1 fa e = u1 hRng1 (fa e) := by
  unfold fRng1 u1 hRng1
  rcases fa e with _ | ⟨z1, z2⟩
  · rfl
  · simp only [Option.bind_some]
    rcases z1 with _ | ⟨d, _ | ⟨d2, r⟩⟩ <;> (try rfl) <;> cases d <;> (try rfl)
    all_goals
      simp only
      split <;> rfl
theorem w_rng2 : fRng2 fa e = u1 hRng2 (fa e) := by
  unfold fRng2 u1 hRng2
  rcases fa e with _ | ⟨z1, z2⟩
  · rfl
  · simp only [Option.bind_some]
    rcases z1 with _ | ⟨d, _ | ⟨d2, _ | ⟨d3, r⟩⟩⟩ <;> (try rfl) <;> cases d <;> (try rfl) <;> cases d2 <;> (try rfl)
    all_goals
      simp only
      split <;> rfl
def hEnT : List D → Option (List D)
  | [.tup es] => some (enumD es)
  | _ => none
def hEnL : List D → Option (List D) := fun ds => match ds with
  | [d] => match lstD d with
    | some es => some (enumD es)
    | none => none
  | _ => none
theorem hEnT_t : hEnT [.tup ds] = some (enumD ds) := nr rfl
theorem hEnL_l : hEnL [.lst ds] = some (enumD ds) := nr rfl
theorem w_enT : fItEnT fa e = u1 hEnT (fa e) := by
  unfold fItEnT u1 hEnT
  rcases fa e with _ | ⟨z1, z2⟩
  · rfl
  · simp only [Option.bind_some]
    rcases z1 with _ | ⟨d, _ | ⟨d2, r⟩⟩ <;> (try rfl) <;> cases d <;> rfl
theorem w_enL : fItEnL fa e = u1 hEnL (fa e) := by
  unfold fItEnL u1 hEnL
  rcases fa e with _ | ⟨z1, z2⟩
  · rfl
  · simp only [Option.bind_some]
    rcases z1 with _ | ⟨d, _ | ⟨d2, r⟩⟩ <;> try rfl
    simp only
    cases lstD d <;> rfl
theorem gZip_tt : gZip [.tup xs, .tup ys] = some (zipD xs ys) := nr rfl
theorem gZip_ll : gZip [.lst xs, .lst ys] = some (zipD xs ys) := nr rfl
theorem w_zip : fItZip fa e = u1 gZip (fa e) := by
  unfold fItZip u1
  try simp only [Option.bind_some]
  cases fa e with
  | none => rfl
  | some z =>
    simp only [Option.bind_some]
    try simp only [Option.bind_some]
    cases gZip z.1 <;> rfl
def hZipX (k1 k2 : Bool) : List D → Option (List D) := fun ds => match ds with
  | [d, f] => (sqD k1 d).bind fun xs => (sqD k2 f).map fun ys => zipD xs ys
  | _ => none
theorem hZipX_tl : hZipX true false [.tup xs, .lst ys] = some (zipD xs ys) := nr rfl
theorem hZipX_lt : hZipX false true [.lst xs, .tup ys] = some (zipD xs ys) := nr rfl
theorem w_zipX {k1 k2 : Bool} : fItZipX k1 k2 fa e = u1 (hZipX k1 k2) (fa e) := by
  unfold fItZipX u1 hZipX
  rcases fa e with _ | ⟨z1, z2⟩
  · rfl
  · simp only [Option.bind_some]
    rcases z1 with _ | ⟨d, _ | ⟨d2, _ | ⟨d3, r⟩⟩⟩ <;> try rfl
    simp only
    cases sqD k1 d with
    | none => rfl
    | some xs =>
      simp only [Option.bind_some]
      cases sqD k2 d2 <;> rfl
variable {tg : FG} {tgs : FGs}
theorem w_name : gName i d e = some (e.set i d) := nr rfl
theorem w_gnil : gNil [] e = some e := nr rfl
def gc1 (r : FGs) (ds : List D) : Option En → Option En
  | some e => r ds e
  | none => none
theorem gc1_some : gc1 tgs ds (some e) = tgs ds e := nr rfl
theorem w_gcons : gCons tg tgs (d :: ds) e = gc1 tgs ds (tg d e) := by
  unfold gCons gc1
  simp only
  try simp only [Option.bind_some]
  cases tg d e <;> rfl
theorem w_gtup : gTup tgs (.tup ds) e = tgs ds e := nr rfl
def lc1 (g : FG) (t : FT) (el : FE) (vs : List Nat) : Option (List D × En) → Option (D × En)
  | some (ds, e) => match fLcD g t el vs ds (fScr vs e) [] with
    | some (acc, e2) => some (.lst acc, e2)
    | none => none
  | none => none
def lc2 : Option (List D × En) → Option (D × En)
  | some (acc, e2) => some (.lst acc, e2)
  | none => none
theorem lc2_some : lc2 (some (xs, e)) = some (.lst xs, e) := nr rfl
theorem lc1_some {vs : List Nat} : lc1 tg ft a vs (some (ds, e)) = lc2 (fLcD tg ft a vs ds (fScr vs e) []) := by
  unfold lc1 lc2
  rfl
theorem w_lc {vs : List Nat} : fLc fa tg ft a vs e = lc1 tg ft a vs (fa e) := by
  unfold fLc lc1
  try simp only [Option.bind_some]
  cases fa e with
  | none => rfl
  | some z =>
    simp only [Option.bind_some]
    try simp only [Option.bind_some]
    cases fLcD tg ft a vs z.1 (fScr vs z.2) [] <;> rfl
theorem scr_nil : fScr [] e = e := nr rfl
theorem scr_cons {v : Nat} {vs : List Nat} : fScr (v :: vs) e = (fScr vs e).set v .non := nr rfl
def sq (b : FS) : Out → Out
  | .nx e => b e
  | o => o
theorem sq_nx : sq fb (.nx e) = fb e := nr rfl
theorem sq_rt : sq fb (.rt d e) = .rt d e := nr rfl
theorem sq_bk : sq fb (.bk e) = .bk e := nr rfl
theorem sq_ct : sq fb (.ct e) = .ct e := nr rfl
theorem sq_er : sq fb .er = .er := nr rfl
theorem sq_ite {p : Prop} [Decidable p] {r s : Out} : sq fb (if p then r else s) = if p then sq fb r else sq fb s := by split <;> rfl
theorem w_seq : fSeq fs fb e = sq fb (fs e) := by
  unfold fSeq sq
  rfl
def wk1 (J : List Nat) : Out → Out
  | .nx e => .nx (fScr J e)
  | o => o
theorem wk1_nx {J : List Nat} : wk1 J (.nx e) = .nx (fScr J e) := nr rfl
theorem wk1_rt {J : List Nat} : wk1 J (.rt d e) = .rt d e := nr rfl
theorem wk1_bk {J : List Nat} : wk1 J (.bk e) = .bk e := nr rfl
theorem wk1_ct {J : List Nat} : wk1 J (.ct e) = .ct e := nr rfl
theorem wk1_er {J : List Nat} : wk1 J .er = .er := nr rfl
theorem wk1_ite {J : List Nat} {p : Prop} [Decidable p] {r s : Out} : wk1 J (if p then r else s) = if p then wk1 J r else wk1 J s := by split <;> rfl
theorem w_wk {J : List Nat} : fWk J fs e = wk1 J (fs e) := by
  unfold fWk wk1
  rfl
theorem w_next : fNext e = .nx e := nr rfl
theorem w_nev : fNev e = .er := nr rfl
theorem w_brk {J : List Nat} : fBrk J e = .bk (fScr J e) := nr rfl
theorem w_cnt {J : List Nat} : fCnt J e = .ct (fScr J e) := nr rfl
theorem w_retN : fRetN e = .rt .non e := nr rfl
def rt1 : Option (D × En) → Out
  | some (d, e) => .rt d e
  | none => .er
def dr1 : Option (D × En) → Out
  | some (_, e) => .nx e
  | none => .er
def se1 (i : Nat) : Option (D × En) → Out
  | some (d, e) => .nx (e.set i d)
  | none => .er
theorem rt1_some : rt1 (some (d, e)) = .rt d e := nr rfl
theorem dr1_some : dr1 (some (d, e)) = .nx e := nr rfl
theorem se1_some : se1 i (some (d, e)) = .nx (e.set i d) := nr rfl
theorem rt1_ite {p : Prop} [Decidable p] {r s : Option (D × En)} : rt1 (if p then r else s) = if p then rt1 r else rt1 s := by split <;> rfl
theorem se1_ite {p : Prop} [Decidable p] {r s : Option (D × En)} : se1 i (if p then r else s) = if p then se1 i r else se1 i s := by split <;> rfl
theorem w_ret : fRet a e = rt1 (a e) := by
  unfold fRet fE rt1
  try simp only [Option.bind_some]
  cases a e <;> rfl
theorem w_drop : fDrop a e = dr1 (a e) := by
  unfold fDrop fE dr1
  try simp only [Option.bind_some]
  cases a e <;> rfl
theorem w_set : fSet i a e = se1 i (a e) := by
  unfold fSet fE se1
  try simp only [Option.bind_some]
  cases a e <;> rfl
def if1 (a b : FS) : Option (Bool × En) → Out
  | some (t, e) => if t = true then a e else b e
  | none => .er
theorem if1_some {t : Bool} : if1 fs fb (some (t, e)) = if t = true then fs e else fb e := nr rfl
theorem if1_ite {p : Prop} [Decidable p] {r s : Option (Bool × En)} : if1 fs fb (if p then r else s) = if p then if1 fs fb r else if1 fs fb s := by split <;> rfl
theorem w_ifS : fIfS ft fs fb e = if1 fs fb (ft e) := by
  unfold fIfS if1
  try simp only [Option.bind_some]
  cases ft e <;> rfl
def nx1 : Option En → Out
  | some e => .nx e
  | none => .er
def as1 (g : FG) : Option (D × En) → Out
  | some (d, e) => nx1 (g d e)
  | none => .er
theorem nx1_some : nx1 (some e) = .nx e := nr rfl
theorem as1_some : as1 tg (some (d, e)) = nx1 (tg d e) := nr rfl
theorem w_asg : fAsg a tg e = as1 tg (a e) := by
  unfold fAsg fE as1 nx1
  try simp only [Option.bind_some]
  cases a e with
  | none => rfl
  | some z =>
    simp only
    try simp only [Option.bind_some]
    all_goals (cases tg z.1 z.2 <;> rfl)
theorem w_to : fTo a tg e = as1 tg (a e) := by
  unfold fTo fE as1 nx1
  try simp only [Option.bind_some]
  cases a e with
  | none => rfl
  | some z =>
    simp only
    try simp only [Option.bind_some]
    all_goals (cases tg z.1 z.2 <;> rfl)
def pa2 (i j : Nat) (x : D) : Option (D × En) → Out
  | some (y, e) => .nx ((e.set i x).set j y)
  | none => .er
def pa1 (i j : Nat) (b : FE) : Option (D × En) → Out
  | some (x, e) => pa2 i j x (b e)
  | none => .er
theorem pa1_some : pa1 i j b (some (x, e)) = pa2 i j x (b e) := nr rfl
theorem pa2_some : pa2 i j x (some (y, e)) = .nx ((e.set i x).set j y) := nr rfl
theorem w_par : fPar i j a b e = pa1 i j b (a e) := by
  unfold fPar fE pa1 pa2
  try simp only [Option.bind_some]
  cases a e with
  | none => rfl
  | some z =>
    simp only
    try simp only [Option.bind_some]
    cases b z.2 <;> rfl
def pb3 (i j l : Nat) (x y : D) : Option (D × En) → Out
  | some (w, e) => .nx (((e.set i x).set j y).set l w)
  | none => .er
def pb2 (i j l : Nat) (c : FE) (x : D) : Option (D × En) → Out
  | some (y, e) => pb3 i j l x y (c e)
  | none => .er
def pb1 (i j l : Nat) (b c : FE) : Option (D × En) → Out
  | some (x, e) => pb2 i j l c x (b e)
  | none => .er
theorem pb1_some : pb1 i j l b c (some (x, e)) = pb2 i j l c x (b e) := nr rfl
theorem pb2_some : pb2 i j l c x (some (y, e)) = pb3 i j l x y (c e) := nr rfl
theorem pb3_some {w : D} : pb3 i j l x y (some (w, e)) = .nx (((e.set i x).set j y).set l w) := nr rfl
theorem w_par3 : fPar3 i j l a b c e = pb1 i j l b c (a e) := by
  unfold fPar3 fE pb1 pb2 pb3
  try simp only [Option.bind_some]
  cases a e with
  | none => rfl
  | some z =>
    simp only
    try simp only [Option.bind_some]
    cases b z.2 with
    | none => rfl
    | some w =>
      simp only
      try simp only [Option.bind_some]
      cases c w.2 <;> rfl
def ag1 (i : Nat) (f : Int → Int → Int) (a : FE) (e : En) : Option D → Out
  | some (.int x) => match a e with
    | some (.int y, e1) => .nx (e1.set i (.int (f x y)))
    | _ => .er
  | _ => .er
def ag2 (i : Nat) (f : Int → Int → Int) (x : Int) : Option (D × En) → Out
  | some (.int y, e1) => .nx (e1.set i (.int (f x y)))
  | _ => .er
theorem ag1_some {f : Int → Int → Int} {x : Int} : ag1 i f a e (some (.int x)) = ag2 i f x (a e) := by
  unfold ag1 ag2
  rfl
theorem ag2_some {f : Int → Int → Int} {x y : Int} : ag2 i f x (some (.int y, e)) = .nx (e.set i (.int (f x y))) := nr rfl
theorem w_aug {f : Int → Int → Int} : fAug i f a e = ag1 i f a e e[i]? := by
  unfold fAug fE ag1
  try simp only [Option.bind_some]
  cases e[i]? with
  | none => rfl
  | some z =>
    cases z <;> first | rfl | skip
    simp only
    try simp only [Option.bind_some]
    cases a e with
    | none => rfl
    | some w =>
      obtain ⟨w1, w2⟩ := w
      cases w1 <;> rfl
def ap2 (i : Nat) (d : D) (e : En) : Option D → Out
  | some (.lst xs) => if xs.length < 100000 then .nx (e.set i (.lst (xs ++ [d]))) else .er
  | _ => .er
def ap1 (i : Nat) : Option (D × En) → Out
  | some (d, e) => ap2 i d e e[i]?
  | none => .er
theorem ap1_some : ap1 i (some (d, e)) = ap2 i d e e[i]? := nr rfl
theorem ap2_lst (h : xs.length < 100000) : ap2 i d e (some (.lst xs)) = .nx (e.set i (.lst (xs ++ [d]))) := if_pos h
theorem w_app : fApp i a e = ap1 i (a e) := by
  unfold fApp fE ap1 ap2
  try simp only [Option.bind_some]
  cases a e with
  | none => rfl
  | some z =>
    simp only
    try simp only [Option.bind_some]
    all_goals (cases z.2[i]? with
    | none => rfl
    | some w => cases w <;> rfl)
def et2 (i : Nat) (ys : List D) (e : En) : Option D → Out
  | some (.lst xs) => if xs.length + ys.length < 100000 then .nx (e.set i (.lst (xs ++ ys))) else .er
  | _ => .er
def et1 (i : Nat) : Option (D × En) → Out
  | some (.lst ys, e) => et2 i ys e e[i]?
  | _ => .er
theorem et1_lst : et1 i (some (.lst ys, e)) = et2 i ys e e[i]? := nr rfl
theorem et2_lst (h : xs.length + ys.length < 100000) : et2 i ys e (some (.lst xs)) = .nx (e.set i (.lst (xs ++ ys))) := if_pos h
theorem w_ext : fExt i a e = et1 i (a e) := by
  unfold fExt fE et1 et2
  rcases a e with _ | ⟨z1, z2⟩
  · rfl
  · simp only
    cases z1 <;> simp only <;> generalize z2[i]? = o <;> rcases o with _ | w <;> first | rfl | skip
    all_goals
      cases w <;> rfl
def pt3 (i : Nat) (d : D) (k : Int) (e : En) : Option D → Out
  | some (.lst xs) => match ixN xs.length k with
    | some j => .nx (e.set i (.lst (xs.set j d)))
    | none => .er
  | _ => .er
def pt2 (i : Nat) (d : D) : Option (D × En) → Out
  | some (.int k, e) => pt3 i d k e e[i]?
  | _ => .er
def pt1 (i : Nat) (b : FE) : Option (D × En) → Out
  | some (d, e) => pt2 i d (b e)
  | none => .er
theorem pt1_some : pt1 i b (some (d, e)) = pt2 i d (b e) := nr rfl
theorem pt2_int {k : Int} : pt2 i d (some (.int k, e)) = pt3 i d k e e[i]? := nr rfl
theorem pt3_lst {k : Int} {j : Nat} (h : ixN xs.length k = some j) : pt3 i d k e (some (.lst xs)) = .nx (e.set i (.lst (xs.set j d))) := by
  unfold pt3
  simp only [h]
theorem w_put : fPut i a b e = pt1 i b (a e) := by
  unfold fPut fE pt1 pt2 pt3
  rcases a e with _ | ⟨z1, z2⟩
  · rfl
  · simp only
    rcases b z2 with _ | ⟨w1, w2⟩
    · rfl
    · cases w1 <;> simp only <;> generalize w2[i]? = o <;> rcases o with _ | v <;> first | rfl | skip
      all_goals
        cases v <;> rfl
def fo1 (J : List Nat) (g : FG) (b : FS) : Option (List D × En) → Out
  | some (ds, e) => fForD g b ds (fScr J e)
  | none => .er
theorem fo1_some {J : List Nat} : fo1 J tg fb (some (ds, e)) = fForD tg fb ds (fScr J e) := nr rfl
theorem w_for {J : List Nat} : fFor fa J tg fb e = fo1 J tg fb (fa e) := by
  unfold fFor fo1
  try simp only [Option.bind_some]
  cases fa e <;> rfl
theorem forD_nil : fForD tg fb [] e = .nx e := nr rfl
def rd1 : Out → Option D
  | .rt r _ => some r
  | .nx _ => some .non
  | _ => none
theorem rd1_rt : rd1 (.rt d e) = some d := nr rfl
theorem rd1_nx : rd1 (.nx e) = some .non := nr rfl
theorem rd1_ite {p : Prop} [Decidable p] {r s : Out} : rd1 (if p then r else s) = if p then rd1 r else rd1 s := by split <;> rfl
theorem runR_eq {f : FS} {N : Nat} (h : ds.length = n) (h2 : f (ds ++ List.replicate (N - n) .non) = .rt d e) : runR n N f ds = some d := by
  unfold runR
  rw [if_pos h, h2]
theorem runD_rt {f : FS} {N : Nat} (h : ds.length = n) (h2 : f (ds ++ List.replicate (N - n) .non) = .rt d e) : runD n N f ds = some d := by
  unfold runD
  rw [if_pos h, h2]
theorem runM_nx {f : FS} {N : Nat} (h : ds.length = n) (h2 : f (ds ++ List.replicate (N - n) .non) = .nx e) (h3 : e[0]? = some x) : runM n N f ds = some (.non, x) := by
  unfold runM
  rw [if_pos h, h2]
  simp only [h3, Option.map_some]
theorem runMR_rt {f : FS} {N : Nat} (h : ds.length = n) (h2 : f (ds ++ List.replicate (N - n) .non) = .rt d e) (h3 : e[0]? = some x) : runMR n N f ds = some (d, x) := by
  unfold runMR
  rw [if_pos h, h2]
  simp only [h3, Option.map_some]
end
end DL
namespace DL
open PySem L2
section
variable {α β τ : Type} {tg : FG} {fb : FS} {ft : FT} {a : FE} {vs : List Nat} {d x y : D} {ds xs ys acc : List D} {e e1 e2 : En}
def tn2 : Out → Out
  | .ct e => .nx e
  | o => o
def tn1 (fb : FS) : Option En → Out
  | some e => tn2 (fb e)
  | none => .er
/-- one turn of a for -/
def tn (tg : FG) (fb : FS) (d : D) (e : En) : Out := tn1 fb (tg d e)
theorem w_tn : tn tg fb d e = tn1 fb (tg d e) := nr rfl
theorem tn1_some : tn1 fb (some e) = tn2 (fb e) := nr rfl
theorem tn2_nx : tn2 (.nx e) = .nx e := nr rfl
theorem tn2_ct : tn2 (.ct e) = .nx e := nr rfl
theorem tn2_bk : tn2 (.bk e) = .bk e := nr rfl
theorem tn2_rt : tn2 (.rt d e) = .rt d e := nr rfl
theorem tn2_ite {p : Prop} [Decidable p] {r s : Out} : tn2 (if p then r else s) = if p then tn2 r else tn2 s := by split <;> rfl
theorem tn_cases {o : Out} (h : tn tg fb d e = o) : (∃ e1, tg d e = some e1 ∧ tn2 (fb e1) = o) ∨ (tg d e = none ∧ o = .er) := by
  unfold tn tn1 at h
  cases q : tg d e with
  | none =>
    rw [q] at h
    exact .inr ⟨rfl, h.symm⟩
  | some e1 =>
    rw [q] at h
    exact .inl ⟨e1, rfl, h⟩
theorem forD_nx (h : tn tg fb d e = .nx e2) : fForD tg fb (d :: ds) e = fForD tg fb ds e2 := by
  rw [fForD]
  rcases tn_cases h with ⟨e1, h1, h2⟩ | ⟨_, h2⟩
  · rw [h1]
    simp only
    cases q : fb e1 <;> rw [q] at h2 <;> cases h2 <;> rfl
  · cases h2
/-- a loop with an invariant -/
theorem forD_inv (I : List D → En → Prop) (step : ∀ d ds e, I (d :: ds) e → ∃ e2, tn tg fb d e = .nx e2 ∧ I ds e2) : ∀ (ds : List D) (e : En), I ds e → ∃ e', fForD tg fb ds e = .nx e' ∧ I [] e'
  | [], e, h => ⟨e, rfl, h⟩
  | d :: ds, e, h => by
    obtain ⟨e2, h1, h2⟩ := step d ds e h
    rw [forD_nx h1]
    exact forD_inv I step ds e2 h2
/-- a loop that gathers -/
theorem forD_acc (enc : α → D) (st : List β → En) (f : α → List β) (m B : Nat) : ∀ (zs : List α) (acc : List β), (∀ z ∈ zs, (f z).length ≤ m) → acc.length + m * zs.length ≤ B →
    (∀ acc z, z ∈ zs → acc.length + m ≤ B → tn tg fb (enc z) (st acc) = .nx (st (acc ++ f z))) → fForD tg fb (zs.map enc) (st acc) = .nx (st (acc ++ zs.flatMap f))
  | [], acc, hm, hB, h => by rw [List.map_nil, List.flatMap_nil, List.append_nil]; rfl
  | z :: zs, acc, hm, hB, h => by
    have h1 := hm z List.mem_cons_self
    rw [List.length_cons, Nat.mul_succ] at hB
    rw [List.map_cons, forD_nx (h acc z List.mem_cons_self (by omega)), forD_acc enc st f m B zs _ (fun y hy => hm y (List.mem_cons_of_mem _ hy)) (by rw [List.length_append]; omega) (fun acc y hy => h acc y (List.mem_cons_of_mem _ hy)), List.append_assoc, List.flatMap_cons]
theorem rngD_zero (n : Nat) : rngD 0 n = (List.range n).map fun (i : Nat) => D.int (i : Int) := by
  unfold rngD
  congr 1
  funext i
  rw [Int.zero_add]
/-- one turn of a comprehension: what it gives, if anything -/
def lt3 (vs : List Nat) : Option (D × En) → Option (Option D × En)
  | some (y, e) => some (some y, fScr vs e)
  | none => none
def lt2 (a : FE) (vs : List Nat) : Option (Bool × En) → Option (Option D × En)
  | some (b, e) => if b = true then lt3 vs (a e) else some (none, fScr vs e)
  | none => none
def lt1 (ft : FT) (a : FE) (vs : List Nat) : Option En → Option (Option D × En)
  | some e => lt2 a vs (ft e)
  | none => none
def ltn (tg : FG) (ft : FT) (a : FE) (vs : List Nat) (d : D) (e : En) : Option (Option D × En) := lt1 ft a vs (tg d e)
theorem w_ltn : ltn tg ft a vs d e = lt1 ft a vs (tg d e) := nr rfl
theorem lt1_some : lt1 ft a vs (some e) = lt2 a vs (ft e) := nr rfl
theorem lt2_some {b : Bool} : lt2 a vs (some (b, e)) = if b = true then lt3 vs (a e) else some (none, fScr vs e) := nr rfl
theorem lt2_ite {p : Prop} [Decidable p] {r s : Option (Bool × En)} : lt2 a vs (if p then r else s) = if p then lt2 a vs r else lt2 a vs s := by split <;> rfl
theorem lt3_some : lt3 vs (some (d, e)) = some (some d, fScr vs e) := nr rfl
theorem lt3_ite {p : Prop} [Decidable p] {r s : Option (D × En)} : lt3 vs (if p then r else s) = if p then lt3 vs r else lt3 vs s := by split <;> rfl
def lcGo (tg : FG) (ft : FT) (a : FE) (vs : List Nat) (ds : List D) (e : En) (acc : List D) : Option D → Option (List D × En)
  | some r => if acc.length < 100000 then fLcD tg ft a vs ds e (acc ++ [r]) else none
  | none => fLcD tg ft a vs ds e acc
theorem lcD_cons {o : Option D} (h : ltn tg ft a vs d e = some (o, e2)) : fLcD tg ft a vs (d :: ds) e acc = lcGo tg ft a vs ds e2 acc o := by
  rw [fLcD]
  unfold ltn lt1 at h
  cases h1 : tg d e with
  | none =>
    rw [h1] at h
    cases h
  | some e1 =>
    rw [h1] at h
    simp only [Option.bind_some] at h ⊢
    unfold lt2 at h
    cases h2 : ft e1 with
    | none =>
      rw [h2] at h
      cases h
    | some z =>
      obtain ⟨b, e3⟩ := z
      rw [h2] at h
      simp only [Option.bind_some] at h ⊢
      cases b with
      | false =>
        cases h
        rfl
      | true =>
        simp only [if_true] at h ⊢
        unfold lt3 at h
        cases h3 : a e3 with
        | none =>
          rw [h3] at h
          cases h
        | some w =>
          obtain ⟨w1, w2⟩ := w
          rw [h3] at h
          cases h
          rfl
theorem lcD_nil : fLcD tg ft a vs [] e acc = some (acc, e) := nr rfl
theorem lcD_map (enc dout : α → D) : ∀ (zs : List α) (acc : List D), (∀ z, z ∈ zs → ltn tg ft a vs (enc z) e = some (some (dout z), e)) → acc.length + zs.length ≤ 100000 → fLcD tg ft a vs (zs.map enc) e acc = some (acc ++ zs.map dout, e)
  | [], acc, h, hl => by rw [List.map_nil, List.map_nil, List.append_nil]; rfl
  | z :: zs, acc, h, hl => by
    rw [List.length_cons] at hl
    rw [List.map_cons, lcD_cons (h z List.mem_cons_self)]
    unfold lcGo
    simp only
    rw [if_pos (by omega), lcD_map enc dout zs _ (fun y hy => h y (List.mem_cons_of_mem _ hy)) (by rw [List.length_append, List.length_singleton]; omega), List.append_assoc, List.map_cons]
    rfl
/-- a comprehension that changes the state -/
theorem lcD_inv (I : List D → List D → En → Prop) (hlen : ∀ ds acc e, I ds acc e → acc.length + ds.length ≤ 100000) (step : ∀ d ds acc e, I (d :: ds) acc e → ∃ o e2, ltn tg ft a vs d e = some (o, e2) ∧ I ds (match o with | some r => acc ++ [r] | none => acc) e2) :
    ∀ (ds acc : List D) (e : En), I ds acc e → ∃ acc' e', fLcD tg ft a vs ds e acc = some (acc', e') ∧ I [] acc' e'
  | [], acc, e, h => ⟨acc, e, rfl, h⟩
  | d :: ds, acc, e, h => by
    obtain ⟨o, e2, h1, h2⟩ := step d ds acc e h
    have h3 := hlen _ _ _ h
    rw [List.length_cons] at h3
    rw [lcD_cons h1]
    unfold lcGo
    cases o with
    | none => exact lcD_inv I hlen step ds acc e2 h2
    | some r =>
      simp only
      rw [if_pos (by omega)]
      exact lcD_inv I hlen step ds _ e2 h2
theorem gI_ii {f : Int → Int → Int} {i j : Int} : gI f (.int i) (.int j) = some (.int (f i j)) := nr rfl
theorem gB_ii {f : Int → Int → Bool} {i j : Int} : gB f (.int i) (.int j) = some (.bl (f i j)) := nr rfl
theorem gIC_ii {C : Int → Int → Prop} [∀ i j, Decidable (C i j)] {f : Int → Int → Int} {i j : Int} (h : C i j) : gIC C f (.int i) (.int j) = some (.int (f i j)) := if_pos h
theorem gMul_l {f : Int → Int → Int} {i j : Int} (h0 : 0 ≤ i) (h1 : i < 18446744073709551616) : gIC CMul f (.int i) (.int j) = some (.int (f i j)) := if_pos (cmul_l h0 h1)
theorem gMul_r {f : Int → Int → Int} {i j : Int} (h0 : 0 ≤ j) (h1 : j < 18446744073709551616) : gIC CMul f (.int i) (.int j) = some (.int (f i j)) := if_pos (cmul_r h0 h1)
theorem gMul_n {f : Int → Int → Int} {i j : Int} (h0 : -1000000000 < i) (h1 : i < 1000000000) : gIC CMul f (.int i) (.int j) = some (.int (f i j)) := if_pos (.inl ⟨by omega, by omega⟩)
theorem gDiv_p {f : Int → Int → Int} {i j : Int} (h0 : 0 < j) (h1 : j < 1073741824) : gIC CDiv f (.int i) (.int j) = some (.int (f i j)) := if_pos (cdiv h0 h1)
theorem gDivW_p {f : Int → Int → Int} {i j : Int} (h0 : 0 < j) (h1 : j < 1267650600228229401496703205376) : gIC CDivW f (.int i) (.int j) = some (.int (f i j)) := if_pos (cdivW h0 h1)
theorem gMod_p {f : Int → Int → Int} {i j : Int} (h0 : 0 < j) : gIC (fun _ j => 0 < j) f (.int i) (.int j) = some (.int (f i j)) := if_pos h0
theorem gEq_ii {b : Bool} {i j : Int} : gEq b (.int i) (.int j) = some (.bl (if b then !decide (i = j) else decide (i = j))) := nr rfl
theorem gEq_ss {b : Bool} {i j : Str} : gEq b (.str i) (.str j) = some (.bl (if b then !decide (i = j) else decide (i = j))) := nr rfl
theorem gEq_bb {b : Bool} {i j : Bool} : gEq b (.bl i) (.bl j) = some (.bl (if b then !decide (i = j) else decide (i = j))) := nr rfl
theorem gIsN_non {b : Bool} : gIsN b .non .non = some (.bl (if b then !true else true)) := nr rfl
theorem gIsN_int {b : Bool} {i : Int} : gIsN b (.int i) .non = some (.bl (if b then !false else false)) := nr rfl
theorem gIsN_tup {b : Bool} : gIsN b (.tup xs) .non = some (.bl (if b then !false else false)) := nr rfl
theorem gIsN_lst {b : Bool} : gIsN b (.lst xs) .non = some (.bl (if b then !false else false)) := nr rfl
theorem gIsN_str {b : Bool} {i : Str} : gIsN b (.str i) .non = some (.bl (if b then !false else false)) := nr rfl
theorem gIsN_bl {b : Bool} {i : Bool} : gIsN b (.bl i) .non = some (.bl (if b then !false else false)) := nr rfl
theorem gIx_t {k : Int} : gIx (.tup xs) (.int k) = atI xs k := nr rfl
theorem gIx_l {k : Int} : gIx (.lst xs) (.int k) = atI xs k := nr rfl
theorem gIx_s {k : Int} : gIx (.scr xs) (.int k) = atI xs k := nr rfl
theorem gCatL_ll (h : xs.length + ys.length ≤ 200000) : gCatL (.lst xs) (.lst ys) = some (.lst (xs ++ ys)) := if_pos h
theorem gCatT_tt (h : xs.length + ys.length ≤ 200000) : gCatT (.tup xs) (.tup ys) = some (.tup (xs ++ ys)) := if_pos h
theorem gMulT_ti {k : Int} (h : xs ≠ []) (h1 : xs.length ≤ 1000) (h2 : 0 ≤ k) (h3 : k ≤ 1000) : gMulT (.tup xs) (.int k) = some (.tup (List.replicate k.toNat xs).flatten) := by
  unfold gMulT
  simp only
  rw [if_pos ⟨h, h1, h2, h3⟩]
theorem gIsB_bb {b p q : Bool} : gIsB b (.bl p) (.bl q) = some (.bl (if b then !decide (p = q) else decide (p = q))) := nr rfl
theorem gI1_i {f : Int → Int} {i : Int} : gI1 f [.int i] = some (.int (f i)) := nr rfl
theorem gI2_ii {f : Int → Int → Int} {i j : Int} : gI2 f [.int i, .int j] = some (.int (f i j)) := nr rfl
theorem gInt_i {i : Int} : gInt [.int i] = some (.int i) := nr rfl
theorem gInt_b {b : Bool} : gInt [.bl b] = some (.int (if b then 1 else 0)) := nr rfl
theorem gLen_t : gLen [.tup xs] = some (.int xs.length) := nr rfl
theorem gLen_l : gLen [.lst xs] = some (.int xs.length) := nr rfl
theorem gLen_s : gLen [.scr xs] = some (.int xs.length) := nr rfl
theorem gList_t : gList [.tup xs] = some (.lst xs) := nr rfl
theorem gList_l : gList [.lst xs] = some (.lst xs) := nr rfl
theorem gTupl_t : gTupl [.tup xs] = some (.tup xs) := nr rfl
theorem gTupl_l : gTupl [.lst xs] = some (.tup xs) := nr rfl
theorem gBls_l {f : List Bool → Bool} {bs : List Bool} : gBls f [.lst (bs.map D.bl)] = some (.bl (f bs)) := by
  unfold gBls lstD
  simp only [Option.bind_some, blsD_map, Option.map_some]
theorem gInts_l {g : List Int → Option D} {ns : List Int} : gInts g [.lst (ns.map D.int)] = g ns := by
  unfold gInts lstD
  simp only [Option.bind_some, intsD_map]
theorem gIntsT_t {g : List Int → Option D} {ns : List Int} : gIntsT g [.tup (ns.map D.int)] = g ns := by
  unfold gIntsT
  simp only [intsD_map, Option.bind_some]
theorem nSum_eq {ns : List Int} : nSum ns = some (.int ns.sum) := nr rfl
theorem gRepr_eq (h : shB 40 d = true) (h2 : sizD d ≤ 200000) : gRepr [d] = some (.str (rpD d)) := by
  unfold gRepr
  exact if_pos ⟨h, h2⟩
theorem gSortI_l {ns : List Int} : gSortI [.lst (ns.map D.int)] = some (lstI (intS ns)) := by
  unfold gSortI lstD
  simp only [Option.bind_some, intsD_map, Option.map_some]
theorem gStrI_i {i : Int} (h : -1000000000000000000000000000000000000000000000000000000000000 < i) (h2 : i < 1000000000000000000000000000000000000000000000000000000000000) : gStrI [.int i] = some (.str (sI i)) := by
  unfold gStrI
  exact if_pos ⟨by omega, by omega⟩
theorem hIsi_int_int {i : Int} : hIsi .int (.int i) = some (.bl true) := nr rfl
theorem hIsi_bool_int {i : Int} : hIsi .bool (.int i) = some (.bl false) := nr rfl
theorem hIsi_int_bl {i : Bool} : hIsi .int (.bl i) = some (.bl true) := nr rfl
theorem hIsi_bool_bl {i : Bool} : hIsi .bool (.bl i) = some (.bl true) := nr rfl
theorem hIsi_tup_tup : hIsi .tuple (.tup xs) = some (.bl true) := nr rfl
theorem hIsi_str_str {i : Str} : hIsi .str (.str i) = some (.bl true) := nr rfl
theorem hIsi_lst_lst : hIsi .list (.lst xs) = some (.bl true) := nr rfl
theorem gEqD_eq {neg : Bool} (h1 : eoB x = true) (h2 : eoB y = true) (h3 : SeqAt.shaped (pyD x) = true) (h4 : SeqAt.shaped (pyD y) = true) : gEqD neg x y = some (.bl (if neg then !PyData.eqv (pyD x) (pyD y) else PyData.eqv (pyD x) (pyD y))) := by
  unfold gEqD
  rw [if_pos ⟨h1, h2, h3, h4⟩]
theorem ci_0 : ((0 : Nat) : Int) = 0 := nr rfl
theorem ci_1 : ((1 : Nat) : Int) = 1 := nr rfl
theorem ci_2 : ((2 : Nat) : Int) = 2 := nr rfl
theorem ci_3 : ((3 : Nat) : Int) = 3 := nr rfl
theorem ci_4 : ((4 : Nat) : Int) = 4 := nr rfl
theorem ci_5 : ((5 : Nat) : Int) = 5 := nr rfl
theorem ci_6 : ((6 : Nat) : Int) = 6 := nr rfl
theorem ci_7 : ((7 : Nat) : Int) = 7 := nr rfl
theorem ci_8 : ((8 : Nat) : Int) = 8 := nr rfl
theorem if_tt {γ : Type} {p q : γ} : (if true = true then p else q) = p := if_pos rfl
theorem if_ff {γ : Type} {p q : γ} : (if false = true then p else q) = q := if_neg (by decide)
theorem not_tt : (!true) = false := nr rfl
theorem not_ff : (!false) = true := nr rfl
theorem if_not {γ : Type} {b : Bool} {p q : γ} : (if (!b) = true then p else q) = if b = true then q else p := by cases b <;> rfl
end
end DL
namespace DL
open PySem L2
mutual
def eqTK : TK → TK → Bool
  | .ju, .ju => true
  | .pu, .pu => true
  | .ow, .ow => true
  | .ei, .ei => true
  | .ins c ns ks, .ins c' ns' ks' => decide (c = c') && (decide (ns = ns') && eqTKs ks ks')
  | .dk k, .dk k' => eqTK k k'
  | .dt k, .dt k' => eqTK k k'
  | .ls k, .ls k' => eqTK k k'
  | _, _ => false
def eqTKs : List TK → List TK → Bool
  | [], [] => true
  | k :: ks, k' :: ks' => eqTK k k' && eqTKs ks ks'
  | _, _ => false
end
mutual
theorem eqTK_sound : ∀ (a b : TK), eqTK a b = true → a = b := fun a b h => by
  cases a <;> cases b <;> first | rfl | (unfold eqTK at h; cases h; done) | skip
  · unfold eqTK at h
    rw [Bool.and_eq_true, Bool.and_eq_true, decide_eq_true_eq, decide_eq_true_eq] at h
    obtain ⟨rfl, rfl, h⟩ := h
    rw [eqTKs_sound _ _ h]
  · unfold eqTK at h
    rw [eqTK_sound _ _ h]
  · unfold eqTK at h
    rw [eqTK_sound _ _ h]
  · unfold eqTK at h
    rw [eqTK_sound _ _ h]
theorem eqTKs_sound : ∀ (a b : List TK), eqTKs a b = true → a = b := fun a b h => by
  cases a <;> cases b <;> first | rfl | (unfold eqTKs at h; cases h; done) | skip
  unfold eqTKs at h
  rw [Bool.and_eq_true] at h
  rw [eqTK_sound _ _ h.1, eqTKs_sound _ _ h.2]
end
mutual
theorem eqTK_refl : ∀ (a : TK), eqTK a a = true := fun a => by
  cases a <;> first | (unfold eqTK; rfl) | skip
  · unfold eqTK
    rw [eqTKs_refl, decide_eq_true rfl, decide_eq_true rfl]
    rfl
  · unfold eqTK
    exact eqTK_refl _
  · unfold eqTK
    exact eqTK_refl _
  · unfold eqTK
    exact eqTK_refl _
theorem eqTKs_refl : ∀ (a : List TK), eqTKs a a = true := fun a => by
  cases a
  · unfold eqTKs
    rfl
  · unfold eqTKs
    rw [eqTK_refl, eqTKs_refl]
    rfl
end
instance : DecidableEq TK := fun a b => if h : eqTK a b = true then .isTrue (eqTK_sound a b h) else .isFalse fun q => h (by subst q; exact eqTK_refl a)
section
variable {α β τ γ : Type} {a b c : FE} {fa fr : FA} {e e1 e2 : En} {fs fb : FS} {i j l n m : Nat} {d x y z : D} {ds xs ys : List D} {path : Pth} {tg : FG} {tgs : FGs}
def gt1 (path : Pth) (e : En) : Option D → Option (D × En)
  | some d => pr (subD d path) e
  | none => none
theorem gt1_some : gt1 path e (some d) = pr (subD d path) e := nr rfl
theorem w_get : fGet i path e = gt1 path e e[i]? := by
  unfold fGet gt1 pr
  cases e[i]? with
  | none => rfl
  | some d =>
    simp only [Option.bind_some]
    cases subD d path <;> rfl
def hFld (c f : Str) : D → Option D := fun d => match d with
  | .ins c' ns ds => if c' = c then (ixF ns f).bind fun k => ds[k]? else none
  | _ => none
theorem w_fldD {c f : Str} : fFldD c f a e = u1 (hFld c f) (a e) := by
  unfold fFldD u1 hFld
  rcases a e with _ | ⟨z1, z2⟩
  · rfl
  · simp only [Option.bind_some]
    cases z1 <;> try rfl
    rename_i c' ns ds
    simp only
    split
    · cases ixF ns f with
      | none => rfl
      | some k =>
        try simp only [Option.bind_some]
        cases ds[k]? <;> rfl
    · rfl
def hProp (c : Str) (F : List D → Option D) : D → Option D := fun d => match d with
  | .ins c' ns ds => if c' = c then F [.ins c' ns ds] else none
  | _ => none
theorem hProp_eq {c : Str} {F : List D → Option D} {ns : List Str} : hProp c F (.ins c ns ds) = F [.ins c ns ds] := if_pos rfl
theorem w_propD {c : Str} {F : List D → Option D} : fPropD c F a e = u1 (hProp c F) (a e) := by
  unfold fPropD u1 hProp
  rcases a e with _ | ⟨z1, z2⟩
  · rfl
  · simp only [Option.bind_some]
    cases z1 <;> try rfl
    simp only
    split
    · cases F _ <;> rfl
    · rfl
theorem gLenOwn_eq {c : Str} {F : List D → Option D} {ns : List Str} {k : Int} (h : F [.ins c ns ds] = some (.int k)) (h0 : 0 ≤ k) (h1 : k < 1000000) : gLenOwn c F [.ins c ns ds] = some (.int k) := by
  unfold gLenOwn
  simp only [if_true, h, Option.bind_some]
  rw [if_pos ⟨h0, h1⟩]
def mk2 (e : En) : Option (D × D) → Option (D × En)
  | some (.non, d) => some (d, e)
  | _ => none
def mk1 (n : Nat) (c : Str) (F : List D → Option (D × D)) : Option (List D × En) → Option (D × En)
  | some (ds, e) => if ds.length + 1 = n then mk2 e (F (.ins c [] [] :: ds)) else none
  | none => none
theorem mk2_some : mk2 e (some (.non, d)) = some (d, e) := nr rfl
theorem mk1_0 {c : Str} {F : List D → Option (D × D)} : mk1 1 c F (some ([], e)) = mk2 e (F [.ins c [] []]) := nr rfl
theorem mk1_1 {c : Str} {F : List D → Option (D × D)} : mk1 2 c F (some ([x], e)) = mk2 e (F [.ins c [] [], x]) := nr rfl
theorem mk1_2 {c : Str} {F : List D → Option (D × D)} : mk1 3 c F (some ([x, y], e)) = mk2 e (F [.ins c [] [], x, y]) := nr rfl
theorem mk1_3 {c : Str} {F : List D → Option (D × D)} : mk1 4 c F (some ([x, y, z], e)) = mk2 e (F [.ins c [] [], x, y, z]) := nr rfl
theorem w_make {c : Str} {F : List D → Option (D × D)} : fMake n c F fa e = mk1 n c F (fa e) := by
  unfold fMake mk1 mk2
  rcases fa e with _ | ⟨z1, z2⟩
  · rfl
  · simp only [Option.bind_some]
    split
    · rcases F _ with _ | ⟨v1, v2⟩
      · rfl
      · cases v1 <;> rfl
    · rfl
def gd1 (k f : FE) : Option (D × En) → Option (D × En)
  | some (.dk ks ds, e) => match k e with
    | some (kk, e2) => match f e2 with
      | some (dv, e3) => match keyD kk with
        | some kx => match ixA ks kx with
          | some j => pr ds[j]? e3
          | none => some (dv, e3)
        | none => none
      | none => none
    | none => none
  | _ => none
def gd2 (ks : List Key) (ds : List D) (f : FE) : Option (D × En) → Option (D × En)
  | some (kk, e2) => match f e2 with
      | some (dv, e3) => match keyD kk with
        | some kx => match ixA ks kx with
          | some j => pr ds[j]? e3
          | none => some (dv, e3)
        | none => none
      | none => none
  | none => none
def gd4 (ks : List Key) (ds : List D) (kk : D) : Option (D × En) → Option (D × En)
  | some (dv, e3) => match keyD kk with
        | some kx => match ixA ks kx with
          | some j => pr ds[j]? e3
          | none => some (dv, e3)
        | none => none
  | none => none
def gd5 (ds : List D) (dv : D) (e3 : En) : Option Nat → Option (D × En)
  | some j => pr ds[j]? e3
  | none => some (dv, e3)
theorem gd1_some {ks : List Key} : gd1 b c (some (.dk ks ds, e)) = gd2 ks ds c (b e) := by
  unfold gd1 gd2
  rfl
theorem gd2_some {ks : List Key} : gd2 ks ds c (some (x, e)) = gd4 ks ds x (c e) := by
  unfold gd2 gd4
  rfl
theorem gd4_int {ks : List Key} {k : Int} : gd4 ks ds (.int k) (some (y, e)) = gd5 ds y e (ixA ks (.inl k)) := by
  unfold gd4 gd5 keyD
  rfl
theorem gd5_none : gd5 ds y e none = some (y, e) := nr rfl
theorem gd5_some : gd5 ds y e (some j) = pr ds[j]? e := nr rfl
theorem w_getD : fGetD a b c e = gd1 b c (a e) := by
  unfold fGetD gd1 pr
  rcases a e with _ | ⟨z1, z2⟩
  · rfl
  · simp only [Option.bind_some]
    cases z1 <;> try rfl
    rename_i ks ds
    simp only
    rcases b z2 with _ | ⟨w1, w2⟩
    · rfl
    · simp only [Option.bind_some]
      rcases c w2 with _ | ⟨v1, v2⟩
      · rfl
      · simp only [Option.bind_some]
        cases keyD w1 with
        | none => rfl
        | some kx =>
          simp only [Option.bind_some]
          cases ixA ks kx with
          | none => rfl
          | some j =>
            simp only
            cases ds[j]? <;> rfl
def ik2 (ks : List Key) (ds : List D) : Option (D × En) → Option (D × En)
  | some (kk, e) => match keyD kk with
    | some kx => match ixA ks kx with
      | some j => pr ds[j]? e
      | none => none
    | none => none
  | none => none
def ik1 (k : FE) : Option (D × En) → Option (D × En)
  | some (.dk ks ds, e) => ik2 ks ds (k e)
  | _ => none
def ik3 (ds : List D) (e : En) : Option Nat → Option (D × En)
  | some j => pr ds[j]? e
  | none => none
theorem ik1_dk {ks : List Key} : ik1 b (some (.dk ks ds, e)) = ik2 ks ds (b e) := nr rfl
theorem ik2_int {ks : List Key} {k : Int} : ik2 ks ds (some (.int k, e)) = ik3 ds e (ixA ks (.inl k)) := by
  unfold ik2 ik3 keyD
  rfl
theorem ik3_some : ik3 ds e (some j) = pr ds[j]? e := nr rfl
theorem w_ixK : fIxK a b e = ik1 b (a e) := by
  unfold fIxK ik1 ik2 pr
  rcases a e with _ | ⟨z1, z2⟩
  · rfl
  · simp only [Option.bind_some]
    cases z1 <;> try rfl
    rename_i ks ds
    simp only
    rcases b z2 with _ | ⟨w1, w2⟩
    · rfl
    · simp only [Option.bind_some]
      cases keyD w1 with
      | none => rfl
      | some kx =>
        simp only [Option.bind_some]
        cases ixA ks kx with
        | none => rfl
        | some j =>
          simp only [Option.bind_some]
          cases ds[j]? <;> rfl
def nk2 (neg : Bool) (x : D) : Option (D × En) → Option (D × En)
  | some (.dk ks _, e) => match keyD x with
    | some kx => some (.bl (if neg then !(ixA ks kx).isSome else (ixA ks kx).isSome), e)
    | none => none
  | _ => none
def nk1 (neg : Bool) (o : FE) : Option (D × En) → Option (D × En)
  | some (x, e) => nk2 neg x (o e)
  | none => none
theorem nk1_some {neg : Bool} : nk1 neg b (some (x, e)) = nk2 neg x (b e) := nr rfl
theorem nk2_int {neg : Bool} {ks : List Key} {k : Int} : nk2 neg (.int k) (some (.dk ks ds, e)) = some (.bl (if neg then !(ixA ks (.inl k)).isSome else (ixA ks (.inl k)).isSome), e) := nr rfl
theorem w_inK {neg : Bool} : fInK neg a b e = nk1 neg b (a e) := by
  unfold fInK nk1 nk2
  rcases a e with _ | ⟨z1, z2⟩
  · rfl
  · simp only [Option.bind_some]
    rcases b z2 with _ | ⟨w1, w2⟩
    · rfl
    · simp only [Option.bind_some]
      cases w1 <;> try rfl
      simp only
      cases keyD z1 <;> rfl
def go3 (i : Nat) (path : Pth) (kk dv : D) (e : En) : Option D → Option (D × En)
  | some d => match subD d path with
    | some (.dk ks ds) => match keyD kk with
      | some kx => gd5 ds dv e (ixA ks kx)
      | none => none
    | _ => none
  | none => none
def go2 (i : Nat) (path : Pth) (kk : D) : Option (D × En) → Option (D × En)
  | some (dv, e) => go3 i path kk dv e e[i]?
  | none => none
def go1 (i : Nat) (path : Pth) (f : FE) : Option (D × En) → Option (D × En)
  | some (kk, e) => go2 i path kk (f e)
  | none => none
theorem go1_some : go1 i path b (some (x, e)) = go2 i path x (b e) := nr rfl
theorem go2_some : go2 i path x (some (y, e)) = go3 i path x y e e[i]? := nr rfl
theorem go3_nil {ks : List Key} {k : Int} : go3 i [] (.int k) y e (some (.dk ks ds)) = gd5 ds y e (ixA ks (.inl k)) := by
  unfold go3
  simp only [subD, keyD]
theorem w_getO : fGetO i path a b e = go1 i path b (a e) := by
  unfold fGetO go1 go2 go3 gd5 pr
  rcases a e with _ | ⟨z1, z2⟩
  · rfl
  · simp only [Option.bind_some]
    rcases b z2 with _ | ⟨w1, w2⟩
    · rfl
    · simp only [Option.bind_some]
      generalize w2[i]? = o
      rcases o with _ | d
      · rfl
      · simp only [Option.bind_some]
        generalize subD d path = o
        rcases o with _ | t
        · rfl
        · simp only [Option.bind_some]
          cases t <;> try rfl
          rename_i ks ds
          simp only
          cases keyD z1 with
          | none => rfl
          | some kx =>
            simp only [Option.bind_some]
            cases ixA ks kx with
            | none => rfl
            | some j =>
              simp only
              cases ds[j]? <;> rfl
def pk3 (i : Nat) (path : Pth) (v kk : D) (e : En) : Option D → Out
  | some x => match subD x path with
    | some (.dk ks ds) => match keyD kk with
      | some kx => if ks.length < 100000 then .nx (e.set i (putD x path (putKey ks ds kx v))) else .er
      | none => .er
    | _ => .er
  | none => .er
def pk2 (i : Nat) (path : Pth) (v : D) : Option (D × En) → Out
  | some (kk, e) => pk3 i path v kk e e[i]?
  | none => .er
def pk1 (i : Nat) (path : Pth) (k : FE) : Option (D × En) → Out
  | some (v, e) => pk2 i path v (k e)
  | none => .er
theorem pk1_some : pk1 i path b (some (x, e)) = pk2 i path x (b e) := nr rfl
theorem pk2_some : pk2 i path x (some (y, e)) = pk3 i path x y e e[i]? := nr rfl
theorem pk3_nil {ks : List Key} {k : Int} (h : ks.length < 100000) : pk3 i [] x (.int k) e (some (.dk ks ds)) = .nx (e.set i (putKey ks ds (.inl k) x)) := by
  unfold pk3
  simp only [subD, keyD, putD]
  rw [if_pos h]
theorem w_putO : fPutO i path a b e = pk1 i path b (a e) := by
  unfold fPutO fE pk1 pk2 pk3
  rcases a e with _ | ⟨z1, z2⟩
  · rfl
  · simp only
    rcases b z2 with _ | ⟨w1, w2⟩
    · rfl
    · simp only
      generalize w2[i]? = o
      rcases o with _ | d
      · rfl
      · simp only [Option.bind_some]
        generalize subD d path = o
        rcases o with _ | t
        · rfl
        · cases t <;> try rfl
          simp only
          cases keyD w1 <;> rfl
def fl2 (i : Nat) (path : Pth) (f : Str) (v : D) (e : En) (d : D) : Option D → Option En
  | some (.ins c ns ds) => some (e.set i (putD d path (fldD (.ins c ns ds) f v)))
  | _ => none
def fl1 (i : Nat) (path : Pth) (f : Str) (v : D) (e : En) : Option D → Option En
  | some d => fl2 i path f v e d (subD d path)
  | none => none
theorem fl1_some {f : Str} : fl1 i path f x e (some d) = fl2 i path f x e d (subD d path) := nr rfl
theorem fl2_ins {f c : Str} {ns : List Str} : fl2 i path f x e d (some (.ins c ns ds)) = some (e.set i (putD d path (fldD (.ins c ns ds) f x))) := nr rfl
theorem w_fld {f : Str} : gFldF i path f x e = fl1 i path f x e e[i]? := by
  unfold gFldF fl1 fl2
  cases e[i]? with
  | none => rfl
  | some d =>
    simp only [Option.bind_some]
    cases subD d path with
    | none => rfl
    | some t => cases t <;> rfl
theorem subD_nil : subD d [] = some d := by unfold subD; rfl
theorem putD_nil : putD d [] x = x := by unfold putD; rfl
def pg1 (n : Nat) (g : FGs) : Option (List D × En) → Out
  | some (xs, e) => if xs.length = n then nx1 (g xs e) else .er
  | none => .er
theorem pg1_2 : pg1 2 tgs (some ([x, y], e)) = nx1 (tgs [x, y] e) := nr rfl
theorem pg1_3 : pg1 3 tgs (some ([x, y, z], e)) = nx1 (tgs [x, y, z] e) := nr rfl
theorem pg1_4 {w : D} : pg1 4 tgs (some ([x, y, z, w], e)) = nx1 (tgs [x, y, z, w] e) := nr rfl
theorem w_parG : fParG n fa tgs e = pg1 n tgs (fa e) := by
  unfold fParG pg1 nx1
  rcases fa e with _ | ⟨z1, z2⟩
  · rfl
  · simp only
    all_goals
      split
      · cases tgs z1 z2 <;> rfl
      · rfl
theorem w_sdApp_in {ks : List Key} {xsv : List D} {kx : Key} {v : D} (h1 : a e = some (x, e1)) (h2 : e1[i]? = some d) (h3 : subD d path = some (.dk ks ds)) (h4 : keyD x = some kx) (h5 : ks.length < 100000) (h6 : ks.length = ds.length) (h7 : ixA ks kx = some j) (h8 : b e1 = some (v, e2)) (h9 : ds[j]? = some (.lst xsv)) (h10 : xsv.length < 100000) :
    fSdApp i path a b e = .nx (e2.set i (putD d path (.dk ks (ds.set j (.lst (xsv ++ [v])))))) := by
  unfold fSdApp fE
  simp only [h1, h2, Option.bind_some, h3, h4, h7]
  rw [if_pos ⟨h5, h6⟩]
  simp only [h8, h7, h9]
  rw [if_pos h10]
theorem w_sdApp_new {ks : List Key} {kx : Key} {v : D} (h1 : a e = some (x, e1)) (h2 : e1[i]? = some d) (h3 : subD d path = some (.dk ks ds)) (h4 : keyD x = some kx) (h5 : ks.length < 100000) (h6 : ks.length = ds.length) (h7 : ixA ks kx = none) (h8 : b (e1.set i (putD d path (.dk (ks ++ [kx]) (ds ++ [.lst []])))) = some (v, e2)) :
    fSdApp i path a b e = .nx (e2.set i (putD d path (.dk (ks ++ [kx]) (ds ++ [.lst [v]])))) := by
  unfold fSdApp fE
  simp only [h1, h2, Option.bind_some, h3, h4, h7]
  rw [if_pos ⟨h5, h6⟩]
  have e9 : (ds ++ [D.lst []])[ds.length]? = some (.lst []) := by rw [List.getElem?_append_right (Nat.le_refl _), Nat.sub_self]; rfl
  have e10 : ixA (ks ++ [kx]) kx = some ds.length := by rw [ixA_snoc h7, h6]
  simp only [h8, e10, e9]
  rw [if_pos (by simp)]
  obtain ⟨g1, g2⟩ := subD_put path d _ (.dk (ks ++ [kx]) (ds ++ [.lst []])) h3
  rw [g2, set_snoc]
  rfl
def gSortTI : List D → Option D
  | [.tup es] => (intsD es).map fun ns => lstI (intS ns)
  | _ => none
theorem gSortTI_t {ns : List Int} : gSortTI [.tup (ns.map D.int)] = some (lstI (intS ns)) := by
  unfold gSortTI
  simp only [intsD_map, Option.map_some]
def fItEnZip (k1 k2 : Bool) (a : FA) : FA := fun e => (a e).bind fun x => match x.1 with
  | [d, f] => (sqD k1 d).bind fun xs => (sqD k2 f).map fun ys => (enumD (zipD xs ys), x.2)
  | _ => none
def hEnZip (k1 k2 : Bool) : List D → Option (List D) := fun ds => match ds with
  | [d, f] => (sqD k1 d).bind fun xs => (sqD k2 f).map fun ys => enumD (zipD xs ys)
  | _ => none
theorem hEnZip_tl : hEnZip true false [.tup xs, .lst ys] = some (enumD (zipD xs ys)) := nr rfl
theorem hEnZip_lt : hEnZip false true [.lst xs, .tup ys] = some (enumD (zipD xs ys)) := nr rfl
theorem hEnZip_tt : hEnZip true true [.tup xs, .tup ys] = some (enumD (zipD xs ys)) := nr rfl
theorem hEnZip_ll : hEnZip false false [.lst xs, .lst ys] = some (enumD (zipD xs ys)) := nr rfl
theorem w_enZip {k1 k2 : Bool} : fItEnZip k1 k2 fa e = u1 (hEnZip k1 k2) (fa e) := by
  unfold fItEnZip u1 hEnZip
  rcases fa e with _ | ⟨z1, z2⟩
  · rfl
  · simp only [Option.bind_some]
    rcases z1 with _ | ⟨d, _ | ⟨d2, _ | ⟨d3, r⟩⟩⟩ <;> try rfl
    simp only
    cases sqD k1 d with
    | none => rfl
    | some xs =>
      try simp only [Option.bind_some]
      cases sqD k2 d2 <;> rfl
end
end DL
namespace DL
open PySem L2
section
variable {z : Bool} {K K1 K2 K3 Kb Kc : List TK} {k kr k0 ka kb kc : TK} {T1 T2 T3 : List Nat} {a b c : AE} {fa fb fc : FE} {aa : AA} {faa : FA} {e e1 e2 : En} {x y : D} {ds : List D} {i j : Nat} {path : Pth}
end
end DL
namespace DL
open PySem L2
section
variable {X : Cx} {Ki Kp Kb : List TK} {ai : AI} {ap ab : AE} {fi : FA} {fp fb : FE} {j1 i j3 N : Nat} {Tp Tb : List Nat}
end
end DL
namespace DL
open PySem L2
section
variable {K K1 : List TK} {a : AE} {fa : FE} {ka : TK} {T1 : List Nat} {e : En}
end
end DL
namespace DL
open PySem L2
section
variable {z : Bool} {K Kb Kc : List TK} {k kr k0 ka : TK} {a : AE} {fa : FE} {T1 : List Nat}
end
end DL
namespace DL
open PySem L2
section
variable {z : Bool} {K K1 Kb Kc : List TK} {k kr k0 ka kb : TK} {a ab : AE} {fa fb : FE} {T1 : List Nat}
end
section
variable {K Kn Kb Kc : List TK} {kr k0 k1 : TK} {A : AS} {f : FS} {n N : Nat}
end
section
variable {a b c : FE} {fa fr : FA} {e e1 e2 : En} {i j n m : Nat} {d x y v t r : D} {ds xs ys : List D} {path : Pth} {f : Str}
def up4 (i : Nat) (path : Pth) (f : Str) (g : Int → Int → Int) (x : Int) : Option (D × En) → Out
  | some (.int y, e1) => nx1 (gFldF i path f (.int (g x y)) e1)
  | _ => .er
def up3 (i : Nat) (path : Pth) (f : Str) (g : Int → Int → Int) (a : FE) (e : En) : Option D → Out
  | some (.int x) => up4 i path f g x (a e)
  | _ => .er
def up2 (i : Nat) (path : Pth) (f : Str) (g : Int → Int → Int) (a : FE) (e : En) : Option D → Out
  | some (.ins _ ns ds) => up3 i path f g a e ((ixF ns f).bind fun j => ds[j]?)
  | _ => .er
end
end DL
namespace DL
open PySem L2
section
variable {K K1 Kl Kg Ke K5 Kb Kc : List TK} {kr k0 ke kn : TK} {T1 T2 T3 L vs : List Nat} {ak : AA} {fak : FA} {g : AG} {tg : FG} {a an : AE} {fa fan : FE} {i h f : Nat}
end
end DL
namespace DL
open PySem L2
section
variable {z : Bool} {K K1 Kl Kg Kt Ke Kb Kc : List TK} {k kr k0 ka ke : TK} {a : AE} {fa : FE} {t : AT} {ft : FT} {T T1 T2 : List Nat}
end
end DL
namespace DL
open PySem L2
end DL
namespace DL
open PySem L2
end DL
namespace DL
open PySem L2
section
variable {z : Bool} {K K1 K2 Kb Kc : List TK} {k kr k0 ka kb : TK} {a ab : AE} {fa fb : FE} {T1 T2 : List Nat} {i : Nat} {path : Pth}
end
end DL
namespace DL
open PySem L2
section
variable {K K1 : List TK} {aa : AA} {faa : FA} {T1 : List Nat}
def pm1 (m : Nat) (ix : List Nat) : Option (List D × En) → Option (List D × En)
  | some (ds, e) => if ds.length = m then some (pickL ix ds, e) else none
  | none => none
def fPerm (m : Nat) (ix : List Nat) (a : FA) : FA := fun e => pm1 m ix (a e)
theorem sa_perm {m : Nat} {ix : List Nat} (ha : SA K aa faa K1 T1) : SA K (aPerm m ix aa) (fPerm m ix faa) K1 T1 := fun s e x e' mm h P hP => by
  unfold fPerm at h
  cases h1 : faa e with
  | none =>
    rw [h1] at h
    cases h
  | some y =>
    obtain ⟨ds, e1⟩ := y
    rw [h1] at h
    unfold pm1 at h
    simp only at h
    by_cases hl : ds.length = m
    · rw [if_pos hl] at h
      cases h
      exact ha s e ds e' mm h1 _ fun s' m' u => ⟨hl, hP s' m' u⟩
    · rw [if_neg hl] at h
      cases h
variable {m : Nat} {ix : List Nat} {a : FA} {e : En} {x y z w : D}
theorem w_perm : fPerm m ix a e = pm1 m ix (a e) := nr rfl
theorem pm1_1 : pm1 1 [0] (some ([x], e)) = some ([x], e) := nr rfl
end
end DL
namespace DL
open PySem L2
section
variable {i : Nat} {path : Pth} {e : En}
end
end DL
namespace DL
open PySem L2
end DL
namespace DL
open PySem L2
section
variable {K K1 Kb Kc : List TK} {aa : AA} {faa fa : FA} {T1 : List Nat} {b : AE} {fb : FE} {kb k0 : TK} {e e1 : En} {z : Bool} {kr : TK}
end
end DL
namespace DL
open PySem L2
section
variable {K K1 : List TK} {a : AE} {fa : FE} {ka : TK} {T1 : List Nat} {e : En}
def fIsC (c : Str) (a : FE) : FE := fun e => (a e).bind fun x => (isCD c x.1).map fun b => (.bl b, x.2)
theorem se_isC {c : Str} (ha : SE K a fa ka K1 T1) : SE K (aIsC c a) (fIsC c fa) .pu K1 T1 := fun s e x e' m h P hP => by
  obtain ⟨⟨d1, e1⟩, h1, h⟩ := ex_bind h
  obtain ⟨b, h2, h3⟩ := ex_map h
  cases h3
  refine ha s e _ e1 m h1 _ fun l1 s1 k1 q1 m1 u1 => ?_
  rw [q1]
  simp only at h2
  rw [h2]
  exact hP _ _ (has_pu _) (by rw [Sl.d]) m1 u1
def hIsC (c : Str) : D → Option D := fun d => (isCD c d).map D.bl
theorem w_isC {c : Str} {a : FE} : fIsC c a e = u1 (hIsC c) (a e) := by
  unfold fIsC u1 hIsC
  cases a e with
  | none => rfl
  | some z =>
    simp only [Option.bind_some]
    cases isCD c z.1 <;> rfl
def gEqOwn (c : Str) (F : List D → Option D) : D → D → Option D := fun d e => match d with
  | .ins c' ns ds => if c' = c ∧ (isCD c e).isSome = true then (F [.ins c' ns ds, e]).bind fun r => match r with
    | .bl b => some (.bl b)
    | _ => none
    else none
  | _ => none
theorem v_eqOwn {c : Str} {F : List D → Option D} : V2 (aEqOwn c (lowD .pu F)) (gEqOwn c F) .pu := fun d e x h P hP => by
  unfold gEqOwn at h
  unfold aEqOwn
  split at h
  · split at h
    · rename_i hc
      obtain ⟨r, h1, h2⟩ := ex_bind h
      cases r <;> first | (cases h2; done) | skip
      rename_i b
      cases h2
      refine ⟨hc.1, hc.2, _, h1, fun l hk hd => ?_⟩
      have e : l = .pu (.bl b) := by rw [of_pu hk, hd]
      exact ⟨b, e, by rw [e]; exact puP hP⟩
    · cases h
  · cases h
def gNeOwn (c : Str) (F : List D → Option D) : D → D → Option D := fun d e => match d, e with
  | .ins c' ns ds, .ins c2 ns2 ds2 => if c' = c ∧ c2 = c then (F [.ins c' ns ds, .ins c2 ns2 ds2]).bind fun r => match r with
    | .bl b => some (.bl (!b))
    | _ => none
    else none
  | _, _ => none
theorem v_neOwn {c : Str} {F : List D → Option D} : V2 (aNeOwn c (lowD .pu F)) (gNeOwn c F) .pu := fun d e x h P hP => by
  unfold gNeOwn at h
  unfold aNeOwn
  split at h
  · split at h
    · rename_i hc
      obtain ⟨r, h1, h2⟩ := ex_bind h
      cases r <;> first | (cases h2; done) | skip
      rename_i b
      cases h2
      refine ⟨hc.1, hc.2, _, h1, fun l hk hd => ?_⟩
      have e : l = .pu (.bl b) := by rw [of_pu hk, hd]
      exact ⟨b, e, puP hP⟩
    · cases h
  · cases h
end
end DL
open PySem L2 DL TL
local macro_rules
  | `(tactic| walk_at $s:str) => do
    let hs := ((s.getString.splitOn " ").filter fun x => x != "")
    let us := hs.filter fun x => x.front != '@'
    let ls ← us.toArray.mapM fun h => `(Lean.Parser.Tactic.simpLemma| $(Lean.mkIdent h.toName):term)
    `(tactic| simp (config := { maxSteps := 1000000 }) (disch := first | assumption | omega | (simp only [List.length_map, List.length_append, List.length_cons, List.length_nil, List.length_replicate]; omega)) only [u1_some, pr_some, pr_ite, w_var, w_c, mv1_some, w_mov, op1_some, op2_some, op1_ite, op2_ite, w_op, hNeg_int, hNot_bl, w_neg, w_notV, an1_bl, or1_bl, w_andV, w_orV, an1_ite, or1_ite, ch1_some, ch2_some, ch3_bl, w_chain, hTest_bl, w_test, u1_ite, ta1_some, to1_some, ta1_ite, to1_ite, w_tand, w_tor, hNotB_eq, w_not, w_yes, if0_some, if0_ite, w_if, w_isi, w_nil, co1_some, co2_some, co1_ite, co2_ite, w_cons, sr2_some, sr1_t, sr1_l, w_star, hTup_nil, hTup_1, hTup_2, hTup_3, hTup_4, hTup_5, hLst_nil, hLst_1, hLst_2, hLst_3, hLst_4, hLst_5, hLst_6, hTup_eq, hLst_eq, w_tup, w_lst, w_call, w_noP, hPart_int, w_part, sl1_some, sl2_some, sl3_some, hSlL_l, hSlL_s, hSlT_t, w_slL, w_slT, hRevL_l, w_revL, m11_str, m12_some, w_m1, io1_int, io2_lst, w_ixO, bo1_some, bo2_int, bo2_bl, w_bor, ib1_some, w_inB, w_popAt, w_lr1, w_lr2, hLr1_eq, hLsT_eq, hLsL_eq, w_lsT, w_lsL, cm2_some, w_callM, ct2_some, ct0_some, w_callT, gFn_1, gFn_2, gFn_3, gFn_4, gFn_5, gFn_6, w_callK, ck1_1, ck1_2, ck1_2', hItL_l, hItL_s, hItT_t, hItS_s, w_itL, w_itT, w_itS, hRng1_nat, hRng1_eq, hRng2_eq, w_rng1, w_rng2, hEnT_t, hEnL_l, w_enT, w_enL, gZip_tt, gZip_ll, w_zip, hZipX_tl, hZipX_lt, w_zipX, w_name, w_gnil, gc1_some, w_gcons, w_gtup, lc2_some, lc1_some, w_lc, scr_nil, scr_cons, sq_nx, sq_rt, sq_bk, sq_ct, sq_er, sq_ite, w_seq, wk1_nx, wk1_rt, wk1_bk, wk1_ct, wk1_er, wk1_ite, w_wk, w_next, w_nev, w_brk, w_cnt, w_retN, rt1_some, dr1_some, se1_some, rt1_ite, se1_ite, w_ret, w_drop, w_set, if1_some, if1_ite, w_ifS, nx1_some, as1_some, w_asg, w_to, pa1_some, pa2_some, w_par, pb1_some, pb2_some, pb3_some, w_par3, ag1_some, ag2_some, w_aug, ap1_some, ap2_lst, w_app, et1_lst, et2_lst, w_ext, pt1_some, pt2_int, w_put, fo1_some, w_for, forD_nil, rd1_rt, rd1_nx, rd1_ite, w_tn, tn1_some, tn2_nx, tn2_ct, tn2_bk, tn2_rt, tn2_ite, w_ltn, lt1_some, lt2_some, lt2_ite, lt3_some, lt3_ite, lcD_nil, gI_ii, gB_ii, gMul_l, gMul_r, gMul_n, gDiv_p, gDivW_p, gMod_p, gEq_ii, gEq_ss, gEq_bb, gIsN_non, gIsN_int, gIsN_tup, gIsN_lst, gIsN_str, gIsN_bl, gIx_t, gIx_l, gIx_s, gCatL_ll, gCatT_tt, gMulT_ti, gIsB_bb, gI1_i, gI2_ii, gInt_i, gInt_b, gLen_t, gLen_l, gLen_s, gList_t, gList_l, gTupl_t, gTupl_l, gBls_l, gInts_l, gIntsT_t, nSum_eq, gSortI_l, gSortTI_t, gStrI_i, hIsi_int_int, hIsi_bool_int, hIsi_int_bl, hIsi_bool_bl, hIsi_tup_tup, hIsi_str_str, hIsi_lst_lst,
      w_enZip, hEnZip_tl, hEnZip_lt, hEnZip_tt, hEnZip_ll, gt1_some, w_get, w_fldD, w_propD, hProp_eq, mk2_some, mk1_0, mk1_1, mk1_2, mk1_3, w_make, gd1_some, gd2_some, gd4_int, gd5_none, gd5_some, w_getD, ik1_dk, ik2_int, ik3_some, w_ixK, nk1_some, nk2_int, w_inK, go1_some, go2_some, go3_nil, w_getO, pk1_some, pk2_some, pk3_nil, w_putO, fl1_some, fl2_ins, w_fld, subD_nil, putD_nil, pg1_2, pg1_3, pg1_4, w_parG, cm1_some, cm3_1, cm3_2, cm3_3, cm3_4, cm3_5, ct1_1, ct1_2, ct1_3, ge_0, ge_s, sz_0, sz_s, ap_c, ap_n, List.append_nil, List.replicate, Nat.reduceSub, Nat.reduceAdd, Nat.zero_add, at2_0, at2_1, at3_0, at3_1, at3_2, List.length_cons, List.length_nil, List.length_map, List.length_replicate, if_tt, if_ff, if_not, not_tt, not_ff, dec_t, if_true, if_false, ite_true, ite_false, reduceIte, Bool.false_eq_true, true_and, and_true, Bool.not_true, Bool.not_false, ci_0, ci_1, ci_2, ci_3, ci_4, ci_5, ci_6, ci_7, ci_8, eq_self, Int.reduceLT, Int.reduceLE, Int.reduceEq, Int.toNat_natCast, decide_true, decide_false, not_true_eq_false, not_false_eq_true, $ls,*])
namespace FB
open PySem L2 DL
abbrev A_is_integer : AS := (aRet (aAndV (aIsi .int (aVar 0)) (aNotV (aIsi .bool (aVar 0)))))
abbrev B_is_integer : FS := (fRet (fAndV (fIsi .int (fVar 0)) (fNotV (fIsi .bool (fVar 0)))))
theorem ss_is_integer : SS false (K0D 1 1) A_is_integer B_is_integer [] [] [] .pu .ju :=
  (ss_ret (se_andV (se_isi (se_var rfl)) (se_notV (se_isi (se_var rfl)))) rfl (.inl rfl))
def F_is_integer : List D → Option D := runD 1 1 B_is_integer
abbrev S_is_integer : ARC := lowD .pu F_is_integer
theorem law_is_integer : ∀ ds Q, ds.length = 1 → S_is_integer ds Q → A_is_integer (endsD Q) (startS 1 (ds.map .pu)) := lawD ss_is_integer rfl
abbrev A_is_within : AS := (aRet (aAndV (aCall (aFn 1 S_is_integer) (aCons (aVar 0) aNil)) (aChain aLe aLe (aVar 1) (aVar 0) (aVar 2))))
abbrev B_is_within : FS := (fRet (fAndV (fCall (gFn 1 F_is_integer) (fCons (fVar 0) fNil)) (fChain gLe gLe (fVar 1) (fVar 0) (fVar 2))))
theorem ss_is_within : SS false (K0D 3 3) A_is_within B_is_within [] [] [] .pu .ju :=
  (ss_ret (se_andV (se_call vc_fn (sa_cons (se_var rfl) sa_nil)) (se_chain v_b v_b (se_var rfl) (se_var rfl) (se_var rfl))) rfl (.inl rfl))
def F_is_within : List D → Option D := runD 3 3 B_is_within
abbrev S_is_within : ARC := lowD .pu F_is_within
theorem law_is_within : ∀ ds Q, ds.length = 3 → S_is_within ds Q → A_is_within (endsD Q) (startS 3 (ds.map .pu)) := lawD ss_is_within rfl
abbrev A__law_pot (c0 c1 c2 c3 c4 : Int) : AS := (aSeq (aSet 2 (aIf (aTest (aOp aLt (aVar 1) (aCall aLen (aCons (aVar 0) aNil)))) (aOp aIx (aVar 0) (aVar 1)) (aAdd (aAdd (aMod (aCall (aInts fSum) (aCons (aSlL (aVar 0) aNoP (aPart (aC (.int 1)))) aNil)) (aC (.int 1000003))) (aMul (aC (.int c0)) (aVar 1))) (aC (.int c1)))))
  (aSeq (aSet 3 (aMul (aMod (aCall aInt (aCons (aCall (aI1 absI) (aCons (aVar 2) aNil)) aNil)) (aPowW (aPow (aC (.int 10)) (aC (.int 60))) (aC (.int 5)))) (aCall aInt (aCons (aOp aGe (aCall (aI1 absI) (aCons (aVar 2) aNil)) (aPow (aC (.int 10)) (aC (.int 18)))) aNil))))
  (aSeq (aSet 4 (aMod (aCall aInt (aCons (aVar 2) aNil)) (aC (.int 2305843009213693951))))
  (aRet (aLst (aCons (aVar 3) (aCons (aMod (aCall aInt (aCons (aAdd (aAdd (aMul (aVar 4) (aC (.int c2))) (aMul (aMul (aC (.int c3)) (aVar 1)) (aVar 1))) (aC (.int c4))) aNil)) (aC (.int 2305843009213693921))) (aCons (aC (.int 0)) aNil))))))))
abbrev B__law_pot (c0 c1 c2 c3 c4 : Int) : FS := (fSeq (fSet 2 (fIf (fTest (fOp gLt (fVar 1) (fCall gLen (fCons (fVar 0) fNil)))) (fOp gIx (fVar 0) (fVar 1)) (fOp gAdd (fOp gAdd (fOp gMod (fCall (gInts nSum) (fCons (fSlL (fVar 0) fNoP (fPart (fC (.int 1)))) fNil)) (fC (.int 1000003))) (fOp gMul (fC (.int c0)) (fVar 1))) (fC (.int c1)))))
  (fSeq (fSet 3 (fOp gMul (fOp gMod (fCall gInt (fCons (fCall (gI1 absI) (fCons (fVar 2) fNil)) fNil)) (fOp gPowW (fOp gPow (fC (.int 10)) (fC (.int 60))) (fC (.int 5)))) (fCall gInt (fCons (fOp gGe (fCall (gI1 absI) (fCons (fVar 2) fNil)) (fOp gPow (fC (.int 10)) (fC (.int 18)))) fNil))))
  (fSeq (fSet 4 (fOp gMod (fCall gInt (fCons (fVar 2) fNil)) (fC (.int 2305843009213693951))))
  (fRet (fLst (fCons (fVar 3) (fCons (fOp gMod (fCall gInt (fCons (fOp gAdd (fOp gAdd (fOp gMul (fVar 4) (fC (.int c2))) (fOp gMul (fOp gMul (fC (.int c3)) (fVar 1)) (fVar 1))) (fC (.int c4))) fNil)) (fC (.int 2305843009213693921))) (fCons (fC (.int 0)) fNil))))))))
theorem ss__law_pot (c0 c1 c2 c3 c4 : Int) : SS false (K0D 2 5) (A__law_pot c0 c1 c2 c3 c4) (B__law_pot c0 c1 c2 c3 c4) [] [] [] .ow .ju :=
  (ss_seq (ss_set (se_if (st_test (se_op v_b (se_var rfl) (se_call vc_len (sa_cons (se_var rfl) sa_nil)))) (se_op v_ix (se_var rfl) (se_var rfl)) (se_op v_i (se_op v_i (se_op v_ic (se_call (vc_ints vn_sum) (sa_cons (se_slL (se_var rfl) so_no (so_part se_c)) sa_nil)) se_c) (se_op v_ic se_c (se_var rfl))) se_c)) (by simp) (.inr rfl))
  (ss_seq (ss_set (se_op v_ic (se_op v_ic (se_call vc_int (sa_cons (se_call vc_i1 (sa_cons (se_var rfl) sa_nil)) sa_nil)) (se_op v_ic (se_op v_ic se_c se_c) se_c)) (se_call vc_int (sa_cons (se_op v_b (se_call vc_i1 (sa_cons (se_var rfl) sa_nil)) (se_op v_ic se_c se_c)) sa_nil))) (by simp) (.inr rfl))
  (ss_seq (ss_set (se_op v_ic (se_call vc_int (sa_cons (se_var rfl) sa_nil)) se_c) (by simp) (.inr rfl))
  (ss_ret (se_lst (sa_cons (se_var rfl) (sa_cons (se_op v_ic (se_call vc_int (sa_cons (se_op v_i (se_op v_i (se_op v_ic (se_var rfl) se_c) (se_op v_ic (se_op v_ic se_c (se_var rfl)) (se_var rfl))) se_c) sa_nil)) se_c) (sa_cons se_c sa_nil)))) rfl (.inl rfl)))))
def F__law_pot (c0 c1 c2 c3 c4 : Int) : List D → Option D := runR 2 5 (B__law_pot c0 c1 c2 c3 c4)
abbrev S__law_pot (c0 c1 c2 c3 c4 : Int) : ARC := lowD .ow (F__law_pot c0 c1 c2 c3 c4)
theorem law__law_pot (c0 c1 c2 c3 c4 : Int) : ∀ ds Q, ds.length = 2 → (S__law_pot c0 c1 c2 c3 c4) ds Q → (A__law_pot c0 c1 c2 c3 c4) (endsD Q) (startS 5 (ds.map .pu)) := lawR (ss__law_pot c0 c1 c2 c3 c4)
abbrev A__law_take (c0 c1 c2 c3 : Int) : AS := (aSeq (aIfS (aTest (aOp aGt (aIxO 0 (aC (.int 0))) (aC (.int 0)))) (aSeq (aSet 2 (aMod (aCall aInt (aCons (aIxO 0 (aC (.int 0))) aNil)) (aVar 1)))
  (aSeq (aPut 0 (aDivW (aIxO 0 (aC (.int 0))) (aVar 1)) (aC (.int 0)))
  (aRet (aVar 2)))) aNext)
  (aSeq (aPut 0 (aAdd (aIxO 0 (aC (.int 2))) (aC (.int 1))) (aC (.int 2)))
  (aSeq (aSet 3 (aOp aIx (aLst (aCons (aC (.int 2147483647)) (aCons (aC (.int 2147483629)) (aCons (aC (.int 2147483587)) (aCons (aC (.int 2147483579)) (aCons (aC (.int 2147483563)) aNil)))))) (aMod (aCall aInt (aCons (aIxO 0 (aC (.int 2))) aNil)) (aC (.int 5)))))
  (aSeq (aSet 4 (aMod (aCall aInt (aCons (aPow (aCall aInt (aCons (aAdd (aAdd (aIxO 0 (aC (.int 1))) (aMul (aMul (aC (.int c0)) (aIxO 0 (aC (.int 2)))) (aIxO 0 (aC (.int 2))))) (aC (.int c1))) aNil)) (aC (.int 3))) aNil)) (aVar 3)))
  (aSeq (aSet 4 (aMod (aCall aInt (aCons (aMul (aVar 4) (aAdd (aMod (aCall aInt (aCons (aVar 4) aNil)) (aC (.int c2))) (aMul (aC (.int c3)) (aIxO 0 (aC (.int 2)))))) aNil)) (aC (.int 2305843009213693907))))
  (aRet (aMod (aCall aInt (aCons (aDivW (aVar 4) (aC (.int 173))) aNil)) (aVar 1))))))))
abbrev B__law_take (c0 c1 c2 c3 : Int) : FS := (fSeq (fIfS (fTest (fOp gGt (fIxO 0 (fC (.int 0))) (fC (.int 0)))) (fSeq (fSet 2 (fOp gMod (fCall gInt (fCons (fIxO 0 (fC (.int 0))) fNil)) (fVar 1)))
  (fSeq (fPut 0 (fOp gDivW (fIxO 0 (fC (.int 0))) (fVar 1)) (fC (.int 0)))
  (fRet (fVar 2)))) fNext)
  (fSeq (fPut 0 (fOp gAdd (fIxO 0 (fC (.int 2))) (fC (.int 1))) (fC (.int 2)))
  (fSeq (fSet 3 (fOp gIx (fLst (fCons (fC (.int 2147483647)) (fCons (fC (.int 2147483629)) (fCons (fC (.int 2147483587)) (fCons (fC (.int 2147483579)) (fCons (fC (.int 2147483563)) fNil)))))) (fOp gMod (fCall gInt (fCons (fIxO 0 (fC (.int 2))) fNil)) (fC (.int 5)))))
  (fSeq (fSet 4 (fOp gMod (fCall gInt (fCons (fOp gPow (fCall gInt (fCons (fOp gAdd (fOp gAdd (fIxO 0 (fC (.int 1))) (fOp gMul (fOp gMul (fC (.int c0)) (fIxO 0 (fC (.int 2)))) (fIxO 0 (fC (.int 2))))) (fC (.int c1))) fNil)) (fC (.int 3))) fNil)) (fVar 3)))
  (fSeq (fSet 4 (fOp gMod (fCall gInt (fCons (fOp gMul (fVar 4) (fOp gAdd (fOp gMod (fCall gInt (fCons (fVar 4) fNil)) (fC (.int c2))) (fOp gMul (fC (.int c3)) (fIxO 0 (fC (.int 2)))))) fNil)) (fC (.int 2305843009213693907))))
  (fRet (fOp gMod (fCall gInt (fCons (fOp gDivW (fVar 4) (fC (.int 173))) fNil)) (fVar 1))))))))
theorem ss__law_take (c0 c1 c2 c3 : Int) : SS true (K0M .ow 2 5) (A__law_take c0 c1 c2 c3) (B__law_take c0 c1 c2 c3) [] [] [] .pu .ow :=
  (ss_seq (ss_if (Kn := [.ow, .pu, .ju, .ju, .ju]) (st_test (se_op v_b (se_ixO rfl rfl se_c) se_c)) (ss_seq (ss_set (se_op v_ic (se_call vc_int (sa_cons (se_ixO rfl rfl se_c) sa_nil)) (se_var rfl)) (by simp) (.inl (by decide)))
  (ss_seq (ss_put rfl rfl (se_op v_ic (se_ixO rfl rfl se_c) (se_var rfl)) se_c)
  (ss_ret (se_var rfl) rfl (.inr ⟨_, rfl, rfl, by simp⟩)))) ss_next)
  (ss_seq (ss_put rfl rfl (se_op v_i (se_ixO rfl rfl se_c) se_c) se_c)
  (ss_seq (ss_set (se_op v_ix (se_lst (sa_cons se_c (sa_cons se_c (sa_cons se_c (sa_cons se_c (sa_cons se_c sa_nil)))))) (se_op v_ic (se_call vc_int (sa_cons (se_ixO rfl rfl se_c) sa_nil)) se_c)) (by simp) (.inl (by decide)))
  (ss_seq (ss_set (se_op v_ic (se_call vc_int (sa_cons (se_op v_ic (se_call vc_int (sa_cons (se_op v_i (se_op v_i (se_ixO rfl rfl se_c) (se_op v_ic (se_op v_ic se_c (se_ixO rfl rfl se_c)) (se_ixO rfl rfl se_c))) se_c) sa_nil)) se_c) sa_nil)) (se_var rfl)) (by simp) (.inl (by decide)))
  (ss_seq (ss_set (se_op v_ic (se_call vc_int (sa_cons (se_op v_ic (se_var rfl) (se_op v_i (se_op v_ic (se_call vc_int (sa_cons (se_var rfl) sa_nil)) se_c) (se_op v_ic se_c (se_ixO rfl rfl se_c)))) sa_nil)) se_c) (by simp) (.inl (by decide)))
  (ss_ret (se_op v_ic (se_call vc_int (sa_cons (se_op v_ic (se_var rfl) se_c) sa_nil)) (se_var rfl)) rfl (.inr ⟨_, rfl, rfl, by simp⟩)))))))
def F__law_take (c0 c1 c2 c3 : Int) : List D → Option (D × D) := runMR 2 5 (B__law_take c0 c1 c2 c3)
abbrev S__law_take (c0 c1 c2 c3 : Int) : ARM := lowM .pu (F__law_take c0 c1 c2 c3)
theorem law__law_take (c0 c1 c2 c3 : Int) : ∀ xs ds Q p, ds.length + 1 = 2 → (S__law_take c0 c1 c2 c3) xs ds Q → (A__law_take c0 c1 c2 c3) (endsM Q p) (startS 5 (.ow p xs :: ds.map .pu)) := lawMR (ss__law_take c0 c1 c2 c3)
abbrev A__law_of (tk : List D → Option (D × D)) : AS := (aRet (aOp aIx (aVar 1) (aCallM 2 0 (lowM .pu tk) (aCons (aCall aLen (aCons (aVar 1) aNil)) aNil))))
abbrev B__law_of (tk : List D → Option (D × D)) : FS := (fRet (fOp gIx (fVar 1) (fCallM 2 0 tk (fCons (fCall gLen (fCons (fVar 1) fNil)) fNil))))
theorem ss__law_of (tk : List D → Option (D × D)) : SS true (K0M .ow 2 2) (A__law_of tk) (B__law_of tk) [] [] [] .pu .ow :=
  (ss_ret (se_op v_ix (se_var rfl) (se_callM rfl rfl (sa_cons (se_call vc_len (sa_cons (se_var rfl) sa_nil)) sa_nil))) rfl (.inr ⟨_, rfl, rfl, by simp⟩))
def F__law_of (tk : List D → Option (D × D)) : List D → Option (D × D) := runMR 2 2 (B__law_of tk)
abbrev S__law_of (tk : List D → Option (D × D)) : ARM := lowM .pu (F__law_of tk)
theorem law__law_of (tk : List D → Option (D × D)) : ∀ xs ds Q p, ds.length + 1 = 2 → (S__law_of tk) xs ds Q → (A__law_of tk) (endsM Q p) (startS 2 (.ow p xs :: ds.map .pu)) := lawMR (ss__law_of tk)
abbrev A__law_cells : AS := (aRet (aListRange1 (aCons (aCall (aI2 maxI) (aCons (aC (.int 1)) (aCons (aCall (aI2 minI) (aCons (aVar 1) (aCons (aCall aLen (aCons (aVar 0) aNil)) aNil))) aNil))) aNil)))
abbrev B__law_cells : FS := (fRet (fListRange1 (fCons (fCall (gI2 maxI) (fCons (fC (.int 1)) (fCons (fCall (gI2 minI) (fCons (fVar 1) (fCons (fCall gLen (fCons (fVar 0) fNil)) fNil))) fNil))) fNil)))
theorem ss__law_cells : SS false (K0D 2 2) A__law_cells B__law_cells [] [] [] .ow .ju :=
  (ss_ret (se_listRange1 (sa_cons (se_call vc_i2 (sa_cons se_c (sa_cons (se_call vc_i2 (sa_cons (se_var rfl) (sa_cons (se_call vc_len (sa_cons (se_var rfl) sa_nil)) sa_nil))) sa_nil))) sa_nil)) rfl (.inl rfl))
def F__law_cells : List D → Option D := runR 2 2 B__law_cells
abbrev S__law_cells : ARC := lowD .ow F__law_cells
theorem law__law_cells : ∀ ds Q, ds.length = 2 → S__law_cells ds Q → A__law_cells (endsD Q) (startS 2 (ds.map .pu)) := lawR ss__law_cells
theorem is_integer_eq {d : D} (h : NoOb d) : F_is_integer [d] = some (.bl (isIntD d)) := by
  refine runD_rt rfl (e := [d]) ?_
  cases d <;> first | exact h.elim | rfl
theorem is_within_eq {d : D} {lo hi : Int} (h : NoOb d) : F_is_within [d, .int lo, .int hi] = some (.bl (withinD d lo hi)) := by
  refine runD_rt rfl (e := [d, .int lo, .int hi]) ?_
  have e := is_integer_eq h
  walk_at "e"
  cases d <;> first | exact h.elim | rfl | skip
  walk_at "isIntD withinD"
  by_cases c : lo ≤ ‹Int›
  · walk_at "c"
    simp [c]
  · walk_at "c"
    simp [c]
/-- a draw -/
def TakeOk (tk : List D → Option (D × D)) : Prop := ∀ (xs : List D) (n : Int) (c : Nat), Pot c xs → 0 < n → n < 1267650600228229401496703205376 → c < 1000000 → ∃ (j : Int) (xs' : List D), tk [.lst xs, .int n] = some (.int j, .lst xs') ∧ 0 ≤ j ∧ j < n ∧ Pot (c + 1) xs'
theorem pt3_0 {i : Nat} {d a b c : D} {e : En} : pt3 i d 0 e (some (.lst [a, b, c])) = .nx (e.set i (.lst [d, b, c])) := rfl
theorem pt3_2 {i : Nat} {d a b c : D} {e : En} : pt3 i d 2 e (some (.lst [a, b, c])) = .nx (e.set i (.lst [a, b, d])) := rfl
theorem take_ok {c0 c1 c2 c3 : Int} (h0 : 0 ≤ c0) (h0' : c0 ≤ 1000000) (h1 : 0 ≤ c1) (h1' : c1 ≤ 1000000) (h2 : 0 < c2) (h2' : c2 ≤ 1000000) (h3 : 0 ≤ c3) (h3' : c3 ≤ 1000000) : TakeOk (F__law_take c0 c1 c2 c3) := fun xs n c hp n0 n1 hc => by
  obtain ⟨a, b, k, rfl, g3, g4, g5, g6, g7⟩ := hp
  by_cases ha : 0 < a
  · refine ⟨a % n, [.int (a / n), .int b, .int k], runMR_rt rfl (e := [.lst [.int (a / n), .int b, .int k], .int n, .int (a % n), .non, .non]) ?_ rfl, Int.emod_nonneg _ (by omega), Int.emod_lt_of_pos _ n0, ⟨_, _, _, rfl, Int.ediv_nonneg g3 (by omega), g4, g5, g6, by omega⟩⟩
    have hd : CDivW a n := cdivW n0 n1
    walk_at "pt3_0 ha gIC_ii"
  · obtain ⟨q, e, hq⟩ := at5 2147483647 2147483629 2147483587 2147483579 2147483563 ((k + 1) % 5) (Int.emod_nonneg _ (by decide)) (Int.emod_lt_of_pos _ (by decide))
    have q0 : 0 < q := by omega
    have q1 : q < 2147483648 := by omega
    have k1 : 0 ≤ k + 1 := by omega
    have k2 : k + 1 ≤ 1000000 := by omega
    have m1 := mul_le (a := c0) (b := k + 1) h0 k1 h0' k2
    have m2 := mul_le (a := c0 * (k + 1)) (b := k + 1) m1.1 k1 m1.2 k2
    generalize hb1 : (b + c0 * (k + 1) * (k + 1) + c1) ^ (3 : Int).toNat % q = b1
    have b10 : 0 ≤ b1 := by rw [← hb1]; exact Int.emod_nonneg _ (by omega)
    have b11 : b1 < 2147483648 := by rw [← hb1]; exact Int.lt_of_lt_of_le (Int.emod_lt_of_pos _ q0) (by omega)
    generalize hb2 : b1 * (b1 % c2 + c3 * (k + 1)) % 2305843009213693907 / 173 = b2
    refine ⟨b2 % n, [.int a, .int b, .int (k + 1)], runMR_rt rfl (e := [.lst [.int a, .int b, .int (k + 1)], .int n, .non, .int q, .int (b1 * (b1 % c2 + c3 * (k + 1)) % 2305843009213693907)]) ?_ rfl, Int.emod_nonneg _ (by omega), Int.emod_lt_of_pos _ n0, ⟨_, _, _, rfl, g3, g4, g5, k1, by omega⟩⟩
    have e1 : CMul c0 (k + 1) := cmul_l h0 (by omega)
    have e2 : CMul (c0 * (k + 1)) (k + 1) := cmul_l m1.1 (by omega)
    have e3 : CPow (b + c0 * (k + 1) * (k + 1) + c1) 3 := cpow3 (by omega) (by omega)
    have e4 : CMul c3 (k + 1) := cmul_l h3 (by omega)
    have e5 : CMul b1 (b1 % c2 + c3 * (k + 1)) := cmul_l b10 (by omega)
    walk_at "pt3_2 ha gIC_ii e hb1 hb2"
theorem of_ok {tk : List D → Option (D × D)} (ht : TakeOk tk) {xs es : List D} {c : Nat} (hp : Pot c xs) (h0 : es ≠ []) (h1 : es.length < 1000000) (hc : c < 1000000) : ∃ (d : D) (xs' : List D), F__law_of tk [.lst xs, .lst es] = some (d, .lst xs') ∧ d ∈ es ∧ Pot (c + 1) xs' := by
  have l0 : 0 < es.length := List.length_pos_iff.mpr h0
  obtain ⟨j, xs', e, j0, j1, hp'⟩ := ht xs es.length c hp (by omega) (by omega) hc
  obtain ⟨d, e1, e2, e3⟩ := atI_in j0 j1
  refine ⟨d, xs', runMR_rt rfl (e := [.lst xs', .lst es]) ?_ rfl, e3, hp'⟩
  walk_at "e e1"
theorem pot_ok {c0 c1 c2 c3 c4 : Int} (h0 : 0 ≤ c0) (h2 : 0 ≤ c2) (h2' : c2 ≤ 1000000) (h3 : 0 ≤ c3) (h3' : c3 ≤ 1000000) (h4 : 0 ≤ c4) {ns : List Int} {i : Int} (i0 : 0 ≤ i) (i1 : i ≤ 100) (hn : ns.length ≤ 63) (h0' : c0 ≤ 1000000) : ∃ xs, F__law_pot c0 c1 c2 c3 c4 [.scr (ns.map D.int), .int i] = some (.lst xs) ∧ Pot 0 xs := by
  have k1 := mul_le (a := c3) (b := i) h3 i0 h3' i1
  have key : ∀ (v : Int), fIf (fTest (fOp gLt (fVar 1) (fCall gLen (fCons (fVar 0) fNil)))) (fOp gIx (fVar 0) (fVar 1)) (fOp gAdd (fOp gAdd (fOp gMod (fCall (gInts nSum) (fCons (fSlL (fVar 0) fNoP (fPart (fC (.int 1)))) fNil)) (fC (.int 1000003))) (fOp gMul (fC (.int c0)) (fVar 1))) (fC (.int c1))) [.scr (ns.map D.int), .int i, .non, .non, .non] = some (.int v, [.scr (ns.map D.int), .int i, .non, .non, .non]) →
      ∃ xs, F__law_pot c0 c1 c2 c3 c4 [.scr (ns.map D.int), .int i] = some (.lst xs) ∧ Pot 0 xs := fun v hv => by
    have v0 := Int.emod_nonneg v (show (2305843009213693951 : Int) ≠ 0 by decide)
    have v1 := Int.emod_lt_of_pos v (show (0 : Int) < 2305843009213693951 by decide)
    have m1 := mul_le (a := v % 2305843009213693951) (b := c2) v0 h2 (show _ ≤ 2305843009213693951 by omega) h2'
    generalize ha : absI v % (10 ^ Int.toNat 60) ^ Int.toNat 5 * (if decide (10 ^ Int.toNat 18 ≤ absI v) = true then 1 else 0) = own
    generalize hb : (v % 2305843009213693951 * c2 + c3 * i * i + c4) % 2305843009213693921 = bb
    refine ⟨[.int own, .int bb, .int 0], runR_eq rfl (e := [.scr (ns.map D.int), .int i, .int v, .int own, .int (v % 2305843009213693951)]) ?_, ⟨_, _, _, rfl, by rw [← ha]; exact own_nn _ _ (Int.ne_of_gt big_pos), by rw [← hb]; exact Int.emod_nonneg _ (by decide), by rw [← hb]; exact Int.emod_lt_of_pos _ (by decide), by decide, by decide⟩⟩
    have e1 : CPow 10 60 := ⟨by decide, by decide, by decide⟩
    have e2 : CPow 10 18 := ⟨by decide, by decide, by decide⟩
    have e3 := cpw
    have e4 : CMul (absI v % (10 ^ Int.toNat 60) ^ Int.toNat 5) (if decide (10 ^ Int.toNat 18 ≤ absI v) = true then 1 else 0) := cmul_r (by split <;> decide) (by split <;> decide)
    have e5 : CMul (v % 2305843009213693951) c2 := cmul_l v0 (by omega)
    have e6 : CMul c3 i := cmul_l h3 (by omega)
    have e7 : CMul (c3 * i) i := cmul_l k1.1 (by omega)
    have e8 := big_pos
    show B__law_pot c0 c1 c2 c3 c4 [.scr (ns.map D.int), .int i, .non, .non, .non] = _
    unfold B__law_pot
    rw [w_seq, w_set, hv]
    generalize fIf _ _ _ = zz at hv
    clear hv zz
    simp only [decide_eq_true_eq] at ha e4
    walk_at "gIC_ii ha hb"
  by_cases c : i < ns.length
  · obtain ⟨d, e1, e2, e3⟩ := atI_in (ds := ns.map D.int) i0 (by rw [List.length_map]; exact c)
    obtain ⟨v, _, rfl⟩ := List.mem_map.mp e3
    refine key v ?_
    walk_at "c e1"
  · have e := cutD_to (ns.map D.int) 1
    rw [show ((1 : Nat) : Int) = 1 from rfl, ← List.map_take] at e
    refine key ((List.take 1 ns).sum % 1000003 + c0 * i + c1) ?_
    have e1 : CMul c0 i := cmul_l h0 (by omega)
    walk_at "c e gIC_ii e1"
theorem cells_ok {ns : List Int} {m : Int} (h0 : 1 ≤ m) (h1 : m ≤ 100) (hn : ns.length ≤ 63) : ∃ k : Nat, (k : Int) ≤ m ∧ F__law_cells [.scr (ns.map D.int), .int m] = some (.lst (rngD 0 k)) := by
  have e : 0 ≤ maxI 1 (minI m ns.length) ∧ maxI 1 (minI m ns.length) ≤ m := by
    unfold maxI minI
    split <;> split <;> omega
  refine ⟨(maxI 1 (minI m ns.length)).toNat, by omega, runR_eq rfl (e := [.scr (ns.map D.int), .int m]) ?_⟩
  have e0 := e.1
  have e2 : maxI 1 (minI m ns.length) ≤ 16777216 := by omega
  walk_at ""
end FB
namespace FB
open PySem L2 DL TL
theorem getD_get {α : Type} {l : List α} {i : Nat} (d : α) (h : i < l.length) : l[i]? = some (l.getD i d) := by
  rw [List.getD_eq_getElem?_getD, List.getElem?_eq_getElem h]
  rfl
end FB
namespace FB
open PySem L2 DL TL
theorem all_map {α : Type} (f : α → Bool) (l : List α) : (l.map f).all id = l.all f := by
  rw [List.all_map]
  rfl
end FB
namespace FB
open PySem L2 DL TL
abbrev A_words_in : AS := (aRet (aM1 fSplit (aVar 0) (aC (.str " "))))
abbrev B_words_in : FS := (fRet (fM1 gSplit (fVar 0) (fC (.str " "))))
theorem ss_words_in : SS false (K0D 1 1) A_words_in B_words_in [] [] [] .ow .ju :=
  (ss_ret (se_m1 v_split (se_var rfl) se_c) rfl (.inl rfl))
def F_words_in : List D → Option D := runR 1 1 B_words_in
abbrev S_words_in : ARC := lowD .ow F_words_in
theorem law_words_in : ∀ ds Q, ds.length = 1 → S_words_in ds Q → A_words_in (endsD Q) (startS 1 (ds.map .pu)) := lawR ss_words_in
abbrev A_lines_in : AS := (aRet (aM1 fSplit (aVar 0) (aC (.str "\n"))))
abbrev B_lines_in : FS := (fRet (fM1 gSplit (fVar 0) (fC (.str "\n"))))
theorem ss_lines_in : SS false (K0D 1 1) A_lines_in B_lines_in [] [] [] .ow .ju :=
  (ss_ret (se_m1 v_split (se_var rfl) se_c) rfl (.inl rfl))
def F_lines_in : List D → Option D := runR 1 1 B_lines_in
abbrev S_lines_in : ARC := lowD .ow F_lines_in
theorem law_lines_in : ∀ ds Q, ds.length = 1 → S_lines_in ds Q → A_lines_in (endsD Q) (startS 1 (ds.map .pu)) := lawR ss_lines_in
abbrev A_Device___len__ : AS := (aRet (aCall aLen (aCons (aGet 0 [("Device", "own_stages")]) aNil)))
abbrev B_Device___len__ : FS := (fRet (fCall gLen (fCons (fGet 0 [("Device", "own_stages")]) fNil)))
theorem ss_Device___len__ : SS false (K0D 1 1) A_Device___len__ B_Device___len__ [] [] [] .pu .ju :=
  (ss_ret (se_call vc_len (sa_cons (se_getP rfl) sa_nil)) rfl (.inl rfl))
def F_Device___len__ : List D → Option D := runD 1 1 B_Device___len__
abbrev S_Device___len__ : ARC := lowD .pu F_Device___len__
theorem law_Device___len__ : ∀ ds Q, ds.length = 1 → S_Device___len__ ds Q → A_Device___len__ (endsD Q) (startS 1 (ds.map .pu)) := lawD ss_Device___len__ rfl
abbrev A_sum_of : AS := (aRet (aCall (aInts fSum) (aCons (aLc (aItZip (aCons (aVar 0) (aCons (aVar 1) aNil))) (agTup (agCons (agName 2) (agCons (agName 3) agNil))) aYes (aOp aIx (aVar 2) (aVar 3)) [2, 3]) aNil)))
abbrev B_sum_of : FS := (fRet (fCall (gInts nSum) (fCons (fLc (fItZip (fCons (fVar 0) (fCons (fVar 1) fNil))) (gTup (gCons (gName 2) (gCons (gName 3) gNil))) fYes (fOp gIx (fVar 2) (fVar 3)) [2, 3]) fNil)))
theorem ss_sum_of : SS false (K0D 2 4) A_sum_of B_sum_of [] [] [] .pu .ju :=
  (ss_ret (se_call (vc_ints vn_sum) (sa_cons (se_lc [.pu, .pu, .ju, .ju] (si_zip (sa_cons (se_var rfl) (sa_cons (se_var rfl) sa_nil))) rfl (sg_tup (sgs_cons (sg_name (k0 := .ju) rfl) (sgs_cons (sg_name (k0 := .ju) rfl) sgs_nil))) st_yes (se_op v_ix (se_var rfl) (se_var rfl)) rfl rfl) sa_nil)) rfl (.inl rfl))
def F_sum_of : List D → Option D := runD 2 4 B_sum_of
abbrev S_sum_of : ARC := lowD .pu F_sum_of
theorem law_sum_of : ∀ ds Q, ds.length = 2 → S_sum_of ds Q → A_sum_of (endsD Q) (startS 4 (ds.map .pu)) := lawD ss_sum_of rfl
abbrev A__law_device_text : AS := (aRet (aM1 fJoin (aC (.str "\n")) (aLc (aItL (aVar 0)) (agName 1) aYes (aM1 fJoin (aC (.str " ")) (aOp aCatL (aLst (aCons (aC (.str "stage")) aNil)) (aLc (aItL (aVar 1)) (agName 2) aYes (aCall aStrI (aCons (aCall aInt (aCons (aVar 2) aNil)) aNil)) [2]))) [1])))
abbrev B__law_device_text : FS := (fRet (fM1 gJoin (fC (.str "\n")) (fLc (fItL (fVar 0)) (gName 1) fYes (fM1 gJoin (fC (.str " ")) (fOp gCatL (fLst (fCons (fC (.str "stage")) fNil)) (fLc (fItL (fVar 1)) (gName 2) fYes (fCall gStrI (fCons (fCall gInt (fCons (fVar 2) fNil)) fNil)) [2]))) [1])))
theorem ss__law_device_text : SS false (K0D 1 3) A__law_device_text B__law_device_text [] [] [] .pu .ju :=
  (ss_ret (se_m1 v_join se_c (se_lc [.pu, .ju, .ju] (si_l (se_var rfl)) rfl (sg_name (k0 := .ju) rfl) st_yes (se_m1 v_join se_c (se_op v_catL (se_lst (sa_cons se_c sa_nil)) (se_lc [.pu, .pu, .ju] (si_l (se_var rfl)) rfl (sg_name (k0 := .ju) rfl) st_yes (se_call vc_strI (sa_cons (se_call vc_int (sa_cons (se_var rfl) sa_nil)) sa_nil)) rfl rfl))) rfl rfl)) rfl (.inl rfl))
def F__law_device_text : List D → Option D := runD 1 3 B__law_device_text
abbrev S__law_device_text : ARC := lowD .pu F__law_device_text
theorem law__law_device_text : ∀ ds Q, ds.length = 1 → S__law_device_text ds Q → A__law_device_text (endsD Q) (startS 3 (ds.map .pu)) := lawD ss__law_device_text rfl
abbrev A_number_in : AS := (aSeq (aIfS (aOr (aNot (aTest (aChain aLe aLe (aC (.int 1)) (aCall aLenS (aCons (aVar 0) aNil)) (aC (.int 9))))) (aNot (aTest (aCall (aBls fun bs => bs.all id) (aCons (aLc (aItS (aVar 0)) (agName 1) aYes (aOp (aInSg false) (aVar 1) (aC (.str "0123456789"))) [1]) aNil))))) (aRet (aC .non)) aNext)
  (aRet (aIf (aOr (aTest (aOp aEq (aVar 0) (aC (.str "0")))) (aTest (aOp aNe (aOp aIxStr (aVar 0) (aC (.int 0))) (aC (.str "0"))))) (aCall aIntS (aCons (aVar 0) aNil)) (aC .non))))
abbrev B_number_in : FS := (fSeq (fIfS (fOr (fNot (fTest (fChain gLe gLe (fC (.int 1)) (fCall gLenS (fCons (fVar 0) fNil)) (fC (.int 9))))) (fNot (fTest (fCall (gBls fun bs => bs.all id) (fCons (fLc (fItS (fVar 0)) (gName 1) fYes (fOp gInSg (fVar 1) (fC (.str "0123456789"))) [1]) fNil))))) (fRet (fC .non)) fNext)
  (fRet (fIf (fOr (fTest (fOp (gEq false) (fVar 0) (fC (.str "0")))) (fTest (fOp (gEq true) (fOp gIxStr (fVar 0) (fC (.int 0))) (fC (.str "0"))))) (fCall gIntS (fCons (fVar 0) fNil)) (fC .non))))
theorem ss_number_in : SS false (K0D 1 2) A_number_in B_number_in [] [] [] .pu .ju :=
  (ss_seq (ss_if (Kn := [.pu, .ju]) (st_or (st_not (st_test (se_chain v_b v_b se_c (se_call vc_lenS (sa_cons (se_var rfl) sa_nil)) se_c))) (st_not (st_test (se_call vc_bls (sa_cons (se_lc [.pu, .ju] (si_s (se_var rfl)) rfl (sg_name (k0 := .ju) rfl) st_yes (se_op v_inSg (se_var rfl) se_c) rfl rfl) sa_nil))))) (ss_ret se_c rfl (.inl rfl)) ss_next)
  (ss_ret (se_if (st_or (st_test (se_op v_eq (se_var rfl) se_c)) (st_test (se_op v_ne (se_op v_ixStr (se_var rfl) se_c) se_c))) (se_call vc_intS (sa_cons (se_var rfl) sa_nil)) se_c) rfl (.inl rfl)))
def F_number_in : List D → Option D := runD 1 2 B_number_in
abbrev S_number_in : ARC := lowD .pu F_number_in
theorem law_number_in : ∀ ds Q, ds.length = 1 → S_number_in ds Q → A_number_in (endsD Q) (startS 2 (ds.map .pu)) := lawD ss_number_in rfl
abbrev A_are_lengths : AS := (aSeq (aIfS (aOr (aNot (aTest (aIsi .tuple (aVar 0)))) (aNot (aTest (aChain aLe aLe (aC (.int 2)) (aCall aLen (aCons (aVar 0) aNil)) (aC (.int 4)))))) (aRet (aC (.bl false))) aNext)
  (aSeq (aIfS (aNot (aTest (aCall (aBls fun bs => bs.all id) (aCons (aLc (aItT (aVar 0)) (agName 1) aYes (aCall (aFn 3 S_is_within) (aCons (aVar 1) (aCons (aC (.int 0)) (aCons (aC (.int 1000000)) aNil)))) [1]) aNil)))) (aRet (aC (.bl false))) aNext)
  (aRet (aOp aEq (aLenSetT (aVar 0)) (aCall aLen (aCons (aVar 0) aNil))))))
abbrev B_are_lengths : FS := (fSeq (fIfS (fOr (fNot (fTest (fIsi .tuple (fVar 0)))) (fNot (fTest (fChain gLe gLe (fC (.int 2)) (fCall gLen (fCons (fVar 0) fNil)) (fC (.int 4)))))) (fRet (fC (.bl false))) fNext)
  (fSeq (fIfS (fNot (fTest (fCall (gBls fun bs => bs.all id) (fCons (fLc (fItT (fVar 0)) (gName 1) fYes (fCall (gFn 3 F_is_within) (fCons (fVar 1) (fCons (fC (.int 0)) (fCons (fC (.int 1000000)) fNil)))) [1]) fNil)))) (fRet (fC (.bl false))) fNext)
  (fRet (fOp (gEq false) (fLenSetT (fVar 0)) (fCall gLen (fCons (fVar 0) fNil))))))
theorem ss_are_lengths : SS false (K0D 1 2) A_are_lengths B_are_lengths [] [] [] .pu .ju :=
  (ss_seq (ss_if (Kn := [.pu, .ju]) (st_or (st_not (st_test (se_isi (se_var rfl)))) (st_not (st_test (se_chain v_b v_b se_c (se_call vc_len (sa_cons (se_var rfl) sa_nil)) se_c)))) (ss_ret se_c rfl (.inl rfl)) ss_next)
  (ss_seq (ss_if (Kn := [.pu, .ju]) (st_not (st_test (se_call vc_bls (sa_cons (se_lc [.pu, .ju] (si_t (se_var rfl)) rfl (sg_name (k0 := .ju) rfl) st_yes (se_call vc_fn (sa_cons (se_var rfl) (sa_cons se_c (sa_cons se_c sa_nil)))) rfl rfl) sa_nil)))) (ss_ret se_c rfl (.inl rfl)) ss_next)
  (ss_ret (se_op v_eq (se_lenSetT (se_var rfl)) (se_call vc_len (sa_cons (se_var rfl) sa_nil))) rfl (.inl rfl))))
def F_are_lengths : List D → Option D := runD 1 2 B_are_lengths
abbrev S_are_lengths : ARC := lowD .pu F_are_lengths
theorem law_are_lengths : ∀ ds Q, ds.length = 1 → S_are_lengths ds Q → A_are_lengths (endsD Q) (startS 2 (ds.map .pu)) := lawD ss_are_lengths rfl
abbrev A_all_rows : AS := (aSeq (aSet 1 (aLst (aCons (aTup aNil) aNil)))
  (aSeq (aFor (aItT (aVar 0)) (agName 2) (aSeq (aSet 3 (aLst aNil))
  (aSeq (aFor (aItL (aVar 1)) (agName 4) (aExt 3 (aLc (aRng1 (aCons (aCall aLen (aCons (aVar 2) aNil)) aNil)) (agName 5) aYes (aTup (aStar (aVar 4) (aCons (aVar 5) aNil))) [5])))
  (aSet 1 (aVar 3)))))
  (aRet (aVar 1))))
abbrev L1_all_rows : FS := (fWk [4] (fExt 3 (fLc (fRng1 (fCons (fCall gLen (fCons (fVar 2) fNil)) fNil)) (gName 5) fYes (fTup (fStar (fVar 4) (fCons (fVar 5) fNil))) [5])))
abbrev L2_all_rows : FS := (fWk [2, 3] (fSeq (fSet 3 (fLst fNil))
  (fSeq (fFor (fItL (fVar 1)) [] (gName 4) L1_all_rows)
  (fSet 1 (fVar 3)))))
abbrev B_all_rows : FS := (fSeq (fSet 1 (fLst (fCons (fTup fNil) fNil)))
  (fSeq (fFor (fItT (fVar 0)) [] (gName 2) L2_all_rows)
  (fRet (fVar 1))))
theorem ss_all_rows : SS false (K0D 1 6) A_all_rows B_all_rows [] [] [] .pu .ju :=
  (ss_seq (ss_set (se_lst (sa_cons (se_tup sa_nil) sa_nil)) (by simp) (.inr rfl))
  (ss_seq (ss_for (J := []) [.pu, .ei, .ju, .ju, .ju, .ju] (si_t (se_var rfl)) rfl (sg_name (k0 := .ju) rfl) (ss_wk (K1 := [.pu, .pu, .pu, .pu, .ju, .ju]) (Kn := [.pu, .ei, .ju, .ju, .ju, .ju]) [2, 3] (ss_seq (ss_set (se_lst sa_nil) (by simp) (.inr rfl))
  (ss_seq (ss_for (J := []) [.pu, .pu, .pu, .ow, .ju, .ju] (si_l (se_frz (k := .ei) rfl)) rfl (sg_name (k0 := .ju) rfl) (ss_wk (K1 := [.pu, .pu, .pu, .ow, .pu, .ju]) (Kn := [.pu, .pu, .pu, .ow, .ju, .ju]) [4] (ss_ext rfl rfl (se_lc [.pu, .pu, .pu, .ow, .pu, .ju] (si_rng1 (sa_cons (se_call vc_len (sa_cons (se_var rfl) sa_nil)) sa_nil)) rfl (sg_name (k0 := .ju) rfl) st_yes (se_tup (sa_star (se_var rfl) (sa_cons (se_var rfl) sa_nil))) rfl rfl)) rfl))
  (ss_set (se_frz (k := .ow) rfl) (by simp) (.inr rfl)))) rfl))
  (ss_ret (se_frz (k := .ei) rfl) rfl (.inl rfl))))
def F_all_rows : List D → Option D := runD 1 6 B_all_rows
abbrev S_all_rows : ARC := lowD .pu F_all_rows
theorem law_all_rows : ∀ ds Q, ds.length = 1 → S_all_rows ds Q → A_all_rows (endsD Q) (startS 6 (ds.map .pu)) := lawD ss_all_rows rfl
abbrev A__law_some (tk : List D → Option (D × D)) : AS := (aSeq (aPar 3 4 (aCall aList (aCons (aVar 1) aNil)) (aLst aNil))
  (aSeq (aFor (aRng1 (aCons (aVar 2) aNil)) (agName 5) (aApp 4 (aPopAt 3 (aCallM 2 0 (lowM .pu tk) (aCons (aBor aLen 3) aNil)))))
  (aRet (aMov 4))))
abbrev L1__law_some (tk : List D → Option (D × D)) : FS := (fWk [5] (fApp 4 (fPopAt 3 (fCallM 2 0 tk (fCons (fBor gLen 3) fNil)))))
abbrev B__law_some (tk : List D → Option (D × D)) : FS := (fSeq (fPar 3 4 (fCall gList (fCons (fVar 1) fNil)) (fLst fNil))
  (fSeq (fFor (fRng1 (fCons (fVar 2) fNil)) [] (gName 5) (L1__law_some tk))
  (fRet (fMov 4))))
theorem ss__law_some (tk : List D → Option (D × D)) : SS true (K0M .ow 3 6) (A__law_some tk) (B__law_some tk) [] [] [] .ow .ow :=
  (ss_seq (ss_par (se_call vc_list (sa_cons (se_var rfl) sa_nil)) (se_lst sa_nil) (by simp) (by simp) (.inl (by decide)))
  (ss_seq (ss_for (J := []) [.ow, .pu, .pu, .ow, .ow, .ju] (si_rng1 (sa_cons (se_var rfl) sa_nil)) rfl (sg_name (k0 := .ju) rfl) (ss_wk (K1 := [.ow, .pu, .pu, .ow, .ow, .pu]) (Kn := [.ow, .pu, .pu, .ow, .ow, .ju]) [5] (ss_app rfl rfl (se_popAt rfl rfl (se_callM rfl rfl (sa_cons (se_bor vc_len rfl) sa_nil)))) rfl))
  (ss_ret (se_mov (k := .ow) rfl (.inl rfl)) rfl (.inr ⟨_, rfl, rfl, by simp⟩))))
def F__law_some (tk : List D → Option (D × D)) : List D → Option (D × D) := runMR 3 6 (B__law_some tk)
abbrev S__law_some (tk : List D → Option (D × D)) : ARM := lowM .ow (F__law_some tk)
theorem law__law_some (tk : List D → Option (D × D)) : ∀ xs ds Q p, ds.length + 1 = 3 → (S__law_some tk) xs ds Q → (A__law_some tk) (endsM Q p) (startS 6 (.ow p xs :: ds.map .pu)) := lawMR (ss__law_some tk)
abbrev A_lengths_in : AS := (aSeq (aSet 1 (aCall (aFn 1 S_words_in) (aCons (aVar 0) aNil)))
  (aSeq (aSet 2 (aCall aTupl (aCons (aLc (aItL (aSlL (aVar 1) (aPart (aC (.int 1))) aNoP)) (agName 3) aYes (aCall (aFn 1 S_number_in) (aCons (aVar 3) aNil)) [3]) aNil)))
  (aRet (aIf (aAnd (aTest (aOp aEq (aOp aIx (aVar 1) (aC (.int 0))) (aC (.str "stage")))) (aTest (aCall (aFn 1 S_are_lengths) (aCons (aVar 2) aNil)))) (aVar 2) (aC .non)))))
abbrev B_lengths_in : FS := (fSeq (fSet 1 (fCall (gFn 1 F_words_in) (fCons (fVar 0) fNil)))
  (fSeq (fSet 2 (fCall gTupl (fCons (fLc (fItL (fSlL (fVar 1) (fPart (fC (.int 1))) fNoP)) (gName 3) fYes (fCall (gFn 1 F_number_in) (fCons (fVar 3) fNil)) [3]) fNil)))
  (fRet (fIf (fAnd (fTest (fOp (gEq false) (fOp gIx (fVar 1) (fC (.int 0))) (fC (.str "stage")))) (fTest (fCall (gFn 1 F_are_lengths) (fCons (fVar 2) fNil)))) (fVar 2) (fC .non)))))
theorem ss_lengths_in : SS false (K0D 1 4) A_lengths_in B_lengths_in [] [] [] .pu .ju :=
  (ss_seq (ss_set (se_call vc_fn (sa_cons (se_var rfl) sa_nil)) (by simp) (.inr rfl))
  (ss_seq (ss_set (se_call vc_tupl (sa_cons (se_lc [.pu, .pu, .ju, .ju] (si_l (se_slL (se_frz (k := .ow) rfl) (so_part se_c) so_no)) rfl (sg_name (k0 := .ju) rfl) st_yes (se_call vc_fn (sa_cons (se_var rfl) sa_nil)) rfl rfl) sa_nil)) (by simp) (.inr rfl))
  (ss_ret (se_if (st_and (st_test (se_op v_eq (se_op v_ix (se_var rfl) se_c) se_c)) (st_test (se_call vc_fn (sa_cons (se_var rfl) sa_nil)))) (se_var rfl) se_c) rfl (.inl rfl))))
def F_lengths_in : List D → Option D := runD 1 4 B_lengths_in
abbrev S_lengths_in : ARC := lowD .pu F_lengths_in
theorem law_lengths_in : ∀ ds Q, ds.length = 1 → S_lengths_in ds Q → A_lengths_in (endsD Q) (startS 4 (ds.map .pu)) := lawD ss_lengths_in rfl
abbrev A__law_lengths (tk : List D → Option (D × D)) : AS := (aSeq (aSet 3 (aListRange2 (aCons (aC (.int 1)) (aCons (aAdd (aVar 1) (aC (.int 1))) aNil))))
  (aSeq (aSet 4 (aCallM 3 0 (S__law_some tk) (aCons (aVar 3) (aCons (aCall (aI2 minI) (aCons (aVar 1) (aCons (aAdd (aAdd (aC (.int 1)) (aCallM 2 0 (lowM .pu tk) (aCons (aC (.int 3)) aNil))) (aCall aInt (aCons (aNotV (aVar 2)) aNil))) aNil))) aNil))))
  (aSeq (aSet 4 (aOp aCatL (aLc (aItL (aVar 4)) (agName 5) aYes (aCall aInt (aCons (aVar 5) aNil)) [5]) (aIf (aTest (aVar 2)) (aLst (aCons (aC (.int 0)) aNil)) (aLst aNil))))
  (aRet (aCallM 3 0 (S__law_some tk) (aCons (aVar 4) (aCons (aCall aLen (aCons (aVar 4) aNil)) aNil)))))))
abbrev B__law_lengths (tk : List D → Option (D × D)) : FS := (fSeq (fSet 3 (fListRange2 (fCons (fC (.int 1)) (fCons (fOp gAdd (fVar 1) (fC (.int 1))) fNil))))
  (fSeq (fSet 4 (fCallM 3 0 (F__law_some tk) (fCons (fVar 3) (fCons (fCall (gI2 minI) (fCons (fVar 1) (fCons (fOp gAdd (fOp gAdd (fC (.int 1)) (fCallM 2 0 tk (fCons (fC (.int 3)) fNil))) (fCall gInt (fCons (fNotV (fVar 2)) fNil))) fNil))) fNil))))
  (fSeq (fSet 4 (fOp gCatL (fLc (fItL (fVar 4)) (gName 5) fYes (fCall gInt (fCons (fVar 5) fNil)) [5]) (fIf (fTest (fVar 2)) (fLst (fCons (fC (.int 0)) fNil)) (fLst fNil))))
  (fRet (fCallM 3 0 (F__law_some tk) (fCons (fVar 4) (fCons (fCall gLen (fCons (fVar 4) fNil)) fNil)))))))
theorem ss__law_lengths (tk : List D → Option (D × D)) : SS true (K0M .ow 3 6) (A__law_lengths tk) (B__law_lengths tk) [] [] [] .ow .ow :=
  (ss_seq (ss_set (se_listRange2 (sa_cons se_c (sa_cons (se_op v_i (se_var rfl) se_c) sa_nil))) (by simp) (.inl (by decide)))
  (ss_seq (ss_set (se_callM rfl rfl (sa_cons (se_frz (k := .ow) rfl) (sa_cons (se_call vc_i2 (sa_cons (se_var rfl) (sa_cons (se_op v_i (se_op v_i se_c (se_callM rfl rfl (sa_cons se_c sa_nil))) (se_call vc_int (sa_cons (se_notV (se_var rfl)) sa_nil))) sa_nil))) sa_nil))) (by simp) (.inl (by decide)))
  (ss_seq (ss_set (se_op v_catL (se_lc [.ow, .pu, .pu, .pu, .pu, .ju] (si_l (se_frz (k := .ow) rfl)) rfl (sg_name (k0 := .ju) rfl) st_yes (se_call vc_int (sa_cons (se_var rfl) sa_nil)) rfl rfl) (se_if (st_test (se_var rfl)) (se_lst (sa_cons se_c sa_nil)) (se_lst sa_nil))) (by simp) (.inl (by decide)))
  (ss_ret (se_callM rfl rfl (sa_cons (se_frz (k := .ow) rfl) (sa_cons (se_call vc_len (sa_cons (se_var rfl) sa_nil)) sa_nil))) rfl (.inr ⟨_, rfl, rfl, by simp⟩)))))
def F__law_lengths (tk : List D → Option (D × D)) : List D → Option (D × D) := runMR 3 6 (B__law_lengths tk)
abbrev S__law_lengths (tk : List D → Option (D × D)) : ARM := lowM .ow (F__law_lengths tk)
theorem law__law_lengths (tk : List D → Option (D × D)) : ∀ xs ds Q p, ds.length + 1 = 3 → (S__law_lengths tk) xs ds Q → (A__law_lengths tk) (endsM Q p) (startS 6 (.ow p xs :: ds.map .pu)) := lawMR (ss__law_lengths tk)
abbrev A__law_figures_stages (tk : List D → Option (D × D)) : AS := (aSeq (aParG 2 (aaCons (aLst aNil) (aaCons (aC (.int 1)) aaNil)) (atCons (atName 2) (atCons (atName 3) atNil)))
  (aSeq (aFor (aRng1 (aCons (aVar 1) aNil)) (agName 4) (aSeq (aSet 5 (aAdd (aC (.int 2)) (aCallM 2 0 (S__law_of tk) (aCons (aLst (aCons (aC (.int 0)) (aCons (aC (.int 0)) (aCons (aC (.int 0)) (aCons (aC (.int 1)) (aCons (aC (.int 2)) aNil)))))) aNil))))
  (aSeq (aApp 2 (aLc (aRng1 (aCons (aVar 5) aNil)) (agName 6) aYes (aCall aInt (aCons (aMul (aVar 6) (aVar 3)) aNil)) [6]))
  (aSet 3 (aMul (aVar 3) (aVar 5))))))
  (aRet (aMov 2))))
abbrev L1__law_figures_stages (tk : List D → Option (D × D)) : FS := (fWk [4, 5] (fSeq (fSet 5 (fOp gAdd (fC (.int 2)) (fCallM 2 0 (F__law_of tk) (fCons (fLst (fCons (fC (.int 0)) (fCons (fC (.int 0)) (fCons (fC (.int 0)) (fCons (fC (.int 1)) (fCons (fC (.int 2)) fNil)))))) fNil))))
  (fSeq (fApp 2 (fLc (fRng1 (fCons (fVar 5) fNil)) (gName 6) fYes (fCall gInt (fCons (fOp gMul (fVar 6) (fVar 3)) fNil)) [6]))
  (fSet 3 (fOp gMul (fVar 3) (fVar 5))))))
abbrev B__law_figures_stages (tk : List D → Option (D × D)) : FS := (fSeq (fParG 2 (fCons (fLst fNil) (fCons (fC (.int 1)) fNil)) (gCons (gName 2) (gCons (gName 3) gNil)))
  (fSeq (fFor (fRng1 (fCons (fVar 1) fNil)) [] (gName 4) (L1__law_figures_stages tk))
  (fRet (fMov 2))))
theorem ss__law_figures_stages (tk : List D → Option (D × D)) : SS true (K0M .ow 2 7) (A__law_figures_stages tk) (B__law_figures_stages tk) [] [] [] .ow .ow :=
  (ss_seq (ss_parG (ks := [.ow, .pu]) (sas_cons (se_lst sa_nil) (sas_cons se_c sas_nil)) (stgs_cons (stg_name (by simp) (by decide)) (stgs_cons (stg_name (by simp) (by decide)) stgs_nil)))
  (ss_seq (ss_for (J := []) [.ow, .pu, .ow, .pu, .ju, .ju, .ju] (si_rng1 (sa_cons (se_var rfl) sa_nil)) rfl (sg_name (k0 := .ju) rfl) (ss_wk (K1 := [.ow, .pu, .ow, .pu, .pu, .pu, .ju]) (Kn := [.ow, .pu, .ow, .pu, .ju, .ju, .ju]) [4, 5] (ss_seq (ss_set (se_op v_i se_c (se_callM rfl rfl (sa_cons (se_lst (sa_cons se_c (sa_cons se_c (sa_cons se_c (sa_cons se_c (sa_cons se_c sa_nil)))))) sa_nil))) (by simp) (.inl (by decide)))
  (ss_seq (ss_app rfl rfl (se_lc [.ow, .pu, .ow, .pu, .pu, .pu, .ju] (si_rng1 (sa_cons (se_var rfl) sa_nil)) rfl (sg_name (k0 := .ju) rfl) st_yes (se_call vc_int (sa_cons (se_op v_ic (se_var rfl) (se_var rfl)) sa_nil)) rfl rfl))
  (ss_set (se_op v_ic (se_var rfl) (se_var rfl)) (by simp) (.inl (by decide))))) rfl))
  (ss_ret (se_mov (k := .ow) rfl (.inl rfl)) rfl (.inr ⟨_, rfl, rfl, by simp⟩))))
def F__law_figures_stages (tk : List D → Option (D × D)) : List D → Option (D × D) := runMR 2 7 (B__law_figures_stages tk)
abbrev S__law_figures_stages (tk : List D → Option (D × D)) : ARM := lowM .ow (F__law_figures_stages tk)
theorem law__law_figures_stages (tk : List D → Option (D × D)) : ∀ xs ds Q p, ds.length + 1 = 2 → (S__law_figures_stages tk) xs ds Q → (A__law_figures_stages tk) (endsM Q p) (startS 7 (.ow p xs :: ds.map .pu)) := lawMR (ss__law_figures_stages tk)
abbrev A_read_device : AS := (aSeq (aIfS (aNot (aTest (aIsi .str (aVar 0)))) aNev aNext)
  (aSeq (aSet 1 (aLst aNil))
  (aSeq (aFor (aItEnL (aCons (aCall (aFn 1 S_lines_in) (aCons (aVar 0) aNil)) aNil)) (agTup (agCons (agName 2) (agCons (agName 3) agNil))) (aSeq (aSet 4 (aIf (aTest (aOp aLt (aVar 2) (aC (.int 6)))) (aCall (aFn 1 S_lengths_in) (aCons (aVar 3) aNil)) (aC .non)))
  (aSeq (aIfS (aTest (aOp aIsN (aVar 4) (aC .non))) aNev aNext)
  (aApp 1 (aVar 4)))))
  (aRet (aCall aTupl (aCons (aVar 1) aNil))))))
abbrev L1_read_device : FS := (fWk [2, 3, 4] (fSeq (fSet 4 (fIf (fTest (fOp gLt (fVar 2) (fC (.int 6)))) (fCall (gFn 1 F_lengths_in) (fCons (fVar 3) fNil)) (fC .non)))
  (fSeq (fIfS (fTest (fOp (gIsN false) (fVar 4) (fC .non))) fNev fNext)
  (fApp 1 (fVar 4)))))
abbrev B_read_device : FS := (fSeq (fIfS (fNot (fTest (fIsi .str (fVar 0)))) fNev fNext)
  (fSeq (fSet 1 (fLst fNil))
  (fSeq (fFor (fItEnL (fCons (fCall (gFn 1 F_lines_in) (fCons (fVar 0) fNil)) fNil)) [] (gTup (gCons (gName 2) (gCons (gName 3) gNil))) L1_read_device)
  (fRet (fCall gTupl (fCons (fVar 1) fNil))))))
theorem ss_read_device : SS false (K0D 1 5) A_read_device B_read_device [] [] [] .pu .ju :=
  (ss_seq (ss_if (Kn := [.pu, .ju, .ju, .ju, .ju]) (st_not (st_test (se_isi (se_var rfl)))) ss_nev ss_next)
  (ss_seq (ss_set (se_lst sa_nil) (by simp) (.inr rfl))
  (ss_seq (ss_for (J := []) [.pu, .ow, .ju, .ju, .ju] (si_enL (sa_cons (se_call vc_fn (sa_cons (se_var rfl) sa_nil)) sa_nil)) rfl (sg_tup (sgs_cons (sg_name (k0 := .ju) rfl) (sgs_cons (sg_name (k0 := .ju) rfl) sgs_nil))) (ss_wk (K1 := [.pu, .ow, .pu, .pu, .pu]) (Kn := [.pu, .ow, .ju, .ju, .ju]) [2, 3, 4] (ss_seq (ss_set (se_if (st_test (se_op v_b (se_var rfl) se_c)) (se_call vc_fn (sa_cons (se_var rfl) sa_nil)) se_c) (by simp) (.inr rfl))
  (ss_seq (ss_if (Kn := [.pu, .ow, .pu, .pu, .pu]) (st_test (se_op v_isN (se_var rfl) se_c)) ss_nev ss_next)
  (ss_app rfl rfl (se_var rfl)))) rfl))
  (ss_ret (se_call vc_tupl (sa_cons (se_frz (k := .ow) rfl) sa_nil)) rfl (.inl rfl)))))
def F_read_device : List D → Option D := runD 1 5 B_read_device
abbrev S_read_device : ARC := lowD .pu F_read_device
theorem law_read_device : ∀ ds Q, ds.length = 1 → S_read_device ds Q → A_read_device (endsD Q) (startS 5 (ds.map .pu)) := lawD ss_read_device rfl
abbrev A__law_device (tk : List D → Option (D × D)) : AS := (aSeq (aAsg (aTup (aCons (aAdd (aC (.int 1)) (aCallM 2 0 (lowM .pu tk) (aCons (aVar 1) aNil))) (aCons (aCallM 2 0 (lowM .pu tk) (aCons (aC (.int 6)) aNil)) aNil))) (agTup (agCons (agName 3) (agCons (agName 4) agNil))))
  (aSeq (aIfS (aTest (aOp aLt (aVar 4) (aC (.int 4)))) (aSeq (aSet 5 (aCallM 2 0 (S__law_figures_stages tk) (aCons (aVar 3) aNil)))
  (aSeq (aIfS (aTest (aOp aEq (aVar 4) (aC (.int 1)))) (aSet 5 (aCallM 3 0 (S__law_some tk) (aCons (aVar 5) (aCons (aVar 3) aNil)))) (aIfS (aTest (aOp aEq (aVar 4) (aC (.int 2)))) (aSet 5 (aLc (aItL (aVar 5)) (agName 7) aYes (aCallM 3 0 (S__law_some tk) (aCons (aVar 7) (aCons (aCall aLen (aCons (aVar 7) aNil)) aNil))) [7])) (aIfS (aTest (aOp aEq (aVar 4) (aC (.int 3)))) (aPut 5 (aCallM 3 0 (S__law_lengths tk) (aCons (aVar 2) (aCons (aC (.bl true)) aNil))) (aCallM 2 0 (lowM .pu tk) (aCons (aVar 3) aNil))) aNext)))
  (aRet (aMov 5)))) aNext)
  (aRet (aLc (aRng1 (aCons (aVar 3) aNil)) (agName 6) aYes (aCallM 3 0 (S__law_lengths tk) (aCons (aVar 2) (aCons (aOrV (aOp aEq (aVar 4) (aC (.int 4))) (aOp aGt (aCallM 2 0 (lowM .pu tk) (aCons (aC (.int 4)) aNil)) (aC (.int 0)))) aNil))) [6]))))
abbrev B__law_device (tk : List D → Option (D × D)) : FS := (fSeq (fAsg (fTup (fCons (fOp gAdd (fC (.int 1)) (fCallM 2 0 tk (fCons (fVar 1) fNil))) (fCons (fCallM 2 0 tk (fCons (fC (.int 6)) fNil)) fNil))) (gTup (gCons (gName 3) (gCons (gName 4) gNil))))
  (fSeq (fIfS (fTest (fOp gLt (fVar 4) (fC (.int 4)))) (fSeq (fSet 5 (fCallM 2 0 (F__law_figures_stages tk) (fCons (fVar 3) fNil)))
  (fSeq (fIfS (fTest (fOp (gEq false) (fVar 4) (fC (.int 1)))) (fSet 5 (fCallM 3 0 (F__law_some tk) (fCons (fVar 5) (fCons (fVar 3) fNil)))) (fIfS (fTest (fOp (gEq false) (fVar 4) (fC (.int 2)))) (fSet 5 (fLc (fItL (fVar 5)) (gName 7) fYes (fCallM 3 0 (F__law_some tk) (fCons (fVar 7) (fCons (fCall gLen (fCons (fVar 7) fNil)) fNil))) [7])) (fIfS (fTest (fOp (gEq false) (fVar 4) (fC (.int 3)))) (fPut 5 (fCallM 3 0 (F__law_lengths tk) (fCons (fVar 2) (fCons (fC (.bl true)) fNil))) (fCallM 2 0 tk (fCons (fVar 3) fNil))) fNext)))
  (fRet (fMov 5)))) fNext)
  (fRet (fLc (fRng1 (fCons (fVar 3) fNil)) (gName 6) fYes (fCallM 3 0 (F__law_lengths tk) (fCons (fVar 2) (fCons (fOrV (fOp (gEq false) (fVar 4) (fC (.int 4))) (fOp gGt (fCallM 2 0 tk (fCons (fC (.int 4)) fNil)) (fC (.int 0)))) fNil))) [6]))))
theorem ss__law_device (tk : List D → Option (D × D)) : SS true (K0M .ow 3 8) (A__law_device tk) (B__law_device tk) [] [] [] .ow .ow :=
  (ss_seq (ss_asg (se_tup (sa_cons (se_op v_i se_c (se_callM rfl rfl (sa_cons (se_var rfl) sa_nil))) (sa_cons (se_callM rfl rfl (sa_cons se_c sa_nil)) sa_nil))) (sg_tup (sgs_cons (sg_name (k0 := .ju) rfl) (sgs_cons (sg_name (k0 := .ju) rfl) sgs_nil))))
  (ss_seq (ss_if (Kn := [.ow, .pu, .pu, .pu, .pu, .ju, .ju, .ju]) (st_test (se_op v_b (se_var rfl) se_c)) (ss_seq (ss_set (se_callM rfl rfl (sa_cons (se_var rfl) sa_nil)) (by simp) (.inl (by decide)))
  (ss_seq (ss_if (Kn := [.ow, .pu, .pu, .pu, .pu, .ow, .ju, .ju]) (st_test (se_op v_eq (se_var rfl) se_c)) (ss_set (se_callM rfl rfl (sa_cons (se_frz (k := .ow) rfl) (sa_cons (se_var rfl) sa_nil))) (by simp) (.inl (by decide))) (ss_if (Kn := [.ow, .pu, .pu, .pu, .pu, .ow, .ju, .ju]) (st_test (se_op v_eq (se_var rfl) se_c)) (ss_set (se_lc [.ow, .pu, .pu, .pu, .pu, .pu, .ju, .ju] (si_l (se_frz (k := .ow) rfl)) rfl (sg_name (k0 := .ju) rfl) st_yes (se_callM rfl rfl (sa_cons (se_var rfl) (sa_cons (se_call vc_len (sa_cons (se_var rfl) sa_nil)) sa_nil))) rfl rfl) (by simp) (.inl (by decide))) (ss_if (Kn := [.ow, .pu, .pu, .pu, .pu, .ow, .ju, .ju]) (st_test (se_op v_eq (se_var rfl) se_c)) (ss_put rfl rfl (se_callM rfl rfl (sa_cons (se_var rfl) (sa_cons se_c sa_nil))) (se_callM rfl rfl (sa_cons (se_var rfl) sa_nil))) ss_next)))
  (ss_ret (se_mov (k := .ow) rfl (.inl rfl)) rfl (.inr ⟨_, rfl, rfl, by simp⟩)))) ss_next)
  (ss_ret (se_lc [.ow, .pu, .pu, .pu, .pu, .ju, .ju, .ju] (si_rng1 (sa_cons (se_var rfl) sa_nil)) rfl (sg_name (k0 := .ju) rfl) st_yes (se_callM rfl rfl (sa_cons (se_var rfl) (sa_cons (se_orV (se_op v_eq (se_var rfl) se_c) (se_op v_b (se_callM rfl rfl (sa_cons se_c sa_nil)) se_c)) sa_nil))) rfl rfl) rfl (.inr ⟨_, rfl, rfl, by simp⟩))))
def F__law_device (tk : List D → Option (D × D)) : List D → Option (D × D) := runMR 3 8 (B__law_device tk)
abbrev S__law_device (tk : List D → Option (D × D)) : ARM := lowM .ow (F__law_device tk)
theorem law__law_device (tk : List D → Option (D × D)) : ∀ xs ds Q p, ds.length + 1 = 3 → (S__law_device tk) xs ds Q → (A__law_device tk) (endsM Q p) (startS 8 (.ow p xs :: ds.map .pu)) := lawMR (ss__law_device tk)
abbrev A_Device___init__ : AS := (aSeq (aParG 2 (aaCons (aCall (aFn 1 S_read_device) (aCons (aVar 1) aNil)) (aaCons (aVar 1) aaNil)) (atCons (atFld 0 [] "Device" "own_stages") (atCons (atFld 0 [] "Device" "own_text") atNil)))
  (aSeq (aTo aDicK (atFld 0 [] "Device" "own_rows"))
  (aFor (aItL (aCall (aFn 1 S_all_rows) (aCons (aGet 0 [("Device", "own_stages")]) aNil))) (agName 2) (aSdApp 0 [("Device", "own_rows")] (aCall (aFn 2 S_sum_of) (aCons (aGet 0 [("Device", "own_stages")]) (aCons (aVar 2) aNil))) (aVar 2)))))
abbrev L1_Device___init__ : FS := (fWk [2] (fSdApp 0 [("Device", "own_rows")] (fCall (gFn 2 F_sum_of) (fCons (fGet 0 [("Device", "own_stages")]) (fCons (fVar 2) fNil))) (fVar 2)))
abbrev B_Device___init__ : FS := (fSeq (fParG 2 (fCons (fCall (gFn 1 F_read_device) (fCons (fVar 1) fNil)) (fCons (fVar 1) fNil)) (gCons (gFldF 0 [] "own_stages") (gCons (gFldF 0 [] "own_text") gNil)))
  (fSeq (fTo (fC (.dk [] [])) (gFldF 0 [] "own_rows"))
  (fFor (fItL (fCall (gFn 1 F_all_rows) (fCons (fGet 0 [("Device", "own_stages")]) fNil))) [] (gName 2) L1_Device___init__)))
theorem ss_Device___init__ : SS true (K0M (.ins "Device" [] []) 2 3) A_Device___init__ B_Device___init__ [(.ins "Device" ["own_stages", "own_text", "own_rows"] [.pu, .pu, (.dk .ow)]), .pu, .ju] [] [] .pu (.ins "Device" ["own_stages", "own_text", "own_rows"] [.pu, .pu, (.dk .ow)]) :=
  (ss_seq (ss_parG (ks := [.pu, .pu]) (sas_cons (se_call vc_fn (sa_cons (se_var rfl) sa_nil)) (sas_cons (se_var rfl) sas_nil)) (stgs_cons (stg_fld (k' := (.ins "Device" [] [])) (ns := []) (ks := []) (by decide +kernel) (by decide +kernel) (by decide) (by simp) (by simp)) (stgs_cons (stg_fld (k' := (.ins "Device" ["own_stages"] [.pu])) (ns := ["own_stages"]) (ks := [.pu]) (by decide +kernel) (by decide +kernel) (by decide) (by simp) (by simp)) stgs_nil)))
  (ss_seq (ss_to (se_dicK (k := .ow)) (stg_fld (k' := (.ins "Device" ["own_stages", "own_text"] [.pu, .pu])) (ns := ["own_stages", "own_text"]) (ks := [.pu, .pu]) (by decide +kernel) (by decide +kernel) (by decide) (by simp) (by simp)))
  (ss_for (J := []) [(.ins "Device" ["own_stages", "own_text", "own_rows"] [.pu, .pu, (.dk .ow)]), .pu, .ju] (si_l (se_call vc_fn (sa_cons (se_getK (k := (.ins "Device" ["own_stages", "own_text", "own_rows"] [.pu, .pu, (.dk .ow)])) (by decide +kernel) (by decide +kernel)) sa_nil))) (by decide +kernel) (sg_name (k0 := .ju) rfl) (ss_wk (K1 := [(.ins "Device" ["own_stages", "own_text", "own_rows"] [.pu, .pu, (.dk .ow)]), .pu, .pu]) (Kn := [(.ins "Device" ["own_stages", "own_text", "own_rows"] [.pu, .pu, (.dk .ow)]), .pu, .ju]) [2] (ss_sdApp (k := (.ins "Device" ["own_stages", "own_text", "own_rows"] [.pu, .pu, (.dk .ow)])) (by decide +kernel) (by decide +kernel) (by simp) (se_call vc_fn (sa_cons (se_getK (k := (.ins "Device" ["own_stages", "own_text", "own_rows"] [.pu, .pu, (.dk .ow)])) (by decide +kernel) (by decide +kernel)) (sa_cons (se_var rfl) sa_nil))) (se_var rfl) (by decide) (by decide)) (by decide +kernel)))))
def F_Device___init__ : List D → Option (D × D) := runM 2 3 B_Device___init__
abbrev S_Device___init__ : ART := lowT (.ins "Device" [] []) (.ins "Device" ["own_stages", "own_text", "own_rows"] [.pu, .pu, (.dk .ow)]) .pu F_Device___init__
theorem rt_Device___init__ : ∀ l ds Q, S_Device___init__ l ds Q → (root l).isSome = true := fun l ds Q h => by
  obtain ⟨h, _⟩ := h
  unfold Has at h
  obtain ⟨p, dx, ts, rfl, _⟩ := h
  rfl
theorem law_Device___init__ : ∀ l ds Q p, ds.length + 1 = 2 → root l = some p → S_Device___init__ l ds Q → A_Device___init__ (endsT Q p) (startS 3 (l :: ds.map .pu)) := lawT ss_Device___init__ rfl rfl (by simp) (by simp)
theorem words_in_eq {x : Str} (h : x.length ≤ 100000) : F_words_in [.str x] = some (.lst ((Txt.split x " ").map D.str)) := by
  refine runR_eq rfl (e := [.str x]) ?_
  have e : gSplit x (D.str " ") = some (.lst ((Txt.split x " ").map D.str)) := if_pos ⟨by decide +kernel, h⟩
  walk_at "e"
theorem lines_in_eq {x : Str} (h : x.length ≤ 100000) : F_lines_in [.str x] = some (.lst ((Txt.split x "\n").map D.str)) := by
  refine runR_eq rfl (e := [.str x]) ?_
  have e : gSplit x (D.str "\n") = some (.lst ((Txt.split x "\n").map D.str)) := if_pos ⟨by decide +kernel, h⟩
  walk_at "e"
theorem atI_zero {α : Type} (x : α) (r : List α) : atI (x :: r) 0 = some x := by
  unfold atI ixN
  rw [if_pos (by decide), if_pos (by simp only [List.length_cons]; omega)]
  rfl
theorem digits_in {c : Nat} (h : 48 ≤ c) (h2 : c ≤ 57) : decide (c ∈ ("0123456789" : Str).cps.toList) = true := by
  have : ("0123456789" : Str).cps.toList = [48, 49, 50, 51, 52, 53, 54, 55, 56, 57] := by decide +kernel
  rw [this, decide_eq_true_eq]
  have : c = 48 ∨ c = 49 ∨ c = 50 ∨ c = 51 ∨ c = 52 ∨ c = 53 ∨ c = 54 ∨ c = 55 ∨ c = 56 ∨ c = 57 := by omega
  rcases this with rfl | rfl | rfl | rfl | rfl | rfl | rfl | rfl | rfl | rfl <;> decide
theorem all_true {α : Type} (zs : List α) : gBls (fun bs => bs.all id) [.lst (zs.map fun _ => D.bl true)] = some (.bl true) := by
  have e := gBls_l (f := fun bs => bs.all id) (bs := List.replicate zs.length true)
  rw [List.map_replicate] at e
  rw [List.map_const', e, bls_all]
theorem dedup_nd {ls : List Int} (h : ls.Nodup) : (dedup ls).length = ls.length := dist_len (dedup_dist ls) h
theorem gLenS_s {x : Str} (h : x.length ≤ 16000000) : gLenS [.str x] = some (.int x.length) := if_pos h
theorem number_in_eq {n : Nat} (hn : n < 1000000000) : F_number_in [.str (sI (n : Int))] = some (.int (n : Int)) := by
  have h1 := len_sI1 n
  have h9 : (sI (n : Int)).length ≤ 9 := len_sI (by decide) (by omega)
  have hi : PySem.intText? (sI (n : Int)) = some (n : Int) := int_num (by rw [← tl_sI, ← len_tl]; omega)
  have ei : gIntS [.str (sI (n : Int))] = some (.int (n : Int)) := by
    unfold gIntS
    simp only [hi]
    rw [if_pos (by omega)]
    rfl
  have el : gLenS [.str (sI (n : Int))] = some (.int (sI (n : Int)).length) := gLenS_s (by omega)
  have e0 : hItS (D.str (sI (n : Int))) = some ((numL n).map fun c => D.str ⟨#[c]⟩) := by
    rw [hItS_s, ← tl_sI]
  have ec := lcD_map (tg := gName 1) (ft := fYes) (a := fOp gInSg (fVar 1) (fC (.str "0123456789"))) (vs := [1]) (e := [.str (sI (n : Int)), .non]) (fun c => D.str ⟨#[c]⟩) (fun _ => D.bl true) (numL n) [] (fun c hc => by
    have hd := numL_digits n c hc
    have e : gInSg (D.str ⟨#[c]⟩) (D.str "0123456789") = some (.bl true) := by
      show some (D.bl (decide (c ∈ ("0123456789" : Str).cps.toList))) = _
      rw [digits_in (by omega) (by omega)]
    walk_at "e") (by rw [← tl_sI, ← len_tl, List.length_nil]; omega)
  rw [List.nil_append] at ec
  have ea := all_true (numL n)
  refine runD_rt rfl (e := [.str (sI (n : Int)), .non]) ?_
  have c1 : (1 : Int) ≤ ((sI (n : Int)).length : Int) := by omega
  have c2 : ((sI (n : Int)).length : Int) ≤ 9 := by omega
  by_cases h0 : sI (n : Int) = "0"
  · have h0' := decide_eq_true h0
    walk_at "el e0 ec ea ei c1 c2 h0'"
  · have z : n ≠ 0 := fun e => h0 (sI_zero.mpr e)
    obtain ⟨c0, r, e, hc⟩ := numL_head n z
    have e2 : (sI (n : Int)).cps.toList = c0 :: r := by
      rw [← e, ← tl_sI]
    have ne : ¬ ((⟨#[c0]⟩ : Str) = "0") := fun z => hc (by
      have := congrArg tl z
      rw [tl_ofString] at this
      have e3 : tl (⟨#[c0]⟩ : Str) = [c0] := rfl
      rw [e3] at this
      exact (List.cons.inj this).1)
    have ex : gIxStr (D.str (sI (n : Int))) (D.int 0) = some (D.str ⟨#[c0]⟩) := by
      show (if (sI (n : Int)).length ≤ 16000000 then (atI (sI (n : Int)).cps.toList 0).map fun c => D.str ⟨#[c]⟩ else none) = _
      rw [if_pos (by omega), e2, atI_zero]
      rfl
    walk_at "el e0 ec ea ei c1 c2 h0 ex ne decide_eq_true_eq"
theorem are_lengths_eq {ls : List Int} (h : LenOk ls) : F_are_lengths [tupI ls] = some (.bl true) := by
  obtain ⟨h1, h2, h3, h4⟩ := h
  refine runD_rt rfl (e := [tupI ls, .non]) ?_
  have ec := lcD_map (tg := gName 1) (ft := fYes) (a := fCall (gFn 3 F_is_within) (fCons (fVar 1) (fCons (fC (.int 0)) (fCons (fC (.int 1000000)) fNil)))) (vs := [1]) (e := [tupI ls, .non]) D.int (fun _ => D.bl true) ls [] (fun l hm => by
    have e := is_within_eq (d := .int l) (lo := 0) (hi := 1000000) trivial
    have := h4 l hm
    have e4 : withinD (D.int l) 0 1000000 = true := by
      show (decide (0 ≤ l) && decide (l ≤ 1000000)) = true
      simp [this.1, this.2]
    walk_at "e e4") (by rw [List.length_nil]; omega)
  rw [List.nil_append] at ec
  have ea := all_true ls
  have ed := dedup_nd h3
  have es : hLsT (tupI ls) = some (.int ls.length) := by rw [hLsT_eq (by omega), ed]
  have c1 : (2 : Int) ≤ (ls.length : Int) := by omega
  have c2 : (ls.length : Int) ≤ 4 := by omega
  walk_at "ec ea es c1 c2"
theorem lengths_in_eq {ls : List Int} (h : LenOk ls) : F_lengths_in [.str (lineT ls)] = some (tupI ls) := by
  obtain ⟨h1, h2, h3, h4⟩ := h
  have hl := len_line ⟨h1, h2, h3, h4⟩
  have ew := words_in_eq (x := lineT ls) (by omega)
  rw [words_line fun l hm => (h4 l hm).1] at ew
  have ec : cutD ((("stage" : Str) :: ls.map sI).map D.str) (some 1) none = ls.map fun l => D.str (sI l) := by
    rw [List.map_cons, List.map_map]
    exact cut_tail _ _
  have e1 := lcD_map (tg := gName 3) (ft := fYes) (a := fCall (gFn 1 F_number_in) (fCons (fVar 3) fNil)) (vs := [3]) (e := [.str (lineT ls), .lst ((("stage" : Str) :: ls.map sI).map D.str), .non, .non]) (fun l => D.str (sI l)) D.int ls [] (fun l hm => by
    obtain ⟨n, e, _⟩ := sI_nat (h4 l hm).1
    subst e
    have e := number_in_eq (n := n) (by have := (h4 _ hm).2; omega)
    walk_at "e") (by rw [List.length_nil]; omega)
  rw [List.nil_append] at e1
  have e2 := are_lengths_eq ⟨h1, h2, h3, h4⟩
  refine runD_rt rfl (e := [.str (lineT ls), .lst ((("stage" : Str) :: ls.map sI).map D.str), tupI ls, .non]) ?_
  have e3 : atI ((("stage" : Str) :: ls.map sI).map D.str) 0 = some (D.str "stage") := by
    rw [List.map_cons]
    exact atI_zero _ _
  walk_at "ew ec e1 e2 e3"
end FB
namespace FB
open PySem L2 DL TL
theorem read_loop {t : D} : ∀ (st pre : Stg), pre.length + st.length ≤ 6 → (∀ ls ∈ st, LenOk ls) →
    fForD (gTup (gCons (gName 2) (gCons (gName 3) gNil))) L1_read_device (((List.range' pre.length st.length).zip st).map fun z => D.tup [.int (z.1 : Nat), .str (lineT z.2)]) [t, .lst (pre.map tupI), .non, .non, .non] = .nx [t, .lst ((pre ++ st).map tupI), .non, .non, .non]
  | [], pre, hl, hb => by
    rw [List.append_nil]
    rfl
  | ls :: st, pre, hl, hb => by
    rw [List.length_cons] at hl ⊢
    rw [List.range'_succ, List.zip_cons_cons, List.map_cons]
    have e1 := lengths_in_eq (hb ls List.mem_cons_self)
    have e2 : (pre.map tupI).length < 100000 := by rw [List.length_map]; omega
    have c : ((pre.length : Nat) : Int) < 6 := by omega
    rw [forD_nx (e2 := [t, .lst ((pre ++ [ls]).map tupI), .non, .non, .non])]
    · have ih := read_loop (t := t) st (pre ++ [ls]) (by simp only [List.length_append, List.length_cons, List.length_nil]; omega) (fun l hm => hb l (List.mem_cons_of_mem _ hm))
      rw [List.append_assoc, List.length_append] at ih
      exact ih
    · unfold L1_read_device
      walk_at "e1 e2 c"
      rw [List.map_append]
      rfl
theorem read_device_eq {st : Stg} (ok : StOkD st) : F_read_device [.str (devText st)] = some (stD st) := by
  have hne : st ≠ [] := by
    rintro rfl
    exact absurd ok.1 (by decide)
  have e1 := lines_in_eq (x := devText st) (by have := len_text ok; omega)
  rw [lines_text hne fun ls hm l h2 => ((ok.2.2 ls hm).2.2.2 l h2).1, List.map_map] at e1
  have e2 := read_loop (t := .str (devText st)) st [] (by have := ok.2.1; rw [List.length_nil]; omega) ok.2.2
  rw [List.nil_append] at e2
  have e3 : enumD (st.map (D.str ∘ lineT)) = (((List.range' ([] : Stg).length st.length).zip st).map fun z => D.tup [.int (z.1 : Nat), .str (lineT z.2)]) := by
    rw [show (D.str ∘ lineT) = fun ls => D.str (lineT ls) from rfl, enum_map, List.range_eq_range']
    rfl
  refine runD_rt rfl (e := [.str (devText st), .lst (st.map tupI), .non, .non, .non]) ?_
  rw [← e3, List.map_nil] at e2
  walk_at "e1 e2"
theorem dev_len_eq (st : Stg) : F_Device___len__ [devD st] = some (.int st.length) := by
  refine runD_rt rfl (e := [devD st]) ?_
  have e1 : subD (devD st) [("Device", "own_stages")] = some (stD st) := by rfl
  walk_at "e1"
theorem sum_of_eq {st : Stg} {row : List Int} (ok : IsRow st row) (h6 : st.length ≤ 6) : F_sum_of [stD st, tupI row] = some (.int (sumOf st row)) := by
  refine runD_rt rfl (e := [stD st, tupI row, .non, .non]) ?_
  have e1 := lcD_map (tg := gTup (gCons (gName 2) (gCons (gName 3) gNil))) (ft := fYes) (a := fOp gIx (fVar 2) (fVar 3)) (vs := [2, 3]) (e := [stD st, tupI row, .non, .non]) (fun z : List Int × Int => D.tup [tupI z.1, D.int z.2]) (fun z => D.int ((atI z.1 z.2).getD 0)) (st.zip row) [] (fun z hz => by
    obtain ⟨z0, z1⟩ := row_zip ok z hz
    have e := atI_ints z0 z1
    walk_at "e") (by rw [List.length_nil, List.length_zip]; omega)
  rw [← zipD_map, List.nil_append] at e1
  have e : (st.zip row).map (fun z => D.int ((atI z.1 z.2).getD 0)) = (lensOf st row).map D.int := by
    rw [← lens_zip, List.map_map]
    rfl
  rw [e] at e1
  have e2 : gInts nSum [.lst ((lensOf st row).map D.int)] = some (.int (sumOf st row)) := by rw [gInts_l, nSum_eq]; rfl
  walk_at "e1 e2"
/-- all rows -/
theorem all_in {t l : D} {ls : List Int} (h4 : ls.length ≤ 4) (rows acc : List (List Int)) (hc : acc.length + 4 * rows.length ≤ 50000) (hr : ∀ r ∈ rows, r.length ≤ 6) :
    fForD (gName 4) L1_all_rows (rows.map tupI) [t, l, tupI ls, .lst (acc.map tupI), .non, .non] = .nx [t, l, tupI ls, .lst ((acc ++ rowStep rows ls).map tupI), .non, .non] := by
  refine forD_acc tupI (fun acc : List (List Int) => [t, l, tupI ls, .lst (acc.map tupI), .non, .non]) (fun row => (List.range ls.length).map fun (k : Nat) => row ++ [(k : Int)]) 4 50000 rows acc (fun z hz => by rw [List.length_map, List.length_range]; exact h4) hc fun acc row hz ha => ?_
  have e1 := lcD_map (tg := gName 5) (ft := fYes) (a := fTup (fStar (fVar 4) (fCons (fVar 5) fNil))) (vs := [5]) (e := [t, l, tupI ls, .lst (acc.map tupI), tupI row, .non]) (fun (i : Nat) => D.int (i : Int)) (fun (i : Nat) => tupI (row ++ [(i : Int)])) (List.range ls.length) [] (fun i hi => by
    have hrow := hr row hz
    walk_at ""
    simp) (by rw [List.length_nil, List.length_range]; omega)
  rw [List.nil_append, ← rngD_zero] at e1
  have e2 : (acc.map tupI).length + ((List.range ls.length).map fun (i : Nat) => tupI (row ++ [(i : Int)])).length < 100000 := by
    rw [List.length_map, List.length_map, List.length_range]
    omega
  unfold L1_all_rows
  walk_at "e1 e2"
  simp
theorem all_loop {t : D} : ∀ (st : Stg) (rows : List (List Int)), (∀ ls ∈ st, LenOk ls) → rows.length * 4 ^ st.length ≤ 4096 → (∀ r ∈ rows, r.length + st.length ≤ 6) →
    fForD (gName 2) L2_all_rows (st.map tupI) [t, .lst (rows.map tupI), .non, .non, .non, .non] = .nx [t, .lst ((st.foldl rowStep rows).map tupI), .non, .non, .non, .non]
  | [], rows, hs, hc, hr => rfl
  | ls :: st, rows, hs, hc, hr => by
    obtain ⟨l1, l2, l3, l4⟩ := hs ls List.mem_cons_self
    have hc1 : rows.length ≤ 4096 := Nat.le_trans (Nat.le_mul_of_pos_right _ (Nat.pow_pos (by decide))) hc
    have hc2 : (rowStep rows ls).length * 4 ^ st.length ≤ 4096 := by
      rw [rowStep_count]
      refine Nat.le_trans (Nat.mul_le_mul_right _ (Nat.mul_le_mul_left rows.length l2)) ?_
      rw [List.length_cons, Nat.pow_succ] at hc
      rw [Nat.mul_assoc, Nat.mul_comm 4]
      exact hc
    have hr2 : ∀ r ∈ rowStep rows ls, r.length + st.length ≤ 6 := fun r hm => by
      obtain ⟨row, h1, h2⟩ := List.mem_flatMap.mp hm
      obtain ⟨k, _, rfl⟩ := List.mem_map.mp h2
      have := hr row h1
      simp only [List.length_append, List.length_cons, List.length_nil] at this ⊢
      omega
    rw [List.map_cons, List.foldl_cons, forD_nx (e2 := [t, .lst ((rowStep rows ls).map tupI), .non, .non, .non, .non])]
    · exact all_loop st _ (fun l hm => hs l (List.mem_cons_of_mem _ hm)) hc2 hr2
    · have e1 := all_in (t := t) (l := .lst (rows.map tupI)) l2 rows [] (by rw [List.length_nil]; omega) (fun r hm => by have := hr r hm; omega)
      rw [List.nil_append, List.map_nil] at e1
      unfold L2_all_rows
      walk_at "e1"
theorem all_rows_eq {st : Stg} (ok : StOkD st) : F_all_rows [stD st] = some (.lst ((allRows st).map tupI)) := by
  have e1 := all_loop (t := stD st) st [[]] ok.2.2 (by rw [List.length_cons, List.length_nil, Nat.one_mul]; exact Nat.le_trans (Nat.pow_le_pow_right (by decide) ok.2.1) (by decide)) (fun r hr => by
    rw [List.mem_singleton.mp hr, List.length_nil]
    have := ok.2.1
    omega)
  refine runD_rt rfl (e := [stD st, .lst ((allRows st).map tupI), .non, .non, .non, .non]) ?_
  have e2 : ([([] : List Int)].map tupI) = [D.tup []] := rfl
  rw [e2] at e1
  walk_at "e1"
  rfl
end FB
namespace FB
open PySem L2 DL TL
abbrev devA (st : Stg) (t : D) (a : List Int × List (List (List Int))) : D := .ins "Device" nsDev [stD st, t, dkD a]
theorem init_loop {st : Stg} {t : D} (h6 : st.length ≤ 6) : ∀ (rows : List (List Int)) (a : List Int × List (List (List Int))) (n : Nat), n + rows.length ≤ 5000 → (∀ r ∈ rows, IsRow st r) → a.1.length = a.2.length → a.1.length ≤ n → (∀ g ∈ a.2, g.length ≤ n) →
    fForD (gName 2) L1_Device___init__ (rows.map tupI) [devA st t a, t, .non] = .nx [devA st t (grp st rows a), t, .non]
  | [], a, n, hn, hr, hl, h1, h2 => rfl
  | row :: rows, a, n, hn, hr, hl, h1, h2 => by
    rw [List.length_cons] at hn
    have hrow := hr row List.mem_cons_self
    rw [List.map_cons]
    have e1 := sum_of_eq hrow h6
    have e0 : subD (devA st t a) [("Device", "own_stages")] = some (stD st) := by rfl
    have e2 : subD (devA st t a) [("Device", "own_rows")] = some (dkD a) := by rfl
    have ea : fCall (gFn 2 F_sum_of) (fCons (fGet 0 [("Device", "own_stages")]) (fCons (fVar 2) fNil)) [devA st t a, t, tupI row] = some (.int (sumOf st row), [devA st t a, t, tupI row]) := by
      walk_at "e0 e1"
    have key : tn (gName 2) L1_Device___init__ (tupI row) [devA st t a, t, .non] = .nx [devA st t (grpPut a.1 a.2 (sumOf st row) row), t, .non] := by
      cases e : ixA a.1 (sumOf st row) with
      | some j =>
        obtain ⟨j1, j2⟩ := ixA_lt e
        have j3 : j < a.2.length := by omega
        have e3 := ixA_inl a.1 (sumOf st row)
        rw [e] at e3
        rw [grpPut_some e j3]
        have es := w_sdApp_in (path := [("Device", "own_rows")]) (i := 0) (b := fVar 2) (v := tupI row) (e2 := [devA st t a, t, tupI row]) (xsv := a.2[j].map tupI) ea rfl e2 rfl (by rw [List.length_map]; omega) (by rw [List.length_map, List.length_map, hl]) e3 (by walk_at "") (by rw [List.getElem?_map, List.getElem?_eq_getElem j3]; rfl) (by rw [List.length_map]; have := h2 _ (List.getElem_mem j3); omega)
        unfold L1_Device___init__
        walk_at "es"
        simp only [devA, dkD, List.map_set, List.map_append]
        rfl
      | none =>
        have e3 := ixA_inl a.1 (sumOf st row)
        rw [e] at e3
        rw [grpPut_none e]
        have es := w_sdApp_new (path := [("Device", "own_rows")]) (i := 0) (b := fVar 2) (v := tupI row) (e2 := [devA st t a, t, tupI row].set 0 (putD (devA st t a) [("Device", "own_rows")] (.dk (a.1.map Sum.inl ++ [.inl (sumOf st row)]) (a.2.map (fun g => D.lst (g.map tupI)) ++ [.lst []])))) ea rfl e2 rfl (by rw [List.length_map]; omega) (by rw [List.length_map, List.length_map, hl]) e3 (by rfl)
        unfold L1_Device___init__
        walk_at "es"
        simp only [devA, dkD, List.map_append]
        rfl
    rw [forD_nx key]
    unfold grp
    refine init_loop h6 rows _ (n + 1) (by omega) (fun r hm => hr r (List.mem_cons_of_mem _ hm)) ?_ ?_ ?_
    · cases e : ixA a.1 (sumOf st row) with
      | some j =>
        obtain ⟨j1, j2⟩ := ixA_lt e
        rw [grpPut_some e (by omega)]
        show a.1.length = (a.2.set _ _).length
        rw [List.length_set]
        exact hl
      | none =>
        rw [grpPut_none e]
        simp only [List.length_append, hl]
        rfl
    · cases e : ixA a.1 (sumOf st row) with
      | some j =>
        obtain ⟨j1, j2⟩ := ixA_lt e
        rw [grpPut_some e (by omega)]
        show a.1.length ≤ n + 1
        omega
      | none =>
        rw [grpPut_none e]
        simp only [List.length_append, List.length_cons, List.length_nil]
        omega
    · cases e : ixA a.1 (sumOf st row) with
      | some j =>
        obtain ⟨j1, j2⟩ := ixA_lt e
        have j3 : j < a.2.length := by omega
        rw [grpPut_some e j3]
        intro g hg
        rcases List.mem_or_eq_of_mem_set hg with hg | rfl
        · have := h2 g hg
          omega
        · have := h2 _ (List.getElem_mem j3)
          simp only [List.length_append, List.length_cons, List.length_nil]
          omega
      | none =>
        rw [grpPut_none e]
        intro g hg
        rcases List.mem_append.mp hg with hg | hg
        · have := h2 g hg
          omega
        · rw [List.mem_singleton.mp hg, List.length_cons, List.length_nil]
          omega
theorem dev_init_eq {st : Stg} (ok : StOkD st) : F_Device___init__ [.ins "Device" [] [], .str (devText st)] = some (.non, devD st) := by
  have e1 := read_device_eq ok
  have e2 := all_rows_eq ok
  have hc := allRows_cnt ok
  have e3 := init_loop (t := .str (devText st)) ok.2.1 (allRows st) ([], []) 0 (by omega) (allRows_ok st) rfl (Nat.le_refl 0) (fun g hg => by cases hg)
  have f1 : ∀ v, fldD (.ins "Device" [] []) "own_stages" v = .ins "Device" ["own_stages"] [v] := fun v => by rfl
  have f2 : ∀ u v, fldD (.ins "Device" ["own_stages"] [u]) "own_text" v = .ins "Device" ["own_stages", "own_text"] [u, v] := fun u v => by rfl
  have f3 : ∀ u v w, fldD (.ins "Device" ["own_stages", "own_text"] [u, v]) "own_rows" w = .ins "Device" nsDev [u, v, w] := fun u v w => by rfl
  have f4 : subD (.ins "Device" nsDev [stD st, .str (devText st), .dk [] []]) [("Device", "own_stages")] = some (stD st) := by rfl
  have f5 : devA st (.str (devText st)) ([], []) = .ins "Device" nsDev [stD st, .str (devText st), .dk [] []] := rfl
  rw [f5] at e3
  refine runM_nx (e := [devD st, .str (devText st), .non]) rfl ?_ rfl
  walk_at "e1 e2 e3 f1 f2 f3 f4"
  rfl
theorem some_eq {tk : List D → Option (D × D)} (ht : TakeOk tk) {xs es : List D} {m c : Nat} (hm : m ≤ es.length) (he : es.length ≤ 1000) (hc : c + m < 1000000) (hp : Pot c xs) : ∃ fs xs', F__law_some tk [.lst xs, .lst es, .int (m : Nat)] = some (.lst fs, .lst xs') ∧ Drawn fs es m ∧ Pot (c + m) xs' := by
  have step : ∀ d ds e, (∃ (left found xs' : List D), e = [.lst xs', .lst es, .int (m : Nat), .lst left, .lst found, .non] ∧ (found ++ left).Perm es ∧ (d :: ds).length ≤ left.length ∧ found.length + (d :: ds).length = m ∧ Pot (c + found.length) xs') → ∃ e2, tn (gName 5) (L1__law_some tk) d e = .nx e2 ∧ ∃ (left found xs' : List D), e2 = [.lst xs', .lst es, .int (m : Nat), .lst left, .lst found, .non] ∧ (found ++ left).Perm es ∧ ds.length ≤ left.length ∧ found.length + ds.length = m ∧ Pot (c + found.length) xs' := by
    rintro d ds e ⟨left, found, xs', rfl, f1, f2, f3, f4⟩
    rw [List.length_cons] at f2 f3
    have fl := f1.length_eq
    rw [List.length_append] at fl
    obtain ⟨j, xs2, e1, j0, j1, hp2⟩ := ht xs' left.length (c + found.length) f4 (by omega) (by omega) (by omega)
    have e2 : left[j.toNat]? = some (left[j.toNat]'(by omega)) := List.getElem?_eq_getElem _
    have j2 : left.length ≤ 100000 := by omega
    refine ⟨[.lst xs2, .lst es, .int (m : Nat), .lst (left.eraseIdx j.toNat), .lst (found ++ [left[j.toNat]'(by omega)]), .non], ?_, left.eraseIdx j.toNat, found ++ [left[j.toNat]'(by omega)], xs2, rfl, ?_, ?_, ?_, ?_⟩
    · have fl2 : found.length < 100000 := by omega
      have ep := po1_at (i := 3) (e := [.lst xs2, .lst es, .int (m : Nat), .lst left, .lst found, d]) rfl j0 j1 j2 e2
      unfold L1__law_some
      walk_at "e1 ep"
    · rw [List.append_assoc]
      exact ((perm_erase e2).append_left found).trans f1
    · rw [List.length_eraseIdx]
      split <;> omega
    · rw [List.length_append, List.length_cons, List.length_nil]
      omega
    · rw [List.length_append, List.length_cons, List.length_nil]
      exact hp2
  obtain ⟨e', h1, h2⟩ := forD_inv (tg := gName 5) (fb := L1__law_some tk) (fun ds e => ∃ (left found xs' : List D), e = [.lst xs', .lst es, .int (m : Nat), .lst left, .lst found, .non] ∧ (found ++ left).Perm es ∧ ds.length ≤ left.length ∧ found.length + ds.length = m ∧ Pot (c + found.length) xs') step (rngD 0 m) [.lst xs, .lst es, .int (m : Nat), .lst es, .lst [], .non] ⟨es, [], xs, rfl, List.Perm.refl _, by rw [rngD_len]; exact hm, by rw [rngD_len, List.length_nil]; omega, hp⟩
  obtain ⟨left, found, xs', rfl, f1, f2, f3, f4⟩ := h2
  rw [List.length_nil] at f3
  refine ⟨found, xs', runMR_rt rfl (e := [.lst xs', .lst es, .int (m : Nat), .lst left, .non, .non]) ?_ rfl, ⟨by omega, left, f1⟩, f4.mono (by omega)⟩
  walk_at "h1"
end FB
namespace FB
open PySem L2 DL TL
theorem lengths_eq {tk : List D → Option (D × D)} (ht : TakeOk tk) {xs : List D} {most : Int} {z : Bool} {c : Nat} (m0 : 4 ≤ most) (m1 : most ≤ 900) (hc : c + 9 < 1000000) (hp : Pot c xs) :
    ∃ ls xs', F__law_lengths tk [.lst xs, .int most, .bl z] = some (lstI ls, .lst xs') ∧ LenM most ls ∧ Pot (c + 9) xs' := by
  obtain ⟨j, xs2, e1, j0, j1, hp2⟩ := ht xs 3 c hp (by decide) (by decide) (by omega)
  have em : minI most (1 + j + if (!z) = true then 1 else 0) = (((1 + j + if z then 0 else 1).toNat : Nat) : Int) := by
    unfold minI
    cases z <;> simp <;> omega
  have hm : (1 + j + if z then 0 else 1).toNat ≤ 4 := by cases z <;> simp <;> omega
  have hl : (rngD 1 most.toNat).length = most.toNat := rngD_len _ _
  obtain ⟨fs, xs3, e2, hd, hp3⟩ := some_eq ht (es := rngD 1 most.toNat) (m := (1 + j + if z then 0 else 1).toNat) (by rw [hl]; omega) (by rw [hl]; omega) (by omega) hp2
  rw [rngD_one] at hd
  obtain ⟨ks, rest, rfl, f2, f3⟩ := drawn_map hd
  have nd : (ks ++ rest).Nodup := f3.symm.nodup (rng_one_nodup _)
  have k1 := (List.nodup_append.mp nd).1
  have k2 : ∀ k ∈ ks, 1 ≤ k ∧ k ≤ most := fun k hk => by
    have := rng_one_mem (f3.mem_iff.mp (List.mem_append_left _ hk))
    omega
  have k3 : (if z then 1 else 2) ≤ ks.length := by
    rw [f2]
    cases z <;> simp <;> omega
  have k4 : ks.length ≤ (if z then 3 else 4) := by
    rw [f2]
    cases z <;> simp <;> omega
  have k5 : ks.length ≤ 4 := by cases z <;> simp at k4 <;> omega
  generalize hms : (ks ++ if z then [0] else []) = ms
  have ml : 2 ≤ ms.length ∧ ms.length ≤ 4 ∧ ms.Nodup ∧ ∀ l ∈ ms, 0 ≤ l ∧ l ≤ most := by
    subst hms
    cases z
    · simp at k3 k4 ⊢
      exact ⟨k3, k4, k1, fun l hl => by have := k2 l hl; omega⟩
    · simp at k3 k4 ⊢
      refine ⟨by omega, by omega, List.nodup_append.mpr ⟨k1, by simp, fun a ha b hb e => ?_⟩, fun l hl => ?_⟩
      · have := k2 a ha
        simp at hb
        omega
      · rcases hl with hl | rfl
        · have := k2 l hl
          omega
        · omega
  have hml : ms.length ≤ ks.length + 1 := by
    subst hms
    cases z <;> simp
  obtain ⟨gs, xs4, e3, hd2, hp4⟩ := some_eq ht (es := ms.map D.int) (m := ms.length) (by rw [List.length_map]; exact Nat.le_refl _) (by rw [List.length_map]; omega) (by omega) hp3
  obtain ⟨gs, rfl, q2⟩ := drawn_all hd2
  refine ⟨gs, xs4, runMR_rt rfl (e := [.lst xs4, .int most, .bl z, .lst (rngD 1 most.toNat), .lst (ms.map D.int), .non]) ?_ rfl, ⟨by rw [q2.length_eq]; exact ml.1, by rw [q2.length_eq]; exact ml.2.1, q2.symm.nodup ml.2.2.1, fun l hl => ml.2.2.2 l (q2.mem_iff.mp hl)⟩, hp4.mono (by omega)⟩
  have er : hLr2 [.int 1, .int (most + 1)] = some (.lst (rngD 1 most.toNat)) := by
    rw [hLr2_eq ⟨by omega, by omega, by omega, by omega, by omega⟩]
    rw [show most + 1 - 1 = most by omega]
  have ec := lcD_map (tg := gName 5) (ft := fYes) (a := fCall gInt (fCons (fVar 5) fNil)) (vs := [5]) (e := [.lst xs3, .int most, .bl z, .lst (rngD 1 most.toNat), .lst (ks.map D.int), .non]) D.int D.int ks [] (fun l hm => by walk_at "") (by rw [List.length_nil]; omega)
  rw [List.nil_append] at ec
  cases z
  · have e0 : ks = ms := by rw [← hms]; simp
    subst e0
    simp only [Bool.not_false, if_true, Bool.false_eq_true, if_false] at e2 em
    walk_at "e1 e2 e3 em er ec"
  · have e0 : ks.map D.int ++ [D.int 0] = ms.map D.int := by rw [← hms]; simp
    simp only [Bool.not_true, if_true, Bool.false_eq_true, if_false] at e2 em
    walk_at "e1 e2 e3 em er ec e0"
end FB
namespace FB
open PySem L2 DL TL
theorem fig_stages_eq {tk : List D → Option (D × D)} (ht : TakeOk tk) {xs : List D} {n c : Nat} (hn : n ≤ 6) (hc : c + n < 1000000) (hp : Pot c xs) :
    ∃ (st : Stg) (xs' : List D), F__law_figures_stages tk [.lst xs, .int (n : Nat)] = some (stL st, .lst xs') ∧ st.length = n ∧ (∀ ls ∈ st, LenOk ls) ∧ Pot (c + n) xs' := by
  have step : ∀ d ds e, (∃ (st : Stg) (xs' : List D) (m : Int), e = [.lst xs', .int (n : Nat), stL st, .int m, .non, .non, .non] ∧ st.length + (d :: ds).length = n ∧ (∀ ls ∈ st, LenOk ls) ∧ Pot (c + st.length) xs' ∧ 1 ≤ m ∧ m ≤ 4 ^ st.length) → ∃ e2, tn (gName 4) (L1__law_figures_stages tk) d e = .nx e2 ∧ ∃ (st : Stg) (xs' : List D) (m : Int), e2 = [.lst xs', .int (n : Nat), stL st, .int m, .non, .non, .non] ∧ st.length + ds.length = n ∧ (∀ ls ∈ st, LenOk ls) ∧ Pot (c + st.length) xs' ∧ 1 ≤ m ∧ m ≤ 4 ^ st.length := by
    rintro d ds e ⟨st, xs', m, rfl, f1, f2, f3, f4, f5⟩
    rw [List.length_cons] at f1
    have hm : m ≤ 1024 := by
      have h1 : (4 : Nat) ^ st.length ≤ 4 ^ 5 := Nat.pow_le_pow_right (by decide) (by omega)
      have h2 : ((4 : Int) ^ st.length) = ((4 ^ st.length : Nat) : Int) := by
        rw [Int.natCast_pow]
        rfl
      omega
    obtain ⟨dd, xs2, e1, hd, hp2⟩ := of_ok ht (es := [.int 0, .int 0, .int 0, .int 1, .int 2]) f3 (by simp) (by simp) (by omega)
    obtain ⟨b, rfl, b0, b1⟩ : ∃ b, dd = .int b ∧ 0 ≤ b ∧ b ≤ 2 := by
      simp only [List.mem_cons, List.not_mem_nil, or_false] at hd
      rcases hd with rfl | rfl | rfl | rfl | rfl <;> exact ⟨_, rfl, by decide⟩
    have e2 := lcD_map (tg := gName 6) (ft := fYes) (a := fCall gInt (fCons (fOp gMul (fVar 6) (fVar 3)) fNil)) (vs := [6]) (e := [.lst xs2, .int (n : Nat), stL st, .int m, d, .int (2 + b), .non]) (fun (i : Nat) => D.int (i : Int)) (fun (i : Nat) => D.int ((i : Int) * m)) (List.range (2 + b).toNat) [] (fun i hi => by
      have := List.mem_range.mp hi
      have i0 : (0 : Int) ≤ (i : Int) := by omega
      have i1 : (i : Int) < 18446744073709551616 := by omega
      walk_at "gMul_l") (by rw [List.length_nil, List.length_range]; omega)
    rw [List.nil_append, ← rngD_zero] at e2
    have c1 : 0 ≤ 2 + b ∧ 2 + b ≤ 16777216 := by omega
    have c2 : 0 ≤ m := by omega
    have c3 : m < 18446744073709551616 := by omega
    have c4 : (st.map lstI).length < 100000 := by rw [List.length_map]; omega
    refine ⟨[.lst xs2, .int (n : Nat), stL (st ++ [(List.range (2 + b).toNat).map fun (i : Nat) => (i : Int) * m]), .int (m * (2 + b)), .non, .non, .non], ?_, st ++ [(List.range (2 + b).toNat).map fun (i : Nat) => (i : Int) * m], xs2, m * (2 + b), rfl, ?_, fun ls hl => ?_, ?_, ?_, ?_⟩
    · have c5 := c1.1
      have c6 := c1.2
      unfold L1__law_figures_stages
      walk_at "e1 e2 c4 gMul_l"
      simp only [stL, List.map_append, List.map_cons, List.map_nil, lstI, List.map_map]
      rfl
    · rw [List.length_append, List.length_cons, List.length_nil]
      omega
    · rcases List.mem_append.mp hl with hl | hl
      · exact f2 ls hl
      · rw [List.mem_singleton.mp hl]
        exact mulSt_ok (by omega) (by omega) f4 hm
    · rw [List.length_append, List.length_cons, List.length_nil]
      exact hp2
    · have := Int.mul_pos (show 0 < m by omega) (show 0 < 2 + b by omega)
      omega
    · rw [List.length_append, List.length_cons, List.length_nil, Int.pow_succ]
      exact Int.mul_le_mul f5 (by omega) (by omega) (by have : (0 : Int) < 4 ^ st.length := Int.pow_pos (by decide); omega)
  obtain ⟨e', h1, st, xs', m, rfl, f1, f2, f3, _, _⟩ := forD_inv (tg := gName 4) (fb := L1__law_figures_stages tk) (fun ds e => ∃ (st : Stg) (xs' : List D) (m : Int), e = [.lst xs', .int (n : Nat), stL st, .int m, .non, .non, .non] ∧ st.length + ds.length = n ∧ (∀ ls ∈ st, LenOk ls) ∧ Pot (c + st.length) xs' ∧ 1 ≤ m ∧ m ≤ 4 ^ st.length) step (rngD 0 n) [.lst xs, .int (n : Nat), stL [], .int 1, .non, .non, .non] ⟨[], xs, 1, rfl, by rw [rngD_len, List.length_nil]; omega, (fun ls hm => by cases hm), hp, by decide, by decide⟩
  rw [List.length_nil] at f1
  refine ⟨st, xs', runMR_rt rfl (e := [.lst xs', .int (n : Nat), .non, .int m, .non, .non, .non]) ?_ rfl, by omega, f2, f3.mono (by omega)⟩
  have h0 : stL [] = D.lst [] := rfl
  rw [h0] at h1
  walk_at "h1"
theorem device_eq {tk : List D → Option (D × D)} (ht : TakeOk tk) {xs : List D} {stages c : Nat} {most : Int} (s0 : 1 ≤ stages) (s1 : stages ≤ 6) (m0 : 4 ≤ most) (m1 : most ≤ 900) (hc : c + 70 < 1000000) (hp : Pot c xs) :
    ∃ (st : Stg) (xs' : List D), F__law_device tk [.lst xs, .int (stages : Nat), .int most] = some (stL st, .lst xs') ∧ StOkD st ∧ st.length ≤ stages ∧ Pot (c + 70) xs' := by
  obtain ⟨j, xs1, e1, j0, j1, hp1⟩ := ht xs (stages : Nat) c hp (by omega) (by omega) (by omega)
  obtain ⟨w, xs2, e2, w0, w1, hp2⟩ := ht xs1 6 (c + 1) hp1 (by omega) (by omega) (by omega)
  obtain ⟨n, hn⟩ : ∃ n : Nat, 1 + j = (n : Int) := ⟨(1 + j).toNat, by omega⟩
  have n1 : 1 ≤ n := by omega
  have n2 : n ≤ stages := by omega
  have fin : ∀ (st : Stg) (xs4 : List D), (∃ e, B__law_device tk [.lst xs, .int (stages : Nat), .int most, .non, .non, .non, .non, .non] = .rt (stL st) (.lst xs4 :: e)) → st.length = n → (∀ ls ∈ st, LenOk ls) → Pot (c + 70) xs4 →
      ∃ (st : Stg) (xs' : List D), F__law_device tk [.lst xs, .int (stages : Nat), .int most] = some (stL st, .lst xs') ∧ StOkD st ∧ st.length ≤ stages ∧ Pot (c + 70) xs' := fun st xs4 ⟨e, h1⟩ h2 h3 h4 =>
    ⟨st, xs4, runMR_rt rfl h1 rfl, ⟨by omega, by omega, h3⟩, by omega, h4⟩
  by_cases hw : w < 4
  · obtain ⟨st, xs3, e3, g1, g2, hp3⟩ := fig_stages_eq ht (n := n) (c := c + 2) (by omega) (by omega) hp2
    rcases (show w = 0 ∨ w = 1 ∨ w = 2 ∨ w = 3 by omega) with rfl | rfl | rfl | rfl
    · refine fin st xs3 ⟨[.int (stages : Nat), .int most, .int (n : Nat), .int 0, .non, .non, .non], ?_⟩ g1 g2 (hp3.mono (by omega))
      walk_at "e1 e2 e3 hn"
    · obtain ⟨fs, xs4, e4, hd, hp4⟩ := some_eq ht (es := st.map lstI) (m := n) (by rw [List.length_map]; omega) (by rw [List.length_map]; omega) (by omega) hp3
      rw [← g1] at hd
      obtain ⟨gs, rfl, q⟩ := drawn_all hd
      refine fin gs xs4 ⟨[.int (stages : Nat), .int most, .int (n : Nat), .int 1, .non, .non, .non], ?_⟩ (by rw [q.length_eq, g1]) (fun ls hl => g2 ls (q.mem_iff.mp hl)) (hp4.mono (by omega))
      walk_at "e1 e2 e3 e4 hn"
    · have lp := lcD_inv (tg := gName 7) (ft := fYes) (vs := [7]) (a := fCallM 3 0 (F__law_some tk) (fCons (fVar 7) (fCons (fCall gLen (fCons (fVar 7) fNil)) fNil))) (fun ds acc e => ∃ (gs : Stg) (xs4 : List D), acc = gs.map lstI ∧ (∀ ls ∈ gs, LenOk ls) ∧ Pot (c + 8 + 4 * gs.length) xs4 ∧ gs.length + ds.length = n ∧ (∀ d ∈ ds, d ∈ st.map lstI) ∧ e = [.lst xs4, .int (stages : Nat), .int most, .int (n : Nat), .int 2, stL st, .non, .non]) ?_ ?_ (st.map lstI) [] [.lst xs3, .int (stages : Nat), .int most, .int (n : Nat), .int 2, stL st, .non, .non] ⟨[], xs3, rfl, (fun ls hl => by cases hl), hp3.mono (by omega), by rw [List.length_nil, List.length_map]; omega, fun d hd => hd, rfl⟩
      · obtain ⟨acc', e', e4, gs, xs4, rfl, q1, q2, q3, q4, rfl⟩ := lp
        rw [List.length_nil] at q3
        refine fin gs xs4 ⟨[.int (stages : Nat), .int most, .int (n : Nat), .int 2, .non, .non, .non], ?_⟩ (by omega) q1 (q2.mono (by omega))
        walk_at "e1 e2 e3 e4 hn"
      · rintro ds acc e ⟨gs, xs4, rfl, q1, q2, q3, q4, rfl⟩
        rw [List.length_map]
        omega
      · rintro d ds acc e ⟨gs, xs4, rfl, q1, q2, q3, q4, rfl⟩
        rw [List.length_cons] at q3
        obtain ⟨ls, hls, rfl⟩ := List.mem_map.mp (q4 d List.mem_cons_self)
        have hok := g2 ls hls
        obtain ⟨fs, xs5, e5, hd, hp5⟩ := some_eq ht (es := ls.map D.int) (m := ls.length) (by rw [List.length_map]; omega) (by rw [List.length_map]; have := hok.2.1; omega) (by have := hok.2.1; omega) q2
        obtain ⟨ms, rfl, q⟩ := drawn_all hd
        refine ⟨some (lstI ms), _, ?_, gs ++ [ms], xs5, ?_, fun x hx => ?_, hp5.mono ?_, ?_, fun d hd => q4 d (List.mem_cons_of_mem _ hd), rfl⟩
        · walk_at "e5"
        · rw [List.map_append]
          rfl
        · rcases List.mem_append.mp hx with hx | hx
          · exact q1 x hx
          · rw [List.mem_singleton.mp hx]
            exact hok.perm q
        · have := hok.2.1
          rw [List.length_append, List.length_cons, List.length_nil]
          omega
        · rw [List.length_append, List.length_cons, List.length_nil]
          omega
    · obtain ⟨ls, xs4, e4, hls, hp4⟩ := lengths_eq ht (z := true) (c := c + 2 + n) m0 m1 (by omega) hp3
      obtain ⟨k, xs5, e5, k0, k1, hp5⟩ := ht xs4 (n : Nat) (c + 2 + n + 9) hp4 (by omega) (by omega) (by omega)
      have ej : ixN (st.map lstI).length k = some k.toNat := by
        unfold ixN
        rw [if_pos k0, if_pos (by rw [List.length_map]; omega)]
      have ept : pt3 5 (lstI ls) k [.lst xs5, .int (stages : Nat), .int most, .int (n : Nat), .int 3, stL st, .non, .non] (some (stL st)) = .nx [.lst xs5, .int (stages : Nat), .int most, .int (n : Nat), .int 3, stL (st.set k.toNat ls), .non, .non] := by
        show (match ixN (st.map lstI).length k with | some j => _ | none => _) = _
        rw [ej]
        simp only [stL, List.map_set]
        rfl
      refine fin (st.set k.toNat ls) xs5 ⟨[.int (stages : Nat), .int most, .int (n : Nat), .int 3, .non, .non, .non], ?_⟩ (by rw [List.length_set, g1]) (fun x hx => ?_) (hp5.mono (by omega))
      · walk_at "e1 e2 e3 e4 e5 hn ept"
      · rcases List.mem_or_eq_of_mem_set hx with hx | rfl
        · exact g2 x hx
        · exact hls.ok (by omega)
  · have lp := lcD_inv (tg := gName 6) (ft := fYes) (vs := [6]) (a := fCallM 3 0 (F__law_lengths tk) (fCons (fVar 2) (fCons (fOrV (fOp (gEq false) (fVar 4) (fC (.int 4))) (fOp gGt (fCallM 2 0 tk (fCons (fC (.int 4)) fNil)) (fC (.int 0)))) fNil))) (fun ds acc e => ∃ (gs : Stg) (xs4 : List D), acc = gs.map lstI ∧ (∀ ls ∈ gs, LenOk ls) ∧ Pot (c + 2 + 10 * gs.length) xs4 ∧ gs.length + ds.length = n ∧ e = [.lst xs4, .int (stages : Nat), .int most, .int (n : Nat), .int w, .non, .non, .non]) ?_ ?_ (rngD 0 n) [] [.lst xs2, .int (stages : Nat), .int most, .int (n : Nat), .int w, .non, .non, .non] ⟨[], xs2, rfl, (fun ls hl => by cases hl), hp2, by rw [List.length_nil, rngD_len]; omega, rfl⟩
    · obtain ⟨acc', e', e4, gs, xs4, rfl, q1, q2, q3, rfl⟩ := lp
      rw [List.length_nil] at q3
      refine fin gs xs4 ⟨[.int (stages : Nat), .int most, .int (n : Nat), .int w, .non, .non, .non], ?_⟩ (by omega) q1 (q2.mono (by omega))
      walk_at "e1 e2 e4 hn hw"
    · rintro ds acc e ⟨gs, xs4, rfl, q1, q2, q3, rfl⟩
      rw [List.length_map]
      omega
    · rintro d ds acc e ⟨gs, xs4, rfl, q1, q2, q3, rfl⟩
      rw [List.length_cons] at q3
      have fin2 : ∀ (z : Bool) (xs5 : List D), Pot (c + 3 + 10 * gs.length) xs5 → (∀ ls xs6, F__law_lengths tk [.lst xs5, .int most, .bl z] = some (lstI ls, .lst xs6) → ltn (gName 6) fYes (fCallM 3 0 (F__law_lengths tk) (fCons (fVar 2) (fCons (fOrV (fOp (gEq false) (fVar 4) (fC (.int 4))) (fOp gGt (fCallM 2 0 tk (fCons (fC (.int 4)) fNil)) (fC (.int 0)))) fNil))) [6] d [.lst xs4, .int (stages : Nat), .int most, .int (n : Nat), .int w, .non, .non, .non] = some (some (lstI ls), [.lst xs6, .int (stages : Nat), .int most, .int (n : Nat), .int w, .non, .non, .non])) →
          ∃ o e2, ltn (gName 6) fYes (fCallM 3 0 (F__law_lengths tk) (fCons (fVar 2) (fCons (fOrV (fOp (gEq false) (fVar 4) (fC (.int 4))) (fOp gGt (fCallM 2 0 tk (fCons (fC (.int 4)) fNil)) (fC (.int 0)))) fNil))) [6] d [.lst xs4, .int (stages : Nat), .int most, .int (n : Nat), .int w, .non, .non, .non] = some (o, e2) ∧ ∃ (gs' : Stg) (xs4 : List D), (match o with | some r => gs.map lstI ++ [r] | none => gs.map lstI) = gs'.map lstI ∧ (∀ ls ∈ gs', LenOk ls) ∧ Pot (c + 2 + 10 * gs'.length) xs4 ∧ gs'.length + ds.length = n ∧ e2 = [.lst xs4, .int (stages : Nat), .int most, .int (n : Nat), .int w, .non, .non, .non] := fun z xs5 hp5 hh => by
        obtain ⟨ls, xs6, e6, hls, hp6⟩ := lengths_eq ht (z := z) (c := c + 3 + 10 * gs.length) m0 m1 (by omega) hp5
        refine ⟨_, _, hh ls xs6 e6, gs ++ [ls], xs6, ?_, fun x hx => ?_, hp6.mono ?_, ?_, rfl⟩
        · rw [List.map_append]
          rfl
        · rcases List.mem_append.mp hx with hx | hx
          · exact q1 x hx
          · rw [List.mem_singleton.mp hx]
            exact hls.ok (by omega)
        · rw [List.length_append, List.length_cons, List.length_nil]
          omega
        · rw [List.length_append, List.length_cons, List.length_nil]
          omega
      rcases (show w = 4 ∨ w = 5 by omega) with rfl | rfl
      · exact fin2 true xs4 (q2.mono (by omega)) fun ls xs6 e6 => by walk_at "e6"
      · obtain ⟨k, xs5, e5, k0, k1, hp5⟩ := ht xs4 4 (c + 2 + 10 * gs.length) q2 (by decide) (by decide) (by omega)
        by_cases hk : 0 < k
        · exact fin2 true xs5 (hp5.mono (by omega)) fun ls xs6 e6 => by walk_at "e5 e6 hk"
        · exact fin2 false xs5 (hp5.mono (by omega)) fun ls xs6 e6 => by walk_at "e5 e6 hk"
end FB
namespace FB
open PySem L2 DL TL
theorem join_eq2 {x : Str} {xs : List Str} (h : (xs.map (·.length)).sum + xs.length * x.length ≤ 1000000) : gJoin x (.lst (xs.map D.str)) = some (.str (Txt.join x xs)) := by
  unfold gJoin
  show ((strsD (xs.map D.str)).bind _) = _
  rw [strsD_map]
  exact if_pos h
theorem law_text_eq {st : Stg} (ok : StOkD st) : F__law_device_text [stL st] = some (.str (devText st)) := by
  obtain ⟨o1, o2, o3⟩ := ok
  refine runD_rt rfl (e := [stL st, .non, .non]) ?_
  have e1 := lcD_map (tg := gName 1) (ft := fYes) (a := fM1 gJoin (fC (.str " ")) (fOp gCatL (fLst (fCons (fC (.str "stage")) fNil)) (fLc (fItL (fVar 1)) (gName 2) fYes (fCall gStrI (fCons (fCall gInt (fCons (fVar 2) fNil)) fNil)) [2]))) (vs := [1]) (e := [stL st, .non, .non]) lstI (fun ls => D.str (lineT ls)) st [] (fun z hz => by
    obtain ⟨z1, z2, z3, z4⟩ := o3 z hz
    have e2 := lcD_map (tg := gName 2) (ft := fYes) (a := fCall gStrI (fCons (fCall gInt (fCons (fVar 2) fNil)) fNil)) (vs := [2]) (e := [stL st, lstI z, .non]) D.int (fun l => D.str (sI l)) z [] (fun l hm => by
      have := z4 l hm
      have c1 : -1000000000000000000000000000000000000000000000000000000000000 < l := by omega
      have c2 : l < 1000000000000000000000000000000000000000000000000000000000000 := by omega
      have e := gStrI_i c1 c2
      walk_at "e") (by rw [List.length_nil]; omega)
    rw [List.nil_append] at e2
    have e3 : (z.map fun l => D.str (sI l)).length = z.length := List.length_map _
    have e4 : gJoin " " (.lst (D.str "stage" :: z.map fun l => D.str (sI l))) = some (.str (lineT z)) := by
      rw [show (D.str ("stage" : Str) :: z.map fun l => D.str (sI l)) = (("stage" : Str) :: z.map sI).map D.str by rw [List.map_cons, List.map_map]; rfl]
      refine join_eq2 ?_
      have hb : ∀ x ∈ ("stage" : Str) :: z.map sI, x.length ≤ 10 := fun x hx => by
        rcases List.mem_cons.mp hx with rfl | hx
        · decide +kernel
        · obtain ⟨l, hm, rfl⟩ := List.mem_map.mp hx
          obtain ⟨n, rfl, _⟩ := sI_nat (z4 l hm).1
          exact len_sI (by decide) (by have := (z4 _ hm).2; omega)
      have := sum_len_le hb
      rw [show (" " : Str).length = 1 by decide +kernel]
      simp only [List.length_cons, List.length_map] at this ⊢
      omega
    have e5 : gCatL (.lst [D.str "stage"]) (.lst (z.map fun l => D.str (sI l))) = some (.lst (D.str "stage" :: z.map fun l => D.str (sI l))) := gCatL_ll (by rw [e3, List.length_cons, List.length_nil]; omega)
    walk_at "e2 e5 e4") (by rw [List.length_nil]; omega)
  rw [List.nil_append] at e1
  have e2 : gJoin "\n" (.lst (st.map fun ls => D.str (lineT ls))) = some (.str (devText st)) := by
    rw [show (st.map fun ls => D.str (lineT ls)) = (st.map lineT).map D.str by rw [List.map_map]; rfl]
    refine join_eq2 ?_
    have hb : ∀ x ∈ st.map lineT, x.length ≤ 100 := fun x hx => by
      obtain ⟨ls, hm, rfl⟩ := List.mem_map.mp hx
      exact len_line (o3 ls hm)
    have := sum_len_le hb
    rw [show ("\n" : Str).length = 1 by decide +kernel]
    simp only [List.length_map] at this ⊢
    omega
  walk_at "e1 e2"
end FB
namespace FB
open PySem L2 DL TL
abbrev A_Device_stages : AS := (aRet (aGet 0 [("Device", "own_stages")]))
abbrev B_Device_stages : FS := (fRet (fGet 0 [("Device", "own_stages")]))
theorem ss_Device_stages : SS false (K0D 1 1) A_Device_stages B_Device_stages [] [] [] .pu .ju :=
  (ss_ret (se_getP rfl) rfl (.inl rfl))
def F_Device_stages : List D → Option D := runD 1 1 B_Device_stages
abbrev S_Device_stages : ARC := lowD .pu F_Device_stages
theorem law_Device_stages : ∀ ds Q, ds.length = 1 → S_Device_stages ds Q → A_Device_stages (endsD Q) (startS 1 (ds.map .pu)) := lawD ss_Device_stages rfl
/-- a rule of a device -/
def RuleOk (st : Stg) (rows : List (List Int)) : Prop := ∀ (i : Nat) (r : List Int), rows[i]? = some r → IsRow st r ∧ sumOf st r = (i : Int)
theorem RuleOk.row {st : Stg} {rows : List (List Int)} (h : RuleOk st rows) : ∀ r ∈ rows, IsRow st r := fun r hr => by
  obtain ⟨i, hi⟩ := List.getElem?_of_mem hr
  exact (h i r hi).1
theorem stages_eq (st : Stg) : F_Device_stages [devD st] = some (stD st) := by
  refine runD_rt rfl (e := [devD st]) ?_
  have e1 : subD (devD st) [("Device", "own_stages")] = some (stD st) := by rfl
  walk_at "e1"
theorem lenOwn_dev {st : Stg} (h6 : st.length ≤ 6) : gLenOwn "Device" F_Device___len__ [devD st] = some (.int st.length) := gLenOwn_eq (dev_len_eq st) (by omega) (by omega)
end FB
namespace FB
open PySem L2 DL TL
end FB
namespace FB
open PySem L2 DL TL
end FB
namespace FB
open PySem L2 DL TL
end FB
namespace FB
open PySem L2 DL TL
theorem RuleOk.take {st : Stg} {rows : List (List Int)} (h : RuleOk st rows) (k : Nat) : RuleOk st (rows.take k) := fun i r e => by
  rw [List.getElem?_take] at e
  split at e
  · exact h i r e
  · cases e
/-- a drawn device and a rule of its -/
structure Ruled (stages size : Nat) (st : Stg) (rule : List (List Int)) : Prop where
  ok : StOkD st
  le : st.length ≤ max stages 2
  rok : RuleOk st rule
  r1 : 1 ≤ rule.length
  r2 : rule.length ≤ size + 1
end FB
namespace FB
open PySem L2 DL TL
/-- laws of the shape: all([_law_right(_law_pot(script, place)) for place in _law_cells(script, m)]) -/
theorem law_main {right : List D → Option (D × D)} {c0 c1 c2 c3 c4 m : Int} (h0 : 0 ≤ c0) (h0' : c0 ≤ 1000000) (h2 : 0 ≤ c2) (h2' : c2 ≤ 1000000) (h3 : 0 ≤ c3) (h3' : c3 ≤ 1000000) (h4 : 0 ≤ c4) (m1 : 1 ≤ m) (m2 : m ≤ 100)
    (hr : ∀ xs, Pot 0 xs → ∃ xs', right [.lst xs] = some (.bl true, .lst xs')) {ns : List Int} (hn : ns.length ≤ 63) :
    runD 1 2 (fRet (fCall (gBls fun bs => bs.all id) (fCons (fLc (fItL (fCall (gFn 2 F__law_cells) (fCons (fVar 0) (fCons (fC (.int m)) fNil)))) (gName 1) fYes (fCallT 1 right (fCall (gFn 2 (F__law_pot c0 c1 c2 c3 c4)) (fCons (fVar 0) (fCons (fVar 1) fNil))) fNil) [1]) fNil))) [.scr (ns.map D.int)] = some (.bl true) := by
  obtain ⟨k, hk, e1⟩ := cells_ok m1 m2 hn
  refine runD_rt rfl (e := [.scr (ns.map D.int), .non]) ?_
  walk_at "e1 rngD_zero"
  rw [lcD_map (fun (i : Nat) => D.int (i : Int)) (fun _ => D.bl true) (List.range k) [] (fun i hi => by
    have hi := List.mem_range.mp hi
    obtain ⟨xs, e2, hp⟩ := pot_ok (c0 := c0) (c1 := c1) (c2 := c2) (c3 := c3) (c4 := c4) (ns := ns) (i := (i : Int)) h0 h2 h2' h3 h3' h4 (by omega) (by omega) hn h0'
    obtain ⟨xs', e3⟩ := hr xs hp
    walk_at "e2 e3") (by rw [List.length_nil, List.length_range]; omega)]
  rw [show ((List.range k).map fun _ => D.bl true) = ((List.range k).map fun _ => true).map D.bl by rw [List.map_map]; rfl]
  have e3 : (((List.range k).map fun _ => true).all id) = true := by
    rw [List.all_eq_true]
    intro x hx
    obtain ⟨_, _, rfl⟩ := List.mem_map.mp hx
    rfl
  walk_at "e3"
theorem any_map {α : Type} (f : α → Bool) (l : List α) : (l.map f).any id = l.any f := by
  rw [List.any_map]
  rfl
end FB
namespace FB
open PySem L2 DL TL
mutual
theorem shB_of : ∀ (k : Nat) (d : D), shD k d → shB k d = true := fun k d h => by
  cases d <;> simp only [shD] at h <;> first | exact h.elim | skip
  all_goals simp only [shB, Bool.and_eq_true, decide_eq_true_eq]
  all_goals first | exact h | exact ⟨h.1, shBA_of _ _ h.2⟩ | skip
theorem shBA_of : ∀ (k : Nat) (ds : List D), shA k ds → shBA k ds = true := fun k ds h => by
  cases ds with
  | nil => rfl
  | cons d ds =>
    simp only [shA] at h
    simp only [shBA, Bool.and_eq_true]
    exact ⟨shB_of _ _ h.1, shBA_of _ _ h.2⟩
end
theorem gRepr_of {d : D} (h : shD 40 d ∧ sizD d ≤ 200000) : gRepr [d] = some (.str (rpD d)) := gRepr_eq (shB_of _ _ h.1) h.2
end FB
namespace FB
open PySem L2 DL TL
abbrev A_Device_text : AS := (aRet (aGet 0 [("Device", "own_text")]))
abbrev B_Device_text : FS := (fRet (fGet 0 [("Device", "own_text")]))
theorem ss_Device_text : SS false (K0D 1 1) A_Device_text B_Device_text [] [] [] .pu .ju :=
  (ss_ret (se_getP rfl) rfl (.inl rfl))
def F_Device_text : List D → Option D := runD 1 1 B_Device_text
abbrev S_Device_text : ARC := lowD .pu F_Device_text
theorem law_Device_text : ∀ ds Q, ds.length = 1 → S_Device_text ds Q → A_Device_text (endsD Q) (startS 1 (ds.map .pu)) := lawD ss_Device_text rfl
abbrev A_device_text : AS := (aSeq (aIfS (aOr (aNot (aTest (aIsi .tuple (aVar 0)))) (aNot (aTest (aChain aLe aLe (aC (.int 1)) (aCall aLen (aCons (aVar 0) aNil)) (aC (.int 6)))))) aNev aNext)
  (aSeq (aIfS (aNot (aTest (aCall (aBls fun bs => bs.all id) (aCons (aLc (aItT (aVar 0)) (agName 1) aYes (aCall (aFn 1 S_are_lengths) (aCons (aVar 1) aNil)) [1]) aNil)))) aNev aNext)
  (aRet (aM1 fJoin (aC (.str "\n")) (aLc (aItT (aVar 0)) (agName 1) aYes (aM1 fJoin (aC (.str " ")) (aLst (aCons (aC (.str "stage")) (aStar (aLc (aItT (aVar 1)) (agName 2) aYes (aCall aStrI (aCons (aVar 2) aNil)) [2]) aNil)))) [1])))))
abbrev B_device_text : FS := (fSeq (fIfS (fOr (fNot (fTest (fIsi .tuple (fVar 0)))) (fNot (fTest (fChain gLe gLe (fC (.int 1)) (fCall gLen (fCons (fVar 0) fNil)) (fC (.int 6)))))) fNev fNext)
  (fSeq (fIfS (fNot (fTest (fCall (gBls fun bs => bs.all id) (fCons (fLc (fItT (fVar 0)) (gName 1) fYes (fCall (gFn 1 F_are_lengths) (fCons (fVar 1) fNil)) [1]) fNil)))) fNev fNext)
  (fRet (fM1 gJoin (fC (.str "\n")) (fLc (fItT (fVar 0)) (gName 1) fYes (fM1 gJoin (fC (.str " ")) (fLst (fCons (fC (.str "stage")) (fStar (fLc (fItT (fVar 1)) (gName 2) fYes (fCall gStrI (fCons (fVar 2) fNil)) [2]) fNil)))) [1])))))
theorem ss_device_text : SS false (K0D 1 3) A_device_text B_device_text [] [] [] .pu .ju :=
  (ss_seq (ss_if (Kn := [.pu, .ju, .ju]) (st_or (st_not (st_test (se_isi (se_var rfl)))) (st_not (st_test (se_chain v_b v_b se_c (se_call vc_len (sa_cons (se_var rfl) sa_nil)) se_c)))) ss_nev ss_next)
  (ss_seq (ss_if (Kn := [.pu, .ju, .ju]) (st_not (st_test (se_call vc_bls (sa_cons (se_lc [.pu, .ju, .ju] (si_t (se_var rfl)) rfl (sg_name (k0 := .ju) rfl) st_yes (se_call vc_fn (sa_cons (se_var rfl) sa_nil)) rfl rfl) sa_nil)))) ss_nev ss_next)
  (ss_ret (se_m1 v_join se_c (se_lc [.pu, .ju, .ju] (si_t (se_var rfl)) rfl (sg_name (k0 := .ju) rfl) st_yes (se_m1 v_join se_c (se_lst (sa_cons se_c (sa_star (se_lc [.pu, .pu, .ju] (si_t (se_var rfl)) rfl (sg_name (k0 := .ju) rfl) st_yes (se_call vc_strI (sa_cons (se_var rfl) sa_nil)) rfl rfl) sa_nil)))) rfl rfl)) rfl (.inl rfl))))
def F_device_text : List D → Option D := runD 1 3 B_device_text
abbrev S_device_text : ARC := lowD .pu F_device_text
theorem law_device_text : ∀ ds Q, ds.length = 1 → S_device_text ds Q → A_device_text (endsD Q) (startS 3 (ds.map .pu)) := lawD ss_device_text rfl
theorem dev_text_eq (st : Stg) : F_Device_text [devD st] = some (.str (devText st)) := by
  refine runD_rt rfl (e := [devD st]) ?_
  have e1 : subD (devD st) [("Device", "own_text")] = some (.str (devText st)) := by rfl
  walk_at "e1"
theorem device_text_eq {st : Stg} (ok : StOkD st) : F_device_text [stD st] = some (.str (devText st)) := by
  obtain ⟨o1, o2, o3⟩ := ok
  refine runD_rt rfl (e := [stD st, .non, .non]) ?_
  have e0 := lcD_map (tg := gName 1) (ft := fYes) (a := fCall (gFn 1 F_are_lengths) (fCons (fVar 1) fNil)) (vs := [1]) (e := [stD st, .non, .non]) tupI (fun _ => D.bl true) st [] (fun z hz => by
    have e := are_lengths_eq (o3 z hz)
    walk_at "e") (by rw [List.length_nil]; omega)
  rw [List.nil_append] at e0
  have ea := all_true st
  have e1 := lcD_map (tg := gName 1) (ft := fYes) (a := fM1 gJoin (fC (.str " ")) (fLst (fCons (fC (.str "stage")) (fStar (fLc (fItT (fVar 1)) (gName 2) fYes (fCall gStrI (fCons (fVar 2) fNil)) [2]) fNil)))) (vs := [1]) (e := [stD st, .non, .non]) tupI (fun ls => D.str (lineT ls)) st [] (fun z hz => by
    obtain ⟨z1, z2, z3, z4⟩ := o3 z hz
    have e2 := lcD_map (tg := gName 2) (ft := fYes) (a := fCall gStrI (fCons (fVar 2) fNil)) (vs := [2]) (e := [stD st, tupI z, .non]) D.int (fun l => D.str (sI l)) z [] (fun l hm => by
      have := z4 l hm
      have c1 : -1000000000000000000000000000000000000000000000000000000000000 < l := by omega
      have c2 : l < 1000000000000000000000000000000000000000000000000000000000000 := by omega
      have e := gStrI_i c1 c2
      walk_at "e") (by rw [List.length_nil]; omega)
    rw [List.nil_append] at e2
    have e4 : gJoin " " (.lst (D.str "stage" :: z.map fun l => D.str (sI l))) = some (.str (lineT z)) := by
      rw [show (D.str ("stage" : Str) :: z.map fun l => D.str (sI l)) = (("stage" : Str) :: z.map sI).map D.str by rw [List.map_cons, List.map_map]; rfl]
      refine join_eq2 ?_
      have hb : ∀ x ∈ ("stage" : Str) :: z.map sI, x.length ≤ 10 := fun x hx => by
        rcases List.mem_cons.mp hx with rfl | hx
        · decide +kernel
        · obtain ⟨l, hm, rfl⟩ := List.mem_map.mp hx
          obtain ⟨n, rfl, _⟩ := sI_nat (z4 l hm).1
          exact len_sI (by decide) (by have := (z4 _ hm).2; omega)
      have := sum_len_le hb
      rw [show (" " : Str).length = 1 by decide +kernel]
      simp only [List.length_cons, List.length_map] at this ⊢
      omega
    have e5 : hLst (D.str "stage" :: z.map fun l => D.str (sI l)) = some (.lst (D.str "stage" :: z.map fun l => D.str (sI l))) := hLst_eq (by rw [List.length_cons, List.length_map]; omega)
    walk_at "e2 e5 e4") (by rw [List.length_nil]; omega)
  rw [List.nil_append] at e1
  have e2 : gJoin "\n" (.lst (st.map fun ls => D.str (lineT ls))) = some (.str (devText st)) := by
    rw [show (st.map fun ls => D.str (lineT ls)) = (st.map lineT).map D.str by rw [List.map_map]; rfl]
    refine join_eq2 ?_
    have hb : ∀ x ∈ st.map lineT, x.length ≤ 100 := fun x hx => by
      obtain ⟨ls, hm, rfl⟩ := List.mem_map.mp hx
      exact len_line (o3 ls hm)
    have := sum_len_le hb
    rw [show ("\n" : Str).length = 1 by decide +kernel]
    simp only [List.length_map] at this ⊢
    omega
  have c1 : (1 : Int) ≤ (st.length : Int) := by omega
  have c2 : (st.length : Int) ≤ 6 := by omega
  walk_at "e0 ea e1 e2 c1 c2"
end FB
namespace K00
open PySem L2 DL TL FB
-- is_integer: library
-- words_in: library
-- lines_in: library
-- Device_text: library
-- Device_stages: library
-- Device___len__: library
abbrev A_Device___eq__ : AS := (aRet (aAndV (aIsC "Device" (aVar 1)) (aOp aEq (aGet 0 [("Device", "own_text")]) (aGet 1 [("Device", "own_text")]))))
abbrev B_Device___eq__ : FS := (fRet (fAndV (fIsC "Device" (fVar 1)) (fOp (gEq false) (fGet 0 [("Device", "own_text")]) (fGet 1 [("Device", "own_text")]))))
theorem ss_Device___eq__ : SS false (K0D 2 2) A_Device___eq__ B_Device___eq__ [] [] [] .pu .ju :=
  (ss_ret (se_andV (se_isC (se_var rfl)) (se_op v_eq (se_getP rfl) (se_getP rfl))) rfl (.inl rfl))
def F_Device___eq__ : List D → Option D := runD 2 2 B_Device___eq__
abbrev S_Device___eq__ : ARC := lowD .pu F_Device___eq__
theorem law_Device___eq__ : ∀ ds Q, ds.length = 2 → S_Device___eq__ ds Q → A_Device___eq__ (endsD Q) (startS 2 (ds.map .pu)) := lawD ss_Device___eq__ rfl
-- sum_of: library
abbrev A__law_take : AS := FB.A__law_take 98257 431 10009 89
abbrev F__law_take := FB.F__law_take 98257 431 10009 89
abbrev S__law_take := FB.S__law_take 98257 431 10009 89
theorem law__law_take : ∀ xs ds Q p, ds.length + 1 = 2 → S__law_take xs ds Q → A__law_take (endsM Q p) (startS 5 (.ow p xs :: ds.map .pu)) := FB.law__law_take 98257 431 10009 89
-- _law_device_text: library
-- is_within: library
-- number_in: library
-- are_lengths: library
-- all_rows: library
abbrev A__law_pot : AS := FB.A__law_pot 1049 467 73121 8087 469
abbrev F__law_pot := FB.F__law_pot 1049 467 73121 8087 469
abbrev S__law_pot := FB.S__law_pot 1049 467 73121 8087 469
theorem law__law_pot : ∀ ds Q, ds.length = 2 → S__law_pot ds Q → A__law_pot (endsD Q) (startS 5 (ds.map .pu)) := FB.law__law_pot 1049 467 73121 8087 469
abbrev A__law_of : AS := FB.A__law_of F__law_take
abbrev F__law_of := FB.F__law_of F__law_take
abbrev S__law_of := FB.S__law_of F__law_take
theorem law__law_of : ∀ xs ds Q p, ds.length + 1 = 2 → S__law_of xs ds Q → A__law_of (endsM Q p) (startS 2 (.ow p xs :: ds.map .pu)) := FB.law__law_of F__law_take
abbrev A__law_some : AS := FB.A__law_some F__law_take
abbrev F__law_some := FB.F__law_some F__law_take
abbrev S__law_some := FB.S__law_some F__law_take
theorem law__law_some : ∀ xs ds Q p, ds.length + 1 = 3 → S__law_some xs ds Q → A__law_some (endsM Q p) (startS 6 (.ow p xs :: ds.map .pu)) := FB.law__law_some F__law_take
-- _law_cells: library
-- lengths_in: library
-- device_text: library
abbrev A__law_lengths : AS := FB.A__law_lengths F__law_take
abbrev F__law_lengths := FB.F__law_lengths F__law_take
abbrev S__law_lengths := FB.S__law_lengths F__law_take
theorem law__law_lengths : ∀ xs ds Q p, ds.length + 1 = 3 → S__law_lengths xs ds Q → A__law_lengths (endsM Q p) (startS 6 (.ow p xs :: ds.map .pu)) := FB.law__law_lengths F__law_take
abbrev A__law_figures_stages : AS := FB.A__law_figures_stages F__law_take
abbrev F__law_figures_stages := FB.F__law_figures_stages F__law_take
abbrev S__law_figures_stages := FB.S__law_figures_stages F__law_take
theorem law__law_figures_stages : ∀ xs ds Q p, ds.length + 1 = 2 → S__law_figures_stages xs ds Q → A__law_figures_stages (endsM Q p) (startS 7 (.ow p xs :: ds.map .pu)) := FB.law__law_figures_stages F__law_take
abbrev A__law_great_device : AS := (aSeq (aSet 1 (aLst aNil))
  (aSeq (aFor (aRng1 (aCons (aAdd (aC (.int 1)) (aCallM 2 0 S__law_take (aCons (aC (.int 6)) aNil))) aNil)) (agName 2) (aSeq (aSet 3 (aLst aNil))
  (aSeq (aFor (aRng1 (aCons (aAdd (aC (.int 2)) (aCallM 2 0 S__law_take (aCons (aC (.int 3)) aNil))) aNil)) (agName 4) (aSeq (aSet 5 (aCall aInt (aCons (aCallM 2 0 S__law_of (aCons (aLst (aCons (aC (.int 0)) (aCons (aC (.int 1)) (aCons (aC (.int 1000000)) (aCons (aC (.int 999999)) (aCons (aCallM 2 0 S__law_take (aCons (aC (.int 1000001)) aNil)) (aCons (aCallM 2 0 S__law_take (aCons (aC (.int 100)) aNil)) aNil))))))) aNil)) aNil)))
  (aExt 3 (aIf (aTest (aInB true (aVar 5) 3)) (aLst (aCons (aVar 5) aNil)) (aLst aNil)))))
  (aApp 1 (aIf (aTest (aOp aGt (aBor aLen 3) (aC (.int 1)))) (aVar 3) (aLst (aCons (aC (.int 7)) (aCons (aC (.int 0)) aNil))))))))
  (aRet (aVar 1))))
abbrev L1__law_great_device : FS := (fWk [4, 5] (fSeq (fSet 5 (fCall gInt (fCons (fCallM 2 0 F__law_of (fCons (fLst (fCons (fC (.int 0)) (fCons (fC (.int 1)) (fCons (fC (.int 1000000)) (fCons (fC (.int 999999)) (fCons (fCallM 2 0 F__law_take (fCons (fC (.int 1000001)) fNil)) (fCons (fCallM 2 0 F__law_take (fCons (fC (.int 100)) fNil)) fNil))))))) fNil)) fNil)))
  (fExt 3 (fIf (fTest (fInB true (fVar 5) 3)) (fLst (fCons (fVar 5) fNil)) (fLst fNil)))))
abbrev L2__law_great_device : FS := (fWk [2, 3] (fSeq (fSet 3 (fLst fNil))
  (fSeq (fFor (fRng1 (fCons (fOp gAdd (fC (.int 2)) (fCallM 2 0 F__law_take (fCons (fC (.int 3)) fNil))) fNil)) [] (gName 4) L1__law_great_device)
  (fApp 1 (fIf (fTest (fOp gGt (fBor gLen 3) (fC (.int 1)))) (fVar 3) (fLst (fCons (fC (.int 7)) (fCons (fC (.int 0)) fNil))))))))
abbrev B__law_great_device : FS := (fSeq (fSet 1 (fLst fNil))
  (fSeq (fFor (fRng1 (fCons (fOp gAdd (fC (.int 1)) (fCallM 2 0 F__law_take (fCons (fC (.int 6)) fNil))) fNil)) [] (gName 2) L2__law_great_device)
  (fRet (fVar 1))))
theorem ss__law_great_device : SS true (K0M .ow 1 6) A__law_great_device B__law_great_device [] [] [] .pu .ow :=
  (ss_seq (ss_set (se_lst sa_nil) (by simp) (.inl (by decide)))
  (ss_seq (ss_for (J := []) [.ow, .ow, .ju, .ju, .ju, .ju] (si_rng1 (sa_cons (se_op v_i se_c (se_callM rfl rfl (sa_cons se_c sa_nil))) sa_nil)) rfl (sg_name (k0 := .ju) rfl) (ss_wk (K1 := [.ow, .ow, .pu, .ei, .ju, .ju]) (Kn := [.ow, .ow, .ju, .ju, .ju, .ju]) [2, 3] (ss_seq (ss_set (se_lst sa_nil) (by simp) (.inl (by decide)))
  (ss_seq (ss_for (J := []) [.ow, .ow, .pu, .ow, .ju, .ju] (si_rng1 (sa_cons (se_op v_i se_c (se_callM rfl rfl (sa_cons se_c sa_nil))) sa_nil)) rfl (sg_name (k0 := .ju) rfl) (ss_wk (K1 := [.ow, .ow, .pu, .ow, .pu, .pu]) (Kn := [.ow, .ow, .pu, .ow, .ju, .ju]) [4, 5] (ss_seq (ss_set (se_call vc_int (sa_cons (se_callM rfl rfl (sa_cons (se_lst (sa_cons se_c (sa_cons se_c (sa_cons se_c (sa_cons se_c (sa_cons (se_callM rfl rfl (sa_cons se_c sa_nil)) (sa_cons (se_callM rfl rfl (sa_cons se_c sa_nil)) sa_nil))))))) sa_nil)) sa_nil)) (by simp) (.inl (by decide)))
  (ss_ext rfl rfl (se_if (st_test (se_inB rfl rfl (se_var rfl))) (se_lst (sa_cons (se_var rfl) sa_nil)) (se_lst sa_nil)))) rfl))
  (ss_app rfl rfl (se_if (st_test (se_op v_b (se_bor vc_len rfl) se_c)) (se_le (K2 := [.ow, .ow, .pu, .ei, .ju, .ju]) (se_k (k := .pu) (k' := .ei) (se_frz (k := .ow) rfl)) rfl) (se_le (K2 := [.ow, .ow, .pu, .ei, .ju, .ju]) (se_k (k := .ow) (k' := .ei) (se_lst (sa_cons se_c (sa_cons se_c sa_nil)))) rfl))))) rfl))
  (ss_ret (se_frz (k := .ow) rfl) rfl (.inr ⟨_, rfl, rfl, by simp⟩))))
def F__law_great_device : List D → Option (D × D) := runMR 1 6 B__law_great_device
abbrev S__law_great_device : ARM := lowM .pu F__law_great_device
theorem law__law_great_device : ∀ xs ds Q p, ds.length + 1 = 1 → S__law_great_device xs ds Q → A__law_great_device (endsM Q p) (startS 6 (.ow p xs :: ds.map .pu)) := lawMR ss__law_great_device
-- read_device: library
abbrev A__law_device : AS := FB.A__law_device F__law_take
abbrev F__law_device := FB.F__law_device F__law_take
abbrev S__law_device := FB.S__law_device F__law_take
theorem law__law_device : ∀ xs ds Q p, ds.length + 1 = 3 → S__law_device xs ds Q → A__law_device (endsM Q p) (startS 8 (.ow p xs :: ds.map .pu)) := FB.law__law_device F__law_take
-- Device___init__: library
abbrev A__law_is_device_right : AS := (aSeq (aPar 2 3 (aCall (aFn 1 S__law_device_text) (aCons (aVar 1) aNil)) (aCall aTupl (aCons (aLc (aItL (aVar 1)) (agName 8) aYes (aCall aTupl (aCons (aLc (aItL (aVar 8)) (agName 10) aYes (aCall aInt (aCons (aVar 10) aNil)) [10]) aNil)) [8]) aNil)))
  (aSeq (aSet 4 (aMake 2 "Device" S_Device___init__ (aPerm 1 [0] (aCons (aVar 2) aNil))))
  (aSeq (aIfS (aTest (aOp aNe (aCall aRepr (aCons (aTup (aCons (aPropD "Device" S_Device_text (aVar 4)) (aCons (aPropD "Device" S_Device_stages (aVar 4)) (aCons (aCall (aLenOwn "Device" S_Device___len__) (aCons (aVar 4) aNil)) aNil)))) aNil)) (aCall aRepr (aCons (aTup (aCons (aVar 2) (aCons (aVar 3) (aCons (aCall aLen (aCons (aVar 1) aNil)) aNil)))) aNil)))) (aRet (aC (.bl false))) aNext)
  (aSeq (aIfS (aOr (aTest (aOp aNe (aCallK 1 1 [0] S_device_text (aCons (aPropD "Device" S_Device_stages (aVar 4)) aNil)) (aVar 2))) (aTest (aOp aNe (aCall (aFn 1 S_device_text) (aCons (aVar 3) aNil)) (aVar 2)))) (aRet (aC (.bl false))) aNext)
  (aSeq (aSet 5 (aLc (aItL (aVar 1)) (agName 8) aYes (aCall aList (aCons (aVar 8) aNil)) [8]))
  (aSeq (aSet 6 (aCallM 2 0 S__law_take (aCons (aBor aLen 5) aNil)))
  (aSeq (aPut 5 (aRevL (aIxO 5 (aVar 6))) (aVar 6))
  (aSeq (aSet 7 (aMake 2 "Device" S_Device___init__ (aCons (aCall (aFn 1 S__law_device_text) (aCons (aVar 5) aNil)) aNil)))
  (aSeq (aIfS (aOr (aTest (aOp aNe (aOp (aEqOwn "Device" S_Device___eq__) (aVar 4) (aVar 7)) (aOp (aEqD false) (aVar 5) (aVar 1)))) (aTest (aOp aNe (aOp (aNeOwn "Device" S_Device___eq__) (aVar 4) (aVar 7)) (aOp (aEqD true) (aVar 5) (aVar 1))))) (aRet (aC (.bl false))) aNext)
  (aSeq (aIfS (aOr (aNot (aTest (aOp (aEqOwn "Device" S_Device___eq__) (aVar 4) (aMake 2 "Device" S_Device___init__ (aCons (aVar 2) aNil))))) (aTest (aOp (aNeOwn "Device" S_Device___eq__) (aVar 4) (aMake 2 "Device" S_Device___init__ (aCons (aVar 2) aNil))))) (aRet (aC (.bl false))) aNext)
  (aRet (aNotV (aCall (aBls fun bs => bs.any id) (aCons (aLc (aItL (aLst (aCons (aVar 2) (aCons (aC .non) (aCons (aVar 3) (aCons (aC (.int 0)) (aCons (aCall aList (aCons (aVar 3) aNil)) aNil))))))) (agName 9) aYes (aOp (aEqOwn "Device" S_Device___eq__) (aVar 4) (aVar 9)) [9]) aNil))))))))))))))
abbrev B__law_is_device_right : FS := (fSeq (fPar 2 3 (fCall (gFn 1 F__law_device_text) (fCons (fVar 1) fNil)) (fCall gTupl (fCons (fLc (fItL (fVar 1)) (gName 8) fYes (fCall gTupl (fCons (fLc (fItL (fVar 8)) (gName 10) fYes (fCall gInt (fCons (fVar 10) fNil)) [10]) fNil)) [8]) fNil)))
  (fSeq (fSet 4 (fMake 2 "Device" F_Device___init__ (fPerm 1 [0] (fCons (fVar 2) fNil))))
  (fSeq (fIfS (fTest (fOp (gEq true) (fCall gRepr (fCons (fTup (fCons (fPropD "Device" F_Device_text (fVar 4)) (fCons (fPropD "Device" F_Device_stages (fVar 4)) (fCons (fCall (gLenOwn "Device" F_Device___len__) (fCons (fVar 4) fNil)) fNil)))) fNil)) (fCall gRepr (fCons (fTup (fCons (fVar 2) (fCons (fVar 3) (fCons (fCall gLen (fCons (fVar 1) fNil)) fNil)))) fNil)))) (fRet (fC (.bl false))) fNext)
  (fSeq (fIfS (fOr (fTest (fOp (gEq true) (fCallK 1 1 [0] F_device_text (fCons (fPropD "Device" F_Device_stages (fVar 4)) fNil)) (fVar 2))) (fTest (fOp (gEq true) (fCall (gFn 1 F_device_text) (fCons (fVar 3) fNil)) (fVar 2)))) (fRet (fC (.bl false))) fNext)
  (fSeq (fSet 5 (fLc (fItL (fVar 1)) (gName 8) fYes (fCall gList (fCons (fVar 8) fNil)) [8]))
  (fSeq (fSet 6 (fCallM 2 0 F__law_take (fCons (fBor gLen 5) fNil)))
  (fSeq (fPut 5 (fRevL (fIxO 5 (fVar 6))) (fVar 6))
  (fSeq (fSet 7 (fMake 2 "Device" F_Device___init__ (fCons (fCall (gFn 1 F__law_device_text) (fCons (fVar 5) fNil)) fNil)))
  (fSeq (fIfS (fOr (fTest (fOp (gEq true) (fOp (gEqOwn "Device" F_Device___eq__) (fVar 4) (fVar 7)) (fOp (gEqD false) (fVar 5) (fVar 1)))) (fTest (fOp (gEq true) (fOp (gNeOwn "Device" F_Device___eq__) (fVar 4) (fVar 7)) (fOp (gEqD true) (fVar 5) (fVar 1))))) (fRet (fC (.bl false))) fNext)
  (fSeq (fIfS (fOr (fNot (fTest (fOp (gEqOwn "Device" F_Device___eq__) (fVar 4) (fMake 2 "Device" F_Device___init__ (fCons (fVar 2) fNil))))) (fTest (fOp (gNeOwn "Device" F_Device___eq__) (fVar 4) (fMake 2 "Device" F_Device___init__ (fCons (fVar 2) fNil))))) (fRet (fC (.bl false))) fNext)
  (fRet (fNotV (fCall (gBls fun bs => bs.any id) (fCons (fLc (fItL (fLst (fCons (fVar 2) (fCons (fC .non) (fCons (fVar 3) (fCons (fC (.int 0)) (fCons (fCall gList (fCons (fVar 3) fNil)) fNil))))))) (gName 9) fYes (fOp (gEqOwn "Device" F_Device___eq__) (fVar 4) (fVar 9)) [9]) fNil))))))))))))))
theorem ss__law_is_device_right : SS true (K0M .ow 2 11) A__law_is_device_right B__law_is_device_right [] [] [] .pu .ow :=
  (ss_seq (ss_par (se_call vc_fn (sa_cons (se_var rfl) sa_nil)) (se_call vc_tupl (sa_cons (se_lc [.ow, .pu, .ju, .ju, .ju, .ju, .ju, .ju, .ju, .ju, .ju] (si_l (se_var rfl)) rfl (sg_name (k0 := .ju) rfl) st_yes (se_call vc_tupl (sa_cons (se_lc [.ow, .pu, .ju, .ju, .ju, .ju, .ju, .ju, .pu, .ju, .ju] (si_l (se_var rfl)) rfl (sg_name (k0 := .ju) rfl) st_yes (se_call vc_int (sa_cons (se_var rfl) sa_nil)) rfl rfl) sa_nil)) rfl rfl) sa_nil)) (by simp) (by simp) (.inl (by decide)))
  (ss_seq (ss_set (se_make (sa_perm (sa_cons (se_var rfl) sa_nil))) (by simp) (.inl (by decide)))
  (ss_seq (ss_if (Kn := [.ow, .pu, .pu, .pu, .pu, .ju, .ju, .ju, .ju, .ju, .ju]) (st_test (se_op v_ne (se_call vc_repr (sa_cons (se_tup (sa_cons (se_propD (se_frz (k := (.ins "Device" ["own_stages", "own_text", "own_rows"] [.pu, .pu, (.dk .ow)])) rfl)) (sa_cons (se_propD (se_var rfl)) (sa_cons (se_call vc_lenOwn (sa_cons (se_var rfl) sa_nil)) sa_nil)))) sa_nil)) (se_call vc_repr (sa_cons (se_tup (sa_cons (se_var rfl) (sa_cons (se_var rfl) (sa_cons (se_call vc_len (sa_cons (se_var rfl) sa_nil)) sa_nil)))) sa_nil)))) (ss_ret se_c rfl (.inr ⟨_, rfl, rfl, by simp⟩)) ss_next)
  (ss_seq (ss_if (Kn := [.ow, .pu, .pu, .pu, .pu, .ju, .ju, .ju, .ju, .ju, .ju]) (st_or (st_test (se_op v_ne (se_callK (sa_cons (se_propD (se_var rfl)) sa_nil)) (se_var rfl))) (st_test (se_op v_ne (se_call vc_fn (sa_cons (se_var rfl) sa_nil)) (se_var rfl)))) (ss_ret se_c rfl (.inr ⟨_, rfl, rfl, by simp⟩)) ss_next)
  (ss_seq (ss_set (se_lc [.ow, .pu, .pu, .pu, .pu, .ju, .ju, .ju, .ju, .ju, .ju] (si_l (se_var rfl)) rfl (sg_name (k0 := .ju) rfl) st_yes (se_call vc_list (sa_cons (se_var rfl) sa_nil)) rfl rfl) (by simp) (.inl (by decide)))
  (ss_seq (ss_set (se_callM rfl rfl (sa_cons (se_bor vc_len rfl) sa_nil)) (by simp) (.inl (by decide)))
  (ss_seq (ss_put rfl rfl (se_revL (se_ixO rfl rfl (se_var rfl))) (se_var rfl))
  (ss_seq (ss_set (se_make (sa_cons (se_call vc_fn (sa_cons (se_frz (k := .ow) rfl) sa_nil)) sa_nil)) (by simp) (.inl (by decide)))
  (ss_seq (ss_if (Kn := [.ow, .pu, .pu, .pu, .pu, .pu, .pu, .pu, .ju, .ju, .ju]) (st_or (st_test (se_op v_ne (se_op v_eqOwn (se_var rfl) (se_frz (k := (.ins "Device" ["own_stages", "own_text", "own_rows"] [.pu, .pu, (.dk .ow)])) rfl)) (se_op v_eqD (se_var rfl) (se_var rfl)))) (st_test (se_op v_ne (se_op v_neOwn (se_var rfl) (se_var rfl)) (se_op v_eqD (se_var rfl) (se_var rfl))))) (ss_ret se_c rfl (.inr ⟨_, rfl, rfl, by simp⟩)) ss_next)
  (ss_seq (ss_if (Kn := [.ow, .pu, .pu, .pu, .pu, .pu, .pu, .pu, .ju, .ju, .ju]) (st_or (st_not (st_test (se_op v_eqOwn (se_var rfl) (se_make (sa_cons (se_var rfl) sa_nil))))) (st_test (se_op v_neOwn (se_var rfl) (se_make (sa_cons (se_var rfl) sa_nil))))) (ss_ret se_c rfl (.inr ⟨_, rfl, rfl, by simp⟩)) ss_next)
  (ss_ret (se_notV (se_call vc_bls (sa_cons (se_lc [.ow, .pu, .pu, .pu, .pu, .pu, .pu, .pu, .ju, .ju, .ju] (si_l (se_lst (sa_cons (se_var rfl) (sa_cons se_c (sa_cons (se_var rfl) (sa_cons se_c (sa_cons (se_call vc_list (sa_cons (se_var rfl) sa_nil)) sa_nil))))))) rfl (sg_name (k0 := .ju) rfl) st_yes (se_op v_eqOwn (se_var rfl) (se_var rfl)) rfl rfl) sa_nil))) rfl (.inr ⟨_, rfl, rfl, by simp⟩))))))))))))
def F__law_is_device_right : List D → Option (D × D) := runMR 2 11 B__law_is_device_right
abbrev S__law_is_device_right : ARM := lowM .pu F__law_is_device_right
theorem law__law_is_device_right : ∀ xs ds Q p, ds.length + 1 = 2 → S__law_is_device_right xs ds Q → A__law_is_device_right (endsM Q p) (startS 11 (.ow p xs :: ds.map .pu)) := lawMR ss__law_is_device_right
abbrev A__law_right : AS := (aSeq (aFor (aRng1 (aCons (aC (.int 2)) aNil)) (agName 1) (aSeq (aIfS (aNot (aTest (aCallM 2 0 S__law_is_device_right (aCons (aCallM 3 0 S__law_device (aCons (aC (.int 6)) (aCons (aC (.int 9)) aNil))) aNil)))) (aRet (aC (.bl false))) aNext)
  (aIfS (aNot (aTest (aCallM 2 0 S__law_is_device_right (aCons (aCallM 1 0 S__law_great_device aNil) aNil)))) (aRet (aC (.bl false))) aNext)))
  (aRet (aC (.bl true))))
abbrev L1__law_right : FS := (fWk [1] (fSeq (fIfS (fNot (fTest (fCallM 2 0 F__law_is_device_right (fCons (fCallM 3 0 F__law_device (fCons (fC (.int 6)) (fCons (fC (.int 9)) fNil))) fNil)))) (fRet (fC (.bl false))) fNext)
  (fIfS (fNot (fTest (fCallM 2 0 F__law_is_device_right (fCons (fCallM 1 0 F__law_great_device fNil) fNil)))) (fRet (fC (.bl false))) fNext)))
abbrev B__law_right : FS := (fSeq (fFor (fRng1 (fCons (fC (.int 2)) fNil)) [] (gName 1) L1__law_right)
  (fRet (fC (.bl true))))
theorem ss__law_right : SS true (K0M .ow 1 2) A__law_right B__law_right [] [] [] .pu .ow :=
  (ss_seq (ss_for (J := []) [.ow, .ju] (si_rng1 (sa_cons se_c sa_nil)) rfl (sg_name (k0 := .ju) rfl) (ss_wk (K1 := [.ow, .pu]) (Kn := [.ow, .ju]) [1] (ss_seq (ss_if (Kn := [.ow, .pu]) (st_not (st_test (se_callM rfl rfl (sa_cons (se_callM rfl rfl (sa_cons se_c (sa_cons se_c sa_nil))) sa_nil)))) (ss_ret se_c rfl (.inr ⟨_, rfl, rfl, by simp⟩)) ss_next)
  (ss_if (Kn := [.ow, .pu]) (st_not (st_test (se_callM rfl rfl (sa_cons (se_callM rfl rfl sa_nil) sa_nil)))) (ss_ret se_c rfl (.inr ⟨_, rfl, rfl, by simp⟩)) ss_next)) rfl))
  (ss_ret se_c rfl (.inr ⟨_, rfl, rfl, by simp⟩)))
def F__law_right : List D → Option (D × D) := runMR 1 2 B__law_right
abbrev S__law_right : ARM := lowM .pu F__law_right
theorem law__law_right : ∀ xs ds Q p, ds.length + 1 = 1 → S__law_right xs ds Q → A__law_right (endsM Q p) (startS 2 (.ow p xs :: ds.map .pu)) := lawMR ss__law_right
abbrev A_law : AS := (aRet (aCall (aBls fun bs => bs.all id) (aCons (aLc (aItL (aCall (aFn 2 S__law_cells) (aCons (aVar 0) (aCons (aC (.int 3)) aNil)))) (agName 1) aYes (aCallT 1 S__law_right (aCall (aFn 2 S__law_pot) (aCons (aVar 0) (aCons (aVar 1) aNil))) aNil) [1]) aNil)))
abbrev B_law : FS := (fRet (fCall (gBls fun bs => bs.all id) (fCons (fLc (fItL (fCall (gFn 2 F__law_cells) (fCons (fVar 0) (fCons (fC (.int 3)) fNil)))) (gName 1) fYes (fCallT 1 F__law_right (fCall (gFn 2 F__law_pot) (fCons (fVar 0) (fCons (fVar 1) fNil))) fNil) [1]) fNil)))
theorem ss_law : SS false (K0D 1 2) A_law B_law [] [] [] .pu .ju :=
  (ss_ret (se_call vc_bls (sa_cons (se_lc [.pu, .ju] (si_l (se_call vc_fn (sa_cons (se_var rfl) (sa_cons se_c sa_nil)))) rfl (sg_name (k0 := .ju) rfl) st_yes (se_callT (se_call vc_fn (sa_cons (se_var rfl) (sa_cons (se_var rfl) sa_nil))) sa_nil) rfl rfl) sa_nil)) rfl (.inl rfl))
def F_law : List D → Option D := runD 1 2 B_law
abbrev S_law : ARC := SLaw
/-- what is left: plain Lean -/
def Main : Prop := ∀ ns : List Int, ns.length ≤ 63 → F_law [.scr (ns.map D.int)] = some (.bl true)
theorem law_of (h : Main) : ∀ ds Q, ds.length = 1 → S_law ds Q → A_law (endsD Q) (startS 2 (ds.map .pu)) := fun ds Q hl q => by
  obtain ⟨ns, rfl, hn, hq⟩ := q
  exact lawD ss_law rfl _ Q rfl ⟨_, h ns hn, fun l hk hd => by rw [of_pu hk, hd]; exact hq⟩
theorem takeOk : TakeOk F__law_take := take_ok (by decide) (by decide) (by decide) (by decide) (by decide) (by decide) (by decide) (by decide)
theorem inF_int {d : Int} {r : List Int} : inF (.int d) (r.map D.int) = decide (d ∈ r) := by
  unfold inF
  rw [List.any_map, Bool.eq_iff_iff, List.any_eq_true, decide_eq_true_eq]
  constructor
  · rintro ⟨x, hx, h⟩
    have : x = d := by
      have h2 : eqF (.int x) (.int d) = true := h
      simpa [eqF] using h2
    rw [← this]
    exact hx
  · intro h
    exact ⟨d, h, by simp [eqF]⟩
theorem stD_inj {st st2 : Stg} (h : stD st = stD st2) : st = st2 := by
  have h1 : st.map tupI = st2.map tupI := D.tup.inj h
  refine (List.map_inj_right (fun a b hab => ?_)).mp h1
  have h2 : a.map D.int = b.map D.int := D.tup.inj hab
  exact (List.map_inj_right (fun x y hxy => D.int.inj hxy)).mp h2
theorem text_inj {st st2 : Stg} (ok : StOkD st) (ok2 : StOkD st2) : devText st = devText st2 ↔ st = st2 := by
  constructor
  · intro h
    have e1 := read_device_eq ok
    have e2 := read_device_eq ok2
    rw [h, e2] at e1
    exact (stD_inj (Option.some.inj e1)).symm
  · intro h
    rw [h]
theorem own_text {st : Stg} : subD (devD st) [("Device", "own_text")] = some (.str (devText st)) := rfl
theorem eq_dev {st st2 : Stg} : F_Device___eq__ [devD st, devD st2] = some (.bl (decide (devText st = devText st2))) := by
  have h0 : hIsC "Device" (devD st2) = some (.bl true) := rfl
  have h1 := own_text (st := st)
  have h2 := own_text (st := st2)
  refine runD_rt rfl (e := [devD st, devD st2]) ?_
  generalize devD st = D1 at h1 ⊢
  generalize devD st2 = D2 at h0 h2 ⊢
  walk_at "w_isC h0 h1 h2"
theorem eq_val {st : Stg} {v : D} (h : isCD "Device" v = some false) : F_Device___eq__ [devD st, v] = some (.bl false) := by
  have h0 : hIsC "Device" v = some (.bl false) := by
    unfold hIsC
    rw [h]
    rfl
  refine runD_rt rfl (e := [devD st, v]) ?_
  generalize devD st = D1
  walk_at "w_isC h0"
theorem own_dev {st st2 : Stg} (ok : StOkD st) (ok2 : StOkD st2) : gEqOwn "Device" F_Device___eq__ (devD st) (devD st2) = some (.bl (decide (st = st2))) := by
  have e := eq_dev (st := st) (st2 := st2)
  rw [show decide (devText st = devText st2) = decide (st = st2) from decide_eq_decide.mpr (text_inj ok ok2)] at e
  unfold gEqOwn
  show (if _ ∧ _ then (F_Device___eq__ [devD st, devD st2]).bind _ else none) = _
  rw [if_pos ⟨rfl, rfl⟩, e]
  rfl
theorem own_ne {st st2 : Stg} (ok : StOkD st) (ok2 : StOkD st2) : gNeOwn "Device" F_Device___eq__ (devD st) (devD st2) = some (.bl (!decide (st = st2))) := by
  have e := eq_dev (st := st) (st2 := st2)
  rw [show decide (devText st = devText st2) = decide (st = st2) from decide_eq_decide.mpr (text_inj ok ok2)] at e
  unfold gNeOwn
  show (if _ ∧ _ then (F_Device___eq__ [devD st, devD st2]).bind _ else none) = _
  rw [if_pos ⟨rfl, rfl⟩, e]
  rfl
theorem own_val {st : Stg} {v : D} (h : isCD "Device" v = some false) : gEqOwn "Device" F_Device___eq__ (devD st) v = some (.bl false) := by
  have e := eq_val (st := st) h
  unfold gEqOwn
  show (if _ ∧ _ then (F_Device___eq__ [devD st, v]).bind _ else none) = _
  rw [if_pos ⟨rfl, by rw [h]; rfl⟩, e]
  rfl
theorem great_in {P O L : D} {d : D} {xs : List D} {c : Nat} {ls : List Int} (hc : c + 3 < 900000) (hp : Pot c xs) (hl : ls.length ≤ 4) (hn : ls.Nodup) (hb : ∀ l ∈ ls, 0 ≤ l ∧ l ≤ 1000000) :
    ∃ (ls' : List Int) (xs' : List D), tn (gName 4) L1__law_great_device d [.lst xs, O, L, .lst (ls.map D.int), .non, .non] = .nx [.lst xs', O, L, .lst (ls'.map D.int), .non, .non] ∧ ls'.length ≤ ls.length + 1 ∧ ls'.Nodup ∧ (∀ l ∈ ls', 0 ≤ l ∧ l ≤ 1000000) ∧ Pot (c + 3) xs' := by
  obtain ⟨a, xs1, e1, a0, a1, hp1⟩ := takeOk xs 1000001 c hp (by decide) (by decide) (by omega)
  obtain ⟨b, xs2, e2, b0, b1, hp2⟩ := takeOk xs1 100 (c + 1) hp1 (by decide) (by decide) (by omega)
  obtain ⟨v, xs3, e3, hv, hp3⟩ := of_ok takeOk (es := [.int 0, .int 1, .int 1000000, .int 999999, .int a, .int b]) hp2 (by simp) (by simp) (by omega)
  obtain ⟨k, rfl, k0, k1⟩ : ∃ k : Int, v = .int k ∧ 0 ≤ k ∧ k ≤ 1000000 := by
    simp only [List.mem_cons, List.not_mem_nil, or_false] at hv
    rcases hv with rfl | rfl | rfl | rfl | rfl | rfl <;> exact ⟨_, rfl, by omega, by omega⟩
  have fl : (ls.map D.int).all flatD = true := by
    rw [List.all_map]
    exact List.all_eq_true.mpr fun d hd => rfl
  have ib : ∀ e : En, ib2 true (.int k) e (some (.lst (ls.map D.int))) = some (.bl (!decide (k ∈ ls)), e) := fun e => by
    rw [ib2_lst rfl fl, inF_int]
    rfl
  by_cases hk : k ∈ ls
  · rw [decide_eq_true hk] at ib
    refine ⟨ls, xs3, ?_, by omega, hn, hb, hp3.mono (by omega)⟩
    have e5 : (ls.map D.int).length + ([] : List D).length < 100000 := by rw [List.length_map, List.length_nil]; omega
    generalize ls.map D.int = LL at ib e5 ⊢
    unfold L1__law_great_device
    walk_at "e1 e2 e3 ib"
  · rw [decide_eq_false hk] at ib
    refine ⟨ls ++ [k], xs3, ?_, by rw [List.length_append, List.length_singleton]; omega, ?_, fun l hl => ?_, hp3.mono (by omega)⟩
    · have e5 : (ls.map D.int).length + ([.int k] : List D).length < 100000 := by rw [List.length_map, List.length_singleton]; omega
      rw [List.map_append]
      generalize ls.map D.int = LL at ib e5 ⊢
      unfold L1__law_great_device
      walk_at "e1 e2 e3 ib"
      rfl
    · rw [List.nodup_append]
      exact ⟨hn, by simp, fun x hx y hy e => hk (by rw [List.mem_singleton.mp hy] at e; rw [← e]; exact hx)⟩
    · rcases List.mem_append.mp hl with h | h
      · exact hb l h
      · rw [List.mem_singleton.mp h]
        exact ⟨k0, k1⟩
theorem great_ins {P O L : D} : ∀ (dd : List D) (xs : List D) (c : Nat) (ls : List Int), c + 3 * dd.length + 3 < 900000 → Pot c xs → ls.length + dd.length ≤ 4 → ls.Nodup → (∀ l ∈ ls, 0 ≤ l ∧ l ≤ 1000000) →
    ∃ (ls' : List Int) (xs' : List D), fForD (gName 4) L1__law_great_device dd [.lst xs, O, L, .lst (ls.map D.int), .non, .non] = .nx [.lst xs', O, L, .lst (ls'.map D.int), .non, .non] ∧ ls'.length ≤ 4 ∧ ls'.Nodup ∧ (∀ l ∈ ls', 0 ≤ l ∧ l ≤ 1000000) ∧ Pot (c + 3 * dd.length) xs'
  | [], xs, c, ls, _, hp, hl, hn, hb => ⟨ls, xs, rfl, by rw [List.length_nil] at hl; omega, hn, hb, hp⟩
  | d :: dd, xs, c, ls, hc, hp, hl, hn, hb => by
    rw [List.length_cons] at hc hl
    obtain ⟨ls1, xs1, h1, h2, h3, h4, h5⟩ := great_in (P := P) (O := O) (L := L) (d := d) (by omega) hp (by omega) hn hb
    obtain ⟨ls2, xs2, g1, g2, g3, g4, g5⟩ := great_ins (P := P) (O := O) (L := L) dd xs1 (c + 3) ls1 (by omega) h5 (by omega) h3 h4
    refine ⟨ls2, xs2, ?_, g2, g3, g4, g5.mono (by rw [List.length_cons]; omega)⟩
    rw [forD_nx h1]
    exact g1
theorem great_out {d : D} {xs : List D} {c : Nat} {st : Stg} (hc : c + 20 < 900000) (hp : Pot c xs) (hl : st.length ≤ 10) (hok : ∀ ls ∈ st, LenOk ls) :
    ∃ (ls : List Int) (xs' : List D), tn (gName 2) L2__law_great_device d [.lst xs, stL st, .non, .non, .non, .non] = .nx [.lst xs', stL (st ++ [ls]), .non, .non, .non, .non] ∧ LenOk ls ∧ Pot (c + 15) xs' := by
  obtain ⟨j, xs1, e1, j0, j1, hp1⟩ := takeOk xs 3 c hp (by decide) (by decide) (by omega)
  have hr := rngD_len (lo := 0) (n := (2 + j).toNat)
  obtain ⟨ls, xs2, h1, h2, h3, h4, h5⟩ := great_ins (P := .non) (O := stL st) (L := d) (rngD 0 (2 + j).toNat) xs1 (c + 1) [] (by rw [hr]; omega) hp1 (by rw [hr, List.length_nil]; omega) List.nodup_nil (fun l hl => by cases hl)
  have r1 : hRng1 [.int (2 + j)] = some (rngD 0 (2 + j).toNat) := hRng1_eq (by omega) (by omega)
  have e5 : (st.map lstI).length < 100000 := by rw [List.length_map]; omega
  have ll : (ls.map D.int).length = ls.length := List.length_map ..
  rw [List.map_nil] at h1
  rw [hr] at h5
  by_cases hg : 1 < ls.length
  · refine ⟨ls, xs2, ?_, ⟨by omega, h2, h3, h4⟩, h5.mono (by omega)⟩
    have hg' : (1 : Int) < (ls.length : Int) := by omega
    show _ = Out.nx [.lst xs2, .lst ((st ++ [ls]).map lstI), .non, .non, .non, .non]
    rw [List.map_append]
    show _ = Out.nx [.lst xs2, .lst (st.map lstI ++ [.lst (ls.map D.int)]), .non, .non, .non, .non]
    have h1 : fForD (gName 4) L1__law_great_device (rngD 0 (2 + j).toNat) [.lst xs1, .lst (st.map lstI), d, .lst [], .non, .non] = .nx [.lst xs2, .lst (st.map lstI), d, .lst (ls.map D.int), .non, .non] := h1
    show tn (gName 2) L2__law_great_device d [.lst xs, .lst (st.map lstI), .non, .non, .non, .non] = _
    generalize st.map lstI = SS at *
    generalize ls.map D.int = LL at *
    generalize rngD 0 (2 + j).toNat = RR at h1 r1
    unfold L2__law_great_device
    walk_at "e1 r1 h1 ll hg'"
  · refine ⟨[7, 0], xs2, ?_, ⟨by decide, by decide, by decide, fun l hl => by
      simp only [List.mem_cons, List.not_mem_nil, or_false] at hl
      omega⟩, h5.mono (by omega)⟩
    have hg' : ¬ (1 : Int) < (ls.length : Int) := by omega
    show _ = Out.nx [.lst xs2, .lst ((st ++ [[7, 0]]).map lstI), .non, .non, .non, .non]
    rw [List.map_append]
    show _ = Out.nx [.lst xs2, .lst (st.map lstI ++ [.lst [.int 7, .int 0]]), .non, .non, .non, .non]
    have h1 : fForD (gName 4) L1__law_great_device (rngD 0 (2 + j).toNat) [.lst xs1, .lst (st.map lstI), d, .lst [], .non, .non] = .nx [.lst xs2, .lst (st.map lstI), d, .lst (ls.map D.int), .non, .non] := h1
    show tn (gName 2) L2__law_great_device d [.lst xs, .lst (st.map lstI), .non, .non, .non, .non] = _
    generalize st.map lstI = SS at *
    generalize ls.map D.int = LL at *
    generalize rngD 0 (2 + j).toNat = RR at h1 r1
    unfold L2__law_great_device
    walk_at "e1 r1 h1 ll hg'"
theorem great_outs : ∀ (dd : List D) (xs : List D) (c : Nat) (st : Stg), c + 15 * dd.length + 20 < 900000 → Pot c xs → st.length + dd.length ≤ 6 → (∀ ls ∈ st, LenOk ls) →
    ∃ (st' : Stg) (xs' : List D), fForD (gName 2) L2__law_great_device dd [.lst xs, stL st, .non, .non, .non, .non] = .nx [.lst xs', stL st', .non, .non, .non, .non] ∧ st'.length = st.length + dd.length ∧ (∀ ls ∈ st', LenOk ls) ∧ Pot (c + 15 * dd.length) xs'
  | [], xs, c, st, _, hp, hl, hok => ⟨st, xs, rfl, rfl, hok, hp⟩
  | d :: dd, xs, c, st, hc, hp, hl, hok => by
    rw [List.length_cons] at hc hl
    obtain ⟨ls, xs1, h1, h2, h3⟩ := great_out (d := d) (by omega) hp (by omega) hok
    obtain ⟨st', xs2, g1, g2, g3, g4⟩ := great_outs dd xs1 (c + 15) (st ++ [ls]) (by omega) h3 (by rw [List.length_append, List.length_singleton]; omega) (fun z hz => by
      rcases List.mem_append.mp hz with h | h
      · exact hok z h
      · rw [List.mem_singleton.mp h]
        exact h2)
    refine ⟨st', xs2, ?_, by rw [g2, List.length_append, List.length_singleton, List.length_cons]; omega, g3, g4.mono (by rw [List.length_cons]; omega)⟩
    rw [forD_nx h1]
    exact g1
theorem great_eq {xs : List D} {c : Nat} (hc : c < 800000) (hp : Pot c xs) : ∃ (st : Stg) (xs' : List D), F__law_great_device [.lst xs] = some (stL st, .lst xs') ∧ StOkD st ∧ Pot (c + 100) xs' := by
  obtain ⟨j, xs1, e1, j0, j1, hp1⟩ := takeOk xs 6 c hp (by decide) (by decide) (by omega)
  have hr := rngD_len (lo := 0) (n := (1 + j).toNat)
  obtain ⟨st, xs2, h1, h2, h3, h4⟩ := great_outs (rngD 0 (1 + j).toNat) xs1 (c + 1) [] (by rw [hr]; omega) hp1 (by rw [hr, List.length_nil]; omega) (fun z hz => by cases hz)
  have r1 : hRng1 [.int (1 + j)] = some (rngD 0 (1 + j).toNat) := hRng1_eq (by omega) (by omega)
  rw [hr] at h2 h4
  rw [List.length_nil] at h2
  refine ⟨st, xs2, runMR_rt rfl (e := [.lst xs2, stL st, .non, .non, .non, .non]) ?_ rfl, ⟨by omega, by omega, h3⟩, h4.mono (by omega)⟩
  have h1 : fForD (gName 2) L2__law_great_device (rngD 0 (1 + j).toNat) [.lst xs1, .lst [], .non, .non, .non, .non] = .nx [.lst xs2, stL st, .non, .non, .non, .non] := h1
  generalize stL st = SS at h1 ⊢
  generalize rngD 0 (1 + j).toNat = RR at h1 r1
  walk_at "e1 r1 h1"
theorem chars_sI {l : Int} (h : 0 ≤ l) : ∀ c ∈ tl (sI l), c < 128 := fun c hc => by
  refine Decidable.byContradiction fun q => ?_
  exact free_sI h (s := c) (.inr (by omega)) hc
theorem chars_line {ls : List Int} (h : ∀ l ∈ ls, 0 ≤ l) : ∀ c ∈ tl (lineT ls), c < 128 := fun c hc => by
  rw [tl_line] at hc
  rcases mem_joinL _ hc with z | ⟨x, hx, z⟩
  · simp at z
    omega
  · rcases List.mem_cons.mp hx with rfl | hx
    · simp at z
      omega
    · rw [List.map_map] at hx
      obtain ⟨l, hl, rfl⟩ := List.mem_map.mp hx
      exact chars_sI (h l hl) c z
theorem chars_text {st : Stg} (ok : StOkD st) : ∀ c ∈ tl (devText st), c < 128 := fun c hc => by
  unfold devText at hc
  rw [join_eq, tl_join, tl_feed] at hc
  rcases mem_joinL _ hc with z | ⟨x, hx, z⟩
  · simp at z
    omega
  · rw [List.map_map] at hx
    obtain ⟨ls, hls, rfl⟩ := List.mem_map.mp hx
    exact chars_line (fun l hl => ((ok.2.2 ls hls).2.2.2 l hl).1) c z
theorem sh_ints {k : Nat} : ∀ ns : List Int, (∀ n ∈ ns, 0 ≤ n ∧ n ≤ 1000000) → shA k (ns.map D.int) ∧ sizA (ns.map D.int) = ns.length
  | [], _ => ⟨trivial, rfl⟩
  | n :: ns, h => by
    obtain ⟨h1, h2⟩ := sh_ints (k := k) ns fun m hm => h m (List.mem_cons_of_mem _ hm)
    have hn := h n List.mem_cons_self
    refine ⟨⟨?_, h1⟩, ?_⟩
    · show -(10 ^ 60) < n ∧ n < 10 ^ 60
      constructor <;> omega
    · show 0 + 1 + sizA (ns.map D.int) = ns.length + 1
      rw [h2]
      omega
theorem sh_rows {k : Nat} : ∀ st : Stg, (∀ ls ∈ st, LenOk ls) → shA (k + 1) (st.map tupI) ∧ sizA (st.map tupI) ≤ 5 * st.length
  | [], _ => ⟨trivial, Nat.le_refl _⟩
  | ls :: st, h => by
    obtain ⟨h1, h2⟩ := sh_rows (k := k) st fun m hm => h m (List.mem_cons_of_mem _ hm)
    obtain ⟨g1, g2⟩ := sh_ints (k := k) ls (h ls List.mem_cons_self).2.2.2
    refine ⟨⟨⟨Nat.succ_pos _, g1⟩, h1⟩, ?_⟩
    have h4 := (h ls List.mem_cons_self).2.1
    show sizA (ls.map D.int) + 1 + sizA (st.map tupI) ≤ 5 * (st.length + 1)
    omega
theorem rep_dev {st : Stg} (ok : StOkD st) : gRepr [.tup [.str (devText st), stD st, .int (st.length : Nat)]] = some (.str (rpD (.tup [.str (devText st), stD st, .int (st.length : Nat)]))) := by
  obtain ⟨g1, g2⟩ := sh_rows (k := 37) st ok.2.2
  have hl := len_text ok
  have h6 := ok.2.1
  refine gRepr_of ⟨⟨by decide, ?_, ⟨by decide, g1⟩, ?_, trivial⟩, ?_⟩
  · show (devText st).cps.toList.all (fun c => decide (c < 16 ^ 8)) = true
    refine List.all_eq_true.mpr fun c hc => decide_eq_true ?_
    have := chars_text ok c hc
    omega
  · show -(10 ^ 60) < ((st.length : Nat) : Int) ∧ ((st.length : Nat) : Int) < 10 ^ 60
    constructor <;> omega
  · show (devText st).cps.size + 1 + (sizA (st.map tupI) + 1 + (0 + 1 + 0)) ≤ 200000
    have hl : (devText st).cps.size ≤ 1000 := hl
    omega
theorem lay_st : ∀ st : Stg, eoBA (st.map lstI) = true ∧ (PyData.canLayAll0 (pyA (st.map lstI)) = true ∧ PyData.depthAll (pyA (st.map lstI)) ≤ 2)
  | [] => by simp [pyA, PyData.canLayAll0, PyData.depthAll, eoBA]
  | r :: rs => by
    obtain ⟨h3, h1, h2⟩ := lay_st rs
    obtain ⟨g1, g2, _⟩ := lay_ints r
    have g3 : ∀ r : List Int, eoBA (r.map D.int) = true := fun r => by
      induction r with
      | nil => rfl
      | cons x xs ih => simp [eoBA, eoB, ih]
    refine ⟨?_, ?_, ?_⟩
    · simp only [List.map_cons, eoBA, lstI, eoB, g3 r, h3, Bool.and_self]
    · simp only [List.map_cons, pyA, PyData.canLayAll0, lstI, pyD, PyData.canLay0, g1, h1, Bool.and_self]
    · simp only [List.map_cons, pyA, PyData.depthAll, lstI, pyD, PyData.depth, g2]
      omega
theorem pyD_st (st : Stg) : pyD (stL st) = PySem.W.Datum.toD (st : List (List Int)) := by
  have h1 : ∀ ns : List Int, pyA (ns.map D.int) = ns.map PyData.int := fun ns => by
    induction ns with
    | nil => rfl
    | cons n ns ih =>
      rw [List.map_cons, List.map_cons, ← ih]
      rfl
  have h2 : ∀ st : Stg, pyA (st.map lstI) = st.map fun ls => PyData.list (ls.map PyData.int) := fun st => by
    induction st with
    | nil => rfl
    | cons ls st ih =>
      rw [List.map_cons, List.map_cons, ← ih, ← h1]
      rfl
  show PyData.list (pyA (st.map lstI)) = PyData.list (st.map fun ls => PyData.list (ls.map PyData.int))
  rw [h2]
theorem eq_st {b : Bool} (st st2 : Stg) : gEqD b (stL st) (stL st2) = some (.bl (if b then !decide (st = st2) else decide (st = st2))) := by
  have sh : ∀ st : Stg, SeqAt.shaped (pyD (stL st)) = true := fun st => by
    obtain ⟨_, h1, h2⟩ := lay_st st
    unfold SeqAt.shaped
    simp only [stL, pyD, PyData.canLay0, PyData.depth, h1, Bool.true_and, decide_eq_true_eq]
    omega
  have eo : ∀ st : Stg, eoB (stL st) = true := fun st => by
    show eoB (.lst (st.map lstI)) = true
    rw [eoB]
    exact (lay_st st).1
  rw [gEqD_eq (eo st) (eo st2) (sh st) (sh st2), pyD_st, pyD_st, PySem.W.Datum.eqv]
theorem turn_okS {st : Stg} {k : Nat} (ok : StOkD st) (hk : k < st.length) : StOkD (st.set k (st.getD k []).reverse) := by
  refine ⟨by rw [List.length_set]; exact ok.1, by rw [List.length_set]; exact ok.2.1, fun ls hls => ?_⟩
  rcases List.mem_or_eq_of_mem_set hls with h | h
  · exact ok.2.2 ls h
  · obtain ⟨g1, g2, g3, g4⟩ := ok.2.2 _ (List.mem_of_getElem? (getD_get [] hk))
    rw [h]
    exact ⟨by rw [List.length_reverse]; exact g1, by rw [List.length_reverse]; exact g2, (List.reverse_perm _).nodup_iff.mpr g3, fun l hl => g4 l (List.mem_reverse.mp hl)⟩
theorem device_right_eq {st : Stg} {xs : List D} {c : Nat} (ok : StOkD st) (hc : c < 900000) (hp : Pot c xs) : ∃ xs', F__law_is_device_right [.lst xs, stL st] = some (.bl true, .lst xs') ∧ Pot (c + 1) xs' := by
  have h6 := ok.2.1
  have h0 := ok.1
  obtain ⟨k', xs1, e5, k0, k1, hp1⟩ := takeOk xs (st.length : Nat) c hp (by omega) (by omega) (by omega)
  obtain ⟨k, rfl⟩ : ∃ k : Nat, k' = (k : Int) := ⟨k'.toNat, by omega⟩
  have hk : k < st.length := by omega
  have ok2 := turn_okS ok hk
  have e1 := law_text_eq ok
  have e2 := law_text_eq ok2
  have e4 := dev_init_eq ok
  have e4' := dev_init_eq ok2
  have pT := dev_text_eq st
  have pS := stages_eq st
  have hT : hProp "Device" F_Device_text (devD st) = some (.str (devText st)) := hProp_eq.trans pT
  have hS : hProp "Device" F_Device_stages (devD st) = some (stD st) := hProp_eq.trans pS
  have e3 := lenOwn_dev (st := st) h6
  have rp := rep_dev ok
  have dt := device_text_eq ok
  have ck : ck1 1 1 [0] F_device_text [stD st] = some (.str (devText st)) := dt
  have ll : (st.map lstI).length = st.length := List.length_map ..
  have l1 := lcD_map (tg := gName 8) (ft := fYes) (a := fCall gTupl (fCons (fLc (fItL (fVar 8)) (gName 10) fYes (fCall gInt (fCons (fVar 10) fNil)) [10]) fNil)) (vs := [8]) (e := [.lst xs, .lst (st.map lstI), .non, .non, .non, .non, .non, .non, .non, .non, .non]) lstI tupI st [] (fun ls hls => by
    have hl := (ok.2.2 ls hls).2.1
    have l0 := lcD_map (tg := gName 10) (ft := fYes) (a := fCall gInt (fCons (fVar 10) fNil)) (vs := [10]) (e := [.lst xs, .lst (st.map lstI), .non, .non, .non, .non, .non, .non, .lst (ls.map D.int), .non, .non]) D.int D.int ls [] (fun x hx => by
      generalize st.map lstI = SS
      generalize ls.map D.int = LL
      walk_at "") (by rw [List.length_nil]; omega)
    rw [List.nil_append] at l0
    show ltn _ _ _ _ (.lst (ls.map D.int)) _ = some (some (.tup (ls.map D.int)), _)
    generalize st.map lstI = SS at l0 ⊢
    generalize ls.map D.int = LL at l0 ⊢
    walk_at "l0") (by rw [List.length_nil]; omega)
  rw [List.nil_append] at l1
  have l2 := lcD_map (tg := gName 8) (ft := fYes) (a := fCall gList (fCons (fVar 8) fNil)) (vs := [8]) (e := [.lst xs, .lst (st.map lstI), .str (devText st), stD st, devD st, .non, .non, .non, .non, .non, .non]) lstI lstI st [] (fun ls hls => by
    show ltn _ _ _ _ (.lst (ls.map D.int)) _ = some (some (.lst (ls.map D.int)), _)
    generalize st.map lstI = SS
    generalize ls.map D.int = LL
    generalize devD st = DV
    generalize stD st = SD
    walk_at "") (by rw [List.length_nil]; omega)
  rw [List.nil_append] at l2
  have ga : atI (st.map lstI) (k : Int) = some (.lst ((st.getD k []).map D.int)) := by
    rw [atI_k, List.getElem?_map, getD_get [] hk]
    rfl
  have gi : ixN (st.map lstI).length (k : Int) = some k := by
    unfold ixN
    rw [if_pos (by omega), if_pos (by rw [ll]; omega), Int.toNat_natCast]
  have gs : (st.map lstI).set k (.lst ((st.getD k []).map D.int).reverse) = (st.set k (st.getD k []).reverse).map lstI := by
    rw [List.map_set, ← List.map_reverse]
  have o1 := own_dev ok ok2
  have o2 := own_ne ok ok2
  have q1 := eq_st (b := false) (st.set k (st.getD k []).reverse) st
  have q2 := eq_st (b := true) (st.set k (st.getD k []).reverse) st
  have hsym : decide (st.set k (st.getD k []).reverse = st) = decide (st = st.set k (st.getD k []).reverse) := decide_eq_decide.mpr ⟨Eq.symm, Eq.symm⟩
  rw [hsym] at q1 q2
  have s1 := own_dev ok ok
  have s2 := own_ne ok ok
  rw [decide_eq_true rfl] at s1 s2
  simp only [if_true, Bool.false_eq_true, if_false] at q1 q2
  generalize hst2 : st.set k (st.getD k []).reverse = st2 at *
  have l3 := lcD_map (tg := gName 9) (ft := fYes) (a := fOp (gEqOwn "Device" F_Device___eq__) (fVar 4) (fVar 9)) (vs := [9]) (e := [.lst xs1, .lst (st.map lstI), .str (devText st), stD st, devD st, .lst (st2.map lstI), .int (k : Int), devD st2, .non, .non, .non]) id (fun _ => D.bl false) [.str (devText st), .non, stD st, .int 0, .lst (st.map tupI)] [] (fun v hv => by
    have hv : isCD "Device" v = some false := by
      simp only [List.mem_cons, List.not_mem_nil, or_false] at hv
      rcases hv with rfl | rfl | rfl | rfl | rfl <;> rfl
    have e := own_val (st := st) hv
    show ltn _ _ _ _ v _ = _
    generalize st.map lstI = SS
    generalize st2.map lstI = SS2
    generalize devD st2 = DV2
    generalize devD st = DV at e ⊢
    generalize stD st = SD
    walk_at "e") (by simp)
  have l3 : fLcD (gName 9) fYes (fOp (gEqOwn "Device" F_Device___eq__) (fVar 4) (fVar 9)) [9] [.str (devText st), .non, stD st, .int 0, .lst (st.map tupI)] [.lst xs1, .lst (st.map lstI), .str (devText st), stD st, devD st, .lst (st2.map lstI), .int (k : Int), devD st2, .non, .non, .non] [] = some ([.bl false, .bl false, .bl false, .bl false, .bl false], [.lst xs1, .lst (st.map lstI), .str (devText st), stD st, devD st, .lst (st2.map lstI), .int (k : Int), devD st2, .non, .non, .non]) := l3
  have a3 : gBls (fun bs => bs.any id) [.lst [.bl false, .bl false, .bl false, .bl false, .bl false]] = some (.bl false) := rfl
  have gl : gList [stD st] = some (.lst (st.map tupI)) := rfl
  have h5 : ∀ a b c d e : D, hLst [a, b, c, d, e] = some (.lst [a, b, c, d, e]) := fun a b c d e => rfl
  refine ⟨xs1, runMR_rt rfl (e := [.lst xs1, .lst (st.map lstI), .str (devText st), stD st, devD st, .lst (st2.map lstI), .int (k : Int), devD st2, .non, .non, .non]) ?_ rfl, hp1⟩
  have tl0 : gTupl [.lst (st.map tupI)] = some (stD st) := rfl
  have e1 : F__law_device_text [.lst (st.map lstI)] = some (.str (devText st)) := e1
  have e2 : F__law_device_text [.lst (st2.map lstI)] = some (.str (devText st2)) := e2
  have q1 : gEqD false (.lst (st2.map lstI)) (.lst (st.map lstI)) = some (.bl (decide (st = st2))) := q1
  have q2 : gEqD true (.lst (st2.map lstI)) (.lst (st.map lstI)) = some (.bl (!decide (st = st2))) := q2
  generalize decide (st = st2) = B at *
  show B__law_is_device_right [.lst xs, .lst (st.map lstI), .non, .non, .non, .non, .non, .non, .non, .non, .non] = _
  generalize st.map tupI = TT at *
  generalize (st.getD k []).map D.int = LK at *
  have hp3 := fun (d : D) (e : En) => pt3_lst (i := 5) (d := d) (e := e) gi
  have gs' : (st.map lstI).set k (.lst LK.reverse) = st2.map lstI := gs
  generalize st2.map lstI = SS2 at *
  generalize st.map lstI = SS at *
  generalize devD st2 = DV2 at *
  generalize devD st = DV at *
  generalize stD st = SD at *
  cases B with
  | true =>
    simp only [Bool.not_true] at q2 o2
    walk_at "e1 l1 tl0 w_perm pm1_1 e4 hT hS e3 ll rp ck dt l2 e5 ga hp3 gs' e2 e4' o1 o2 q1 q2 s1 s2 gl h5 l3 a3"
  | false =>
    simp only [Bool.not_false] at q2 o2
    walk_at "e1 l1 tl0 w_perm pm1_1 e4 hT hS e3 ll rp ck dt l2 e5 ga hp3 gs' e2 e4' o1 o2 q1 q2 s1 s2 gl h5 l3 a3"
abbrev env0 (pot : List D) : En := [.lst pot, .non]
theorem lap_ok {pot : List D} {d : D} {c : Nat} (hc : c < 100000) (hp : Pot c pot) : ∃ pot', tn (gName 1) L1__law_right d (env0 pot) = .nx (env0 pot') ∧ Pot (c + 200) pot' := by
  obtain ⟨st, xs1, e1, ok, _, hp1⟩ := device_eq takeOk (stages := 6) (most := 9) (c := c) (by decide) (by decide) (by decide) (by decide) (by omega) hp
  have e1 : F__law_device [.lst pot, .int 6, .int 9] = some (stL st, .lst xs1) := e1
  obtain ⟨xs2, e2, hp2⟩ := device_right_eq ok (by omega) hp1
  obtain ⟨st3, xs3, e3, ok3, hp3⟩ := great_eq (by omega) hp2
  obtain ⟨xs4, e4, hp4⟩ := device_right_eq ok3 (by omega) hp3
  refine ⟨xs4, ?_, hp4.mono (by omega)⟩
  generalize stL st = SS at e1 e2
  generalize stL st3 = SS3 at e3 e4
  unfold L1__law_right
  walk_at "e1 e2 e3 e4"
theorem right_ok (xs : List D) (hp : Pot 0 xs) : ∃ xs', F__law_right [.lst xs] = some (.bl true, .lst xs') := by
  obtain ⟨e', h1, c', pot', rfl, hp', hc'⟩ := forD_inv (tg := gName 1) (fb := L1__law_right) (fun ds e => ∃ (c' : Nat) (pot : List D), e = env0 pot ∧ Pot c' pot ∧ c' + 200 * ds.length ≤ 400) (fun dd ds e ⟨c', pot, he, hp, hc'⟩ => by
    subst he
    rw [List.length_cons] at hc'
    obtain ⟨pot', h1, h2⟩ := lap_ok (d := dd) (by omega) hp
    exact ⟨_, h1, c' + 200, pot', rfl, h2, by omega⟩) (rngD 0 2) (env0 xs) ⟨0, xs, rfl, hp, by rw [rngD_len]; omega⟩
  have h3 : (2 : Int).toNat = 2 := rfl
  refine ⟨pot', runMR_rt rfl (e := env0 pot') ?_ rfl⟩
  walk_at "h3 h1"
theorem main : Main := fun ns hn => law_main (by decide) (by decide) (by decide) (by decide) (by decide) (by decide) (by decide) (by decide) (by decide) right_ok hn
theorem law_law : ∀ ds Q, ds.length = 1 → S_law ds Q → A_law (endsD Q) (startS 2 (ds.map .pu)) := law_of main
end K00
namespace K00
open PySem L2 DL FB
def topS (i : Nat) : Stmt := PySem.Challenge.pw_queueloops_k00_devices_as_they_are_told.main.body.getD i (.Pass ⟨0, 0, 0, 0⟩)
abbrev s_is_integer : Stmt := topS 9
abbrev N_is_integer : List Str := ["value"]
abbrev s_words_in : Stmt := topS 12
abbrev N_words_in : List Str := ["line"]
abbrev s_lines_in : Stmt := topS 13
abbrev N_lines_in : List Str := ["text"]
abbrev s_Device_text : Stmt := inClass (topS 23) 1
abbrev N_Device_text : List Str := ["self"]
abbrev s_Device_stages : Stmt := inClass (topS 23) 2
abbrev N_Device_stages : List Str := ["self"]
abbrev s_Device___len__ : Stmt := inClass (topS 23) 3
abbrev N_Device___len__ : List Str := ["self"]
abbrev s_Device___eq__ : Stmt := inClass (topS 23) 4
abbrev N_Device___eq__ : List Str := ["self", "other"]
abbrev s_sum_of : Stmt := topS 26
abbrev N_sum_of : List Str := ["stages", "row", "lengths", "lane"]
abbrev s__law_take : Stmt := topS 29
abbrev N__law_take : List Str := ["pot", "upto", "digit", "prime", "blend"]
abbrev s__law_device_text : Stmt := topS 36
abbrev N__law_device_text : List Str := ["own", "some", "one"]
abbrev s_is_within : Stmt := topS 10
abbrev N_is_within : List Str := ["value", "least", "most"]
abbrev s_number_in : Stmt := topS 11
abbrev N_number_in : List Str := ["word", "sign"]
abbrev s_are_lengths : Stmt := topS 20
abbrev N_are_lengths : List Str := ["value", "length"]
abbrev s_all_rows : Stmt := topS 25
abbrev N_all_rows : List Str := ["stages", "found", "lengths", "longer", "row", "lane"]
abbrev s__law_pot : Stmt := topS 28
abbrev N__law_pot : List Str := ["script", "place", "cell", "own", "small"]
abbrev s__law_of : Stmt := topS 30
abbrev N__law_of : List Str := ["pot", "some"]
abbrev s__law_some : Stmt := topS 31
abbrev N__law_some : List Str := ["pot", "pool", "many", "left", "found", "lap"]
abbrev s__law_cells : Stmt := topS 32
abbrev N__law_cells : List Str := ["script", "most"]
abbrev s_lengths_in : Stmt := topS 21
abbrev N_lengths_in : List Str := ["line", "words", "lengths", "word"]
abbrev s_device_text : Stmt := topS 24
abbrev N_device_text : List Str := ["stages", "lengths", "length"]
abbrev s__law_lengths : Stmt := topS 33
abbrev N__law_lengths : List Str := ["pot", "most", "has_zero", "some", "found", "one"]
abbrev s__law_figures_stages : Stmt := topS 34
abbrev N__law_figures_stages : List Str := ["pot", "stages", "found", "many", "lap", "base", "at"]
abbrev s__law_great_device : Stmt := topS 37
abbrev N__law_great_device : List Str := ["pot", "own", "lap", "found", "turn", "length"]
abbrev s_read_device : Stmt := topS 22
abbrev N_read_device : List Str := ["text", "found", "at", "line", "lengths"]
abbrev s__law_device : Stmt := topS 35
abbrev N__law_device : List Str := ["pot", "stages", "most", "many", "way", "found", "lap", "some"]
abbrev s_Device___init__ : Stmt := inClass (topS 23) 0
abbrev N_Device___init__ : List Str := ["self", "text", "row"]
abbrev s__law_is_device_right : Stmt := topS 38
abbrev N__law_is_device_right : List Str := ["pot", "own", "text", "stages", "device", "near", "at", "far", "some", "value", "one"]
abbrev s__law_right : Stmt := topS 39
abbrev N__law_right : List Str := ["pot", "lap"]
abbrev s_law : Stmt := topS 40
abbrev N_law : List Str := ["script", "place"]
structure Tx (K : PySem.W.Frag) (mg : Str → Option Value) where
  f_is_integer : Addr
  d_is_integer : FuncData
  F_is_integer : Fun K "is_integer" "is_integer" s_is_integer f_is_integer d_is_integer
  b_is_integer : Binds K d_is_integer ["value"] []
  g_is_integer : mg "is_integer" = some (.ref f_is_integer)
  f_words_in : Addr
  d_words_in : FuncData
  F_words_in : Fun K "words_in" "words_in" s_words_in f_words_in d_words_in
  b_words_in : Binds K d_words_in ["line"] []
  g_words_in : mg "words_in" = some (.ref f_words_in)
  f_lines_in : Addr
  d_lines_in : FuncData
  F_lines_in : Fun K "lines_in" "lines_in" s_lines_in f_lines_in d_lines_in
  b_lines_in : Binds K d_lines_in ["text"] []
  g_lines_in : mg "lines_in" = some (.ref f_lines_in)
  f_Device_text : Addr
  d_Device_text : FuncData
  F_Device_text : Fun K "text" "Device.text" s_Device_text f_Device_text d_Device_text
  b_Device_text : Binds K d_Device_text ["self"] []
  f_Device_stages : Addr
  d_Device_stages : FuncData
  F_Device_stages : Fun K "stages" "Device.stages" s_Device_stages f_Device_stages d_Device_stages
  b_Device_stages : Binds K d_Device_stages ["self"] []
  f_Device___len__ : Addr
  d_Device___len__ : FuncData
  F_Device___len__ : Fun K "__len__" "Device.__len__" s_Device___len__ f_Device___len__ d_Device___len__
  b_Device___len__ : Binds K d_Device___len__ ["self"] []
  f_Device___eq__ : Addr
  d_Device___eq__ : FuncData
  F_Device___eq__ : Fun K "__eq__" "Device.__eq__" s_Device___eq__ f_Device___eq__ d_Device___eq__
  b_Device___eq__ : Binds K d_Device___eq__ ["self", "other"] []
  f_sum_of : Addr
  d_sum_of : FuncData
  F_sum_of : Fun K "sum_of" "sum_of" s_sum_of f_sum_of d_sum_of
  b_sum_of : Binds K d_sum_of ["stages", "row"] []
  g_sum_of : mg "sum_of" = some (.ref f_sum_of)
  f__law_take : Addr
  d__law_take : FuncData
  F__law_take : Fun K "_law_take" "_law_take" s__law_take f__law_take d__law_take
  b__law_take : Binds K d__law_take ["pot", "upto"] []
  g__law_take : mg "_law_take" = some (.ref f__law_take)
  f__law_device_text : Addr
  d__law_device_text : FuncData
  F__law_device_text : Fun K "_law_device_text" "_law_device_text" s__law_device_text f__law_device_text d__law_device_text
  b__law_device_text : Binds K d__law_device_text ["own"] []
  g__law_device_text : mg "_law_device_text" = some (.ref f__law_device_text)
  f_is_within : Addr
  d_is_within : FuncData
  F_is_within : Fun K "is_within" "is_within" s_is_within f_is_within d_is_within
  b_is_within : Binds K d_is_within ["value", "least", "most"] []
  g_is_within : mg "is_within" = some (.ref f_is_within)
  f_number_in : Addr
  d_number_in : FuncData
  F_number_in : Fun K "number_in" "number_in" s_number_in f_number_in d_number_in
  b_number_in : Binds K d_number_in ["word"] []
  g_number_in : mg "number_in" = some (.ref f_number_in)
  f_are_lengths : Addr
  d_are_lengths : FuncData
  F_are_lengths : Fun K "are_lengths" "are_lengths" s_are_lengths f_are_lengths d_are_lengths
  b_are_lengths : Binds K d_are_lengths ["value"] []
  g_are_lengths : mg "are_lengths" = some (.ref f_are_lengths)
  f_all_rows : Addr
  d_all_rows : FuncData
  F_all_rows : Fun K "all_rows" "all_rows" s_all_rows f_all_rows d_all_rows
  b_all_rows : Binds K d_all_rows ["stages"] []
  g_all_rows : mg "all_rows" = some (.ref f_all_rows)
  f__law_pot : Addr
  d__law_pot : FuncData
  F__law_pot : Fun K "_law_pot" "_law_pot" s__law_pot f__law_pot d__law_pot
  b__law_pot : Binds K d__law_pot ["script", "place"] []
  g__law_pot : mg "_law_pot" = some (.ref f__law_pot)
  f__law_of : Addr
  d__law_of : FuncData
  F__law_of : Fun K "_law_of" "_law_of" s__law_of f__law_of d__law_of
  b__law_of : Binds K d__law_of ["pot", "some"] []
  g__law_of : mg "_law_of" = some (.ref f__law_of)
  f__law_some : Addr
  d__law_some : FuncData
  F__law_some : Fun K "_law_some" "_law_some" s__law_some f__law_some d__law_some
  b__law_some : Binds K d__law_some ["pot", "pool", "many"] []
  g__law_some : mg "_law_some" = some (.ref f__law_some)
  f__law_cells : Addr
  d__law_cells : FuncData
  F__law_cells : Fun K "_law_cells" "_law_cells" s__law_cells f__law_cells d__law_cells
  b__law_cells : Binds K d__law_cells ["script", "most"] []
  g__law_cells : mg "_law_cells" = some (.ref f__law_cells)
  f_lengths_in : Addr
  d_lengths_in : FuncData
  F_lengths_in : Fun K "lengths_in" "lengths_in" s_lengths_in f_lengths_in d_lengths_in
  b_lengths_in : Binds K d_lengths_in ["line"] []
  g_lengths_in : mg "lengths_in" = some (.ref f_lengths_in)
  f_device_text : Addr
  d_device_text : FuncData
  F_device_text : Fun K "device_text" "device_text" s_device_text f_device_text d_device_text
  b_device_text : Binds K d_device_text ["stages"] []
  g_device_text : mg "device_text" = some (.ref f_device_text)
  f__law_lengths : Addr
  d__law_lengths : FuncData
  F__law_lengths : Fun K "_law_lengths" "_law_lengths" s__law_lengths f__law_lengths d__law_lengths
  b__law_lengths : Binds K d__law_lengths ["pot", "most", "has_zero"] []
  g__law_lengths : mg "_law_lengths" = some (.ref f__law_lengths)
  f__law_figures_stages : Addr
  d__law_figures_stages : FuncData
  F__law_figures_stages : Fun K "_law_figures_stages" "_law_figures_stages" s__law_figures_stages f__law_figures_stages d__law_figures_stages
  b__law_figures_stages : Binds K d__law_figures_stages ["pot", "stages"] []
  g__law_figures_stages : mg "_law_figures_stages" = some (.ref f__law_figures_stages)
  f__law_great_device : Addr
  d__law_great_device : FuncData
  F__law_great_device : Fun K "_law_great_device" "_law_great_device" s__law_great_device f__law_great_device d__law_great_device
  b__law_great_device : Binds K d__law_great_device ["pot"] []
  g__law_great_device : mg "_law_great_device" = some (.ref f__law_great_device)
  f_read_device : Addr
  d_read_device : FuncData
  F_read_device : Fun K "read_device" "read_device" s_read_device f_read_device d_read_device
  b_read_device : Binds K d_read_device ["text"] []
  g_read_device : mg "read_device" = some (.ref f_read_device)
  f__law_device : Addr
  d__law_device : FuncData
  F__law_device : Fun K "_law_device" "_law_device" s__law_device f__law_device d__law_device
  b__law_device : Binds K d__law_device ["pot", "stages", "most"] []
  g__law_device : mg "_law_device" = some (.ref f__law_device)
  f_Device___init__ : Addr
  d_Device___init__ : FuncData
  F_Device___init__ : Fun K "__init__" "Device.__init__" s_Device___init__ f_Device___init__ d_Device___init__
  b_Device___init__ : Binds K d_Device___init__ ["self", "text"] []
  f__law_is_device_right : Addr
  d__law_is_device_right : FuncData
  F__law_is_device_right : Fun K "_law_is_device_right" "_law_is_device_right" s__law_is_device_right f__law_is_device_right d__law_is_device_right
  b__law_is_device_right : Binds K d__law_is_device_right ["pot", "own"] []
  g__law_is_device_right : mg "_law_is_device_right" = some (.ref f__law_is_device_right)
  f__law_right : Addr
  d__law_right : FuncData
  F__law_right : Fun K "_law_right" "_law_right" s__law_right f__law_right d__law_right
  b__law_right : Binds K d__law_right ["pot"] []
  g__law_right : mg "_law_right" = some (.ref f__law_right)
  f_law : Addr
  d_law : FuncData
  F_law : Fun K "law" "law" s_law f_law d_law
  b_law : Binds K d_law ["script"] []
  g_law : mg "law" = some (.ref f_law)
  C_Device : Addr
  h_Device : clsA K "Device" = C_Device
  l_Device : Cls K C_Device
  g_Device : mg "Device" = some (.ref C_Device)
  k_Device : Mk K C_Device f_Device___init__
  n_Device : LenC K C_Device f_Device___len__
  eq_Device : EqC K C_Device f_Device___eq__
  ic_Device : IsC K C_Device
  pr_Device_text : Addr
  p_Device_text : PropOf K C_Device "text" pr_Device_text f_Device_text
  pr_Device_stages : Addr
  p_Device_stages : PropOf K C_Device "stages" pr_Device_stages f_Device_stages
  o_Device_own_rows : FldOk K "Device" "own_rows"
  o_Device_own_stages : FldOk K "Device" "own_stages"
  o_Device_own_text : FldOk K "Device" "own_text"
  kb_0 : KBinds K d_device_text ["stages"] ["stages"] (gP 1 [0]) (gP 1 [0])
  kn_0 : KBn K d_Device___init__ ["self", "text"] 1 ["text"] (gU [0]) (gU [0])
  z_abs : mg "abs" = none
  z_all : mg "all" = none
  z_any : mg "any" = none
  z_bool : mg "bool" = none
  z_enumerate : mg "enumerate" = none
  z_int : mg "int" = none
  z_isinstance : mg "isinstance" = none
  z_len : mg "len" = none
  z_list : mg "list" = none
  z_max : mg "max" = none
  z_min : mg "min" = none
  z_range : mg "range" = none
  z_repr : mg "repr" = none
  z_set : mg "set" = none
  z_str : mg "str" = none
  z_sum : mg "sum" = none
  z_tuple : mg "tuple" = none
  z_zip : mg "zip" = none
  c_BLANK : ∃ t, mg "BLANK" = some (.str " " t)
  c_DIGITS : ∃ t, mg "DIGITS" = some (.str "0123456789" t)
  c_FEED : ∃ t, mg "FEED" = some (.str "\n" t)
  c_LEAST_LANES : ∃ t, mg "LEAST_LANES" = some (.int 2 t)
  c_MOST_DIGITS : ∃ t, mg "MOST_DIGITS" = some (.int 9 t)
  c_MOST_LANES : ∃ t, mg "MOST_LANES" = some (.int 4 t)
  c_MOST_LENGTH : ∃ t, mg "MOST_LENGTH" = some (.int 1000000 t)
  c_MOST_STAGES : ∃ t, mg "MOST_STAGES" = some (.int 6 t)
  c_STAGE : ∃ t, mg "STAGE" = some (.str "stage" t)
section
variable {P : Program} {w : World} {K : PySem.W.Frag} {mg : Str → Option Value} {base : Heap}
theorem sc_is_integer : FnScope N_is_integer ["value"] (defScope s_is_integer) := ⟨rfl, rfl, rfl, by decide +kernel, rfl, by decide +kernel, by decide +kernel⟩
theorem ok_is_integer (T : Tx K mg) : FnOk P w K mg base CX0 1 T.f_is_integer T.d_is_integer ["value"] (spD K 1 S_is_integer) := fnDF (as := A_is_integer) T.F_is_integer sc_is_integer rfl law_is_integer fun cdv A outer s H E hr => ⟨_,
    (ss_one (s_ret (d_and (d_isi (K := K) (hK := rfl) (T := .int) (d_var 0) T.z_isinstance (by decide +kernel) T.z_int (by decide +kernel)) (d_one (d_not (d_isi (K := K) (hK := rfl) (T := .bool) (d_var 0) T.z_isinstance (by decide +kernel) T.z_bool (by decide +kernel)))))))⟩
theorem sc_words_in : FnScope N_words_in ["line"] (defScope s_words_in) := ⟨rfl, rfl, rfl, by decide +kernel, rfl, by decide +kernel, by decide +kernel⟩
theorem ok_words_in (T : Tx K mg) : FnOk P w K mg base CX0 1 T.f_words_in T.d_words_in ["line"] (spD K 1 S_words_in) := fnDF (as := A_words_in) T.F_words_in sc_words_in rfl law_words_in fun cdv A outer s H E hr => ⟨_,
    (ss_one (s_ret (d_split (d_var 0) (d_gstr T.c_BLANK))))⟩
theorem sc_lines_in : FnScope N_lines_in ["text"] (defScope s_lines_in) := ⟨rfl, rfl, rfl, by decide +kernel, rfl, by decide +kernel, by decide +kernel⟩
theorem ok_lines_in (T : Tx K mg) : FnOk P w K mg base CX0 1 T.f_lines_in T.d_lines_in ["text"] (spD K 1 S_lines_in) := fnDF (as := A_lines_in) T.F_lines_in sc_lines_in rfl law_lines_in fun cdv A outer s H E hr => ⟨_,
    (ss_one (s_ret (d_split (d_var 0) (d_gstr T.c_FEED))))⟩
theorem sc_Device_text : FnScope N_Device_text ["self"] (defScope s_Device_text) := ⟨rfl, rfl, rfl, by decide +kernel, rfl, by decide +kernel, by decide +kernel⟩
theorem ok_Device_text (T : Tx K mg) : FnOk P w K mg base CX0 1 T.f_Device_text T.d_Device_text ["self"] (spD K 1 S_Device_text) := fnDF (as := A_Device_text) T.F_Device_text sc_Device_text rfl law_Device_text fun cdv A outer s H E hr => ⟨_,
    (ss_one (s_ret (d_get (K := K) (hK := rfl) (i := 0) (path := [("Device", "own_text")]) (pe_fld (d_var 0).pe rfl) (fok_cons T.o_Device_own_text fok_nil))))⟩
theorem sc_Device_stages : FnScope N_Device_stages ["self"] (defScope s_Device_stages) := ⟨rfl, rfl, rfl, by decide +kernel, rfl, by decide +kernel, by decide +kernel⟩
theorem ok_Device_stages (T : Tx K mg) : FnOk P w K mg base CX0 1 T.f_Device_stages T.d_Device_stages ["self"] (spD K 1 S_Device_stages) := fnDF (as := A_Device_stages) T.F_Device_stages sc_Device_stages rfl law_Device_stages fun cdv A outer s H E hr => ⟨_,
    (ss_one (s_ret (d_get (K := K) (hK := rfl) (i := 0) (path := [("Device", "own_stages")]) (pe_fld (d_var 0).pe rfl) (fok_cons T.o_Device_own_stages fok_nil))))⟩
theorem sc_Device___len__ : FnScope N_Device___len__ ["self"] (defScope s_Device___len__) := ⟨rfl, rfl, rfl, by decide +kernel, rfl, by decide +kernel, by decide +kernel⟩
theorem ok_Device___len__ (T : Tx K mg) : FnOk P w K mg base CX0 1 T.f_Device___len__ T.d_Device___len__ ["self"] (spD K 1 S_Device___len__) := fnDF (as := A_Device___len__) T.F_Device___len__ sc_Device___len__ rfl law_Device___len__ fun cdv A outer s H E hr => ⟨_,
    (ss_one (s_ret (d_cb (K := K) (hK := rfl) rc_len call_len_seq T.z_len (by decide +kernel) (da_cons (d_get (K := K) (hK := rfl) (i := 0) (path := [("Device", "own_stages")]) (pe_fld (d_var 0).pe rfl) (fok_cons T.o_Device_own_stages fok_nil)) da_nil))))⟩
theorem sc_Device___eq__ : FnScope N_Device___eq__ ["self", "other"] (defScope s_Device___eq__) := ⟨rfl, rfl, rfl, by decide +kernel, rfl, by decide +kernel, by decide +kernel⟩
theorem ok_Device___eq__ (T : Tx K mg) : FnOk P w K mg base CX0 1 T.f_Device___eq__ T.d_Device___eq__ ["self", "other"] (spD K 2 S_Device___eq__) := fnDF (as := A_Device___eq__) T.F_Device___eq__ sc_Device___eq__ rfl law_Device___eq__ fun cdv A outer s H E hr => ⟨_,
    (ss_one (s_ret (d_and (d_isC (K := K) (hK := rfl) T.h_Device T.ic_Device (d_var 1) T.z_isinstance T.g_Device) (d_one (d_cmp op_eq rd_eq (d_get (K := K) (hK := rfl) (i := 0) (path := [("Device", "own_text")]) (pe_fld (d_var 0).pe rfl) (fok_cons T.o_Device_own_text fok_nil)) (d_get (K := K) (hK := rfl) (i := 1) (path := [("Device", "own_text")]) (pe_fld (d_var 1).pe rfl) (fok_cons T.o_Device_own_text fok_nil)) (nomark _))))))⟩
theorem sc_sum_of : FnScope N_sum_of ["stages", "row"] (defScope s_sum_of) := ⟨rfl, rfl, rfl, by decide +kernel, rfl, by decide +kernel, by decide +kernel⟩
theorem ok_sum_of (T : Tx K mg) : FnOk P w K mg base CX0 1 T.f_sum_of T.d_sum_of ["stages", "row"] (spD K 2 S_sum_of) := fnDF (as := A_sum_of) T.F_sum_of sc_sum_of rfl law_sum_of fun cdv A outer s H E hr => ⟨_,
    (ss_one (s_ret (d_cb (K := K) (hK := rfl) rc_sum (cr_sum rfl) T.z_sum (by decide +kernel) (da_cons (d_lc (own := [("lengths", 2), ("lane", 3)]) rfl sc_sum_of.nd (di_zip (K := K) (hK := rfl) T.z_zip (da_cons (d_var 0) (da_cons (d_var 1) da_nil))) (blkOk_by (N := N_sum_of) (sc := defScope s_sum_of) (own := [("lengths", 2), ("lane", 3)]) (by decide +kernel)) (by decide) (fun _ _ _ _ _ => (dg_tup (K := K) (hK := rfl) rfl (dgs_cons (dg_name (i := 2) sc_sum_of.nd) (dgs_cons (dg_name (i := 3) sc_sum_of.nd) dgs_nil)))) (fun _ _ _ _ _ => (d_ix (K := K) (hK := rfl) (d_var 2) (d_var 3)))) da_nil))))⟩
theorem sc__law_take : FnScope N__law_take ["pot", "upto"] (defScope s__law_take) := ⟨rfl, rfl, rfl, by decide +kernel, rfl, by decide +kernel, by decide +kernel⟩
theorem ok__law_take (T : Tx K mg) : FnOk P w K mg base CX0 1 T.f__law_take T.d__law_take ["pot", "upto"] (spM K 2 S__law_take) := fnMF (as := A__law_take) T.F__law_take sc__law_take rfl law__law_take fun cdv A outer s H E hr => ⟨_,
    (ss_cons (s_if (t_cmp op_gt rd_b (d_ixO (K := K) (hK := rfl) (i := 0) (d_var 0) d_int) d_int (nomark _)) (ss_cons (s_set (i := 2) sc__law_take.nd (d_mod (d_ct (K := K) (hK := rfl) rc_int call_int1 T.z_int (by decide +kernel) (da_cons (d_ixO (K := K) (hK := rfl) (i := 0) (d_var 0) d_int) da_nil)) (d_var 1)))
    (ss_cons (s_put (i := 0) (d_fdivW (d_ixO (K := K) (hK := rfl) (i := 0) (d_var 0) d_int) (d_var 1)) (d_var 0) d_int)
    (ss_one (s_ret (d_var 2))))) ss_nil)
    (ss_cons (s_put (i := 0) (d_add (d_ixO (K := K) (hK := rfl) (i := 0) (d_var 0) d_int) d_int) (d_var 0) d_int)
    (ss_cons (s_set (i := 3) sc__law_take.nd (d_ix (K := K) (hK := rfl) (d_lst (da_cons d_int (da_cons d_int (da_cons d_int (da_cons d_int (da_cons d_int da_nil)))))) (d_mod (d_ct (K := K) (hK := rfl) rc_int call_int1 T.z_int (by decide +kernel) (da_cons (d_ixO (K := K) (hK := rfl) (i := 0) (d_var 0) d_int) da_nil)) d_int)))
    (ss_cons (s_set (i := 4) sc__law_take.nd (d_mod (d_ct (K := K) (hK := rfl) rc_int call_int1 T.z_int (by decide +kernel) (da_cons (d_pow (d_ct (K := K) (hK := rfl) rc_int call_int1 T.z_int (by decide +kernel) (da_cons (d_add (d_add (d_ixO (K := K) (hK := rfl) (i := 0) (d_var 0) d_int) (d_mul (d_mul d_int (d_ixO (K := K) (hK := rfl) (i := 0) (d_var 0) d_int)) (d_ixO (K := K) (hK := rfl) (i := 0) (d_var 0) d_int))) d_int) da_nil)) d_int) da_nil)) (d_var 3)))
    (ss_cons (s_set (i := 4) sc__law_take.nd (d_mod (d_ct (K := K) (hK := rfl) rc_int call_int1 T.z_int (by decide +kernel) (da_cons (d_mul (d_var 4) (d_add (d_mod (d_ct (K := K) (hK := rfl) rc_int call_int1 T.z_int (by decide +kernel) (da_cons (d_var 4) da_nil)) d_int) (d_mul d_int (d_ixO (K := K) (hK := rfl) (i := 0) (d_var 0) d_int)))) da_nil)) d_int))
    (ss_one (s_ret (d_mod (d_ct (K := K) (hK := rfl) rc_int call_int1 T.z_int (by decide +kernel) (da_cons (d_fdivW (d_var 4) d_int) da_nil)) (d_var 1)))))))))⟩
theorem sc__law_device_text : FnScope N__law_device_text ["own"] (defScope s__law_device_text) := ⟨rfl, rfl, rfl, by decide +kernel, rfl, by decide +kernel, by decide +kernel⟩
theorem ok__law_device_text (T : Tx K mg) : FnOk P w K mg base CX0 1 T.f__law_device_text T.d__law_device_text ["own"] (spD K 1 S__law_device_text) := fnDF (as := A__law_device_text) T.F__law_device_text sc__law_device_text rfl law__law_device_text fun cdv A outer s H E hr => ⟨_,
    (ss_one (s_ret (d_join (K := K) (hK := rfl) d_str (d_lc (own := [("some", 1)]) rfl sc__law_device_text.nd (di_list (K := K) (hK := rfl) (d_var 0)) (blkOk_by (N := N__law_device_text) (sc := defScope s__law_device_text) (own := [("some", 1)]) (by decide +kernel)) (by decide) (fun _ _ _ _ _ => (dg_name (i := 1) sc__law_device_text.nd)) (fun _ _ _ _ _ => (d_join (K := K) (hK := rfl) d_str (d_cat_lst (d_lst (da_cons d_str da_nil)) (d_lc (own := [("one", 2)]) rfl sc__law_device_text.nd (di_list (K := K) (hK := rfl) (d_var 1)) (blkOk_by (N := N__law_device_text) (sc := { kind := .function, names := [(".0", .local), ("some", .local)], isGenerator := false, isCoroutine := false, more := [] }) (own := [("one", 2)]) (by decide +kernel)) (by decide) (fun _ _ _ _ _ => (dg_name (i := 2) sc__law_device_text.nd)) (fun _ _ _ _ _ => (d_ct (K := K) (hK := rfl) rc_strI call_str_int T.z_str (by decide +kernel) (da_cons (d_ct (K := K) (hK := rfl) rc_int call_int1 T.z_int (by decide +kernel) (da_cons (d_var 2) da_nil)) da_nil)))))))))))⟩
theorem sc_is_within : FnScope N_is_within ["value", "least", "most"] (defScope s_is_within) := ⟨rfl, rfl, rfl, by decide +kernel, rfl, by decide +kernel, by decide +kernel⟩
theorem ok_is_within (T : Tx K mg) : FnOk P w K mg base CX0 2 T.f_is_within T.d_is_within ["value", "least", "most"] (spD K 3 S_is_within) := fnDF (as := A_is_within) T.F_is_within sc_is_within rfl law_is_within fun cdv A outer s H E hr => ⟨_,
    (ss_one (s_ret (d_and (d_callF (K := K) (hK := rfl) (ok_is_integer T) (hr.mono (by decide)) T.g_is_integer T.F_is_integer.kp T.b_is_integer (da_cons (d_var 0) da_nil)) (d_one (d_chain op_le rd_b op_le rd_b (d_var 1) (d_var 0) (d_var 2))))))⟩
theorem sc_number_in : FnScope N_number_in ["word"] (defScope s_number_in) := ⟨rfl, rfl, rfl, by decide +kernel, rfl, by decide +kernel, by decide +kernel⟩
theorem ok_number_in (T : Tx K mg) : FnOk P w K mg base CX0 3 T.f_number_in T.d_number_in ["word"] (spD K 1 S_number_in) := fnDF (as := A_number_in) T.F_number_in sc_number_in rfl law_number_in fun cdv A outer s H E hr => ⟨_,
    (ss_cons (s_if (t_w (w_or (t_not (t_chain op_le rd_b op_le rd_b d_int (d_cb (K := K) (hK := rfl) rc_lenS call_len_str T.z_len (by decide +kernel) (da_cons (d_var 0) da_nil)) (d_gint T.c_MOST_DIGITS))) (w_or1 (t_not (t_val (d_cb (K := K) (hK := rfl) rc_all (cr_all rfl) T.z_all (by decide +kernel) (da_cons (d_lc (own := [("sign", 1)]) rfl sc_number_in.nd (di_str (d_var 0)) (blkOk_by (N := N_number_in) (sc := defScope s_number_in) (own := [("sign", 1)]) (by decide +kernel)) (by decide) (fun _ _ _ _ _ => (dg_name (i := 1) sc_number_in.nd)) (fun _ _ _ _ _ => (d_inSg (d_var 1) (d_gstr T.c_DIGITS)))) da_nil))))))) (ss_one (s_ret d_non)) ss_nil)
    (ss_one (s_ret (d_if (t_w (w_or (t_cmp op_eq rd_eq (d_var 0) d_str (nomark _)) (w_or1 (t_cmp op_ne rd_ne (d_ixStr (d_var 0) d_int) d_str (nomark _))))) (d_ct (K := K) (hK := rfl) rc_intS call_int_str T.z_int (by decide +kernel) (da_cons (d_var 0) da_nil)) d_non))))⟩
theorem sc_are_lengths : FnScope N_are_lengths ["value"] (defScope s_are_lengths) := ⟨rfl, rfl, rfl, by decide +kernel, rfl, by decide +kernel, by decide +kernel⟩
theorem ok_are_lengths (T : Tx K mg) : FnOk P w K mg base CX0 3 T.f_are_lengths T.d_are_lengths ["value"] (spD K 1 S_are_lengths) := fnDF (as := A_are_lengths) T.F_are_lengths sc_are_lengths rfl law_are_lengths fun cdv A outer s H E hr => ⟨_,
    (ss_cons (s_if (t_w (w_or (t_not (t_val (d_isi (K := K) (hK := rfl) (T := .tuple) (d_var 0) T.z_isinstance (by decide +kernel) T.z_tuple (by decide +kernel)))) (w_or1 (t_not (t_chain op_le rd_b op_le rd_b (d_gint T.c_LEAST_LANES) (d_cb (K := K) (hK := rfl) rc_len call_len_seq T.z_len (by decide +kernel) (da_cons (d_var 0) da_nil)) (d_gint T.c_MOST_LANES)))))) (ss_one (s_ret d_bl)) ss_nil)
    (ss_cons (s_if (t_not (t_val (d_cb (K := K) (hK := rfl) rc_all (cr_all rfl) T.z_all (by decide +kernel) (da_cons (d_lc (own := [("length", 1)]) rfl sc_are_lengths.nd (di_tup (K := K) (hK := rfl) (d_var 0)) (blkOk_by (N := N_are_lengths) (sc := defScope s_are_lengths) (own := [("length", 1)]) (by decide +kernel)) (by decide) (fun _ _ _ _ _ => (dg_name (i := 1) sc_are_lengths.nd)) (fun _ _ _ _ _ => (d_callF (K := K) (hK := rfl) (ok_is_within T) (hr.mono (by decide)) T.g_is_within T.F_is_within.kp T.b_is_within (da_cons (d_var 1) (da_cons d_int (da_cons (d_gint T.c_MOST_LENGTH) da_nil)))))) da_nil)))) (ss_one (s_ret d_bl)) ss_nil)
    (ss_one (s_ret (d_cmp op_eq rd_eq (d_lenSetT (K := K) (hK := rfl) T.z_len T.z_set (d_var 0)) (d_cb (K := K) (hK := rfl) rc_len call_len_seq T.z_len (by decide +kernel) (da_cons (d_var 0) da_nil)) (nomark _))))))⟩
theorem sc_all_rows : FnScope N_all_rows ["stages"] (defScope s_all_rows) := ⟨rfl, rfl, rfl, by decide +kernel, rfl, by decide +kernel, by decide +kernel⟩
theorem ok_all_rows (T : Tx K mg) : FnOk P w K mg base CX0 3 T.f_all_rows T.d_all_rows ["stages"] (spD K 1 S_all_rows) := fnDF (as := A_all_rows) T.F_all_rows sc_all_rows rfl law_all_rows fun cdv A outer s H E hr => ⟨_,
    (ss_cons (s_set (i := 1) sc_all_rows.nd (d_lst (da_cons (d_tup da_nil) da_nil)))
    (ss_cons (s_for PassesOwn.never rfl (di_tup (K := K) (hK := rfl) (d_var 0)) (dg_name (i := 2) sc_all_rows.nd) (ss_cons (s_set (i := 3) sc_all_rows.nd (d_lst da_nil))
    (ss_cons (s_for PassesOwn.never rfl (di_list (K := K) (hK := rfl) (d_var 1)) (dg_name (i := 4) sc_all_rows.nd) (ss_one (s_ext (i := 3) (d_lc (own := [("lane", 5)]) rfl sc_all_rows.nd (di_rng1 T.z_range (da_cons (d_cb (K := K) (hK := rfl) rc_len call_len_seq T.z_len (by decide +kernel) (da_cons (d_var 2) da_nil)) da_nil)) (blkOk_by (N := N_all_rows) (sc := defScope s_all_rows) (own := [("lane", 5)]) (by decide +kernel)) (by decide) (fun _ _ _ _ _ => (dg_name (i := 5) sc_all_rows.nd)) (fun _ _ _ _ _ => (d_tup (da_star (K := K) (hK := rfl) (d_var 4) (da_cons (d_var 5) da_nil))))) (d_var 3))))
    (ss_one (s_set (i := 1) sc_all_rows.nd (d_var 3))))))
    (ss_one (s_ret (d_var 1)))))⟩
theorem sc__law_pot : FnScope N__law_pot ["script", "place"] (defScope s__law_pot) := ⟨rfl, rfl, rfl, by decide +kernel, rfl, by decide +kernel, by decide +kernel⟩
theorem ok__law_pot (T : Tx K mg) : FnOk P w K mg base CX0 3 T.f__law_pot T.d__law_pot ["script", "place"] (spD K 2 S__law_pot) := fnDF (as := A__law_pot) T.F__law_pot sc__law_pot rfl law__law_pot fun cdv A outer s H E hr => ⟨_,
    (ss_cons (s_set (i := 2) sc__law_pot.nd (d_if (t_cmp op_lt rd_b (d_var 1) (d_cb (K := K) (hK := rfl) rc_len call_len_seq T.z_len (by decide +kernel) (da_cons (d_var 0) da_nil)) (nomark _)) (d_ix (K := K) (hK := rfl) (d_var 0) (d_var 1)) (d_add (d_add (d_mod (d_cb (K := K) (hK := rfl) rc_sum (cr_sum rfl) T.z_sum (by decide +kernel) (da_cons (d_slL (K := K) (hK := rfl) (d_var 0) do_no (do_so d_int)) da_nil)) d_int) (d_mul d_int (d_var 1))) d_int)))
    (ss_cons (s_set (i := 3) sc__law_pot.nd (d_mul (d_mod (d_ct (K := K) (hK := rfl) rc_int call_int1 T.z_int (by decide +kernel) (da_cons (d_cb (K := K) (hK := rfl) rc_i1 cr_abs T.z_abs (by decide +kernel) (da_cons (d_var 2) da_nil)) da_nil)) (d_powW (d_pow d_int d_int) d_int)) (d_ct (K := K) (hK := rfl) rc_int call_int1 T.z_int (by decide +kernel) (da_cons (d_cmp op_ge rd_b (d_cb (K := K) (hK := rfl) rc_i1 cr_abs T.z_abs (by decide +kernel) (da_cons (d_var 2) da_nil)) (d_pow d_int d_int) (nomark _)) da_nil))))
    (ss_cons (s_set (i := 4) sc__law_pot.nd (d_mod (d_ct (K := K) (hK := rfl) rc_int call_int1 T.z_int (by decide +kernel) (da_cons (d_var 2) da_nil)) d_int))
    (ss_one (s_ret (d_lst (da_cons (d_var 3) (da_cons (d_mod (d_ct (K := K) (hK := rfl) rc_int call_int1 T.z_int (by decide +kernel) (da_cons (d_add (d_add (d_mul (d_var 4) d_int) (d_mul (d_mul d_int (d_var 1)) (d_var 1))) d_int) da_nil)) d_int) (da_cons d_int da_nil)))))))))⟩
theorem sc__law_of : FnScope N__law_of ["pot", "some"] (defScope s__law_of) := ⟨rfl, rfl, rfl, by decide +kernel, rfl, by decide +kernel, by decide +kernel⟩
theorem ok__law_of (T : Tx K mg) : FnOk P w K mg base CX0 3 T.f__law_of T.d__law_of ["pot", "some"] (spM K 2 S__law_of) := fnMF (as := A__law_of) T.F__law_of sc__law_of rfl law__law_of fun cdv A outer s H E hr => ⟨_,
    (ss_one (s_ret (d_ix (K := K) (hK := rfl) (d_var 1) (d_callMF (K := K) (hK := rfl) (j := 0) (ok__law_take T) (hr.mono (by decide)) T.g__law_take T.F__law_take.kp T.b__law_take (d_var 0) (da_cons (d_cb (K := K) (hK := rfl) rc_len call_len_seq T.z_len (by decide +kernel) (da_cons (d_var 1) da_nil)) da_nil)))))⟩
theorem sc__law_some : FnScope N__law_some ["pot", "pool", "many"] (defScope s__law_some) := ⟨rfl, rfl, rfl, by decide +kernel, rfl, by decide +kernel, by decide +kernel⟩
theorem ok__law_some (T : Tx K mg) : FnOk P w K mg base CX0 3 T.f__law_some T.d__law_some ["pot", "pool", "many"] (spM K 3 S__law_some) := fnMF (as := A__law_some) T.F__law_some sc__law_some rfl law__law_some fun cdv A outer s H E hr => ⟨_,
    (ss_cons (s_par (i := 3) (j := 4) rfl sc__law_some.nd (d_ct (K := K) (hK := rfl) rc_list call_list_of T.z_list (by decide +kernel) (da_cons (d_var 1) da_nil)) (d_lst da_nil) (by decide) (by rfl))
    (ss_cons (s_for PassesOwn.never rfl (di_rng1 T.z_range (da_cons (d_var 2) da_nil)) (dg_name (i := 5) sc__law_some.nd) (ss_one (s_app (i := 4) (d_popAt (i := 3) (d_callMF (K := K) (hK := rfl) (j := 0) (ok__law_take T) (hr.mono (by decide)) T.g__law_take T.F__law_take.kp T.b__law_take (d_var 0) (da_cons (d_bor (K := K) (hK := rfl) (i := 3) rc_len call_len_seq T.z_len (by decide +kernel) (d_var 3)) da_nil)) (d_var 3)) (d_var 4))))
    (ss_one (s_ret (d_mov 4)))))⟩
theorem sc__law_cells : FnScope N__law_cells ["script", "most"] (defScope s__law_cells) := ⟨rfl, rfl, rfl, by decide +kernel, rfl, by decide +kernel, by decide +kernel⟩
theorem ok__law_cells (T : Tx K mg) : FnOk P w K mg base CX0 3 T.f__law_cells T.d__law_cells ["script", "most"] (spD K 2 S__law_cells) := fnDF (as := A__law_cells) T.F__law_cells sc__law_cells rfl law__law_cells fun cdv A outer s H E hr => ⟨_,
    (ss_one (s_ret (d_list_range1 T.z_list T.z_range rfl (d_cb (K := K) (hK := rfl) rc_i2 (cr_max2 rfl) T.z_max (by decide +kernel) (da_cons d_int (da_cons (d_cb (K := K) (hK := rfl) rc_i2 (cr_min2 rfl) T.z_min (by decide +kernel) (da_cons (d_var 1) (da_cons (d_cb (K := K) (hK := rfl) rc_len call_len_seq T.z_len (by decide +kernel) (da_cons (d_var 0) da_nil)) da_nil))) da_nil))))))⟩
theorem sc_lengths_in : FnScope N_lengths_in ["line"] (defScope s_lengths_in) := ⟨rfl, rfl, rfl, by decide +kernel, rfl, by decide +kernel, by decide +kernel⟩
theorem ok_lengths_in (T : Tx K mg) : FnOk P w K mg base CX0 4 T.f_lengths_in T.d_lengths_in ["line"] (spD K 1 S_lengths_in) := fnDF (as := A_lengths_in) T.F_lengths_in sc_lengths_in rfl law_lengths_in fun cdv A outer s H E hr => ⟨_,
    (ss_cons (s_set (i := 1) sc_lengths_in.nd (d_callF (K := K) (hK := rfl) (ok_words_in T) (hr.mono (by decide)) T.g_words_in T.F_words_in.kp T.b_words_in (da_cons (d_var 0) da_nil)))
    (ss_cons (s_set (i := 2) sc_lengths_in.nd (d_ct (K := K) (hK := rfl) rc_tupl call_tuple_of T.z_tuple (by decide +kernel) (da_cons (d_lc (own := [("word", 3)]) rfl sc_lengths_in.nd (di_list (K := K) (hK := rfl) (d_slL (K := K) (hK := rfl) (d_var 1) (do_so d_int) do_no)) (blkOk_by (N := N_lengths_in) (sc := defScope s_lengths_in) (own := [("word", 3)]) (by decide +kernel)) (by decide) (fun _ _ _ _ _ => (dg_name (i := 3) sc_lengths_in.nd)) (fun _ _ _ _ _ => (d_callF (K := K) (hK := rfl) (ok_number_in T) (hr.mono (by decide)) T.g_number_in T.F_number_in.kp T.b_number_in (da_cons (d_var 3) da_nil)))) da_nil)))
    (ss_one (s_ret (d_if (t_w (w_and (t_cmp op_eq rd_eq (d_ix (K := K) (hK := rfl) (d_var 1) d_int) (d_gstr T.c_STAGE) (nomark _)) (w_and1 (t_val (d_callF (K := K) (hK := rfl) (ok_are_lengths T) (hr.mono (by decide)) T.g_are_lengths T.F_are_lengths.kp T.b_are_lengths (da_cons (d_var 2) da_nil)))))) (d_var 2) d_non)))))⟩
theorem sc_device_text : FnScope N_device_text ["stages"] (defScope s_device_text) := ⟨rfl, rfl, rfl, by decide +kernel, rfl, by decide +kernel, by decide +kernel⟩
theorem ok_device_text (T : Tx K mg) : FnOk P w K mg base CX0 4 T.f_device_text T.d_device_text ["stages"] (spD K 1 S_device_text) := fnDF (as := A_device_text) T.F_device_text sc_device_text rfl law_device_text fun cdv A outer s H E hr => ⟨_,
    (ss_cons (s_if (t_w (w_or (t_not (t_val (d_isi (K := K) (hK := rfl) (T := .tuple) (d_var 0) T.z_isinstance (by decide +kernel) T.z_tuple (by decide +kernel)))) (w_or1 (t_not (t_chain op_le rd_b op_le rd_b d_int (d_cb (K := K) (hK := rfl) rc_len call_len_seq T.z_len (by decide +kernel) (da_cons (d_var 0) da_nil)) (d_gint T.c_MOST_STAGES)))))) (ss_one s_nev) ss_nil)
    (ss_cons (s_if (t_not (t_val (d_cb (K := K) (hK := rfl) rc_all (cr_all rfl) T.z_all (by decide +kernel) (da_cons (d_lc (own := [("lengths", 1)]) rfl sc_device_text.nd (di_tup (K := K) (hK := rfl) (d_var 0)) (blkOk_by (N := N_device_text) (sc := defScope s_device_text) (own := [("lengths", 1)]) (by decide +kernel)) (by decide) (fun _ _ _ _ _ => (dg_name (i := 1) sc_device_text.nd)) (fun _ _ _ _ _ => (d_callF (K := K) (hK := rfl) (ok_are_lengths T) (hr.mono (by decide)) T.g_are_lengths T.F_are_lengths.kp T.b_are_lengths (da_cons (d_var 1) da_nil)))) da_nil)))) (ss_one s_nev) ss_nil)
    (ss_one (s_ret (d_join (K := K) (hK := rfl) (d_gstr T.c_FEED) (d_lc (own := [("lengths", 1)]) rfl sc_device_text.nd (di_tup (K := K) (hK := rfl) (d_var 0)) (blkOk_by (N := N_device_text) (sc := defScope s_device_text) (own := [("lengths", 1)]) (by decide +kernel)) (by decide) (fun _ _ _ _ _ => (dg_name (i := 1) sc_device_text.nd)) (fun _ _ _ _ _ => (d_join (K := K) (hK := rfl) (d_gstr T.c_BLANK) (d_lst (da_cons (d_gstr T.c_STAGE) (da_star (K := K) (hK := rfl) (d_lc (own := [("length", 2)]) rfl sc_device_text.nd (di_tup (K := K) (hK := rfl) (d_var 1)) (blkOk_by (N := N_device_text) (sc := { kind := .function, names := [(".0", .local), ("lengths", .local), ("BLANK", .globalImplicit), ("STAGE", .globalImplicit)], isGenerator := false, isCoroutine := false, more := [] }) (own := [("length", 2)]) (by decide +kernel)) (by decide) (fun _ _ _ _ _ => (dg_name (i := 2) sc_device_text.nd)) (fun _ _ _ _ _ => (d_ct (K := K) (hK := rfl) rc_strI call_str_int T.z_str (by decide +kernel) (da_cons (d_var 2) da_nil)))) da_nil)))))))))))⟩
theorem sc__law_lengths : FnScope N__law_lengths ["pot", "most", "has_zero"] (defScope s__law_lengths) := ⟨rfl, rfl, rfl, by decide +kernel, rfl, by decide +kernel, by decide +kernel⟩
theorem ok__law_lengths (T : Tx K mg) : FnOk P w K mg base CX0 4 T.f__law_lengths T.d__law_lengths ["pot", "most", "has_zero"] (spM K 3 S__law_lengths) := fnMF (as := A__law_lengths) T.F__law_lengths sc__law_lengths rfl law__law_lengths fun cdv A outer s H E hr => ⟨_,
    (ss_cons (s_set (i := 3) sc__law_lengths.nd (d_list_range2 T.z_list T.z_range rfl d_int (d_add (d_var 1) d_int)))
    (ss_cons (s_set (i := 4) sc__law_lengths.nd (d_callMF (K := K) (hK := rfl) (j := 0) (ok__law_some T) (hr.mono (by decide)) T.g__law_some T.F__law_some.kp T.b__law_some (d_var 0) (da_cons (d_var 3) (da_cons (d_cb (K := K) (hK := rfl) rc_i2 (cr_min2 rfl) T.z_min (by decide +kernel) (da_cons (d_var 1) (da_cons (d_add (d_add d_int (d_callMF (K := K) (hK := rfl) (j := 0) (ok__law_take T) (hr.mono (by decide)) T.g__law_take T.F__law_take.kp T.b__law_take (d_var 0) (da_cons d_int da_nil))) (d_ct (K := K) (hK := rfl) rc_int call_int1 T.z_int (by decide +kernel) (da_cons (d_not (d_var 2)) da_nil))) da_nil))) da_nil))))
    (ss_cons (s_set (i := 4) sc__law_lengths.nd (d_cat_lst (d_lc (own := [("one", 5)]) rfl sc__law_lengths.nd (di_list (K := K) (hK := rfl) (d_var 4)) (blkOk_by (N := N__law_lengths) (sc := defScope s__law_lengths) (own := [("one", 5)]) (by decide +kernel)) (by decide) (fun _ _ _ _ _ => (dg_name (i := 5) sc__law_lengths.nd)) (fun _ _ _ _ _ => (d_ct (K := K) (hK := rfl) rc_int call_int1 T.z_int (by decide +kernel) (da_cons (d_var 5) da_nil)))) (d_if (t_val (d_var 2)) (d_lst (da_cons d_int da_nil)) (d_lst da_nil))))
    (ss_one (s_ret (d_callMF (K := K) (hK := rfl) (j := 0) (ok__law_some T) (hr.mono (by decide)) T.g__law_some T.F__law_some.kp T.b__law_some (d_var 0) (da_cons (d_var 4) (da_cons (d_cb (K := K) (hK := rfl) rc_len call_len_seq T.z_len (by decide +kernel) (da_cons (d_var 4) da_nil)) da_nil))))))))⟩
theorem sc__law_figures_stages : FnScope N__law_figures_stages ["pot", "stages"] (defScope s__law_figures_stages) := ⟨rfl, rfl, rfl, by decide +kernel, rfl, by decide +kernel, by decide +kernel⟩
theorem ok__law_figures_stages (T : Tx K mg) : FnOk P w K mg base CX0 4 T.f__law_figures_stages T.d__law_figures_stages ["pot", "stages"] (spM K 2 S__law_figures_stages) := fnMF (as := A__law_figures_stages) T.F__law_figures_stages sc__law_figures_stages rfl law__law_figures_stages fun cdv A outer s H E hr => ⟨_,
    (ss_cons (s_parG (n := 2) (K := K) (hK := rfl) rfl (by decide) (das_cons (d_lst da_nil) (das_cons d_int das_nil)) (dtgs_cons (dtg_name (i := 2) sc__law_figures_stages.nd) (dtgs_cons (dtg_name (i := 3) sc__law_figures_stages.nd) dtgs_nil)))
    (ss_cons (s_for PassesOwn.never rfl (di_rng1 T.z_range (da_cons (d_var 1) da_nil)) (dg_name (i := 4) sc__law_figures_stages.nd) (ss_cons (s_set (i := 5) sc__law_figures_stages.nd (d_add d_int (d_callMF (K := K) (hK := rfl) (j := 0) (ok__law_of T) (hr.mono (by decide)) T.g__law_of T.F__law_of.kp T.b__law_of (d_var 0) (da_cons (d_lst (da_cons d_int (da_cons d_int (da_cons d_int (da_cons d_int (da_cons d_int da_nil)))))) da_nil))))
    (ss_cons (s_app (i := 2) (d_lc (own := [("at", 6)]) rfl sc__law_figures_stages.nd (di_rng1 T.z_range (da_cons (d_var 5) da_nil)) (blkOk_by (N := N__law_figures_stages) (sc := defScope s__law_figures_stages) (own := [("at", 6)]) (by decide +kernel)) (by decide) (fun _ _ _ _ _ => (dg_name (i := 6) sc__law_figures_stages.nd)) (fun _ _ _ _ _ => (d_ct (K := K) (hK := rfl) rc_int call_int1 T.z_int (by decide +kernel) (da_cons (d_mul (d_var 6) (d_var 3)) da_nil)))) (d_var 2))
    (ss_one (s_set (i := 3) sc__law_figures_stages.nd (d_mul (d_var 3) (d_var 5)))))))
    (ss_one (s_ret (d_mov 2)))))⟩
theorem sc__law_great_device : FnScope N__law_great_device ["pot"] (defScope s__law_great_device) := ⟨rfl, rfl, rfl, by decide +kernel, rfl, by decide +kernel, by decide +kernel⟩
theorem ok__law_great_device (T : Tx K mg) : FnOk P w K mg base CX0 4 T.f__law_great_device T.d__law_great_device ["pot"] (spM K 1 S__law_great_device) := fnMF (as := A__law_great_device) T.F__law_great_device sc__law_great_device rfl law__law_great_device fun cdv A outer s H E hr => ⟨_,
    (ss_cons (s_set (i := 1) sc__law_great_device.nd (d_lst da_nil))
    (ss_cons (s_for PassesOwn.never rfl (di_rng1 T.z_range (da_cons (d_add d_int (d_callMF (K := K) (hK := rfl) (j := 0) (ok__law_take T) (hr.mono (by decide)) T.g__law_take T.F__law_take.kp T.b__law_take (d_var 0) (da_cons d_int da_nil))) da_nil)) (dg_name (i := 2) sc__law_great_device.nd) (ss_cons (s_set (i := 3) sc__law_great_device.nd (d_lst da_nil))
    (ss_cons (s_for PassesOwn.never rfl (di_rng1 T.z_range (da_cons (d_add d_int (d_callMF (K := K) (hK := rfl) (j := 0) (ok__law_take T) (hr.mono (by decide)) T.g__law_take T.F__law_take.kp T.b__law_take (d_var 0) (da_cons d_int da_nil))) da_nil)) (dg_name (i := 4) sc__law_great_device.nd) (ss_cons (s_set (i := 5) sc__law_great_device.nd (d_ct (K := K) (hK := rfl) rc_int call_int1 T.z_int (by decide +kernel) (da_cons (d_callMF (K := K) (hK := rfl) (j := 0) (ok__law_of T) (hr.mono (by decide)) T.g__law_of T.F__law_of.kp T.b__law_of (d_var 0) (da_cons (d_lst (da_cons d_int (da_cons d_int (da_cons d_int (da_cons d_int (da_cons (d_callMF (K := K) (hK := rfl) (j := 0) (ok__law_take T) (hr.mono (by decide)) T.g__law_take T.F__law_take.kp T.b__law_take (d_var 0) (da_cons d_int da_nil)) (da_cons (d_callMF (K := K) (hK := rfl) (j := 0) (ok__law_take T) (hr.mono (by decide)) T.g__law_take T.F__law_take.kp T.b__law_take (d_var 0) (da_cons d_int da_nil)) da_nil))))))) da_nil)) da_nil)))
    (ss_one (s_ext (i := 3) (d_if (t_ninB (K := K) (hK := rfl) (i := 3) (d_var 5) (d_var 3)) (d_lst (da_cons (d_var 5) da_nil)) (d_lst da_nil)) (d_var 3)))))
    (ss_one (s_app (i := 1) (d_if (t_cmp op_gt rd_b (d_bor (K := K) (hK := rfl) (i := 3) rc_len call_len_seq T.z_len (by decide +kernel) (d_var 3)) d_int (nomark _)) (d_var 3) (d_lst (da_cons d_int (da_cons d_int da_nil)))) (d_var 1))))))
    (ss_one (s_ret (d_var 1)))))⟩
theorem sc_read_device : FnScope N_read_device ["text"] (defScope s_read_device) := ⟨rfl, rfl, rfl, by decide +kernel, rfl, by decide +kernel, by decide +kernel⟩
theorem ok_read_device (T : Tx K mg) : FnOk P w K mg base CX0 5 T.f_read_device T.d_read_device ["text"] (spD K 1 S_read_device) := fnDF (as := A_read_device) T.F_read_device sc_read_device rfl law_read_device fun cdv A outer s H E hr => ⟨_,
    (ss_cons (s_if (t_not (t_val (d_isi (K := K) (hK := rfl) (T := .str) (d_var 0) T.z_isinstance (by decide +kernel) T.z_str (by decide +kernel)))) (ss_one s_nev) ss_nil)
    (ss_cons (s_set (i := 1) sc_read_device.nd (d_lst da_nil))
    (ss_cons (s_for PassesOwn.never rfl (di_enumerateL (K := K) (hK := rfl) T.z_enumerate (da_cons (d_callF (K := K) (hK := rfl) (ok_lines_in T) (hr.mono (by decide)) T.g_lines_in T.F_lines_in.kp T.b_lines_in (da_cons (d_var 0) da_nil)) da_nil)) (dg_tup (K := K) (hK := rfl) rfl (dgs_cons (dg_name (i := 2) sc_read_device.nd) (dgs_cons (dg_name (i := 3) sc_read_device.nd) dgs_nil))) (ss_cons (s_set (i := 4) sc_read_device.nd (d_if (t_cmp op_lt rd_b (d_var 2) (d_gint T.c_MOST_STAGES) (nomark _)) (d_callF (K := K) (hK := rfl) (ok_lengths_in T) (hr.mono (by decide)) T.g_lengths_in T.F_lengths_in.kp T.b_lengths_in (da_cons (d_var 3) da_nil)) d_non))
    (ss_cons (s_if (t_cmp op_isN rd_isN (d_var 4) d_non (nomark _)) (ss_one s_nev) ss_nil)
    (ss_one (s_app (i := 1) (d_var 4) (d_var 1))))))
    (ss_one (s_ret (d_ct (K := K) (hK := rfl) rc_tupl call_tuple_of T.z_tuple (by decide +kernel) (da_cons (d_var 1) da_nil)))))))⟩
theorem sc__law_device : FnScope N__law_device ["pot", "stages", "most"] (defScope s__law_device) := ⟨rfl, rfl, rfl, by decide +kernel, rfl, by decide +kernel, by decide +kernel⟩
theorem ok__law_device (T : Tx K mg) : FnOk P w K mg base CX0 5 T.f__law_device T.d__law_device ["pot", "stages", "most"] (spM K 3 S__law_device) := fnMF (as := A__law_device) T.F__law_device sc__law_device rfl law__law_device fun cdv A outer s H E hr => ⟨_,
    (ss_cons (s_asg (d_tup (da_cons (d_add d_int (d_callMF (K := K) (hK := rfl) (j := 0) (ok__law_take T) (hr.mono (by decide)) T.g__law_take T.F__law_take.kp T.b__law_take (d_var 0) (da_cons (d_var 1) da_nil))) (da_cons (d_callMF (K := K) (hK := rfl) (j := 0) (ok__law_take T) (hr.mono (by decide)) T.g__law_take T.F__law_take.kp T.b__law_take (d_var 0) (da_cons d_int da_nil)) da_nil))) (dg_tup (K := K) (hK := rfl) rfl (dgs_cons (dg_name (i := 3) sc__law_device.nd) (dgs_cons (dg_name (i := 4) sc__law_device.nd) dgs_nil))))
    (ss_cons (s_if (t_cmp op_lt rd_b (d_var 4) d_int (nomark _)) (ss_cons (s_set (i := 5) sc__law_device.nd (d_callMF (K := K) (hK := rfl) (j := 0) (ok__law_figures_stages T) (hr.mono (by decide)) T.g__law_figures_stages T.F__law_figures_stages.kp T.b__law_figures_stages (d_var 0) (da_cons (d_var 3) da_nil)))
    (ss_cons (s_if (t_cmp op_eq rd_eq (d_var 4) d_int (nomark _)) (ss_one (s_set (i := 5) sc__law_device.nd (d_callMF (K := K) (hK := rfl) (j := 0) (ok__law_some T) (hr.mono (by decide)) T.g__law_some T.F__law_some.kp T.b__law_some (d_var 0) (da_cons (d_var 5) (da_cons (d_var 3) da_nil))))) (ss_one (s_if (t_cmp op_eq rd_eq (d_var 4) d_int (nomark _)) (ss_one (s_lc (own := [("some", 7)]) rfl sc__law_device.nd (di_list (K := K) (hK := rfl) (d_var 5)) (blkOk_by (N := N__law_device) (sc := defScope s__law_device) (own := [("some", 7)]) (by decide +kernel)) (by decide) (fun _ _ _ _ _ => (dg_name (i := 7) sc__law_device.nd)) (fun _ _ _ _ _ => (d_callMF (K := K) (hK := rfl) (j := 0) (ok__law_some T) (hr.mono (by decide)) T.g__law_some T.F__law_some.kp T.b__law_some (d_var 0) (da_cons (d_var 7) (da_cons (d_cb (K := K) (hK := rfl) rc_len call_len_seq T.z_len (by decide +kernel) (da_cons (d_var 7) da_nil)) da_nil)))) (sw_true rfl rfl rfl (by decide +kernel)))) (ss_one (s_if (t_cmp op_eq rd_eq (d_var 4) d_int (nomark _)) (ss_one (s_put (i := 5) (d_callMF (K := K) (hK := rfl) (j := 0) (ok__law_lengths T) (hr.mono (by decide)) T.g__law_lengths T.F__law_lengths.kp T.b__law_lengths (d_var 0) (da_cons (d_var 2) (da_cons d_bl da_nil))) (d_var 5) (d_callMF (K := K) (hK := rfl) (j := 0) (ok__law_take T) (hr.mono (by decide)) T.g__law_take T.F__law_take.kp T.b__law_take (d_var 0) (da_cons (d_var 3) da_nil)))) ss_nil)))))
    (ss_one (s_ret (d_mov 5))))) ss_nil)
    (ss_one (s_ret (d_lc (own := [("lap", 6)]) rfl sc__law_device.nd (di_rng1 T.z_range (da_cons (d_var 3) da_nil)) (blkOk_by (N := N__law_device) (sc := defScope s__law_device) (own := [("lap", 6)]) (by decide +kernel)) (by decide) (fun _ _ _ _ _ => (dg_name (i := 6) sc__law_device.nd)) (fun _ _ _ _ _ => (d_callMF (K := K) (hK := rfl) (j := 0) (ok__law_lengths T) (hr.mono (by decide)) T.g__law_lengths T.F__law_lengths.kp T.b__law_lengths (d_var 0) (da_cons (d_var 2) (da_cons (d_or (d_cmp op_eq rd_eq (d_var 4) d_int (nomark _)) (d_one (d_cmp op_gt rd_b (d_callMF (K := K) (hK := rfl) (j := 0) (ok__law_take T) (hr.mono (by decide)) T.g__law_take T.F__law_take.kp T.b__law_take (d_var 0) (da_cons d_int da_nil)) d_int (nomark _)))) da_nil)))))))))⟩
theorem sc_Device___init__ : FnScope N_Device___init__ ["self", "text"] (defScope s_Device___init__) := ⟨rfl, rfl, rfl, by decide +kernel, rfl, by decide +kernel, by decide +kernel⟩
theorem ok_Device___init__ (T : Tx K mg) : FnOk P w K mg base CX0 6 T.f_Device___init__ T.d_Device___init__ ["self", "text"] (spT K 2 S_Device___init__) := fnTF (as := A_Device___init__) T.F_Device___init__ sc_Device___init__ rfl rt_Device___init__ law_Device___init__ fun cdv A outer s H E hr => ⟨_,
    (ss_cons (s_parG (n := 2) (K := K) (hK := rfl) rfl (by decide) (das_cons (d_callF (K := K) (hK := rfl) (ok_read_device T) (hr.mono (by decide)) T.g_read_device T.F_read_device.kp T.b_read_device (da_cons (d_var 1) da_nil)) (das_cons (d_var 1) das_nil)) (dtgs_cons (dtg_fld (K := K) (hK := rfl) (i := 0) (path := []) (d_var 0).pe fok_nil T.o_Device_own_stages) (dtgs_cons (dtg_fld (K := K) (hK := rfl) (i := 0) (path := []) (d_var 0).pe fok_nil T.o_Device_own_text) dtgs_nil)))
    (ss_cons (s_to d_dicK (dtg_fld (K := K) (hK := rfl) (i := 0) (path := []) (d_var 0).pe fok_nil T.o_Device_own_rows))
    (ss_one (s_for PassesOwn.never rfl (di_list (K := K) (hK := rfl) (d_callF (K := K) (hK := rfl) (ok_all_rows T) (hr.mono (by decide)) T.g_all_rows T.F_all_rows.kp T.b_all_rows (da_cons (d_get (K := K) (hK := rfl) (i := 0) (path := [("Device", "own_stages")]) (pe_fld (d_var 0).pe rfl) (fok_cons T.o_Device_own_stages fok_nil)) da_nil))) (dg_name (i := 2) sc_Device___init__.nd) (ss_one (s_sdApp (K := K) (hK := rfl) (i := 0) (path := [("Device", "own_rows")]) (pe_fld (d_var 0).pe rfl) (fok_cons T.o_Device_own_rows fok_nil) (d_callF (K := K) (hK := rfl) (ok_sum_of T) (hr.mono (by decide)) T.g_sum_of T.F_sum_of.kp T.b_sum_of (da_cons (d_get (K := K) (hK := rfl) (i := 0) (path := [("Device", "own_stages")]) (pe_fld (d_var 0).pe rfl) (fok_cons T.o_Device_own_stages fok_nil)) (da_cons (d_var 2) da_nil))) (d_var 2)))))))⟩
theorem sc__law_is_device_right : FnScope N__law_is_device_right ["pot", "own"] (defScope s__law_is_device_right) := ⟨rfl, rfl, rfl, by decide +kernel, rfl, by decide +kernel, by decide +kernel⟩
theorem ok__law_is_device_right (T : Tx K mg) : GnOk P w K mg base CX0 8 T.f__law_is_device_right T.d__law_is_device_right ["pot", "own"] (spM K 2 S__law_is_device_right) := fnM (as := A__law_is_device_right) T.F__law_is_device_right sc__law_is_device_right rfl law__law_is_device_right fun cdv A outer s H E hg hr => ⟨_,
    (ss_cons (s_par (i := 2) (j := 3) rfl sc__law_is_device_right.nd (d_call (K := K) (hK := rfl) (gn_of (ok__law_device_text T)) hg (hr.mono (by decide)) T.g__law_device_text T.F__law_device_text.kp T.b__law_device_text (da_cons (d_var 1) da_nil)) (d_ct (K := K) (hK := rfl) rc_tupl call_tuple_of T.z_tuple (by decide +kernel) (da_cons (d_lc (own := [("some", 8)]) rfl sc__law_is_device_right.nd (di_list (K := K) (hK := rfl) (d_var 1)) (blkOk_by (N := N__law_is_device_right) (sc := defScope s__law_is_device_right) (own := [("some", 8)]) (by decide +kernel)) (by decide) (fun _ _ _ _ _ => (dg_name (i := 8) sc__law_is_device_right.nd)) (fun _ _ _ _ _ => (d_ct (K := K) (hK := rfl) rc_tupl call_tuple_of T.z_tuple (by decide +kernel) (da_cons (d_lc (own := [("one", 10)]) rfl sc__law_is_device_right.nd (di_list (K := K) (hK := rfl) (d_var 8)) (blkOk_by (N := N__law_is_device_right) (sc := { kind := .function, names := [(".0", .local), ("some", .local), ("tuple", .globalImplicit)], isGenerator := false, isCoroutine := false, more := [] }) (own := [("one", 10)]) (by decide +kernel)) (by decide) (fun _ _ _ _ _ => (dg_name (i := 10) sc__law_is_device_right.nd)) (fun _ _ _ _ _ => (d_ct (K := K) (hK := rfl) rc_int call_int1 T.z_int (by decide +kernel) (da_cons (d_var 10) da_nil)))) da_nil)))) da_nil)) (by decide) (by rfl))
    (ss_cons (s_set (i := 4) sc__law_is_device_right.nd (d_makeK (K := K) (hK := rfl) (ks := ["text"]) T.h_Device T.k_Device (ok_Device___init__ T) (hr.mono (by decide)) T.g_Device T.kn_0 (dk_cons (d_var 2) dk_nil)))
    (ss_cons (s_if (t_cmp op_ne rd_ne (d_cb (K := K) (hK := rfl) rc_repr (cr_repr hg hr) T.z_repr (by decide +kernel) (da_cons (d_tup (da_cons (d_propD (K := K) (hK := rfl) T.h_Device (d_var 4) T.l_Device T.p_Device_text (ok_Device_text T) (hr.mono (by decide)) T.b_Device_text) (da_cons (d_propD (K := K) (hK := rfl) T.h_Device (d_var 4) T.l_Device T.p_Device_stages (ok_Device_stages T) (hr.mono (by decide)) T.b_Device_stages) (da_cons (d_lenOwn (K := K) (hK := rfl) T.h_Device T.n_Device (ok_Device___len__ T) (hr.mono (by decide)) T.b_Device___len__ T.z_len (da_cons (d_var 4) da_nil)) da_nil)))) da_nil)) (d_cb (K := K) (hK := rfl) rc_repr (cr_repr hg hr) T.z_repr (by decide +kernel) (da_cons (d_tup (da_cons (d_var 2) (da_cons (d_var 3) (da_cons (d_cb (K := K) (hK := rfl) rc_len call_len_seq T.z_len (by decide +kernel) (da_cons (d_var 1) da_nil)) da_nil)))) da_nil)) (nomark _)) (ss_one (s_ret d_bl)) ss_nil)
    (ss_cons (s_if (t_w (w_or (t_cmp op_ne rd_ne (d_callK (K := K) (hK := rfl) (gn_of (ok_device_text T)) hg (hr.mono (by decide)) T.g_device_text T.F_device_text.kp T.kb_0 (dk_cons (d_propD (K := K) (hK := rfl) T.h_Device (d_var 4) T.l_Device T.p_Device_stages (ok_Device_stages T) (hr.mono (by decide)) T.b_Device_stages) dk_nil)) (d_var 2) (nomark _)) (w_or1 (t_cmp op_ne rd_ne (d_call (K := K) (hK := rfl) (gn_of (ok_device_text T)) hg (hr.mono (by decide)) T.g_device_text T.F_device_text.kp T.b_device_text (da_cons (d_var 3) da_nil)) (d_var 2) (nomark _))))) (ss_one (s_ret d_bl)) ss_nil)
    (ss_cons (s_lc (own := [("some", 8)]) rfl sc__law_is_device_right.nd (di_list (K := K) (hK := rfl) (d_var 1)) (blkOk_by (N := N__law_is_device_right) (sc := defScope s__law_is_device_right) (own := [("some", 8)]) (by decide +kernel)) (by decide) (fun _ _ _ _ _ => (dg_name (i := 8) sc__law_is_device_right.nd)) (fun _ _ _ _ _ => (d_ct (K := K) (hK := rfl) rc_list call_list_of T.z_list (by decide +kernel) (da_cons (d_var 8) da_nil))) (sw_true rfl rfl rfl (by decide +kernel)))
    (ss_cons (s_set (i := 6) sc__law_is_device_right.nd (d_callM (K := K) (hK := rfl) (j := 0) (gn_of (ok__law_take T)) hg (hr.mono (by decide)) T.g__law_take T.F__law_take.kp T.b__law_take (d_var 0) (da_cons (d_bor (K := K) (hK := rfl) (i := 5) rc_len call_len_seq T.z_len (by decide +kernel) (d_var 5)) da_nil)))
    (ss_cons (s_put (i := 5) (d_revL (K := K) (hK := rfl) (d_ixO (K := K) (hK := rfl) (i := 5) (d_var 5) (d_var 6))) (d_var 5) (d_var 6))
    (ss_cons (s_set (i := 7) sc__law_is_device_right.nd (d_make (K := K) (hK := rfl) T.h_Device T.k_Device (ok_Device___init__ T) (hr.mono (by decide)) T.g_Device T.b_Device___init__ (da_cons (d_call (K := K) (hK := rfl) (gn_of (ok__law_device_text T)) hg (hr.mono (by decide)) T.g__law_device_text T.F__law_device_text.kp T.b__law_device_text (da_cons (d_var 5) da_nil)) da_nil)))
    (ss_cons (s_if (t_w (w_or (t_cmp op_ne rd_ne (d_eqOwn (K := K) (hK := rfl) T.h_Device T.ic_Device T.eq_Device (ok_Device___eq__ T) (hr.mono (by decide)) T.b_Device___eq__ (d_var 4) (d_var 7)) (d_eqD (K := K) (hK := rfl) hr.units (d_var 5) (d_var 1)) (nomark _)) (w_or1 (t_cmp op_ne rd_ne (d_neOwn (K := K) (hK := rfl) T.h_Device T.eq_Device (ok_Device___eq__ T) (hr.mono (by decide)) T.b_Device___eq__ (d_var 4) (d_var 7)) (d_neD (K := K) (hK := rfl) hr.units (d_var 5) (d_var 1)) (nomark _))))) (ss_one (s_ret d_bl)) ss_nil)
    (ss_cons (s_if (t_w (w_or (t_not (t_eqOwn (K := K) (hK := rfl) T.h_Device T.ic_Device T.eq_Device (ok_Device___eq__ T) (hr.mono (by decide)) T.b_Device___eq__ (d_var 4) (d_make (K := K) (hK := rfl) T.h_Device T.k_Device (ok_Device___init__ T) (hr.mono (by decide)) T.g_Device T.b_Device___init__ (da_cons (d_var 2) da_nil)))) (w_or1 (t_neOwn (K := K) (hK := rfl) T.h_Device T.eq_Device (ok_Device___eq__ T) (hr.mono (by decide)) T.b_Device___eq__ (d_var 4) (d_make (K := K) (hK := rfl) T.h_Device T.k_Device (ok_Device___init__ T) (hr.mono (by decide)) T.g_Device T.b_Device___init__ (da_cons (d_var 2) da_nil)))))) (ss_one (s_ret d_bl)) ss_nil)
    (ss_one (s_ret (d_not (d_cb (K := K) (hK := rfl) rc_any (cr_any rfl) T.z_any (by decide +kernel) (da_cons (d_lc (own := [("value", 9)]) rfl sc__law_is_device_right.nd (di_list (K := K) (hK := rfl) (d_lst (da_cons (d_var 2) (da_cons d_non (da_cons (d_var 3) (da_cons d_int (da_cons (d_ct (K := K) (hK := rfl) rc_list call_list_of T.z_list (by decide +kernel) (da_cons (d_var 3) da_nil)) da_nil))))))) (blkOk_by (N := N__law_is_device_right) (sc := defScope s__law_is_device_right) (own := [("value", 9)]) (by decide +kernel)) (by decide) (fun _ _ _ _ _ => (dg_name (i := 9) sc__law_is_device_right.nd)) (fun _ _ _ _ _ => (d_eqOwn (K := K) (hK := rfl) T.h_Device T.ic_Device T.eq_Device (ok_Device___eq__ T) (hr.mono (by decide)) T.b_Device___eq__ (d_var 4) (d_var 9)))) da_nil)))))))))))))))⟩
theorem sc__law_right : FnScope N__law_right ["pot"] (defScope s__law_right) := ⟨rfl, rfl, rfl, by decide +kernel, rfl, by decide +kernel, by decide +kernel⟩
theorem ok__law_right (T : Tx K mg) : GnOk P w K mg base CX0 9 T.f__law_right T.d__law_right ["pot"] (spM K 1 S__law_right) := fnM (as := A__law_right) T.F__law_right sc__law_right rfl law__law_right fun cdv A outer s H E hg hr => ⟨_,
    (ss_cons (s_for PassesOwn.never rfl (di_rng1 T.z_range (da_cons d_int da_nil)) (dg_name (i := 1) sc__law_right.nd) (ss_cons (s_if (t_not (t_val (d_callM (K := K) (hK := rfl) (j := 0) (ok__law_is_device_right T) hg (hr.mono (by decide)) T.g__law_is_device_right T.F__law_is_device_right.kp T.b__law_is_device_right (d_var 0) (da_cons (d_callM (K := K) (hK := rfl) (j := 0) (gn_of (ok__law_device T)) hg (hr.mono (by decide)) T.g__law_device T.F__law_device.kp T.b__law_device (d_var 0) (da_cons d_int (da_cons d_int da_nil))) da_nil)))) (ss_one (s_ret d_bl)) ss_nil)
    (ss_one (s_if (t_not (t_val (d_callM (K := K) (hK := rfl) (j := 0) (ok__law_is_device_right T) hg (hr.mono (by decide)) T.g__law_is_device_right T.F__law_is_device_right.kp T.b__law_is_device_right (d_var 0) (da_cons (d_callM (K := K) (hK := rfl) (j := 0) (gn_of (ok__law_great_device T)) hg (hr.mono (by decide)) T.g__law_great_device T.F__law_great_device.kp T.b__law_great_device (d_var 0) da_nil) da_nil)))) (ss_one (s_ret d_bl)) ss_nil))))
    (ss_one (s_ret d_bl)))⟩
theorem sc_law : FnScope N_law ["script"] (defScope s_law) := ⟨rfl, rfl, rfl, by decide +kernel, rfl, by decide +kernel, by decide +kernel⟩
theorem ok_law (T : Tx K mg) : GnOk P w K mg base CX0 10 T.f_law T.d_law ["script"] (spD K 1 S_law) := fnD (as := A_law) T.F_law sc_law rfl law_law fun cdv A outer s H E hg hr => ⟨_,
    (ss_one (s_ret (d_cb (K := K) (hK := rfl) rc_all (cr_all rfl) T.z_all (by decide +kernel) (da_cons (d_lc (own := [("place", 1)]) rfl sc_law.nd (di_list (K := K) (hK := rfl) (d_call (K := K) (hK := rfl) (gn_of (ok__law_cells T)) hg (hr.mono (by decide)) T.g__law_cells T.F__law_cells.kp T.b__law_cells (da_cons (d_var 0) (da_cons d_int da_nil)))) (blkOk_by (N := N_law) (sc := defScope s_law) (own := [("place", 1)]) (by decide +kernel)) (by decide) (fun _ _ _ _ _ => (dg_name (i := 1) sc_law.nd)) (fun _ _ _ _ _ => (d_callT (K := K) (hK := rfl) (ok__law_right T) hg (hr.mono (by decide)) T.g__law_right T.F__law_right.kp T.b__law_right (d_call (K := K) (hK := rfl) (gn_of (ok__law_pot T)) hg (hr.mono (by decide)) T.g__law_pot T.F__law_pot.kp T.b__law_pot (da_cons (d_var 0) (da_cons (d_var 1) da_nil))) da_nil))) da_nil))))⟩
end
theorem all_mk {l : PySem.W.OpenLaw} {w : World} {K : PySem.W.Frag} {h : Heap} {mg : Str → Option Value} {fa a_is_integer a_words_in a_lines_in a_Device_text a_Device_stages a_Device___len__ a_Device___eq__ a_sum_of a__law_take a__law_device_text a_is_within a_number_in a_are_lengths a_all_rows a__law_pot a__law_of a__law_some a__law_cells a_lengths_in a_device_text a__law_lengths a__law_figures_stages a__law_great_device a_read_device a__law_device a_Device___init__ a__law_is_device_right a__law_right a_law C_Device : Addr} (X : K.In h) (G : h.Ns mainGlobals mg) (hfa : mg "law" = some (.ref fa))
    {od0 an0 : Option Addr} {sl0 : Array (Option Value)} {oc0 kV0 dc0 pm0 cd0 ct0 : Value}
    {od1 an1 : Option Addr} {sl1 : Array (Option Value)} {oc1 kV1 dc1 pm1 cd1 ct1 : Value}
    {od2 an2 : Option Addr} {sl2 : Array (Option Value)} {oc2 kV2 dc2 pm2 cd2 ct2 : Value}
    {od3 an3 : Option Addr} {sl3 : Array (Option Value)} {oc3 kV3 dc3 pm3 cd3 ct3 : Value}
    {p_Device_text : Addr} {rs_Device_text : List Value}
    {od4 an4 : Option Addr} {sl4 : Array (Option Value)} {oc4 kV4 dc4 pm4 cd4 ct4 : Value}
    {p_Device_stages : Addr} {rs_Device_stages : List Value}
    {od5 an5 : Option Addr} {sl5 : Array (Option Value)} {oc5 kV5 dc5 pm5 cd5 ct5 : Value}
    {od6 an6 : Option Addr} {sl6 : Array (Option Value)} {oc6 kV6 dc6 pm6 cd6 ct6 : Value}
    {od7 an7 : Option Addr} {sl7 : Array (Option Value)} {oc7 kV7 dc7 pm7 cd7 ct7 : Value}
    {od8 an8 : Option Addr} {sl8 : Array (Option Value)} {oc8 kV8 dc8 pm8 cd8 ct8 : Value}
    {od9 an9 : Option Addr} {sl9 : Array (Option Value)} {oc9 kV9 dc9 pm9 cd9 ct9 : Value}
    {od10 an10 : Option Addr} {sl10 : Array (Option Value)} {oc10 kV10 dc10 pm10 cd10 ct10 : Value}
    {od11 an11 : Option Addr} {sl11 : Array (Option Value)} {oc11 kV11 dc11 pm11 cd11 ct11 : Value}
    {od12 an12 : Option Addr} {sl12 : Array (Option Value)} {oc12 kV12 dc12 pm12 cd12 ct12 : Value}
    {od13 an13 : Option Addr} {sl13 : Array (Option Value)} {oc13 kV13 dc13 pm13 cd13 ct13 : Value}
    {od14 an14 : Option Addr} {sl14 : Array (Option Value)} {oc14 kV14 dc14 pm14 cd14 ct14 : Value}
    {od15 an15 : Option Addr} {sl15 : Array (Option Value)} {oc15 kV15 dc15 pm15 cd15 ct15 : Value}
    {od16 an16 : Option Addr} {sl16 : Array (Option Value)} {oc16 kV16 dc16 pm16 cd16 ct16 : Value}
    {od17 an17 : Option Addr} {sl17 : Array (Option Value)} {oc17 kV17 dc17 pm17 cd17 ct17 : Value}
    {od18 an18 : Option Addr} {sl18 : Array (Option Value)} {oc18 kV18 dc18 pm18 cd18 ct18 : Value}
    {od19 an19 : Option Addr} {sl19 : Array (Option Value)} {oc19 kV19 dc19 pm19 cd19 ct19 : Value}
    {od20 an20 : Option Addr} {sl20 : Array (Option Value)} {oc20 kV20 dc20 pm20 cd20 ct20 : Value}
    {od21 an21 : Option Addr} {sl21 : Array (Option Value)} {oc21 kV21 dc21 pm21 cd21 ct21 : Value}
    {od22 an22 : Option Addr} {sl22 : Array (Option Value)} {oc22 kV22 dc22 pm22 cd22 ct22 : Value}
    {od23 an23 : Option Addr} {sl23 : Array (Option Value)} {oc23 kV23 dc23 pm23 cd23 ct23 : Value}
    {od24 an24 : Option Addr} {sl24 : Array (Option Value)} {oc24 kV24 dc24 pm24 cd24 ct24 : Value}
    {od25 an25 : Option Addr} {sl25 : Array (Option Value)} {oc25 kV25 dc25 pm25 cd25 ct25 : Value}
    {od26 an26 : Option Addr} {sl26 : Array (Option Value)} {oc26 kV26 dc26 pm26 cd26 ct26 : Value}
    {od27 an27 : Option Addr} {sl27 : Array (Option Value)} {oc27 kV27 dc27 pm27 cd27 ct27 : Value}
    {od28 an28 : Option Addr} {sl28 : Array (Option Value)} {oc28 kV28 dc28 pm28 cd28 ct28 : Value}
    {e1_Device e2_Device : Str} {e3_Device : Addr} {e5_Device : List Value} {e6_Device : Bool} {e7_Device : List Str} {e8_Device : List Value} {e9_Device : Bool} {e10_Device : Option Bool} {e11_Device : Option Addr} {e12_Device e13_Device e14_Device e15_Device e16_Device : Option Value} {e17_Device : String} {e19_Device : Obj} {e20_Device : Array DictEntry} {e21_Device : Nat}
    {tk_BLANK : Tok}
    {tk_DIGITS : Tok}
    {tk_FEED : Tok}
    {tk_LEAST_LANES : Tok}
    {tk_MOST_DIGITS : Tok}
    {tk_MOST_LANES : Tok}
    {tk_MOST_LENGTH : Tok}
    {tk_MOST_STAGES : Tok}
    {tk_STAGE : Tok}
    (ac_Device : PySem.W.nsIn K mainGlobals "Device" = some (some (.ref C_Device))) (pg_Device : PySem.W.plainGet K C_Device Str.empty = true) (hd_Device : PySem.W.hasDictIn K C_Device = true) (po_Device : PySem.W.plainOver K C_Device = true) (sa_Device : PySem.W.findIn K (.ref C_Device) "__setattr__" = some (some (.builtin "object.__setattr__")))
    (a0 : PySem.W.nsIn K mainGlobals "is_integer" = some (some (.ref a_is_integer))) (l0 : K.lookup a_is_integer = some ⟨oc0, od0, .func (PySem.W.fnOf "is_integer" "is_integer" (defArgs s_is_integer) (defBody s_is_integer) (defScope s_is_integer) .none kV0 dc0 pm0 an0 cd0 ct0), sl0⟩) (c0 : PySem.W.codeIn K cd0 "is_integer" = true) (k0 : PySem.W.keepIn K (.ref a_is_integer) = true)
    (a1 : PySem.W.nsIn K mainGlobals "words_in" = some (some (.ref a_words_in))) (l1 : K.lookup a_words_in = some ⟨oc1, od1, .func (PySem.W.fnOf "words_in" "words_in" (defArgs s_words_in) (defBody s_words_in) (defScope s_words_in) .none kV1 dc1 pm1 an1 cd1 ct1), sl1⟩) (c1 : PySem.W.codeIn K cd1 "words_in" = true) (k1 : PySem.W.keepIn K (.ref a_words_in) = true)
    (a2 : PySem.W.nsIn K mainGlobals "lines_in" = some (some (.ref a_lines_in))) (l2 : K.lookup a_lines_in = some ⟨oc2, od2, .func (PySem.W.fnOf "lines_in" "lines_in" (defArgs s_lines_in) (defBody s_lines_in) (defScope s_lines_in) .none kV2 dc2 pm2 an2 cd2 ct2), sl2⟩) (c2 : PySem.W.codeIn K cd2 "lines_in" = true) (k2 : PySem.W.keepIn K (.ref a_lines_in) = true)
    (a3 : PySem.W.findIn K (.ref C_Device) "text" = some (some (.ref p_Device_text))) (i3 : PySem.W.specialIn K (.ref p_Device_text) "__get__" = some (some (.builtin "property.__get__"))) (j3 : PySem.W.takesIn K (.ref p_Device_text) = some true) (q3 : PySem.W.recIn K p_Device_text "property" = some (.ref a_Device_text :: rs_Device_text)) (l3 : K.lookup a_Device_text = some ⟨oc3, od3, .func (PySem.W.fnOf "text" "Device.text" (defArgs s_Device_text) (defBody s_Device_text) (defScope s_Device_text) .none kV3 dc3 pm3 an3 cd3 ct3), sl3⟩) (c3 : PySem.W.codeIn K cd3 "Device.text" = true) (k3 : PySem.W.keepIn K (.ref a_Device_text) = true)
    (a4 : PySem.W.findIn K (.ref C_Device) "stages" = some (some (.ref p_Device_stages))) (i4 : PySem.W.specialIn K (.ref p_Device_stages) "__get__" = some (some (.builtin "property.__get__"))) (j4 : PySem.W.takesIn K (.ref p_Device_stages) = some true) (q4 : PySem.W.recIn K p_Device_stages "property" = some (.ref a_Device_stages :: rs_Device_stages)) (l4 : K.lookup a_Device_stages = some ⟨oc4, od4, .func (PySem.W.fnOf "stages" "Device.stages" (defArgs s_Device_stages) (defBody s_Device_stages) (defScope s_Device_stages) .none kV4 dc4 pm4 an4 cd4 ct4), sl4⟩) (c4 : PySem.W.codeIn K cd4 "Device.stages" = true) (k4 : PySem.W.keepIn K (.ref a_Device_stages) = true)
    (a5 : PySem.W.findIn K (.ref C_Device) "__len__" = some (some (.ref a_Device___len__))) (i5 : PySem.W.isFn K (.ref a_Device___len__) = true) (l5 : K.lookup a_Device___len__ = some ⟨oc5, od5, .func (PySem.W.fnOf "__len__" "Device.__len__" (defArgs s_Device___len__) (defBody s_Device___len__) (defScope s_Device___len__) .none kV5 dc5 pm5 an5 cd5 ct5), sl5⟩) (c5 : PySem.W.codeIn K cd5 "Device.__len__" = true) (k5 : PySem.W.keepIn K (.ref a_Device___len__) = true)
    (a6 : PySem.W.findIn K (.ref C_Device) "__eq__" = some (some (.ref a_Device___eq__))) (i6 : PySem.W.isFn K (.ref a_Device___eq__) = true) (l6 : K.lookup a_Device___eq__ = some ⟨oc6, od6, .func (PySem.W.fnOf "__eq__" "Device.__eq__" (defArgs s_Device___eq__) (defBody s_Device___eq__) (defScope s_Device___eq__) .none kV6 dc6 pm6 an6 cd6 ct6), sl6⟩) (c6 : PySem.W.codeIn K cd6 "Device.__eq__" = true) (k6 : PySem.W.keepIn K (.ref a_Device___eq__) = true)
    (a7 : PySem.W.nsIn K mainGlobals "sum_of" = some (some (.ref a_sum_of))) (l7 : K.lookup a_sum_of = some ⟨oc7, od7, .func (PySem.W.fnOf "sum_of" "sum_of" (defArgs s_sum_of) (defBody s_sum_of) (defScope s_sum_of) .none kV7 dc7 pm7 an7 cd7 ct7), sl7⟩) (c7 : PySem.W.codeIn K cd7 "sum_of" = true) (k7 : PySem.W.keepIn K (.ref a_sum_of) = true)
    (a8 : PySem.W.nsIn K mainGlobals "_law_take" = some (some (.ref a__law_take))) (l8 : K.lookup a__law_take = some ⟨oc8, od8, .func (PySem.W.fnOf "_law_take" "_law_take" (defArgs s__law_take) (defBody s__law_take) (defScope s__law_take) .none kV8 dc8 pm8 an8 cd8 ct8), sl8⟩) (c8 : PySem.W.codeIn K cd8 "_law_take" = true) (k8 : PySem.W.keepIn K (.ref a__law_take) = true)
    (a9 : PySem.W.nsIn K mainGlobals "_law_device_text" = some (some (.ref a__law_device_text))) (l9 : K.lookup a__law_device_text = some ⟨oc9, od9, .func (PySem.W.fnOf "_law_device_text" "_law_device_text" (defArgs s__law_device_text) (defBody s__law_device_text) (defScope s__law_device_text) .none kV9 dc9 pm9 an9 cd9 ct9), sl9⟩) (c9 : PySem.W.codeIn K cd9 "_law_device_text" = true) (k9 : PySem.W.keepIn K (.ref a__law_device_text) = true)
    (a10 : PySem.W.nsIn K mainGlobals "is_within" = some (some (.ref a_is_within))) (l10 : K.lookup a_is_within = some ⟨oc10, od10, .func (PySem.W.fnOf "is_within" "is_within" (defArgs s_is_within) (defBody s_is_within) (defScope s_is_within) .none kV10 dc10 pm10 an10 cd10 ct10), sl10⟩) (c10 : PySem.W.codeIn K cd10 "is_within" = true) (k10 : PySem.W.keepIn K (.ref a_is_within) = true)
    (a11 : PySem.W.nsIn K mainGlobals "number_in" = some (some (.ref a_number_in))) (l11 : K.lookup a_number_in = some ⟨oc11, od11, .func (PySem.W.fnOf "number_in" "number_in" (defArgs s_number_in) (defBody s_number_in) (defScope s_number_in) .none kV11 dc11 pm11 an11 cd11 ct11), sl11⟩) (c11 : PySem.W.codeIn K cd11 "number_in" = true) (k11 : PySem.W.keepIn K (.ref a_number_in) = true)
    (a12 : PySem.W.nsIn K mainGlobals "are_lengths" = some (some (.ref a_are_lengths))) (l12 : K.lookup a_are_lengths = some ⟨oc12, od12, .func (PySem.W.fnOf "are_lengths" "are_lengths" (defArgs s_are_lengths) (defBody s_are_lengths) (defScope s_are_lengths) .none kV12 dc12 pm12 an12 cd12 ct12), sl12⟩) (c12 : PySem.W.codeIn K cd12 "are_lengths" = true) (k12 : PySem.W.keepIn K (.ref a_are_lengths) = true)
    (a13 : PySem.W.nsIn K mainGlobals "all_rows" = some (some (.ref a_all_rows))) (l13 : K.lookup a_all_rows = some ⟨oc13, od13, .func (PySem.W.fnOf "all_rows" "all_rows" (defArgs s_all_rows) (defBody s_all_rows) (defScope s_all_rows) .none kV13 dc13 pm13 an13 cd13 ct13), sl13⟩) (c13 : PySem.W.codeIn K cd13 "all_rows" = true) (k13 : PySem.W.keepIn K (.ref a_all_rows) = true)
    (a14 : PySem.W.nsIn K mainGlobals "_law_pot" = some (some (.ref a__law_pot))) (l14 : K.lookup a__law_pot = some ⟨oc14, od14, .func (PySem.W.fnOf "_law_pot" "_law_pot" (defArgs s__law_pot) (defBody s__law_pot) (defScope s__law_pot) .none kV14 dc14 pm14 an14 cd14 ct14), sl14⟩) (c14 : PySem.W.codeIn K cd14 "_law_pot" = true) (k14 : PySem.W.keepIn K (.ref a__law_pot) = true)
    (a15 : PySem.W.nsIn K mainGlobals "_law_of" = some (some (.ref a__law_of))) (l15 : K.lookup a__law_of = some ⟨oc15, od15, .func (PySem.W.fnOf "_law_of" "_law_of" (defArgs s__law_of) (defBody s__law_of) (defScope s__law_of) .none kV15 dc15 pm15 an15 cd15 ct15), sl15⟩) (c15 : PySem.W.codeIn K cd15 "_law_of" = true) (k15 : PySem.W.keepIn K (.ref a__law_of) = true)
    (a16 : PySem.W.nsIn K mainGlobals "_law_some" = some (some (.ref a__law_some))) (l16 : K.lookup a__law_some = some ⟨oc16, od16, .func (PySem.W.fnOf "_law_some" "_law_some" (defArgs s__law_some) (defBody s__law_some) (defScope s__law_some) .none kV16 dc16 pm16 an16 cd16 ct16), sl16⟩) (c16 : PySem.W.codeIn K cd16 "_law_some" = true) (k16 : PySem.W.keepIn K (.ref a__law_some) = true)
    (a17 : PySem.W.nsIn K mainGlobals "_law_cells" = some (some (.ref a__law_cells))) (l17 : K.lookup a__law_cells = some ⟨oc17, od17, .func (PySem.W.fnOf "_law_cells" "_law_cells" (defArgs s__law_cells) (defBody s__law_cells) (defScope s__law_cells) .none kV17 dc17 pm17 an17 cd17 ct17), sl17⟩) (c17 : PySem.W.codeIn K cd17 "_law_cells" = true) (k17 : PySem.W.keepIn K (.ref a__law_cells) = true)
    (a18 : PySem.W.nsIn K mainGlobals "lengths_in" = some (some (.ref a_lengths_in))) (l18 : K.lookup a_lengths_in = some ⟨oc18, od18, .func (PySem.W.fnOf "lengths_in" "lengths_in" (defArgs s_lengths_in) (defBody s_lengths_in) (defScope s_lengths_in) .none kV18 dc18 pm18 an18 cd18 ct18), sl18⟩) (c18 : PySem.W.codeIn K cd18 "lengths_in" = true) (k18 : PySem.W.keepIn K (.ref a_lengths_in) = true)
    (a19 : PySem.W.nsIn K mainGlobals "device_text" = some (some (.ref a_device_text))) (l19 : K.lookup a_device_text = some ⟨oc19, od19, .func (PySem.W.fnOf "device_text" "device_text" (defArgs s_device_text) (defBody s_device_text) (defScope s_device_text) .none kV19 dc19 pm19 an19 cd19 ct19), sl19⟩) (c19 : PySem.W.codeIn K cd19 "device_text" = true) (k19 : PySem.W.keepIn K (.ref a_device_text) = true)
    (a20 : PySem.W.nsIn K mainGlobals "_law_lengths" = some (some (.ref a__law_lengths))) (l20 : K.lookup a__law_lengths = some ⟨oc20, od20, .func (PySem.W.fnOf "_law_lengths" "_law_lengths" (defArgs s__law_lengths) (defBody s__law_lengths) (defScope s__law_lengths) .none kV20 dc20 pm20 an20 cd20 ct20), sl20⟩) (c20 : PySem.W.codeIn K cd20 "_law_lengths" = true) (k20 : PySem.W.keepIn K (.ref a__law_lengths) = true)
    (a21 : PySem.W.nsIn K mainGlobals "_law_figures_stages" = some (some (.ref a__law_figures_stages))) (l21 : K.lookup a__law_figures_stages = some ⟨oc21, od21, .func (PySem.W.fnOf "_law_figures_stages" "_law_figures_stages" (defArgs s__law_figures_stages) (defBody s__law_figures_stages) (defScope s__law_figures_stages) .none kV21 dc21 pm21 an21 cd21 ct21), sl21⟩) (c21 : PySem.W.codeIn K cd21 "_law_figures_stages" = true) (k21 : PySem.W.keepIn K (.ref a__law_figures_stages) = true)
    (a22 : PySem.W.nsIn K mainGlobals "_law_great_device" = some (some (.ref a__law_great_device))) (l22 : K.lookup a__law_great_device = some ⟨oc22, od22, .func (PySem.W.fnOf "_law_great_device" "_law_great_device" (defArgs s__law_great_device) (defBody s__law_great_device) (defScope s__law_great_device) .none kV22 dc22 pm22 an22 cd22 ct22), sl22⟩) (c22 : PySem.W.codeIn K cd22 "_law_great_device" = true) (k22 : PySem.W.keepIn K (.ref a__law_great_device) = true)
    (a23 : PySem.W.nsIn K mainGlobals "read_device" = some (some (.ref a_read_device))) (l23 : K.lookup a_read_device = some ⟨oc23, od23, .func (PySem.W.fnOf "read_device" "read_device" (defArgs s_read_device) (defBody s_read_device) (defScope s_read_device) .none kV23 dc23 pm23 an23 cd23 ct23), sl23⟩) (c23 : PySem.W.codeIn K cd23 "read_device" = true) (k23 : PySem.W.keepIn K (.ref a_read_device) = true)
    (a24 : PySem.W.nsIn K mainGlobals "_law_device" = some (some (.ref a__law_device))) (l24 : K.lookup a__law_device = some ⟨oc24, od24, .func (PySem.W.fnOf "_law_device" "_law_device" (defArgs s__law_device) (defBody s__law_device) (defScope s__law_device) .none kV24 dc24 pm24 an24 cd24 ct24), sl24⟩) (c24 : PySem.W.codeIn K cd24 "_law_device" = true) (k24 : PySem.W.keepIn K (.ref a__law_device) = true)
    (a25 : PySem.W.findIn K (.ref C_Device) "__init__" = some (some (.ref a_Device___init__))) (i25 : PySem.W.isFn K (.ref a_Device___init__) = true) (l25 : K.lookup a_Device___init__ = some ⟨oc25, od25, .func (PySem.W.fnOf "__init__" "Device.__init__" (defArgs s_Device___init__) (defBody s_Device___init__) (defScope s_Device___init__) .none kV25 dc25 pm25 an25 cd25 ct25), sl25⟩) (c25 : PySem.W.codeIn K cd25 "Device.__init__" = true) (k25 : PySem.W.keepIn K (.ref a_Device___init__) = true)
    (a26 : PySem.W.nsIn K mainGlobals "_law_is_device_right" = some (some (.ref a__law_is_device_right))) (l26 : K.lookup a__law_is_device_right = some ⟨oc26, od26, .func (PySem.W.fnOf "_law_is_device_right" "_law_is_device_right" (defArgs s__law_is_device_right) (defBody s__law_is_device_right) (defScope s__law_is_device_right) .none kV26 dc26 pm26 an26 cd26 ct26), sl26⟩) (c26 : PySem.W.codeIn K cd26 "_law_is_device_right" = true) (k26 : PySem.W.keepIn K (.ref a__law_is_device_right) = true)
    (a27 : PySem.W.nsIn K mainGlobals "_law_right" = some (some (.ref a__law_right))) (l27 : K.lookup a__law_right = some ⟨oc27, od27, .func (PySem.W.fnOf "_law_right" "_law_right" (defArgs s__law_right) (defBody s__law_right) (defScope s__law_right) .none kV27 dc27 pm27 an27 cd27 ct27), sl27⟩) (c27 : PySem.W.codeIn K cd27 "_law_right" = true) (k27 : PySem.W.keepIn K (.ref a__law_right) = true)
    (a28 : PySem.W.nsIn K mainGlobals "law" = some (some (.ref a_law))) (l28 : K.lookup a_law = some ⟨oc28, od28, .func (PySem.W.fnOf "law" "law" (defArgs s_law) (defBody s_law) (defScope s_law) .none kV28 dc28 pm28 an28 cd28 ct28), sl28⟩) (c28 : PySem.W.codeIn K cd28 "law" = true) (k28 : PySem.W.keepIn K (.ref a_law) = true)
    (mk_Device : PySem.W.makesIn K C_Device = true) (kc_Device : PySem.W.keepIn K (.ref C_Device) = true)
    (tl_Device : PySem.W.typeIn K (.ref a_Device___len__) = some (.type "function"))
    (xa_Device : PySem.W.findIn K (.ref C_Device) "__class__" = some (some (.builtin "object.__class__"))) (xb_Device : PySem.W.specialIn K (.builtin "object.__class__") "__get__" = some (some (.builtin "getset_descriptor.__get__"))) (xc_Device : PySem.W.takesIn K (.builtin "object.__class__") = some true) (xd_Device : PySem.W.mroIn K C_Device (.type "object") = some true) (xe_Device : PySem.W.isClsIn K C_Device = true) (xf_Device : PySem.W.typeIn K (.ref C_Device) = some (.type "type"))
    (y1_Device : K.lookup C_Device = some (excClassObj e1_Device e2_Device C_Device e3_Device e5_Device [.type "object"] e6_Device e7_Device e8_Device e9_Device e10_Device e11_Device e12_Device e13_Device e14_Device e15_Device e16_Device e17_Device)) (y2_Device : K.lookup e3_Device = some e19_Device) (y3_Device : e19_Device.data = .dict e20_Device e21_Device) (y4_Device : (e20_Device.toList.all fun e => match e.key with | .str _ _ => true | _ => false) = true) (y5_Device : nsFind e20_Device "__eq__" = some (.ref a_Device___eq__)) (y6_Device : nsFind e20_Device "__ne__" = none) (y7_Device : PySem.W.isFn K (.ref a_Device___eq__) = true)
    (nf_Device_own_rows : PySem.W.findIn K (.ref C_Device) "own_rows" = some none)
    (nf_Device_own_stages : PySem.W.findIn K (.ref C_Device) "own_stages" = some none)
    (nf_Device_own_text : PySem.W.findIn K (.ref C_Device) "own_text" = some none)
    (z_abs : PySem.W.nsIn K mainGlobals "abs" = some none)
    (z_all : PySem.W.nsIn K mainGlobals "all" = some none)
    (z_any : PySem.W.nsIn K mainGlobals "any" = some none)
    (z_bool : PySem.W.nsIn K mainGlobals "bool" = some none)
    (z_enumerate : PySem.W.nsIn K mainGlobals "enumerate" = some none)
    (z_int : PySem.W.nsIn K mainGlobals "int" = some none)
    (z_isinstance : PySem.W.nsIn K mainGlobals "isinstance" = some none)
    (z_len : PySem.W.nsIn K mainGlobals "len" = some none)
    (z_list : PySem.W.nsIn K mainGlobals "list" = some none)
    (z_max : PySem.W.nsIn K mainGlobals "max" = some none)
    (z_min : PySem.W.nsIn K mainGlobals "min" = some none)
    (z_range : PySem.W.nsIn K mainGlobals "range" = some none)
    (z_repr : PySem.W.nsIn K mainGlobals "repr" = some none)
    (z_set : PySem.W.nsIn K mainGlobals "set" = some none)
    (z_str : PySem.W.nsIn K mainGlobals "str" = some none)
    (z_sum : PySem.W.nsIn K mainGlobals "sum" = some none)
    (z_tuple : PySem.W.nsIn K mainGlobals "tuple" = some none)
    (z_zip : PySem.W.nsIn K mainGlobals "zip" = some none)
    (c_BLANK : PySem.W.nsIn K mainGlobals "BLANK" = some (some (.str " " tk_BLANK)))
    (c_DIGITS : PySem.W.nsIn K mainGlobals "DIGITS" = some (some (.str "0123456789" tk_DIGITS)))
    (c_FEED : PySem.W.nsIn K mainGlobals "FEED" = some (some (.str "\n" tk_FEED)))
    (c_LEAST_LANES : PySem.W.nsIn K mainGlobals "LEAST_LANES" = some (some (.int 2 tk_LEAST_LANES)))
    (c_MOST_DIGITS : PySem.W.nsIn K mainGlobals "MOST_DIGITS" = some (some (.int 9 tk_MOST_DIGITS)))
    (c_MOST_LANES : PySem.W.nsIn K mainGlobals "MOST_LANES" = some (some (.int 4 tk_MOST_LANES)))
    (c_MOST_LENGTH : PySem.W.nsIn K mainGlobals "MOST_LENGTH" = some (some (.int 1000000 tk_MOST_LENGTH)))
    (c_MOST_STAGES : PySem.W.nsIn K mainGlobals "MOST_STAGES" = some (some (.int 6 tk_MOST_STAGES)))
    (c_STAGE : PySem.W.nsIn K mainGlobals "STAGE" = some (some (.str "stage" tk_STAGE))) :
    ∃ fd : FuncData, (∀ (s : Shared) (v : Value), BindsTo s fd ⟨[v], []⟩ [("script", v)]) ∧ ∀ base : Heap, K.In base → base.Ns mainGlobals mg → GnOk l.prog w K mg base CX0 10 fa fd ["script"] (spLaw K) := by
  have e := hfa.symm.trans (PySem.W.mg_of X G a28)
  cases e
  let T : Tx K mg := { f_is_integer := a_is_integer, d_is_integer := _, F_is_integer := fun_mk (st := s_is_integer) l0 c0 k0, b_is_integer := (fun_mk (st := s_is_integer) l0 c0 k0).binds (fun _ _ _ _ _ _ us hl => match us, hl with | [_], _ => rfl), g_is_integer := PySem.W.mg_of X G a0, f_words_in := a_words_in, d_words_in := _, F_words_in := fun_mk (st := s_words_in) l1 c1 k1, b_words_in := (fun_mk (st := s_words_in) l1 c1 k1).binds (fun _ _ _ _ _ _ us hl => match us, hl with | [_], _ => rfl), g_words_in := PySem.W.mg_of X G a1, f_lines_in := a_lines_in, d_lines_in := _, F_lines_in := fun_mk (st := s_lines_in) l2 c2 k2, b_lines_in := (fun_mk (st := s_lines_in) l2 c2 k2).binds (fun _ _ _ _ _ _ us hl => match us, hl with | [_], _ => rfl), g_lines_in := PySem.W.mg_of X G a2, f_Device_text := a_Device_text, d_Device_text := _, F_Device_text := fun_mk (st := s_Device_text) l3 c3 k3, b_Device_text := (fun_mk (st := s_Device_text) l3 c3 k3).binds (fun _ _ _ _ _ _ us hl => match us, hl with | [_], _ => rfl), f_Device_stages := a_Device_stages, d_Device_stages := _, F_Device_stages := fun_mk (st := s_Device_stages) l4 c4 k4, b_Device_stages := (fun_mk (st := s_Device_stages) l4 c4 k4).binds (fun _ _ _ _ _ _ us hl => match us, hl with | [_], _ => rfl), f_Device___len__ := a_Device___len__, d_Device___len__ := _, F_Device___len__ := fun_mk (st := s_Device___len__) l5 c5 k5, b_Device___len__ := (fun_mk (st := s_Device___len__) l5 c5 k5).binds (fun _ _ _ _ _ _ us hl => match us, hl with | [_], _ => rfl), f_Device___eq__ := a_Device___eq__, d_Device___eq__ := _, F_Device___eq__ := fun_mk (st := s_Device___eq__) l6 c6 k6, b_Device___eq__ := (fun_mk (st := s_Device___eq__) l6 c6 k6).binds (fun _ _ _ _ _ _ us hl => match us, hl with | [_, _], _ => rfl), f_sum_of := a_sum_of, d_sum_of := _, F_sum_of := fun_mk (st := s_sum_of) l7 c7 k7, b_sum_of := (fun_mk (st := s_sum_of) l7 c7 k7).binds (fun _ _ _ _ _ _ us hl => match us, hl with | [_, _], _ => rfl), g_sum_of := PySem.W.mg_of X G a7, f__law_take := a__law_take, d__law_take := _, F__law_take := fun_mk (st := s__law_take) l8 c8 k8, b__law_take := (fun_mk (st := s__law_take) l8 c8 k8).binds (fun _ _ _ _ _ _ us hl => match us, hl with | [_, _], _ => rfl), g__law_take := PySem.W.mg_of X G a8, f__law_device_text := a__law_device_text, d__law_device_text := _, F__law_device_text := fun_mk (st := s__law_device_text) l9 c9 k9, b__law_device_text := (fun_mk (st := s__law_device_text) l9 c9 k9).binds (fun _ _ _ _ _ _ us hl => match us, hl with | [_], _ => rfl), g__law_device_text := PySem.W.mg_of X G a9, f_is_within := a_is_within, d_is_within := _, F_is_within := fun_mk (st := s_is_within) l10 c10 k10, b_is_within := (fun_mk (st := s_is_within) l10 c10 k10).binds (fun _ _ _ _ _ _ us hl => match us, hl with | [_, _, _], _ => rfl), g_is_within := PySem.W.mg_of X G a10, f_number_in := a_number_in, d_number_in := _, F_number_in := fun_mk (st := s_number_in) l11 c11 k11, b_number_in := (fun_mk (st := s_number_in) l11 c11 k11).binds (fun _ _ _ _ _ _ us hl => match us, hl with | [_], _ => rfl), g_number_in := PySem.W.mg_of X G a11, f_are_lengths := a_are_lengths, d_are_lengths := _, F_are_lengths := fun_mk (st := s_are_lengths) l12 c12 k12, b_are_lengths := (fun_mk (st := s_are_lengths) l12 c12 k12).binds (fun _ _ _ _ _ _ us hl => match us, hl with | [_], _ => rfl), g_are_lengths := PySem.W.mg_of X G a12, f_all_rows := a_all_rows, d_all_rows := _, F_all_rows := fun_mk (st := s_all_rows) l13 c13 k13, b_all_rows := (fun_mk (st := s_all_rows) l13 c13 k13).binds (fun _ _ _ _ _ _ us hl => match us, hl with | [_], _ => rfl), g_all_rows := PySem.W.mg_of X G a13, f__law_pot := a__law_pot, d__law_pot := _, F__law_pot := fun_mk (st := s__law_pot) l14 c14 k14, b__law_pot := (fun_mk (st := s__law_pot) l14 c14 k14).binds (fun _ _ _ _ _ _ us hl => match us, hl with | [_, _], _ => rfl), g__law_pot := PySem.W.mg_of X G a14, f__law_of := a__law_of, d__law_of := _, F__law_of := fun_mk (st := s__law_of) l15 c15 k15, b__law_of := (fun_mk (st := s__law_of) l15 c15 k15).binds (fun _ _ _ _ _ _ us hl => match us, hl with | [_, _], _ => rfl), g__law_of := PySem.W.mg_of X G a15, f__law_some := a__law_some, d__law_some := _, F__law_some := fun_mk (st := s__law_some) l16 c16 k16, b__law_some := (fun_mk (st := s__law_some) l16 c16 k16).binds (fun _ _ _ _ _ _ us hl => match us, hl with | [_, _, _], _ => rfl), g__law_some := PySem.W.mg_of X G a16, f__law_cells := a__law_cells, d__law_cells := _, F__law_cells := fun_mk (st := s__law_cells) l17 c17 k17, b__law_cells := (fun_mk (st := s__law_cells) l17 c17 k17).binds (fun _ _ _ _ _ _ us hl => match us, hl with | [_, _], _ => rfl), g__law_cells := PySem.W.mg_of X G a17, f_lengths_in := a_lengths_in, d_lengths_in := _, F_lengths_in := fun_mk (st := s_lengths_in) l18 c18 k18, b_lengths_in := (fun_mk (st := s_lengths_in) l18 c18 k18).binds (fun _ _ _ _ _ _ us hl => match us, hl with | [_], _ => rfl), g_lengths_in := PySem.W.mg_of X G a18, f_device_text := a_device_text, d_device_text := _, F_device_text := fun_mk (st := s_device_text) l19 c19 k19, b_device_text := (fun_mk (st := s_device_text) l19 c19 k19).binds (fun _ _ _ _ _ _ us hl => match us, hl with | [_], _ => rfl), g_device_text := PySem.W.mg_of X G a19, f__law_lengths := a__law_lengths, d__law_lengths := _, F__law_lengths := fun_mk (st := s__law_lengths) l20 c20 k20, b__law_lengths := (fun_mk (st := s__law_lengths) l20 c20 k20).binds (fun _ _ _ _ _ _ us hl => match us, hl with | [_, _, _], _ => rfl), g__law_lengths := PySem.W.mg_of X G a20, f__law_figures_stages := a__law_figures_stages, d__law_figures_stages := _, F__law_figures_stages := fun_mk (st := s__law_figures_stages) l21 c21 k21, b__law_figures_stages := (fun_mk (st := s__law_figures_stages) l21 c21 k21).binds (fun _ _ _ _ _ _ us hl => match us, hl with | [_, _], _ => rfl), g__law_figures_stages := PySem.W.mg_of X G a21, f__law_great_device := a__law_great_device, d__law_great_device := _, F__law_great_device := fun_mk (st := s__law_great_device) l22 c22 k22, b__law_great_device := (fun_mk (st := s__law_great_device) l22 c22 k22).binds (fun _ _ _ _ _ _ us hl => match us, hl with | [_], _ => rfl), g__law_great_device := PySem.W.mg_of X G a22, f_read_device := a_read_device, d_read_device := _, F_read_device := fun_mk (st := s_read_device) l23 c23 k23, b_read_device := (fun_mk (st := s_read_device) l23 c23 k23).binds (fun _ _ _ _ _ _ us hl => match us, hl with | [_], _ => rfl), g_read_device := PySem.W.mg_of X G a23, f__law_device := a__law_device, d__law_device := _, F__law_device := fun_mk (st := s__law_device) l24 c24 k24, b__law_device := (fun_mk (st := s__law_device) l24 c24 k24).binds (fun _ _ _ _ _ _ us hl => match us, hl with | [_, _, _], _ => rfl), g__law_device := PySem.W.mg_of X G a24, f_Device___init__ := a_Device___init__, d_Device___init__ := _, F_Device___init__ := fun_mk (st := s_Device___init__) l25 c25 k25, b_Device___init__ := (fun_mk (st := s_Device___init__) l25 c25 k25).binds (fun _ _ _ _ _ _ us hl => match us, hl with | [_, _], _ => rfl), f__law_is_device_right := a__law_is_device_right, d__law_is_device_right := _, F__law_is_device_right := fun_mk (st := s__law_is_device_right) l26 c26 k26, b__law_is_device_right := (fun_mk (st := s__law_is_device_right) l26 c26 k26).binds (fun _ _ _ _ _ _ us hl => match us, hl with | [_, _], _ => rfl), g__law_is_device_right := PySem.W.mg_of X G a26, f__law_right := a__law_right, d__law_right := _, F__law_right := fun_mk (st := s__law_right) l27 c27 k27, b__law_right := (fun_mk (st := s__law_right) l27 c27 k27).binds (fun _ _ _ _ _ _ us hl => match us, hl with | [_], _ => rfl), g__law_right := PySem.W.mg_of X G a27, f_law := fa, d_law := _, F_law := fun_mk (st := s_law) l28 c28 k28, b_law := (fun_mk (st := s_law) l28 c28 k28).binds (fun _ _ _ _ _ _ us hl => match us, hl with | [_], _ => rfl), g_law := PySem.W.mg_of X G a28, C_Device := C_Device, h_Device := clsA_of ac_Device, l_Device := ⟨pg_Device, hd_Device, po_Device, sa_Device⟩, g_Device := PySem.W.mg_of X G ac_Device, k_Device := ⟨mk_Device, a25, i25, kc_Device⟩, n_Device := ⟨⟨pg_Device, hd_Device, po_Device, sa_Device⟩, a5, tl_Device⟩, ic_Device := ⟨⟨pg_Device, hd_Device, po_Device, sa_Device⟩, xa_Device, xb_Device, xc_Device, xd_Device, clsTy xe_Device xf_Device⟩, eq_Device := ⟨a6, y7_Device, ⟨_, _, _, _, _, _, _, _, _, _, _, _, _, _, _, _, _, _, _, y1_Device, y2_Device, y3_Device, y4_Device, y5_Device, y6_Device⟩⟩, pr_Device_text := p_Device_text, p_Device_text := ⟨a3, i3, j3, _, q3⟩, pr_Device_stages := p_Device_stages, p_Device_stages := ⟨a4, i4, j4, _, q4⟩, o_Device_own_rows := by unfold FldOk; rw [clsA_of ac_Device]; exact ⟨⟨pg_Device, hd_Device, po_Device, sa_Device⟩, nf_Device_own_rows⟩, o_Device_own_stages := by unfold FldOk; rw [clsA_of ac_Device]; exact ⟨⟨pg_Device, hd_Device, po_Device, sa_Device⟩, nf_Device_own_stages⟩, o_Device_own_text := by unfold FldOk; rw [clsA_of ac_Device]; exact ⟨⟨pg_Device, hd_Device, po_Device, sa_Device⟩, nf_Device_own_text⟩, kb_0 := kbinds_fun (fun_mk (st := s_device_text) l19 c19 k19) (by decide) (fun _ _ _ _ _ _ us hl => match us, hl with | [_], _ => rfl), kn_0 := kbn_fun (fun_mk (st := s_Device___init__) l25 c25 k25) (fun _ _ _ _ _ _ u ws hl => match ws, hl with | [_], _ => rfl), z_abs := PySem.W.mg_none_of X G z_abs, z_all := PySem.W.mg_none_of X G z_all, z_any := PySem.W.mg_none_of X G z_any, z_bool := PySem.W.mg_none_of X G z_bool, z_enumerate := PySem.W.mg_none_of X G z_enumerate, z_int := PySem.W.mg_none_of X G z_int, z_isinstance := PySem.W.mg_none_of X G z_isinstance, z_len := PySem.W.mg_none_of X G z_len, z_list := PySem.W.mg_none_of X G z_list, z_max := PySem.W.mg_none_of X G z_max, z_min := PySem.W.mg_none_of X G z_min, z_range := PySem.W.mg_none_of X G z_range, z_repr := PySem.W.mg_none_of X G z_repr, z_set := PySem.W.mg_none_of X G z_set, z_str := PySem.W.mg_none_of X G z_str, z_sum := PySem.W.mg_none_of X G z_sum, z_tuple := PySem.W.mg_none_of X G z_tuple, z_zip := PySem.W.mg_none_of X G z_zip, c_BLANK := ⟨_, PySem.W.mg_of X G c_BLANK⟩, c_DIGITS := ⟨_, PySem.W.mg_of X G c_DIGITS⟩, c_FEED := ⟨_, PySem.W.mg_of X G c_FEED⟩, c_LEAST_LANES := ⟨_, PySem.W.mg_of X G c_LEAST_LANES⟩, c_MOST_DIGITS := ⟨_, PySem.W.mg_of X G c_MOST_DIGITS⟩, c_MOST_LANES := ⟨_, PySem.W.mg_of X G c_MOST_LANES⟩, c_MOST_LENGTH := ⟨_, PySem.W.mg_of X G c_MOST_LENGTH⟩, c_MOST_STAGES := ⟨_, PySem.W.mg_of X G c_MOST_STAGES⟩, c_STAGE := ⟨_, PySem.W.mg_of X G c_STAGE⟩ }
  refine ⟨T.d_law, fun s v => .of_eq rfl, fun base _ _ => (ok_law T).imp spLaw_D⟩
end K00
open PySem PySem.W PyProof.Rows
set_option maxRecDepth 100000 in
set_option maxHeartbeats 0 in
theorem PySem.Challenge.cw_queueloops_k00_devices_as_they_are_told_holds : PySem.Challenge.rw_queueloops_k00_devices_as_they_are_told.Holds := by
  w_on; o_law; k_head; (case hw => w_witness2)
  k_fill
  refine DL.walk_g (l := PySem.Challenge.rw_queueloops_k00_devices_as_they_are_told) (n := 63) (k := 10) (x := "script") (CX := fun _ => L2.CX0) (sp := fun w => DL.spLaw _) rfl (by decide) rfl ⟨rfl, by decide, by decide⟩ (fun w h Y => PySem.W.kIn_of Y) ?F (fun _ _ a ns hl hS => ⟨a, ns, rfl, hS, hl, fun _ => rfl⟩) (fun _ _ _ _ _ h => h)
  case F =>
    intro w mg fa h KX G hmg
    refine' K00.all_mk KX G hmg ?ac_Device ?pg_Device ?hd_Device ?po_Device ?sa_Device ?a0 ?l0 ?c0 ?k0 ?a1 ?l1 ?c1 ?k1 ?a2 ?l2 ?c2 ?k2 ?a3 ?i3 ?j3 ?q3 ?l3 ?c3 ?k3 ?a4 ?i4 ?j4 ?q4 ?l4 ?c4 ?k4 ?a5 ?i5 ?l5 ?c5 ?k5 ?a6 ?i6 ?l6 ?c6 ?k6 ?a7 ?l7 ?c7 ?k7 ?a8 ?l8 ?c8 ?k8 ?a9 ?l9 ?c9 ?k9 ?a10 ?l10 ?c10 ?k10 ?a11 ?l11 ?c11 ?k11 ?a12 ?l12 ?c12 ?k12 ?a13 ?l13 ?c13 ?k13 ?a14 ?l14 ?c14 ?k14 ?a15 ?l15 ?c15 ?k15 ?a16 ?l16 ?c16 ?k16 ?a17 ?l17 ?c17 ?k17 ?a18 ?l18 ?c18 ?k18 ?a19 ?l19 ?c19 ?k19 ?a20 ?l20 ?c20 ?k20 ?a21 ?l21 ?c21 ?k21 ?a22 ?l22 ?c22 ?k22 ?a23 ?l23 ?c23 ?k23 ?a24 ?l24 ?c24 ?k24 ?a25 ?i25 ?l25 ?c25 ?k25 ?a26 ?l26 ?c26 ?k26 ?a27 ?l27 ?c27 ?k27 ?a28 ?l28 ?c28 ?k28 ?mk_Device ?kc_Device ?tl_Device ?xa_Device ?xb_Device ?xc_Device ?xd_Device ?xe_Device ?xf_Device ?y1_Device ?y2_Device ?y3_Device ?y4_Device ?y5_Device ?y6_Device ?y7_Device ?nf_Device_own_rows ?nf_Device_own_stages ?nf_Device_own_text ?z_abs ?z_all ?z_any ?z_bool ?z_enumerate ?z_int ?z_isinstance ?z_len ?z_list ?z_max ?z_min ?z_range ?z_repr ?z_set ?z_str ?z_sum ?z_tuple ?z_zip ?c_BLANK ?c_DIGITS ?c_FEED ?c_LEAST_LANES ?c_MOST_DIGITS ?c_MOST_LANES ?c_MOST_LENGTH ?c_MOST_STAGES ?c_STAGE
    (case ac_Device => k_is)
    (case pg_Device => k_is)
    (case hd_Device => k_is)
    (case po_Device => k_is)
    (case sa_Device => k_is)
    (case a0 => k_is)
    (case l0 => k_is)
    (case c0 => k_is)
    (case k0 => k_is)
    (case a1 => k_is)
    (case l1 => k_is)
    (case c1 => k_is)
    (case k1 => k_is)
    (case a2 => k_is)
    (case l2 => k_is)
    (case c2 => k_is)
    (case k2 => k_is)
    (case a3 => k_is)
    (case i3 => k_is)
    (case j3 => k_is)
    (case q3 => k_is)
    (case l3 => k_is)
    (case c3 => k_is)
    (case k3 => k_is)
    (case a4 => k_is)
    (case i4 => k_is)
    (case j4 => k_is)
    (case q4 => k_is)
    (case l4 => k_is)
    (case c4 => k_is)
    (case k4 => k_is)
    (case a5 => k_is)
    (case i5 => k_is)
    (case l5 => k_is)
    (case c5 => k_is)
    (case k5 => k_is)
    (case a6 => k_is)
    (case i6 => k_is)
    (case l6 => k_is)
    (case c6 => k_is)
    (case k6 => k_is)
    (case a7 => k_is)
    (case l7 => k_is)
    (case c7 => k_is)
    (case k7 => k_is)
    (case a8 => k_is)
    (case l8 => k_is)
    (case c8 => k_is)
    (case k8 => k_is)
    (case a9 => k_is)
    (case l9 => k_is)
    (case c9 => k_is)
    (case k9 => k_is)
    (case a10 => k_is)
    (case l10 => k_is)
    (case c10 => k_is)
    (case k10 => k_is)
    (case a11 => k_is)
    (case l11 => k_is)
    (case c11 => k_is)
    (case k11 => k_is)
    (case a12 => k_is)
    (case l12 => k_is)
    (case c12 => k_is)
    (case k12 => k_is)
    (case a13 => k_is)
    (case l13 => k_is)
    (case c13 => k_is)
    (case k13 => k_is)
    (case a14 => k_is)
    (case l14 => k_is)
    (case c14 => k_is)
    (case k14 => k_is)
    (case a15 => k_is)
    (case l15 => k_is)
    (case c15 => k_is)
    (case k15 => k_is)
    (case a16 => k_is)
    (case l16 => k_is)
    (case c16 => k_is)
    (case k16 => k_is)
    (case a17 => k_is)
    (case l17 => k_is)
    (case c17 => k_is)
    (case k17 => k_is)
    (case a18 => k_is)
    (case l18 => k_is)
    (case c18 => k_is)
    (case k18 => k_is)
    (case a19 => k_is)
    (case l19 => k_is)
    (case c19 => k_is)
    (case k19 => k_is)
    (case a20 => k_is)
    (case l20 => k_is)
    (case c20 => k_is)
    (case k20 => k_is)
    (case a21 => k_is)
    (case l21 => k_is)
    (case c21 => k_is)
    (case k21 => k_is)
    (case a22 => k_is)
    (case l22 => k_is)
    (case c22 => k_is)
    (case k22 => k_is)
    (case a23 => k_is)
    (case l23 => k_is)
    (case c23 => k_is)
    (case k23 => k_is)
    (case a24 => k_is)
    (case l24 => k_is)
    (case c24 => k_is)
    (case k24 => k_is)
    (case a25 => k_is)
    (case i25 => k_is)
    (case l25 => k_is)
    (case c25 => k_is)
    (case k25 => k_is)
    (case a26 => k_is)
    (case l26 => k_is)
    (case c26 => k_is)
    (case k26 => k_is)
    (case a27 => k_is)
    (case l27 => k_is)
    (case c27 => k_is)
    (case k27 => k_is)
    (case a28 => k_is)
    (case l28 => k_is)
    (case c28 => k_is)
    (case k28 => k_is)
    (case mk_Device => k_is)
    (case kc_Device => k_is)
    (case tl_Device => k_is)
    (case xa_Device => k_is)
    (case xb_Device => k_is)
    (case xc_Device => k_is)
    (case xd_Device => k_is)
    (case xe_Device => k_is)
    (case xf_Device => k_is)
    (case y1_Device => k_is)
    (case y2_Device => k_is)
    (case y3_Device => first | rfl | decide +kernel)
    (case y4_Device => first | rfl | decide +kernel)
    (case y5_Device => first | rfl | decide +kernel)
    (case y6_Device => first | rfl | decide +kernel)
    (case y7_Device => k_is)
    (case nf_Device_own_rows => k_is)
    (case nf_Device_own_stages => k_is)
    (case nf_Device_own_text => k_is)
    (case z_abs => k_is)
    (case z_all => k_is)
    (case z_any => k_is)
    (case z_bool => k_is)
    (case z_enumerate => k_is)
    (case z_int => k_is)
    (case z_isinstance => k_is)
    (case z_len => k_is)
    (case z_list => k_is)
    (case z_max => k_is)
    (case z_min => k_is)
    (case z_range => k_is)
    (case z_repr => k_is)
    (case z_set => k_is)
    (case z_str => k_is)
    (case z_sum => k_is)
    (case z_tuple => k_is)
    (case z_zip => k_is)
    (case c_BLANK => k_is)
    (case c_DIGITS => k_is)
    (case c_FEED => k_is)
    (case c_LEAST_LANES => k_is)
    (case c_MOST_DIGITS => k_is)
    (case c_MOST_LANES => k_is)
    (case c_MOST_LENGTH => k_is)
    (case c_MOST_STAGES => k_is)
    (case c_STAGE => k_is)
#print axioms PySem.Challenge.cw_queueloops_k00_devices_as_they_are_told_holds
