import PyProof.Rows.All
import Wide.All
import OpenK.AllK
import Wide.FinOn
import HandS.ForMost
import HandS.IsInst
import HandS.Wide
import HandS.Lambda
import HandS.Walk
import HandS.Ends
import HandS.TupAny
import KE.KTupSum
import HandS.Conv
import PyProof.ReprBulk
import PyProof.FitsInt
import KE.GoesMore
import HandS.Zip
import HandS.Star
import HandS.Style
import HandS.SortRule
import HandS.Property
import HandS.Codes
import HandS.SetKeys
import HandS.Dict
import HandS.Text
import HandS.SetFor
import HandS.WideMore
import KE.GoesZip
import KE.GoesEnum
import HandS.SortInts
import HandS.More
import HandS.TupMul
import KE.KDictZip
import HandS.DictTup
import HandS.ListItems
import PyProof.DictMoreH
import HandS.MakeKwOnly
import HandS.Flt
import KE.DatumOrd
import HandS.Deep
import HandS.OwnEq
import PyProof.InstNe
import KE.KDictCopyH
import PySem.Challenge.RW_queueloops_k16_whole_pairs_that_can_be
set_option Elab.async false
set_option linter.all false
set_option maxRecDepth 100000
set_option maxHeartbeats 8000000
namespace DL
open PySem L2
inductive D where
  | non | bl (b : Bool) | int (i : Int) | str (x : Str) | tup (xs : List D) | lst (xs : List D) | scr (xs : List D) | ob (f : Hp → V → Prop)
  | ins (c : Str) (ns : List Str) (xs : List D) | dk (ks : List Key) (xs : List D) | dt (ks : List (List Key)) (xs : List D)
  | exc (c : Str) (d : D)
/-- the class of that name -/
def clsA (K : PySem.W.Frag) (c : Str) : Addr := match PySem.W.nsIn K mainGlobals c with
  | some (some (.ref C)) => C
  | _ => 0
/-- an error that was raised and caught, of the class cls, its dict at dx: known from now on -/
def ErrO (cls : Value) (dx a : Addr) : HO := .ext fun h => ∃ (oe : Obj) (vs : Array Value), h.get? a = some oe ∧ oe.cls = cls ∧ oe.dict = some dx ∧ oe.data = .fields vs ∧ vs[2]? = some .none
mutual
def Dq (K : PySem.W.Frag) (H : Hp) : D → V → Prop
  | .non, v => v = .non
  | .bl b, v => v = .bl b
  | .int i, v => v = .int i
  | .str x, v => v = .str x
  | .tup ds, v => ∃ a xs, v = .ref a ∧ SqT K H a xs ∧ DqA K H ds xs
  | .lst ds, v => ∃ a xs, v = .ref a ∧ H a = some (.lst xs) ∧ DqA K H ds xs
  | .scr ds, v => ∃ a xs, v = .ref a ∧ SqL K H a xs ∧ DqA K H ds xs
  | .ob f, v => ∀ H', Same H H' → f H' v
  | .ins C ns ds, v => ∃ a dx xs, v = .ref a ∧ H a = some (.ins (clsA K C) dx (ns.zip xs)) ∧ ns.length = ds.length ∧ DqA K H ds xs
  | .dk ks ds, v => ∃ a xs, v = .ref a ∧ H a = some (.dK (ks.zip xs)) ∧ ks.length = ds.length ∧ DqA K H ds xs
  | .dt ks ds, v => ∃ a xs, v = .ref a ∧ H a = some (.dT (ks.zip xs)) ∧ ks.length = ds.length ∧ DqA K H ds xs
  | .exc c d, v => ∃ a dx w, v = .ref a ∧ H a = some (ErrO (.ref (clsA K c)) dx a) ∧ H dx = some (.xd [("value", w)]) ∧ Dq K H d w
def DqA (K : PySem.W.Frag) (H : Hp) : List D → List V → Prop
  | [], xs => xs = []
  | d :: ds, xs => ∃ x r, xs = x :: r ∧ Dq K H d x ∧ DqA K H ds r
end
section
variable {K : PySem.W.Frag} {H H' : Hp}
theorem Same.rd {a : Addr} {u : HO} (e : Same H H') (h : Rd H a u) : Rd H' a u := by
  rcases h with h | ⟨o, h⟩
  · exact .inl (e _ _ h)
  · exact .inr ⟨o, e _ _ h⟩
theorem Same.sqt {a : Addr} {xs : List V} (e : Same H H') (h : SqT K H a xs) : SqT K H' a xs := by
  rcases h with h | h
  · exact .inl (Same.rd e h)
  · exact .inr h
mutual
theorem Dq.mono (e : Same H H') : ∀ (d : D) (v : V), Dq K H d v → Dq K H' d v
  | .non, v, h => h
  | .bl b, v, h => h
  | .int i, v, h => h
  | .str x, v, h => h
  | .tup ds, v, h => by
    obtain ⟨a, xs, h1, h2, h3⟩ := h
    exact ⟨a, xs, h1, Same.sqt e h2, DqA.mono e ds xs h3⟩
  | .lst ds, v, h => by
    obtain ⟨a, xs, h1, h2, h3⟩ := h
    exact ⟨a, xs, h1, e _ _ h2, DqA.mono e ds xs h3⟩
  | .scr ds, v, h => by
    obtain ⟨a, xs, h1, h2, h3⟩ := h
    exact ⟨a, xs, h1, e.seq h2, DqA.mono e ds xs h3⟩
  | .ob f, v, h => fun H2 e2 => h H2 (e.trans e2)
  | .ins C ns ds, v, h => by
    obtain ⟨a, dx, xs, h1, h2, h3, h4⟩ := h
    exact ⟨a, dx, xs, h1, e _ _ h2, h3, DqA.mono e ds xs h4⟩
  | .dk ks ds, v, h => by
    obtain ⟨a, xs, h1, h2, h3, h4⟩ := h
    exact ⟨a, xs, h1, e _ _ h2, h3, DqA.mono e ds xs h4⟩
  | .dt ks ds, v, h => by
    obtain ⟨a, xs, h1, h2, h3, h4⟩ := h
    exact ⟨a, xs, h1, e _ _ h2, h3, DqA.mono e ds xs h4⟩
  | .exc c d, v, h => by
    obtain ⟨a, dx, w, h1, h2, h3, h4⟩ := h
    exact ⟨a, dx, w, h1, e _ _ h2, e _ _ h3, Dq.mono e d w h4⟩
theorem DqA.mono (e : Same H H') : ∀ (ds : List D) (xs : List V), DqA K H ds xs → DqA K H' ds xs
  | [], xs, h => h
  | d :: ds, xs, h => by
    obtain ⟨x, r, h1, h2, h3⟩ := h
    exact ⟨x, r, h1, Dq.mono e d x h2, DqA.mono e ds r h3⟩
end
theorem DqA.length : ∀ {ds : List D} {xs : List V}, DqA K H ds xs → xs.length = ds.length
  | [], xs, h => by
    have e : xs = [] := h
    rw [e]
    rfl
  | d :: ds, xs, h => by
    obtain ⟨x, r, h1, h2, h3⟩ := h
    rw [h1, List.length_cons, List.length_cons, DqA.length h3]
theorem DqA.get : ∀ {ds : List D} {xs : List V} {i : Nat} {d : D}, DqA K H ds xs → ds[i]? = some d → ∃ x, xs[i]? = some x ∧ Dq K H d x
  | [], xs, i, d, h, e => by simp at e
  | d0 :: ds, xs, 0, d, h, e => by
    obtain ⟨x, r, h1, h2, h3⟩ := h
    simp at e
    subst e
    exact ⟨x, by rw [h1]; rfl, h2⟩
  | d0 :: ds, xs, i + 1, d, h, e => by
    obtain ⟨x, r, h1, h2, h3⟩ := h
    obtain ⟨y, e1, e2⟩ := DqA.get (i := i) h3 (by simpa using e)
    exact ⟨y, by rw [h1]; simpa using e1, e2⟩
theorem DqA.append : ∀ {ds es : List D} {xs ys : List V}, DqA K H ds xs → DqA K H es ys → DqA K H (ds ++ es) (xs ++ ys)
  | [], es, xs, ys, h, q => by
    have e2 : xs = [] := h
    rw [e2]
    exact q
  | d :: ds, es, xs, ys, h, q => by
    obtain ⟨x, r, h1, h2, h3⟩ := h
    subst h1
    exact ⟨x, r ++ ys, rfl, h2, DqA.append h3 q⟩
theorem DqA.set : ∀ {ds : List D} {xs : List V} {i : Nat} {d : D} {x : V}, DqA K H ds xs → Dq K H d x → DqA K H (ds.set i d) (xs.set i x)
  | [], xs, i, d, x, h, q => by
    have e2 : xs = [] := h
    rw [e2]
    rfl
  | d0 :: ds, xs, 0, d, x, h, q => by
    obtain ⟨y, r, h1, h2, h3⟩ := h
    subst h1
    exact ⟨x, r, rfl, q, h3⟩
  | d0 :: ds, xs, i + 1, d, x, h, q => by
    obtain ⟨y, r, h1, h2, h3⟩ := h
    subst h1
    exact ⟨y, r.set i x, rfl, h2, DqA.set h3 q⟩
theorem DqA.drop : ∀ {ds : List D} {xs : List V} (n : Nat), DqA K H ds xs → DqA K H (ds.drop n) (xs.drop n)
  | ds, xs, 0, h => h
  | [], xs, n + 1, h => by
    have e2 : xs = [] := h
    rw [e2]
    rfl
  | d :: ds, xs, n + 1, h => by
    obtain ⟨x, r, h1, h2, h3⟩ := h
    subst h1
    exact DqA.drop n h3
theorem DqA.take : ∀ {ds : List D} {xs : List V} (n : Nat), DqA K H ds xs → DqA K H (ds.take n) (xs.take n)
  | ds, xs, 0, h => by
    rw [List.take_zero, List.take_zero]
    rfl
  | [], xs, n + 1, h => by
    have e2 : xs = [] := h
    rw [e2]
    rfl
  | d :: ds, xs, n + 1, h => by
    obtain ⟨x, r, h1, h2, h3⟩ := h
    subst h1
    exact ⟨x, r.take n, rfl, h2, DqA.take n h3⟩
theorem dqa_ints : ∀ (ns : List Int), DqA K H (ns.map D.int) (ns.map V.int)
  | [] => rfl
  | n :: ns => ⟨.int n, ns.map V.int, rfl, rfl, dqa_ints ns⟩
theorem of_dqa_ints : ∀ (ns : List Int) (xs : List V), DqA K H (ns.map D.int) xs → xs = ns.map V.int
  | [], xs, h => h
  | n :: ns, xs, h => by
    obtain ⟨x, r, h1, h2, h3⟩ := h
    have e : x = .int n := h2
    rw [h1, e, of_dqa_ints ns r h3]
    rfl
theorem of_dqa_bls : ∀ (ns : List Bool) (xs : List V), DqA K H (ns.map D.bl) xs → xs = ns.map V.bl
  | [], xs, h => h
  | n :: ns, xs, h => by
    obtain ⟨x, r, h1, h2, h3⟩ := h
    have e : x = .bl n := h2
    rw [h1, e, of_dqa_bls ns r h3]
    rfl
end
/-- the kind of a node -/
inductive NK where
  | ins (c : Str) (dx : Addr) (ns : List Str)
  | dk (ks : List Key)
  | dt (ks : List (List Key))
  | ls
def NK.cell (K : PySem.W.Frag) : NK → List V → HO
  | .ins C dx ns, vs => .ins (clsA K C) dx (ns.zip vs)
  | .dk ks, vs => .dK (ks.zip vs)
  | .dt ks, vs => .dT (ks.zip vs)
  | .ls, vs => .lst vs
def NK.lenOk : NK → Nat → Prop
  | .ins _ _ ns, n => ns.length = n
  | .dk ks, n => ks.length = n ∧ ks.Nodup
  | .dt ks, n => ks.length = n ∧ ks.Nodup
  | .ls, _ => True
def NK.dxs : NK → List Addr
  | .ins _ dx _ => [dx]
  | _ => []
def NK.dxOk (H : Hp) (p : Addr) : NK → Prop
  | .ins _ dx _ => H dx = some (.own p)
  | _ => True
def NK.d : NK → List D → D
  | .ins C _ ns, ds => .ins C ns ds
  | .dk ks, ds => .dk ks ds
  | .dt ks, ds => .dt ks ds
  | .ls, ds => .lst ds
inductive Sl where
  | no
  | pu (d : D)
  | ow (p : Addr) (xs : List D)
  | nd (p : Addr) (k : NK) (ts : List Sl)
abbrev Ss := List Sl
mutual
def Sl.d : Sl → D
  | .no => .ob fun _ _ => True
  | .pu d => d
  | .ow _ xs => .lst xs
  | .nd _ k ts => k.d (dsA ts)
def dsA : List Sl → List D
  | [] => []
  | t :: ts => t.d :: dsA ts
end
theorem dsA_len : ∀ ts : List Sl, (dsA ts).length = ts.length
  | [] => by
    unfold dsA
    rfl
  | t :: ts => by
    unfold dsA
    rw [List.length_cons, List.length_cons, dsA_len ts]
mutual
/-- its own objects -/
def fp : Sl → List Addr
  | .no => []
  | .pu _ => []
  | .ow p _ => [p]
  | .nd p k ts => p :: (k.dxs ++ fpA ts)
def fpA : List Sl → List Addr
  | [] => []
  | t :: ts => fp t ++ fpA ts
end
mutual
def SlOk (K : PySem.W.Frag) (F H : Hp) : Sl → Option V → Prop
  | .no, _ => True
  | .pu d, o => ∃ v, o = some v ∧ Dq K F d v
  | .ow p xs, o => o = some (.ref p) ∧ F p = none ∧ ∃ vs, H p = some (.lst vs) ∧ DqA K F xs vs
  | .nd p k ts, o => o = some (.ref p) ∧ F p = none ∧ (∀ x, x ∈ k.dxs → F x = none) ∧ k.dxOk H p ∧ k.lenOk ts.length ∧ ∃ vs, H p = some (k.cell K vs) ∧ SlOkA K F H ts vs
def SlOkA (K : PySem.W.Frag) (F H : Hp) : List Sl → List V → Prop
  | [], xs => xs = []
  | t :: ts, xs => ∃ x r, xs = x :: r ∧ SlOk K F H t (some x) ∧ SlOkA K F H ts r
end
class Tabl where
  tabs : List (Addr × Str)
instance (priority := low) tabl0 : Tabl := ⟨[]⟩
variable [Tabl]
/-- no table is frozen; the tables tell code objects of the right name -/
structure Tb (F H : Hp) : Prop where
  n : ∀ a ps, F a ≠ some (.tbl ps)
  t : ∀ p, p ∈ Tabl.tabs → LamX.TabS H p.1 p.2
structure Le (F H : Hp) : Prop where
  sm : Same F H
  tb : Tb F H
instance {F H : Hp} : CoeFun (Le F H) fun _ => ∀ b o, F b = some o → H b = some o := ⟨fun l => l.sm⟩
instance {F H : Hp} : Coe (Le F H) (Same F H) := ⟨Le.sm⟩
/-- all stands but the tables -/
structure Ex (H H' : Hp) : Prop where
  k : ∀ a o, H a = some o → (∀ ps, o ≠ .tbl ps) → H' a = some o
  t : ∀ a, H' a = none → H a = none
theorem Ex.of {H H' : Hp} (e : Same H H') : Ex H H' := ⟨fun a o h _ => e a o h, fun a h => e.free h⟩
instance {H H' : Hp} : Coe (Same H H') (Ex H H') := ⟨Ex.of⟩
theorem Ex.refl (H : Hp) : Ex H H := ⟨fun _ _ h _ => h, fun _ h => h⟩
theorem Ex.trans {H H1 H2 : Hp} (a : Ex H H1) (b : Ex H1 H2) : Ex H H2 := ⟨fun x o h n => b.k x o (a.k x o h n) n, fun x h => a.t x (b.t x h)⟩
theorem Ex.free {H H' : Hp} {a : Addr} (e : Ex H H') (h : H' a = none) : H a = none := e.t a h
theorem Le.trans {F H H' : Hp} (l : Le F H) (e : Same H H') : Le F H' := ⟨fun b o h => e b o (l.sm b o h), l.tb.n, fun p hp => (l.tb.t p hp).ext e⟩
theorem Le.exn {F H H' : Hp} (l : Le F H) (e : Ex H H') (t : ∀ p, p ∈ Tabl.tabs → LamX.TabS H' p.1 p.2) : Le F H' := ⟨fun b o h => e.k b o (l.sm b o h) fun ps z => l.tb.n b ps (by rw [h, z]), l.tb.n, t⟩
theorem Le.free {F H : Hp} {a : Addr} (l : Le F H) (h : H a = none) : F a = none := l.sm.free h
theorem Le.seq {K : PySem.W.Frag} {F H : Hp} {a : Addr} {xs : List V} (l : Le F H) (h : SqL K F a xs) : SqL K H a xs := l.sm.seq h
theorem Le.sqt {K : PySem.W.Frag} {F H : Hp} {a : Addr} {xs : List V} (l : Le F H) (h : SqT K F a xs) : SqT K H a xs := Same.sqt l.sm h
theorem tab_upd {H : Hp} {P a : Addr} {q : Str} {o : HO} (t : LamX.TabS H P q) (h : H a = none) : LamX.TabS (upd H a o) P q := t.ext fun b u e => by
  rw [upd_ne fun z => by rw [z, h] at e; cases e]
  exact e
/-- a new object is known from now on -/
theorem Le.put {F H : Hp} {a : Addr} {o : HO} (l : Le F H) (h : H a = none) (n : ∀ ps, o ≠ .tbl ps := by intro _ z; cases z) : Le (upd F a o) (upd H a o) := ⟨fun b u q => by
    by_cases hb : b = a
    · subst hb
      rw [upd_same] at q ⊢
      exact q
    · rw [upd_ne hb] at q ⊢
      exact l b u q, fun b ps q => by
    by_cases hb : b = a
    · subst hb
      rw [upd_same] at q
      cases q
      exact n _ rfl
    · rw [upd_ne hb] at q
      exact l.tb.n b ps q, fun p hp => tab_upd (l.tb.t p hp) h⟩
/-- more of what stands is known: no tables -/
theorem Le.more {F F' H : Hp} (l : Le F H) (e : Same F' H) (n : ∀ a, F' a ≠ none → F a ≠ none ∨ ∃ o, H a = some o ∧ ∀ ps, o ≠ .tbl ps) : Le F' H := ⟨e, fun a ps q => by
    have h := e a _ q
    rcases n a (by rw [q]; intro z; cases z) with z | ⟨o, z1, z2⟩
    · cases q2 : F a with
      | none => exact z q2
      | some u =>
        have h2 := l a u q2
        rw [h] at h2
        cases h2
        exact l.tb.n a ps q2
    · rw [h] at z1
      cases z1
      exact z2 ps rfl, l.tb.t⟩
/-- objects that a def may own -/
def Dat : HO → Prop
  | .lst _ => True
  | .ins _ _ _ => True
  | .dK _ => True
  | .dT _ => True
  | .own _ => True
  | _ => False
theorem Dat.tbl {u : HO} (h : Dat u) : ∀ ps, u ≠ .tbl ps := fun ps z => by
  subst z
  exact h
/-- owned objects are changed -/
theorem Le.chg {F H H' : Hp} {S : Addr → Prop} (l : Le F H) (nf : ∀ b, S b → F b = none ∧ ∃ u, H b = some u ∧ Dat u) (hk : ∀ b o, ¬ S b → H b = some o → H' b = some o) : Le F H' := ⟨fun b o q => hk b o (fun z => by
    rw [(nf b z).1] at q
    cases q) (l b o q), l.tb.n, fun p hp => by
    obtain ⟨ps, h2, h3, h4⟩ := l.tb.t p hp
    refine ⟨ps, hk _ _ (fun z => ?_) h2, h3, fun pos cv hc => ?_⟩
    · obtain ⟨_, u, e, hd⟩ := nf _ z
      rw [h2] at e
      cases e
      exact hd
    · obtain ⟨c, e1, e2⟩ := h4 pos cv hc
      refine ⟨c, e1, hk _ _ (fun z => ?_) e2⟩
      obtain ⟨_, u, e, hd⟩ := nf _ z
      rw [e2] at e
      cases e
      exact hd⟩
def Own (s : Ss) (p : Addr) : Prop := ∃ (i : Nat) (l : Sl), s[i]? = some l ∧ p ∈ fp l
structure StOk (K : PySem.W.Frag) (F H : Hp) (σ : L2.St) (s : Ss) : Prop where
  le : Le F H
  len : σ.length = s.length
  ok : ∀ (i : Nat) (l : Sl) (o : Option V), s[i]? = some l → σ[i]? = some o → SlOk K F H l o
  un : ∀ (i j : Nat) (l m : Sl) (p : Addr), s[i]? = some l → s[j]? = some m → p ∈ fp l → p ∈ fp m → i = j
  nd : ∀ (i : Nat) (l : Sl), s[i]? = some l → (fp l).Nodup
/-- from the state s with F, H to s' with F', H' -/
structure Step (K : PySem.W.Frag) (s : Ss) (F H : Hp) (s' : Ss) (F' H' : Hp) (σ' : L2.St) : Prop where
  st : StOk K F' H' σ' s'
  f : Same F F'
  k : ∀ a o, H a = some o → (∀ ps, o ≠ .tbl ps) → ¬ Own s a → H' a = some o
  t : ∀ a, H' a = none → H a = none
  n : ∀ a, F' a ≠ none → F a ≠ none ∨ H a = none ∨ Own s a
  o : ∀ p, Own s' p → Own s p ∨ H p = none
/-- a result -/
structure Rs (K : PySem.W.Frag) (s : Ss) (H F' H' : Hp) (s' : Ss) (r : Sl) (v : V) : Prop where
  ok : SlOk K F' H' r (some v)
  fr : ∀ p, p ∈ fp r → (H p = none ∨ Own s p) ∧ ¬ Own s' p
  nd : (fp r).Nodup
/-- new objects alone -/
structure Lf (K : PySem.W.Frag) (F H : Hp) (r : Sl) (v : V) (F' H' : Hp) : Prop where
  f : Same F F'
  h : Ex H H'
  le : Le F' H'
  n : ∀ a, F' a ≠ none → F a ≠ none ∨ H a = none
  ok : SlOk K F' H' r (some v)
  fr : ∀ p, p ∈ fp r → H p = none
  nd : (fp r).Nodup
section
variable {K : PySem.W.Frag} {F H F' H' F1 H1 F2 H2 : Hp} {s s' s1 s2 : Ss} {σ σ' σ1 σ2 : L2.St} {r : Sl} {v : V}
theorem fp_pu (d : D) : fp (.pu d) = [] := by unfold fp; rfl
theorem fp_no : fp .no = [] := by unfold fp; rfl
theorem fp_ow (p : Addr) (xs : List D) : fp (.ow p xs) = [p] := by unfold fp; rfl
theorem fp_nd (p : Addr) (k : NK) (ts : List Sl) : fp (.nd p k ts) = p :: (k.dxs ++ fpA ts) := by rw [fp]
theorem mem_ow {p q : Addr} {xs : List D} : q ∈ fp (.ow p xs) ↔ q = p := by rw [fp_ow, List.mem_singleton]
theorem slok_pu {d : D} {o : Option V} : SlOk K F H (.pu d) o ↔ ∃ v, o = some v ∧ Dq K F d v := by rw [SlOk]
theorem slok_ow {p : Addr} {xs : List D} {o : Option V} : SlOk K F H (.ow p xs) o ↔ o = some (.ref p) ∧ F p = none ∧ ∃ vs, H p = some (.lst vs) ∧ DqA K F xs vs := by rw [SlOk]
theorem slok_nd {p : Addr} {k : NK} {ts : List Sl} {o : Option V} : SlOk K F H (.nd p k ts) o ↔ o = some (.ref p) ∧ F p = none ∧ (∀ x, x ∈ k.dxs → F x = none) ∧ k.dxOk H p ∧ k.lenOk ts.length ∧ ∃ vs, H p = some (k.cell K vs) ∧ SlOkA K F H ts vs := by rw [SlOk]
theorem NK.dat {K : PySem.W.Frag} (k : NK) (vs : List V) : Dat (k.cell K vs) := by cases k <;> trivial
mutual
theorem SlOk.mono : ∀ (r : Sl) {o : Option V}, Same F F' → (∀ p, p ∈ fp r → ∀ u, Dat u → F p = none → H p = some u → F' p = none ∧ H' p = some u) → SlOk K F H r o → SlOk K F' H' r o
  | .no, o, e, h, q => by
    unfold SlOk
    trivial
  | .pu d, o, e, h, q => by
    rw [slok_pu] at q ⊢
    obtain ⟨v, h1, h2⟩ := q
    exact ⟨v, h1, Dq.mono e _ _ h2⟩
  | .ow p xs, o, e, h, q => by
    rw [slok_ow] at q ⊢
    obtain ⟨h1, h2, vs, h3, h4⟩ := q
    obtain ⟨g1, g2⟩ := h p (mem_ow.mpr rfl) (.lst vs) trivial h2 h3
    exact ⟨h1, g1, vs, g2, DqA.mono e _ _ h4⟩
  | .nd p k ts, o, e, h, q => by
    rw [slok_nd] at q ⊢
    obtain ⟨h1, h2, h5, h6, h7, vs, h3, h4⟩ := q
    have hf := fp_nd p k ts
    obtain ⟨g1, g2⟩ := h p (by rw [hf]; exact List.mem_cons_self) _ (NK.dat k vs) h2 h3
    have hx : ∀ x, x ∈ k.dxs → x ∈ fp (.nd p k ts) := fun x hx => by
      rw [hf]
      exact List.mem_cons_of_mem _ (List.mem_append_left _ hx)
    refine ⟨h1, g1, ?_, ?_, h7, vs, g2, SlOkA.mono ts e (fun q hq => h q (by rw [hf]; exact List.mem_cons_of_mem _ (List.mem_append_right _ hq))) h4⟩
    · intro x hm
      cases k with
      | ins C dx ns =>
        cases List.mem_singleton.mp hm
        exact (h _ (hx _ hm) (.own p) trivial (h5 _ hm) h6).1
      | dk ks => cases hm
      | dt ks => cases hm
      | ls => cases hm
    · cases k with
      | ins C dx ns => exact (h dx (hx _ (List.mem_singleton.mpr rfl)) (.own p) trivial (h5 _ (List.mem_singleton.mpr rfl)) h6).2
      | dk ks => trivial
      | dt ks => trivial
      | ls => trivial
theorem SlOkA.mono : ∀ (ts : List Sl) {vs : List V}, Same F F' → (∀ p, p ∈ fpA ts → ∀ u, Dat u → F p = none → H p = some u → F' p = none ∧ H' p = some u) → SlOkA K F H ts vs → SlOkA K F' H' ts vs
  | [], vs, e, h, q => by
    rw [SlOkA] at q ⊢
    exact q
  | t :: ts, vs, e, h, q => by
    rw [SlOkA] at q ⊢
    obtain ⟨x, r, h1, h2, h3⟩ := q
    exact ⟨x, r, h1, SlOk.mono t e (fun p hp => h p (by rw [fpA]; exact List.mem_append_left _ hp)) h2, SlOkA.mono ts e (fun p hp => h p (by rw [fpA]; exact List.mem_append_right _ hp)) h3⟩
end
mutual
/-- what it owns stands, and is not frozen -/
theorem SlOk.dat : ∀ (r : Sl) {o : Option V} {p : Addr}, SlOk K F H r o → p ∈ fp r → F p = none ∧ ∃ u, H p = some u ∧ Dat u
  | .no, o, p, q, h => by
    rw [fp_no] at h
    cases h
  | .pu d, o, p, q, h => by
    rw [fp_pu] at h
    cases h
  | .ow a xs, o, p, q, h => by
    rw [slok_ow] at q
    obtain ⟨h1, h2, vs, h3, h4⟩ := q
    cases mem_ow.mp h
    exact ⟨h2, _, h3, trivial⟩
  | .nd a k ts, o, p, q, h => by
    rw [slok_nd] at q
    obtain ⟨h1, h2, h5, h6, h7, vs, h3, h4⟩ := q
    rw [fp_nd] at h
    rcases List.mem_cons.mp h with z | z
    · subst z
      exact ⟨h2, _, h3, NK.dat k vs⟩
    · rcases List.mem_append.mp z with y | y
      · refine ⟨h5 _ y, ?_⟩
        cases k with
        | ins C dx ns =>
          cases List.mem_singleton.mp y
          exact ⟨_, h6, trivial⟩
        | dk ks => cases y
        | dt ks => cases y
        | ls => cases y
      · exact SlOkA.dat ts h4 y
theorem SlOkA.dat : ∀ (ts : List Sl) {vs : List V} {p : Addr}, SlOkA K F H ts vs → p ∈ fpA ts → F p = none ∧ ∃ u, H p = some u ∧ Dat u
  | [], vs, p, q, h => by
    rw [fpA] at h
    cases h
  | t :: ts, vs, p, q, h => by
    rw [SlOkA] at q
    obtain ⟨x, r, h1, h2, h3⟩ := q
    rw [fpA] at h
    rcases List.mem_append.mp h with z | z
    · exact SlOk.dat t h2 z
    · exact SlOkA.dat ts h3 z
end
theorem SlOk.own (r : Sl) {o : Option V} {p : Addr} (q : SlOk K F H r o) (h : p ∈ fp r) : F p = none ∧ ∃ u, H p = some u := by
  obtain ⟨a, u, b, _⟩ := SlOk.dat r q h
  exact ⟨a, u, b⟩
theorem SlOkA.own (ts : List Sl) {vs : List V} {p : Addr} (q : SlOkA K F H ts vs) (h : p ∈ fpA ts) : F p = none ∧ ∃ u, H p = some u := by
  obtain ⟨a, u, b, _⟩ := SlOkA.dat ts q h
  exact ⟨a, u, b⟩
mutual
/-- frozen -/
theorem SlOk.frz : ∀ (r : Sl) {v : V}, Same F F' → (∀ p, p ∈ fp r → ∀ u, H p = some u → F' p = some u) → SlOk K F H r (some v) → Dq K F' r.d v
  | .no, v, e, h, q => by
    unfold Sl.d Dq
    exact fun _ _ => trivial
  | .pu d, v, e, h, q => by
    rw [slok_pu] at q
    obtain ⟨w, h1, h2⟩ := q
    cases h1
    unfold Sl.d
    exact Dq.mono e _ _ h2
  | .ow p xs, v, e, h, q => by
    rw [slok_ow] at q
    obtain ⟨h1, h2, vs, h3, h4⟩ := q
    cases h1
    unfold Sl.d Dq
    exact ⟨p, vs, rfl, h p (mem_ow.mpr rfl) _ h3, DqA.mono e _ _ h4⟩
  | .nd p k ts, v, e, h, q => by
    rw [slok_nd] at q
    obtain ⟨h1, h2, h5, h6, h7, vs, h3, h4⟩ := q
    cases h1
    have hf := fp_nd p k ts
    have hp := h p (by rw [hf]; exact List.mem_cons_self) _ h3
    have ih := SlOkA.frz ts e (fun q hq => h q (by rw [hf]; exact List.mem_cons_of_mem _ (List.mem_append_right _ hq))) h4
    unfold Sl.d
    cases k with
    | ins C dx ns =>
      unfold NK.d Dq
      exact ⟨p, dx, vs, rfl, hp, by rw [dsA_len]; exact h7, ih⟩
    | dk ks =>
      unfold NK.d Dq
      exact ⟨p, vs, rfl, hp, by rw [dsA_len]; exact h7.1, ih⟩
    | dt ks =>
      unfold NK.d Dq
      exact ⟨p, vs, rfl, hp, by rw [dsA_len]; exact h7.1, ih⟩
    | ls =>
      unfold NK.d Dq
      exact ⟨p, vs, rfl, hp, ih⟩
theorem SlOkA.frz : ∀ (ts : List Sl) {vs : List V}, Same F F' → (∀ p, p ∈ fpA ts → ∀ u, H p = some u → F' p = some u) → SlOkA K F H ts vs → DqA K F' (dsA ts) vs
  | [], vs, e, h, q => by
    rw [SlOkA] at q
    unfold dsA DqA
    exact q
  | t :: ts, vs, e, h, q => by
    rw [SlOkA] at q
    obtain ⟨x, r, h1, h2, h3⟩ := q
    unfold dsA DqA
    exact ⟨x, r, h1, SlOk.frz t e (fun p hp => h p (by rw [fpA]; exact List.mem_append_left _ hp)) h2, SlOkA.frz ts e (fun p hp => h p (by rw [fpA]; exact List.mem_append_right _ hp)) h3⟩
end
theorem StOk.get (ok : StOk K F H σ s) {i : Nat} {l : Sl} (h : s[i]? = some l) : ∃ o, σ[i]? = some o ∧ SlOk K F H l o := by
  have hi : i < s.length := (List.getElem?_eq_some_iff.mp h).1
  have hi2 : i < σ.length := by
    rw [ok.len]
    exact hi
  have e : σ[i]? = some σ[i] := List.getElem?_eq_getElem hi2
  exact ⟨_, e, ok.ok i l _ h e⟩
theorem StOk.dat (ok : StOk K F H σ s) {p : Addr} (h : Own s p) : F p = none ∧ ∃ o, H p = some o ∧ Dat o := by
  obtain ⟨i, l, e, hp⟩ := h
  obtain ⟨o, _, h1⟩ := ok.get e
  exact SlOk.dat l h1 hp
theorem StOk.own (ok : StOk K F H σ s) {p : Addr} (h : Own s p) : F p = none ∧ ∃ o, H p = some o := by
  obtain ⟨a, o, b, _⟩ := ok.dat h
  exact ⟨a, o, b⟩
theorem Step.refl (ok : StOk K F H σ s) : Step K s F H s F H σ where
  st := ok
  f := Same.refl F
  k := fun _ _ h _ _ => h
  t := fun _ h => h
  n := fun _ h => .inl h
  o := fun _ h => .inl h
theorem Step.trans (a : Step K s F H s1 F1 H1 σ1) (b : Step K s1 F1 H1 s2 F2 H2 σ2) : Step K s F H s2 F2 H2 σ2 where
  st := b.st
  f := a.f.trans b.f
  k := fun x o h nt hn => b.k x o (a.k x o h nt hn) nt fun q => by
    rcases a.o x q with z | z
    · exact hn z
    · rw [h] at z
      cases z
  t := fun x h => a.t x (b.t x h)
  n := fun x h => by
    rcases b.n x h with z | z | z
    · exact a.n x z
    · exact .inr (.inl (a.t x z))
    · rcases a.o x z with y | y
      · exact .inr (.inr y)
      · exact .inr (.inl y)
  o := fun x h => by
    rcases b.o x h with z | z
    · exact a.o x z
    · exact .inr (a.t x z)
/-- what is not owned and stands, stands unfrozen behind a step -/
theorem Step.unf (b : Step K s1 F1 H1 s2 F2 H2 σ2) {p : Addr} {u : HO} (h1 : F1 p = none) (h2 : H1 p = some u) (hd : ∀ ps, u ≠ .tbl ps) (hn : ¬ Own s1 p) : F2 p = none ∧ H2 p = some u := by
  refine ⟨?_, b.k p _ h2 hd hn⟩
  cases q : F2 p with
  | none => rfl
  | some o =>
    rcases b.n p (by rw [q]; intro z; cases z) with z | z | z
    · exact absurd h1 z
    · rw [h2] at z
      cases z
    · exact absurd z hn
/-- a result stays through a further step -/
theorem Rs.keep (r1 : Rs K s H F1 H1 s1 r v) (b : Step K s1 F1 H1 s2 F2 H2 σ2) : Rs K s H F2 H2 s2 r v where
  ok := SlOk.mono r b.f (fun p hp u hd h1 h2 => b.unf h1 h2 hd.tbl (r1.fr p hp).2) r1.ok
  fr := fun p hp => by
    refine ⟨(r1.fr p hp).1, fun q => ?_⟩
    rcases b.o p q with z | z
    · exact (r1.fr p hp).2 z
    · obtain ⟨_, u, h3⟩ := SlOk.own r r1.ok hp
      rw [h3] at z
      cases z
  nd := r1.nd
/-- F with the objects of a tree, as they stand in H -/
def frzF (F H : Hp) (l : List Addr) : Hp := fun b => if b ∈ l then H b else F b
theorem frzF_in {l : List Addr} {b : Addr} (h : b ∈ l) : frzF F H l b = H b := by
  unfold frzF
  rw [if_pos h]
theorem frzF_out {l : List Addr} {b : Addr} (h : b ∉ l) : frzF F H l b = F b := by
  unfold frzF
  rw [if_neg h]
theorem same_frz (hf : ∀ p, p ∈ fp r → F p = none) : Same F (frzF F H (fp r)) := fun b o q => by
  by_cases hb : b ∈ fp r
  · rw [hf b hb] at q
    cases q
  · rw [frzF_out hb]
    exact q
theorem frz_same (le : Same F H) {l : List Addr} : Same (frzF F H l) H := fun b o q => by
  by_cases hb : b ∈ l
  · rw [frzF_in hb] at q
    exact q
  · rw [frzF_out hb] at q
    exact le b o q
theorem Le.frz (le : Le F H) {o : Option V} (q : SlOk K F H r o) : Le (frzF F H (fp r)) H := le.more (frz_same le) fun b hb => by
  by_cases hb2 : b ∈ fp r
  · obtain ⟨_, u, hu, hd⟩ := SlOk.dat r q hb2
    exact .inr ⟨u, hu, hd.tbl⟩
  · rw [frzF_out hb2] at hb
    exact .inl hb
/-- a new tree is from now on a value -/
theorem Step.freeze (a : Step K s F H s1 F1 H1 σ1) (r1 : Rs K s H F1 H1 s1 r v) : ∃ F2, Step K s F H s1 F2 H1 σ1 ∧ Same F1 F2 ∧ Dq K F2 r.d v := by
  have e1 : Same F1 (frzF F1 H1 (fp r)) := same_frz fun p hp => (SlOk.own r r1.ok hp).1
  refine ⟨frzF F1 H1 (fp r), ⟨⟨a.st.le.frz r1.ok, a.st.len, fun i l o q1 q2 => ?_, a.st.un, a.st.nd⟩, a.f.trans e1, a.k, a.t, fun b hb => ?_, a.o⟩, e1, SlOk.frz r e1 (fun p hp u h => by rw [frzF_in hp]; exact h) r1.ok⟩
  · refine SlOk.mono l e1 (fun q hq us hd z1 z2 => ⟨?_, z2⟩) (a.st.ok i l o q1 q2)
    rw [frzF_out fun z => (r1.fr q z).2 ⟨i, l, q1, hq⟩]
    exact z1
  · by_cases hb2 : b ∈ fp r
    · rcases (r1.fr b hb2).1 with z | z
      · exact .inr (.inl z)
      · exact .inr (.inr z)
    · rw [frzF_out hb2] at hb
      exact a.n b hb
/-- new objects behind a step -/
theorem Step.leaf (a : Step K s F H s1 F1 H1 σ1) (b : Lf K F1 H1 r v F2 H2) : Step K s F H s1 F2 H2 σ1 ∧ Rs K s H F2 H2 s1 r v := by
  have keep : ∀ p u, Dat u → F1 p = none → H1 p = some u → F2 p = none ∧ H2 p = some u := fun p u hd h1 h2 => by
    refine ⟨?_, b.h.k p _ h2 hd.tbl⟩
    cases q : F2 p with
    | none => rfl
    | some o =>
      rcases b.n p (by rw [q]; intro z; cases z) with z | z
      · exact absurd h1 z
      · rw [h2] at z
        cases z
  refine ⟨⟨⟨b.le, a.st.len, fun i l o q1 q2 => SlOk.mono l b.f (fun p _ u hd h1 h2 => keep p u hd h1 h2) (a.st.ok i l o q1 q2), a.st.un, a.st.nd⟩, a.f.trans b.f, fun x o h nt hn => b.h.k x o (a.k x o h nt hn) nt, fun x h => a.t x (b.h.free h), fun x h => ?_, a.o⟩, ⟨b.ok, fun p hp => ?_, b.nd⟩⟩
  · rcases b.n x h with z | z
    · exact a.n x z
    · exact .inr (.inl (a.t x z))
  · have z := b.fr p hp
    refine ⟨.inl (a.t p z), fun q => ?_⟩
    obtain ⟨_, vs, h3⟩ := a.st.own q
    rw [h3] at z
    cases z
/-- what was known stands behind new objects -/
theorem Lf.back (le : Le F H) (l : Lf K F1 H r v F2 H2) : Le F H2 := le.exn l.h l.le.tb.t
theorem Lf.same (le : Le F H) (d : D) (v : V) (h : Dq K F d v) : Lf K F H (.pu d) v F H where
  f := Same.refl _
  h := Ex.refl _
  le := le
  n := fun _ h => .inl h
  ok := slok_pu.mpr ⟨v, rfl, h⟩
  fr := fun p hp => by
    rw [fp_pu] at hp
    cases hp
  nd := by
    rw [fp_pu]
    exact List.nodup_nil
theorem same_upd {H : Hp} {p : Addr} {o : HO} (h : H p = none) : Same H (upd H p o) := fun b x e => by
  rw [upd_ne (ne_of_none e h)]
  exact e
/-- a new list -/
theorem Lf.newL (le : Le F H) {p : Addr} (hp : H p = none) {xs : List D} {vs : List V} (h : DqA K F xs vs) : Lf K F H (.ow p xs) (.ref p) F (upd H p (.lst vs)) where
  f := Same.refl _
  h := .of (same_upd hp)
  le := le.trans (same_upd hp)
  n := fun _ h => .inl h
  ok := slok_ow.mpr ⟨rfl, le.free hp, vs, upd_same, h⟩
  fr := fun q hq => by
    cases mem_ow.mp hq
    exact hp
  nd := by
    rw [fp_ow]
    exact List.pairwise_singleton _ _
/-- a new tuple -/
theorem Lf.newT (le : Le F H) {p : Addr} (hp : H p = none) {xs : List D} {vs : List V} (h : DqA K F xs vs) : Lf K F H (.pu (.tup xs)) (.ref p) (upd F p (.tup vs)) (upd H p (.tup vs)) where
  f := same_upd (le.free hp)
  h := .of (same_upd hp)
  le := le.put hp
  n := fun b hb => by
    by_cases hb2 : b = p
    · subst hb2
      exact .inr hp
    · rw [upd_ne hb2] at hb
      exact .inl hb
  ok := slok_pu.mpr ⟨_, rfl, by rw [Dq]; exact ⟨p, vs, rfl, SqT.of upd_same, DqA.mono (same_upd (le.free hp)) _ _ h⟩⟩
  fr := fun q hq => by
    rw [fp_pu] at hq
    cases hq
  nd := by
    rw [fp_pu]
    exact List.nodup_nil
end
end DL
namespace DL
variable [Tabl]
open PySem L2
abbrev AE := Ss → (Sl → Ss → Prop) → Prop
abbrev AT := Ss → (Bool → Ss → Prop) → Prop
abbrev AA := Ss → (List D → Ss → Prop) → Prop
structure AEnds where
  nx : Ss → Prop
  rt : Sl → Ss → Prop
  bk : Ss → Prop
  ct : Ss → Prop
abbrev AS := AEnds → Ss → Prop
abbrev AG := D → Ss → (Ss → Prop) → Prop
abbrev AGs := List D → Ss → (Ss → Prop) → Prop
abbrev AI := Ss → (List D → Ss → Prop) → Prop
abbrev AR2 := D → D → (Sl → Prop) → Prop
abbrev ARC := List D → (Sl → Prop) → Prop
def Sim (K : PySem.W.Frag) (te : TE) (a : AE) : Prop := ∀ s P, a s P → ∀ σ F H, StOk K F H σ s → ∀ Q : VK,
  (∀ r s' v F' H', P r s' → Step K s F H s' F' H' σ → Rs K s H F' H' s' r v → Q v H') → te σ H Q
def SimT (K : PySem.W.Frag) (tt : TT) (a : AT) : Prop := ∀ s P, a s P → ∀ σ F H, StOk K F H σ s → ∀ Q : Bool → Hp → Prop,
  (∀ b s' F' H', P b s' → Step K s F H s' F' H' σ → Q b H') → tt σ H Q
def SimA (K : PySem.W.Frag) (ta : TA) (a : AA) : Prop := ∀ s P, a s P → ∀ σ F H, StOk K F H σ s → ∀ Q : List V → Hp → Prop,
  (∀ ds s' vs F' H', P ds s' → Step K s F H s' F' H' σ → DqA K F' ds vs → Q vs H') → ta σ H Q
def SimS (K : PySem.W.Frag) (ts : TS) (a : AS) : Prop := ∀ A s, a A s → ∀ σ F H, StOk K F H σ s → ∀ E : Ends,
  (∀ s' σ' F' H', A.nx s' → Step K s F H s' F' H' σ' → E.nx σ' H') →
  (∀ r s' σ' v F' H', A.rt r s' → Step K s F H s' F' H' σ' → Rs K s H F' H' s' r v → E.rt v H') →
  (∀ s' σ' F' H', A.bk s' → Step K s F H s' F' H' σ' → E.bk σ' H') →
  (∀ s' σ' F' H', A.ct s' → Step K s F H s' F' H' σ' → E.ct σ' H') → ts E σ H
/-- a target: L the slots that it stores to -/
def SimG (K : PySem.W.Frag) (g : TG) (a : AG) (L : List Nat) : Prop := ∀ d s P, a d s P → ∀ v σ F H, StOk K F H σ s → Dq K F d v → ∀ Q : L2.St → Hp → Prop,
  (∀ s' σ', P s' → Step K s F H s' F H σ' → (∀ j, j ∉ L → σ'[j]? = σ[j]?) → σ'.length = σ.length → Q σ' H) → g v σ H Q
def SimGs (K : PySem.W.Frag) (g : TGs) (a : AGs) (L : List Nat) : Prop := ∀ ds s P, a ds s P → ∀ vs σ F H, StOk K F H σ s → DqA K F ds vs → ∀ Q : L2.St → Hp → Prop,
  (∀ s' σ', P s' → Step K s F H s' F H σ' → (∀ j, j ∉ L → σ'[j]? = σ[j]?) → σ'.length = σ.length → Q σ' H) → g vs σ H Q
/-- what an iterator gives while F stands -/
def Yields (K : PySem.W.Frag) (J : It) (F : Hp) (ds : List D) : Prop := ∃ (G : Hp → Prop) (Y : Nat → Hp → V → Hp → Prop), Walk J ds.length G Y ∧ (∀ H, Same F H → G H) ∧
  ∀ i H x H', Same F H → Y i H x H' → ∀ d, ds[i]? = some d → ∀ F1, Same F F1 → Le F1 H → ∃ F2, Lf K F1 H (.pu d) x F2 H'
def SimI (K : PySem.W.Frag) (wi : TI) (a : AI) : Prop := ∀ s P, a s P → ∀ σ F H, StOk K F H σ s → ∀ R : It → Hp → Prop,
  (∀ ds s' J F' H', P ds s' → Step K s F H s' F' H' σ → Yields K J F' ds → R J H') → wi σ H R
/-- by values -/
def RD (K : PySem.W.Frag) (r : R2) (a : AR2) : Prop := ∀ d e P, a d e P → ∀ F H x y, Le F H → Dq K F d x → Dq K F e y → ∀ Q : VK, (∀ rs v F' H', P rs → Lf K F H rs v F' H' → Q v H') → r x y H Q
def RC (K : PySem.W.Frag) (r : List V → Hp → VK → Prop) (a : ARC) : Prop := ∀ ds P, a ds P → ∀ F H xs, Le F H → DqA K F ds xs → ∀ Q : VK, (∀ rs v F' H', P rs → Lf K F H rs v F' H' → Q v H') → r xs H Q
section
variable {K : PySem.W.Frag} {te ta tb tc : TE} {a aa ab ac : AE} {F H : Hp} {s : Ss} {σ : L2.St}
theorem Sim.d (h : Sim K te a) {P : Sl → Ss → Prop} (q : a s P) (ok : StOk K F H σ s) {Q : VK} (k : ∀ r s' v F' H', P r s' → Step K s F H s' F' H' σ → Dq K F' r.d v → Q v H') : te σ H Q :=
  h s P q σ F H ok Q fun r s' v F' H' p st rs => by
    obtain ⟨F2, st2, _, d⟩ := st.freeze rs
    exact k r s' v F2 H' p st2 d
theorem Rs.pu {s' : Ss} {F' H' : Hp} {d : D} {v : V} (h : Dq K F' d v) : Rs K s H F' H' s' (.pu d) v  where
  ok := slok_pu.mpr ⟨v, rfl, h⟩
  fr := fun p hp => by
    rw [fp_pu] at hp
    cases hp
  nd := by
    rw [fp_pu]
    exact List.nodup_nil
theorem Rs.more {s' s1 : Ss} {F' H' H1 F1 : Hp} {r : Sl} {v : V} {σ1 : L2.St} (st : Step K s F H s1 F1 H1 σ1) (rs : Rs K s1 H1 F' H' s' r v) : Rs K s H F' H' s' r v where
  ok := rs.ok
  nd := rs.nd
  fr := fun p hp => by
    obtain ⟨g1, g2⟩ := rs.fr p hp
    refine ⟨?_, g2⟩
    rcases g1 with z | z
    · exact .inl (st.t p z)
    · rcases st.o p z with y | y
      · exact .inr y
      · exact .inl y
def aVar (i : Nat) : AE := fun s P => match s[i]? with
  | some (.pu d) => P (.pu d) s
  | some (.ow _ xs) => P (.pu (.lst xs)) (s.set i (.pu (.lst xs)))
  | some (.nd p k ts) => P (.pu (k.d (dsA ts))) (s.set i (.pu (k.d (dsA ts))))
  | _ => False
def aC (d : D) : AE := fun s P => P (.pu d) s
theorem sim_c {d : D} {v : V} (h : ∀ F, Dq K F d v) : Sim K (tC v) (aC d) := fun s P q σ F H ok Q k => k (.pu d) s v F H q (.refl ok) (.pu (h F))
theorem set_get {α : Type} {s : List α} {i j : Nat} {l m : α} (h : (s.set i l)[j]? = some m) : (i = j ∧ m = l ∧ i < s.length) ∨ (i ≠ j ∧ s[j]? = some m) := by
  rw [List.getElem?_set] at h
  by_cases e : i = j
  · rw [if_pos e] at h
    split at h
    · cases h
      exact .inl ⟨e, rfl, by assumption⟩
    · cases h
  · rw [if_neg e] at h
    exact .inr ⟨e, h⟩
/-- a slot gets a value -/
theorem StOk.put {F H : Hp} {σ : L2.St} {s : Ss} {i : Nat} {v : V} {l : Sl} (ok : StOk K F H σ s) (h : SlOk K F H l (some v)) (hn : ∀ p, p ∈ fp l → ¬ Own s p) (hd : (fp l).Nodup) : StOk K F H (σ.set i (some v)) (s.set i l) where
  le := ok.le
  len := by rw [List.length_set, List.length_set, ok.len]
  ok := fun j l2 o h1 h2 => by
    rcases set_get h1 with ⟨rfl, rfl, hl⟩ | ⟨e, h3⟩
    · rcases set_get h2 with ⟨_, rfl, _⟩ | ⟨e, _⟩
      · exact h
      · exact absurd rfl e
    · rcases set_get h2 with ⟨e2, _⟩ | ⟨_, h4⟩
      · exact absurd e2 e
      · exact ok.ok j l2 o h3 h4
  un := fun j k l1 l2 p h1 h2 p1 p2 => by
    rcases set_get h1 with ⟨rfl, rfl, hl⟩ | ⟨e, h3⟩
    · rcases set_get h2 with ⟨rfl, rfl, _⟩ | ⟨e, h4⟩
      · rfl
      · exact absurd ⟨k, l2, h4, p2⟩ (hn p p1)
    · rcases set_get h2 with ⟨rfl, rfl, _⟩ | ⟨_, h4⟩
      · exact absurd ⟨j, l1, h3, p1⟩ (hn p p2)
      · exact ok.un j k l1 l2 p h3 h4 p1 p2
  nd := fun j l2 h1 => by
    rcases set_get h1 with ⟨rfl, rfl, hl⟩ | ⟨e, h3⟩
    · exact hd
    · exact ok.nd j l2 h3
/-- a slot is forgotten, or told anew -/
theorem StOk.tell {F H : Hp} {σ : L2.St} {s : Ss} {i : Nat} {l : Sl} (ok : StOk K F H σ s) (h : ∀ o, σ[i]? = some o → SlOk K F H l o) (hn : ∀ p, p ∈ fp l → ∃ m, s[i]? = some m ∧ p ∈ fp m) (hd : (fp l).Nodup) : StOk K F H σ (s.set i l) where
  le := ok.le
  len := by rw [List.length_set, ok.len]
  ok := fun j l2 o h1 h2 => by
    rcases set_get h1 with ⟨rfl, rfl, hl⟩ | ⟨e, h3⟩
    · exact h o h2
    · exact ok.ok j l2 o h3 h2
  un := fun j k l1 l2 p h1 h2 p1 p2 => by
    have back : ∀ (m : Nat) (l3 : Sl), (s.set i l)[m]? = some l3 → p ∈ fp l3 → ∃ l4, s[m]? = some l4 ∧ p ∈ fp l4 := fun m l3 h hp => by
      rcases set_get h with ⟨rfl, rfl, hl⟩ | ⟨e, h3⟩
      · exact hn p hp
      · exact ⟨l3, h3, hp⟩
    obtain ⟨w1, g1, g3⟩ := back j l1 h1 p1
    obtain ⟨w2, g2, g4⟩ := back k l2 h2 p2
    exact ok.un j k w1 w2 p g1 g2 g3 g4
  nd := fun j l2 h1 => by
    rcases set_get h1 with ⟨rfl, rfl, hl⟩ | ⟨e, h3⟩
    · exact hd
    · exact ok.nd j l2 h3
theorem own_set {s : Ss} {i : Nat} {l : Sl} {p : Addr} (h : Own (s.set i l) p) : Own s p ∨ p ∈ fp l := by
  obtain ⟨j, m, e, hp⟩ := h
  rcases set_get e with ⟨rfl, rfl, hl⟩ | ⟨e, h3⟩
  · exact .inr hp
  · exact .inl ⟨j, m, h3, hp⟩
/-- a slot's tree is from now on a value -/
theorem StOk.frzAt {i : Nat} {l : Sl} {v : V} (ok : StOk K F H σ s) (e : s[i]? = some l) (h1 : σ[i]? = some (some v)) : ∃ F', Step K s F H (s.set i (.pu l.d)) F' H σ ∧ Dq K F' l.d v := by
  have h2 := ok.ok i l _ e h1
  have e1 : Same F (frzF F H (fp l)) := same_frz fun p hp => (SlOk.own l h2 hp).1
  have dv : Dq K (frzF F H (fp l)) l.d v := SlOk.frz l e1 (fun p hp u h => by rw [frzF_in hp]; exact h) h2
  refine ⟨frzF F H (fp l), ⟨⟨ok.le.frz h2, by rw [List.length_set, ok.len], fun j l2 o h3 h4 => ?_, fun j m l1 l2 p h3 h4 p1 p2 => ?_, fun j l2 h3 => ?_⟩, e1, fun a o h _ _ => h, fun a h => h, fun a h => ?_, fun p h => ?_⟩, dv⟩
  · rcases set_get h3 with ⟨rfl, rfl, hl⟩ | ⟨e3, h5⟩
    · rw [h1] at h4
      cases h4
      exact slok_pu.mpr ⟨v, rfl, dv⟩
    · refine SlOk.mono l2 e1 (fun q hq us _ z1 z2 => ⟨?_, z2⟩) (ok.ok j l2 o h5 h4)
      rw [frzF_out fun z => e3 (ok.un i j l l2 q e h5 z hq)]
      exact z1
  · rcases set_get h3 with ⟨rfl, rfl, hl⟩ | ⟨e3, h5⟩
    · rw [fp_pu] at p1
      cases p1
    · rcases set_get h4 with ⟨rfl, rfl, hl⟩ | ⟨e4, h6⟩
      · rw [fp_pu] at p2
        cases p2
      · exact ok.un j m l1 l2 p h5 h6 p1 p2
  · rcases set_get h3 with ⟨rfl, rfl, hl⟩ | ⟨e3, h5⟩
    · rw [fp_pu]
      exact List.nodup_nil
    · exact ok.nd j l2 h5
  · by_cases hb : a ∈ fp l
    · exact .inr (.inr ⟨i, l, e, hb⟩)
    · rw [frzF_out hb] at h
      exact .inl h
  · rcases own_set h with z | z
    · exact .inl z
    · rw [fp_pu] at z
      cases z
theorem sim_var {i : Nat} : Sim K (tVar i) (aVar i) := fun s P q σ F H ok Q k => by
  unfold aVar at q
  cases e : s[i]? with
  | none =>
    rw [e] at q
    exact q.elim
  | some l =>
    rw [e] at q
    obtain ⟨o, h1, h2⟩ := ok.get e
    cases l with
    | no => exact q.elim
    | pu d =>
      obtain ⟨v, rfl, h3⟩ := slok_pu.mp h2
      exact ⟨v, h1, k (.pu d) s v F H q (.refl ok) (.pu h3)⟩
    | ow p xs =>
      obtain ⟨rfl, g1, vs, g2, g3⟩ := slok_ow.mp h2
      obtain ⟨F', st, dv⟩ := ok.frzAt e h1
      have ed : (Sl.ow p xs).d = .lst xs := by unfold Sl.d; rfl
      rw [ed] at st dv
      exact ⟨.ref p, h1, k (.pu (.lst xs)) _ (.ref p) F' H q st (.pu dv)⟩
    | nd p kk ts =>
      obtain ⟨rfl, _⟩ := slok_nd.mp h2
      obtain ⟨F', st, dv⟩ := ok.frzAt e h1
      have ed : (Sl.nd p kk ts).d = kk.d (dsA ts) := by rw [Sl.d]
      rw [ed] at st dv
      exact ⟨.ref p, h1, k (.pu (kk.d (dsA ts))) _ (.ref p) F' H q st (.pu dv)⟩
def aOp (r : AR2) (aa ab : AE) : AE := fun s P => aa s fun r1 s1 => ab s1 fun r2 s2 => r r1.d r2.d fun rs => P rs s2
theorem sim_op {r : R2} {ar : AR2} (hr : RD K r ar) (ha : Sim K ta aa) (hb : Sim K tb ab) : Sim K (tOp r ta tb) (aOp ar aa ab) := fun s P q σ F H ok Q k => by
  refine ha.d q ok fun r1 s1 v1 F1 H1 q1 st1 d1 => ?_
  refine hb.d q1 st1.st fun r2 s2 v2 F2 H2 q2 st2 d2 => ?_
  refine hr _ _ _ q2 F2 H2 v1 v2 st2.st.le (Dq.mono st2.f _ _ d1) d2 Q fun rs v F3 H3 p l => ?_
  obtain ⟨st3, rs3⟩ := (st1.trans st2).leaf l
  exact k rs s2 v F3 H3 p st3 rs3
def aIC (C : Int → Int → Prop) (f : Int → Int → Int) : AR2 := fun d e P => match d, e with
  | .int i, .int j => C i j ∧ P (.pu (.int (f i j)))
  | _, _ => False
def aI (f : Int → Int → Int) : AR2 := fun d e P => match d, e with
  | .int i, .int j => P (.pu (.int (f i j)))
  | _, _ => False
def aB (f : Int → Int → Bool) : AR2 := fun d e P => match d, e with
  | .int i, .int j => P (.pu (.bl (f i j)))
  | _, _ => False
theorem rd_ic {C : Int → Int → Prop} {f : Int → Int → Int} : RD K (rI C fun i j => .int (f i j)) (aIC C f) := fun d e P q F H x y le dx dy Q k => by
  cases d <;> cases e <;> first | exact q.elim | skip
  exact ⟨_, _, dx, dy, q.1, k _ _ F H q.2 (Lf.same le _ _ rfl)⟩
theorem rd_i {f : Int → Int → Int} : RD K (rI0 fun i j => .int (f i j)) (aI f) := fun d e P q F H x y le dx dy Q k => by
  cases d <;> cases e <;> first | exact q.elim | skip
  exact ⟨_, _, dx, dy, k _ _ F H q (Lf.same le _ _ rfl)⟩
theorem rd_b {f : Int → Int → Bool} : RD K (rI0 fun i j => .bl (f i j)) (aB f) := fun d e P q F H x y le dx dy Q k => by
  cases d <;> cases e <;> first | exact q.elim | skip
  exact ⟨_, _, dx, dy, k _ _ F H q (Lf.same le _ _ rfl)⟩
/-- == of scalars -/
def eqS : D → D → Option Bool
  | .int i, .int j => some (decide (i = j))
  | .str i, .str j => some (decide (i = j))
  | .bl i, .bl j => some (decide (i = j))
  | .non, .non => some true
  | .non, .int _ => some false
  | .int _, .non => some false
  | .non, .str _ => some false
  | .str _, .non => some false
  | .int _, .str _ => some false
  | .str _, .int _ => some false
  | .bl _, .str _ => some false
  | .str _, .bl _ => some false
  | _, _ => none
def aEq : AR2 := fun d e P => match eqS d e with | some b => P (.pu (.bl b)) | none => False
def aNe : AR2 := fun d e P => match eqS d e with | some b => P (.pu (.bl (!b))) | none => False
theorem eqS_ok {F : Hp} {d e : D} {b : Bool} {x y : V} (h : eqS d e = some b) (dx : Dq K F d x) (dy : Dq K F e y) : scal x y = true ∧ decide (x = y) = b := by
  cases d <;> cases e <;> first | (cases h; done) | skip
  all_goals
    cases (show x = _ from dx)
    cases (show y = _ from dy)
    cases h
    refine ⟨rfl, ?_⟩
    first
      | rfl
      | (apply decide_eq_decide.mpr; constructor <;> intro z <;> first | (cases z; rfl) | (rw [z]))
theorem rd_eq : RD K rEq aEq := fun d e P q F H x y le dx dy Q k => by
  unfold aEq at q
  cases h : eqS d e with
  | none =>
    rw [h] at q
    exact q.elim
  | some b =>
    rw [h] at q
    obtain ⟨h1, h2⟩ := eqS_ok h dx dy
    refine ⟨h1, ?_⟩
    rw [h2]
    exact k _ _ F H q (Lf.same le _ _ rfl)
theorem rd_ne : RD K rNe aNe := fun d e P q F H x y le dx dy Q k => by
  unfold aNe at q
  cases h : eqS d e with
  | none =>
    rw [h] at q
    exact q.elim
  | some b =>
    rw [h] at q
    obtain ⟨h1, h2⟩ := eqS_ok h dx dy
    refine ⟨h1, ?_⟩
    rw [h2]
    exact k _ _ F H q (Lf.same le _ _ rfl)
/-- is None -/
def isN : D → Option Bool
  | .non => some true
  | .ob _ => none
  | _ => some false
theorem isN_ok {F : Hp} {d : D} {b : Bool} {x : V} (h : isN d = some b) (dx : Dq K F d x) : decide (x = .non) = b := by
  cases d with
  | non =>
    cases h
    exact decide_eq_true dx
  | ob f => cases h
  | bl i =>
    cases h
    cases (show x = _ from dx)
    rfl
  | int i =>
    cases h
    cases (show x = _ from dx)
    rfl
  | str i =>
    cases h
    cases (show x = _ from dx)
    rfl
  | tup ds =>
    cases h
    obtain ⟨a, xs, rfl, _⟩ := dx
    rfl
  | lst ds =>
    cases h
    obtain ⟨a, xs, rfl, _⟩ := dx
    rfl
  | scr ds =>
    cases h
    obtain ⟨a, xs, rfl, _⟩ := dx
    rfl
  | ins C ns ds =>
    cases h
    obtain ⟨a, dx, xs, rfl, _⟩ := dx
    rfl
  | dk ks ds =>
    cases h
    obtain ⟨a, xs, rfl, _⟩ := dx
    rfl
  | dt ks ds =>
    cases h
    obtain ⟨a, xs, rfl, _⟩ := dx
    rfl
  | exc c d =>
    cases h
    obtain ⟨a, dx, w, rfl, _⟩ := dx
    rfl
def aIsN : AR2 := fun d e P => match e, isN d with | .non, some b => P (.pu (.bl b)) | _, _ => False
theorem rd_isN : RD K (fun x y H Q => y = .non ∧ Q (.bl (decide (x = .non))) H) aIsN := fun d e P q F H x y le dx dy Q k => by
  unfold aIsN at q
  cases e <;> first | exact q.elim | skip
  cases h : isN d with
  | none =>
    rw [h] at q
    exact q.elim
  | some b =>
    rw [h] at q
    refine ⟨dy, ?_⟩
    rw [isN_ok h dx]
    exact k _ _ F H q (Lf.same le _ _ rfl)
/-- in, not in: flat items -/
def flatD : D → Bool
  | .non => true
  | .bl _ => true
  | .int _ => true
  | .str _ => true
  | _ => false
def eqF : D → D → Bool
  | .non, .non => true
  | .bl a, .bl b => a == b
  | .bl a, .int b => (if a then 1 else 0) == b
  | .int a, .bl b => a == (if b then 1 else 0)
  | .int a, .int b => a == b
  | .str a, .str b => a == b
  | _, _ => false
def inF (x : D) (xs : List D) : Bool := xs.any fun y => eqF y x
def seqD : D → Option (List D)
  | .tup xs => some xs
  | .lst xs => some xs
  | .scr xs => some xs
  | _ => none
theorem seqD_ok {F : Hp} {d : D} {ds : List D} {x : V} (h : seqD d = some ds) (dx : Dq K F d x) : ∃ a xs, x = .ref a ∧ (SqL K F a xs ∨ SqT K F a xs) ∧ DqA K F ds xs := by
  cases d <;> first | (cases h; done) | skip
  · cases h
    obtain ⟨a, xs, h1, h2, h3⟩ := dx
    exact ⟨a, xs, h1, .inr h2, h3⟩
  · cases h
    obtain ⟨a, xs, h1, h2, h3⟩ := dx
    exact ⟨a, xs, h1, .inl (SqL.of h2), h3⟩
  · cases h
    obtain ⟨a, xs, h1, h2, h3⟩ := dx
    exact ⟨a, xs, h1, .inl h2, h3⟩
theorem flat_ok {F : Hp} {d : D} {x : V} (h : flatD d = true) (dx : Dq K F d x) : flatV x = true := by
  cases d <;> first | (cases h; done) | (cases (show x = _ from dx); rfl)
theorem flat_eq {F : Hp} {d e : D} {x y : V} (h : flatD d = true) (h2 : flatD e = true) (dx : Dq K F d x) (dy : Dq K F e y) : eqV x y = eqF d e := by
  cases d <;> first | (cases h; done) | skip
  all_goals
    cases (show x = _ from dx)
    cases e <;> first | (cases h2; done) | (cases (show y = _ from dy); rfl)
theorem flat_all {F : Hp} : ∀ {ds : List D} {xs : List V}, ds.all flatD = true → DqA K F ds xs → xs.all flatV = true
  | [], xs, _, h => by
    rw [show xs = [] from h]
    rfl
  | d :: ds, xs, hf, h => by
    obtain ⟨x, r, rfl, h2, h3⟩ := h
    rw [List.all_cons, Bool.and_eq_true] at hf
    rw [List.all_cons, flat_ok hf.1 h2, flat_all hf.2 h3]
    rfl
theorem flat_in {F : Hp} {e : D} {y : V} (h2 : flatD e = true) (dy : Dq K F e y) : ∀ {ds : List D} {xs : List V}, ds.all flatD = true → DqA K F ds xs → inV y xs = inF e ds
  | [], xs, _, h => by
    rw [show xs = [] from h]
    rfl
  | d :: ds, xs, hf, h => by
    obtain ⟨x, r, rfl, h4, h3⟩ := h
    rw [List.all_cons, Bool.and_eq_true] at hf
    have ih := flat_in h2 dy hf.2 h3
    unfold inV inF at ih ⊢
    rw [List.any_cons, List.any_cons, ih, flat_eq hf.1 h2 h4 dy]
def aIn (neg : Bool) : AR2 := fun d e P => match seqD e with
  | some ds => flatD d = true ∧ ds.all flatD = true ∧ P (.pu (.bl (if neg then !inF d ds else inF d ds)))
  | none => False
theorem rd_in {neg : Bool} : RD K (rIn K neg) (aIn neg) := fun d e P q F H x y le dx dy Q k => by
  unfold aIn at q
  cases h : seqD e with
  | none =>
    rw [h] at q
    exact q.elim
  | some ds =>
    rw [h] at q
    obtain ⟨q1, q2, q3⟩ := q
    obtain ⟨a, xs, rfl, h1, h2⟩ := seqD_ok h dy
    refine ⟨a, xs, rfl, ?_, flat_ok q1 dx, flat_all q2 h2, ?_⟩
    · rcases h1 with h1 | h1
      · exact .inl (Same.seq le h1)
      · exact .inr (Same.sqt le h1)
    · rw [flat_in q1 dx q2 h2]
      exact k _ _ F H q3 (Lf.same le _ _ rfl)
/-- x[i] -/
def aIx : AR2 := fun d e P => match seqD d, e with
  | some ds, .int i => match atI ds i with
    | some d => P (.pu d)
    | none => False
  | _, _ => False
theorem atI_ok {F : Hp} {ds : List D} {xs : List V} {i : Int} {d : D} (h : DqA K F ds xs) (e : atI ds i = some d) : ∃ x, atI xs i = some x ∧ Dq K F d x := by
  unfold atI at e ⊢
  rw [h.length]
  cases q : ixN ds.length i with
  | none =>
    rw [q] at e
    cases e
  | some j =>
    rw [q] at e
    exact h.get (i := j) e
theorem rd_ix : RD K (fun x y H Q => rIxL K x y H Q ∨ rIxT K x y H Q ∨ rIxS x y H Q) aIx := fun d e P q F H x y le dx dy Q k => by
  unfold aIx at q
  cases h : seqD d with
  | none =>
    rw [h] at q
    exact q.elim
  | some ds =>
    rw [h] at q
    cases e <;> first | exact q.elim | skip
    rename_i i
    cases h2 : atI ds i with
    | none =>
      simp only [h2] at q
    | some d2 =>
      simp only [h2] at q
      obtain ⟨a, xs, rfl, g1, g2⟩ := seqD_ok h dx
      obtain ⟨z, e1, e2⟩ := atI_ok g2 h2
      rcases g1 with g1 | g1
      · exact .inl ⟨a, xs, i, z, rfl, dy, Same.seq le g1, e1, k _ _ F H q (Lf.same le _ _ e2)⟩
      · exact .inr (.inl ⟨a, xs, i, z, rfl, dy, Same.sqt le g1, e1, k _ _ F H q (Lf.same le _ _ e2)⟩)
def aNil : AA := fun s P => P [] s
def aCons (a : AE) (r : AA) : AA := fun s P => a s fun r1 s1 => r s1 fun ds s2 => P (r1.d :: ds) s2
theorem sim_nil : SimA K tNil aNil := fun s P q σ F H ok Q k => k [] s [] F H q (.refl ok) rfl
theorem sim_cons {tr : TA} {ar : AA} (ha : Sim K ta aa) (hr : SimA K tr ar) : SimA K (tCons ta tr) (aCons aa ar) := fun s P q σ F H ok Q k => by
  refine ha.d q ok fun r1 s1 v1 F1 H1 q1 st1 d1 => ?_
  refine hr s1 _ q1 σ F1 H1 st1.st _ fun ds s2 vs F2 H2 q2 st2 d2 => ?_
  exact k (r1.d :: ds) s2 (v1 :: vs) F2 H2 q2 (st1.trans st2) ⟨v1, vs, rfl, Dq.mono st2.f _ _ d1, d2⟩
def aCall (r : ARC) (a : AA) : AE := fun s P => a s fun ds s1 => r ds fun rs => P rs s1
theorem sim_cb {r : List V → Hp → VK → Prop} {ar : ARC} {t : TA} {a : AA} (hr : RC K r ar) (ha : SimA K t a) : Sim K (tCB r t) (aCall ar a) := fun s P q σ F H ok Q k => by
  refine ha s _ q σ F H ok _ fun ds s1 vs F1 H1 q1 st1 d1 => ?_
  refine hr ds _ q1 F1 H1 vs st1.st.le d1 Q fun rs v F2 H2 p l => ?_
  obtain ⟨st2, rs2⟩ := st1.leaf l
  exact k rs s1 v F2 H2 p st2 rs2
def aTup (a : AA) : AE := fun s P => a s fun ds s1 => ds.length ≤ 100000 ∧ P (.pu (.tup ds)) s1
def aLst (a : AA) : AE := fun s P => a s fun ds s1 => ds.length ≤ 100000 ∧ ∀ p, P (.ow p ds) s1
theorem sz_of {n : Nat} (h : n ≤ 100000) : n ≤ sizeLine := Nat.le_trans h (by decide)
theorem sz_lt {n : Nat} (h : n < 100000) : n < sizeLine := Nat.lt_of_lt_of_le h (by decide)
theorem sim_tup {t : TA} {a : AA} (ha : SimA K t a) : Sim K (tTup t) (aTup a) := fun s P q σ F H ok Q k => by
  refine ha s _ q σ F H ok _ fun ds s1 vs F1 H1 q1 st1 d1 => ⟨?_, fun p hp => ?_⟩
  · rw [d1.length]
    exact sz_of q1.1
  · obtain ⟨st2, rs2⟩ := st1.leaf (Lf.newT st1.st.le hp d1)
    exact k _ s1 _ _ _ q1.2 st2 rs2
theorem sim_lst {t : TA} {a : AA} (ha : SimA K t a) : Sim K (tLst t) (aLst a) := fun s P q σ F H ok Q k => by
  refine ha s _ q σ F H ok _ fun ds s1 vs F1 H1 q1 st1 d1 => ⟨?_, fun p hp => ?_⟩
  · rw [d1.length]
    exact sz_of q1.1
  · obtain ⟨st2, rs2⟩ := st1.leaf (Lf.newL st1.st.le hp d1)
    exact k _ s1 _ _ _ (q1.2 p) st2 rs2
def aTest (a : AE) : AT := fun s P => a s fun r s1 => match r.d with
  | .bl b => P b s1
  | _ => False
theorem sim_test (h : Sim K te a) : SimT K (tTest te) (aTest a) := fun s P q σ F H ok Q k => by
  refine h.d q ok fun r s1 v F1 H1 q1 st1 d1 => ?_
  cases e : r.d <;> simp only [e] at q1
  rename_i b
  rw [e] at d1
  exact ⟨b, d1, k b s1 F1 H1 q1 st1⟩
theorem sim_B (h : Sim K te a) : SimT K (tB te) (aTest a) := sim_test h
def aAnd (a b : AT) : AT := fun s P => a s fun c s1 => if c = true then b s1 P else P false s1
def aOr (a b : AT) : AT := fun s P => a s fun c s1 => if c = true then P true s1 else b s1 P
def aNot (a : AT) : AT := fun s P => a s fun c s1 => P (!c) s1
section
variable {t u : TT} {at1 au : AT}
theorem sim_and (h : SimT K t at1) (h2 : SimT K u au) : SimT K (tAnd t u) (aAnd at1 au) := fun s P q σ F H ok Q k => by
  refine h s _ q σ F H ok _ fun c s1 F1 H1 q1 st1 => ?_
  cases c with
  | true => exact h2 s1 _ q1 σ F1 H1 st1.st _ fun b s2 F2 H2 q2 st2 => k b s2 F2 H2 q2 (st1.trans st2)
  | false => exact k false s1 F1 H1 q1 st1
theorem sim_or (h : SimT K t at1) (h2 : SimT K u au) : SimT K (tOr t u) (aOr at1 au) := fun s P q σ F H ok Q k => by
  refine h s _ q σ F H ok _ fun c s1 F1 H1 q1 st1 => ?_
  cases c with
  | true => exact k true s1 F1 H1 q1 st1
  | false => exact h2 s1 _ q1 σ F1 H1 st1.st _ fun b s2 F2 H2 q2 st2 => k b s2 F2 H2 q2 (st1.trans st2)
theorem sim_not (h : SimT K t at1) : SimT K (tNot t) (aNot at1) := fun s P q σ F H ok Q k => h s _ q σ F H ok _ fun c s1 F1 H1 q1 st1 => k (!c) s1 F1 H1 q1 st1
def aIf (c : AT) (a b : AE) : AE := fun s P => c s fun k s1 => if k = true then a s1 P else b s1 P
theorem sim_if (h : SimT K t at1) (ha : Sim K ta aa) (hb : Sim K tb ab) : Sim K (tIf t ta tb) (aIf at1 aa ab) := fun s P q σ F H ok Q k => by
  refine h s _ q σ F H ok _ fun c s1 F1 H1 q1 st1 => ?_
  cases c with
  | true => exact ha s1 _ q1 σ F1 H1 st1.st _ fun r s2 v F2 H2 q2 st2 rs => k r s2 v F2 H2 q2 (st1.trans st2) (rs.more st1)
  | false => exact hb s1 _ q1 σ F1 H1 st1.st _ fun r s2 v F2 H2 q2 st2 rs => k r s2 v F2 H2 q2 (st1.trans st2) (rs.more st1)
end
def aAndV (a b : AE) : AE := fun s P => a s fun r s1 => match r.d with
  | .bl c => if c = true then b s1 P else P (.pu (.bl false)) s1
  | _ => False
def aNotV (a : AE) : AE := fun s P => a s fun r s1 => match r.d with
  | .bl c => P (.pu (.bl (!c))) s1
  | _ => False
theorem sim_andV (ha : Sim K ta aa) (hb : Sim K tb ab) : Sim K (tAndV ta tb) (aAndV aa ab) := fun s P q σ F H ok Q k => by
  refine ha.d q ok fun r s1 v F1 H1 q1 st1 d1 => ?_
  cases e : r.d <;> simp only [e] at q1
  rename_i c
  rw [e] at d1
  refine ⟨c, d1, ?_⟩
  cases c with
  | true => exact hb s1 _ q1 σ F1 H1 st1.st _ fun r s2 v F2 H2 q2 st2 rs => k r s2 v F2 H2 q2 (st1.trans st2) (rs.more st1)
  | false => exact k _ s1 _ F1 H1 q1 st1 (.pu rfl)
theorem sim_notV (ha : Sim K ta aa) : Sim K (tNotV ta) (aNotV aa) := fun s P q σ F H ok Q k => by
  refine ha.d q ok fun r s1 v F1 H1 q1 st1 d1 => ?_
  cases e : r.d <;> simp only [e] at q1
  rename_i c
  rw [e] at d1
  exact ⟨c, d1, k _ s1 _ F1 H1 q1 st1 (.pu rfl)⟩
/-- a op b op c -/
def aChain (r r' : AR2) (aa ab ac : AE) : AE := fun s P => aa s fun r1 s1 => ab s1 fun r2 s2 => r r1.d r2.d fun z => match z with
  | .pu (.bl c) => if c = true then ac s2 fun r3 s3 => r' r2.d r3.d fun rs => P rs s3 else P (.pu (.bl false)) s2
  | _ => False
theorem sim_chain {r r' : R2} {ar ar' : AR2} (hr : RD K r ar) (hr' : RD K r' ar') (ha : Sim K ta aa) (hb : Sim K tb ab) (hc : Sim K tc ac) : Sim K (tChain r r' ta tb tc) (aChain ar ar' aa ab ac) := fun s P q σ F H ok Q k => by
  refine ha.d q ok fun r1 s1 v1 F1 H1 q1 st1 d1 => ?_
  refine hb.d q1 st1.st fun r2 s2 v2 F2 H2 q2 st2 d2 => ?_
  refine hr _ _ _ q2 F2 H2 v1 v2 st2.st.le (Dq.mono st2.f _ _ d1) d2 _ fun rs v F3 H3 p l => ?_
  obtain ⟨st3, rs3⟩ := (st1.trans st2).leaf l
  cases rs with
  | no => exact p.elim
  | ow _ _ => exact p.elim
  | nd _ _ _ => exact p.elim
  | pu d =>
    cases d <;> simp only at p
    rename_i c
    obtain ⟨w, e1, e2⟩ := slok_pu.mp rs3.ok
    cases e1
    refine ⟨c, e2, ?_⟩
    cases c with
    | false => exact k _ s2 _ F3 H3 p st3 (.pu rfl)
    | true =>
      refine hc.d p st3.st fun r3 s3 v3 F4 H4 q4 st4 d4 => ?_
      refine hr' _ _ _ q4 F4 H4 v2 v3 st4.st.le (Dq.mono (l.f.trans st4.f) _ _ d2) d4 Q fun rs v F5 H5 p l => ?_
      obtain ⟨st5, rs5⟩ := (st3.trans st4).leaf l
      exact k rs s3 v F5 H5 p st5 rs5
end
end DL
namespace DL
variable [Tabl]
open PySem L2
section
variable {K : PySem.W.Frag} {te ta tb tc : TE} {a aa ab ac : AE} {F H : Hp} {s : Ss} {σ : L2.St} {ts tu : TS} {as au : AS} {c : TT} {ac1 : AT}
def aNext : AS := fun A s => A.nx s
def aSeq (t u : AS) : AS := fun A s => t { A with nx := u A } s
def aDrop (a : AE) : AS := fun A s => a s fun _ s1 => A.nx s1
def aRet (a : AE) : AS := fun A s => a s fun r s1 => A.rt r s1
def aIfS (c : AT) (t u : AS) : AS := fun A s => c s fun b s1 => if b = true then t A s1 else u A s1
def aNev : AS := fun _ _ => False
theorem sims_next : SimS K tNext aNext := fun A s q σ F H ok E kn kr kb kc => kn s σ F H q (.refl ok)
theorem sims_nev : SimS K tNever aNev := fun A s q σ F H ok E kn kr kb kc => q.elim
theorem sims_seq (h1 : SimS K ts as) (h2 : SimS K tu au) : SimS K (tSeq ts tu) (aSeq as au) := fun A s q σ F H ok E kn kr kb kc =>
  h1 { A with nx := au A } s q σ F H ok { E with nx := tu E } (fun s1 σ1 F1 H1 q1 st1 => h2 A s1 q1 σ1 F1 H1 st1.st E (fun s2 σ2 F2 H2 q2 st2 => kn s2 σ2 F2 H2 q2 (st1.trans st2))
    (fun r s2 σ2 v F2 H2 q2 st2 rs => kr r s2 σ2 v F2 H2 q2 (st1.trans st2) (rs.more st1)) (fun s2 σ2 F2 H2 q2 st2 => kb s2 σ2 F2 H2 q2 (st1.trans st2)) (fun s2 σ2 F2 H2 q2 st2 => kc s2 σ2 F2 H2 q2 (st1.trans st2))) kr kb kc
theorem sims_drop (h : Sim K te a) : SimS K (tDrop te) (aDrop a) := fun A s q σ F H ok E kn kr kb kc => h s _ q σ F H ok _ fun r s1 v F1 H1 q1 st1 _ => kn s1 σ F1 H1 q1 st1
theorem sims_ret (h : Sim K te a) : SimS K (tRet te) (aRet a) := fun A s q σ F H ok E kn kr kb kc => h s _ q σ F H ok _ fun r s1 v F1 H1 q1 st1 rs => kr r s1 σ v F1 H1 q1 st1 rs
theorem sims_if (h : SimT K c ac1) (h1 : SimS K ts as) (h2 : SimS K tu au) : SimS K (tIfS c ts tu) (aIfS ac1 as au) := fun A s q σ F H ok E kn kr kb kc => by
  refine h s _ q σ F H ok _ fun b s1 F1 H1 q1 st1 => ?_
  cases b with
  | true =>
    exact h1 A s1 q1 σ F1 H1 st1.st E (fun s2 σ2 F2 H2 q2 st2 => kn s2 σ2 F2 H2 q2 (st1.trans st2))
      (fun r s2 σ2 v F2 H2 q2 st2 rs => kr r s2 σ2 v F2 H2 q2 (st1.trans st2) (rs.more st1)) (fun s2 σ2 F2 H2 q2 st2 => kb s2 σ2 F2 H2 q2 (st1.trans st2)) (fun s2 σ2 F2 H2 q2 st2 => kc s2 σ2 F2 H2 q2 (st1.trans st2))
  | false =>
    exact h2 A s1 q1 σ F1 H1 st1.st E (fun s2 σ2 F2 H2 q2 st2 => kn s2 σ2 F2 H2 q2 (st1.trans st2))
      (fun r s2 σ2 v F2 H2 q2 st2 rs => kr r s2 σ2 v F2 H2 q2 (st1.trans st2) (rs.more st1)) (fun s2 σ2 F2 H2 q2 st2 => kb s2 σ2 F2 H2 q2 (st1.trans st2)) (fun s2 σ2 F2 H2 q2 st2 => kc s2 σ2 F2 H2 q2 (st1.trans st2))
/-- behind a store to a slot -/
theorem Step.put {s1 : Ss} {F1 H1 : Hp} {r : Sl} {v : V} {i : Nat} (st : Step K s F H s1 F1 H1 σ) (rs : Rs K s H F1 H1 s1 r v) : Step K s F H (s1.set i r) F1 H1 (σ.set i (some v)) where
  st := st.st.put rs.ok (fun p hp => (rs.fr p hp).2) rs.nd
  f := st.f
  k := st.k
  t := st.t
  n := st.n
  o := fun p h => by
    rcases own_set h with z | z
    · exact st.o p z
    · exact (rs.fr p z).1.symm
def aSet (i : Nat) (a : AE) : AS := fun A s => a s fun r s1 => A.nx (s1.set i r)
theorem sims_set {i : Nat} (h : Sim K te a) : SimS K (tAsg te (gName i)) (aSet i a) := fun A s q σ F H ok E kn kr kb kc =>
  h s _ q σ F H ok _ fun r s1 v F1 H1 q1 st1 rs => kn _ _ F1 H1 q1 (st1.put rs)
def aAsg (a : AE) (g : AG) : AS := fun A s => a s fun r s1 => g r.d s1 A.nx
theorem sims_asg {g : TG} {ag : AG} {L : List Nat} (h : Sim K te a) (hg : SimG K g ag L) : SimS K (tAsg te g) (aAsg a ag) := fun A s q σ F H ok E kn kr kb kc =>
  h.d q ok fun r s1 v F1 H1 q1 st1 d1 => hg _ _ _ q1 v σ F1 H1 st1.st d1 _ fun s2 σ2 q2 st2 _ _ => kn s2 σ2 F1 H1 q2 (st1.trans st2)
def agName (i : Nat) : AG := fun d s P => P (s.set i (.pu d))
theorem simg_name {i : Nat} : SimG K (gName i) (agName i) [i] := fun d s P q v σ F H ok dv Q k => by
  refine k _ _ q ((Step.refl ok).put (r := .pu d) (.pu dv)) (fun j hj => ?_) (List.length_set ..)
  rw [List.getElem?_set, if_neg fun e => hj (by rw [e]; exact List.mem_singleton.mpr rfl)]
def agNil : AGs := fun ds s P => ds = [] ∧ P s
def agCons (g : AG) (r : AGs) : AGs := fun ds s P => match ds with
  | d :: ds => g d s fun s1 => r ds s1 P
  | [] => False
theorem simgs_nil : SimGs K gNil agNil [] := fun ds s P q vs σ F H ok dv Q k => by
  obtain ⟨rfl, q⟩ := q
  exact ⟨dv, k s σ q (.refl ok) (fun _ _ => rfl) rfl⟩
theorem simgs_cons {g : TG} {ag : AG} {L M : List Nat} {gs : TGs} {ags : AGs} (h : SimG K g ag L) (hr : SimGs K gs ags M) : SimGs K (gCons g gs) (agCons ag ags) (L ++ M) := fun ds s P q vs σ F H ok dv Q k => by
  cases ds with
  | nil => exact q.elim
  | cons d ds =>
    obtain ⟨x, r, rfl, h2, h3⟩ := dv
    refine ⟨x, r, rfl, ?_⟩
    refine h d s _ q x σ F H ok h2 _ fun s1 σ1 q1 st1 e1 l1 => ?_
    refine hr ds s1 _ q1 r σ1 F H st1.st h3 _ fun s2 σ2 q2 st2 e2 l2 => ?_
    refine k s2 σ2 q2 (st1.trans st2) (fun j hj => ?_) (l2.trans l1)
    rw [e2 j fun z => hj (List.mem_append_right _ z), e1 j fun z => hj (List.mem_append_left _ z)]
def agTup (g : AGs) : AG := fun d s P => match d with
  | .tup ds => g ds s P
  | _ => False
theorem simg_tup {gs : TGs} {ags : AGs} {M : List Nat} {n : Nat} (h : SimGs K gs ags M) (hn : ∀ ds s P, ags ds s P → ds.length = n) : SimG K (gTup K n gs) (agTup ags) M := fun d s P q v σ F H ok dv Q k => by
  cases d <;> first | exact q.elim | skip
  rename_i ds
  obtain ⟨a, xs, rfl, h2, h3⟩ := dv
  exact ⟨a, xs, rfl, Same.sqt ok.le h2, by rw [h3.length]; exact hn ds s P q, h ds s P q xs σ F H ok h3 Q k⟩
/-- x.append(e) -/
def aApp (i : Nat) (a : AE) : AS := fun A s => match s[i]? with
  | some (.ow _ _) => a s fun r s1 => match s1[i]? with
    | some (.ow p xs) => xs.length < 100000 ∧ A.nx (s1.set i (.ow p (xs ++ [r.d])))
    | _ => False
  | _ => False
/-- the tree of a slot is changed: at p, which it owns, stands something else -/
theorem Step.chgG {s1 : Ss} {F1 H1 H2 : Hp} {i : Nat} {l l' : Sl} {v : V} (st : Step K s F H s1 F1 H1 σ) (e : s1[i]? = some l) (hv : σ[i]? = some (some v)) (h2 : SlOk K F1 H2 l' (some v)) (hn : (fp l').Nodup)
    (hk : ∀ b o, b ∉ fp l → H1 b = some o → H2 b = some o) (ht : ∀ b, H2 b = none → H1 b = none) (hf : ∀ b, b ∈ fp l' → b ∈ fp l ∨ H1 b = none) : Step K s F H (s1.set i l') F1 H2 σ := by
  have nf : ∀ b, b ∈ fp l → F1 b = none ∧ ∃ u, H1 b = some u ∧ Dat u := fun b hb => st.st.dat ⟨i, l, e, hb⟩
  refine ⟨⟨st.st.le.chg nf hk, by rw [List.length_set, st.st.len], fun j l2 o q1 q2 => ?_, fun j k l1 l2 q q1 q2 p1 p2 => ?_, fun j l2 q1 => ?_⟩, st.f, fun b o q nt hb => ?_, fun b q => st.t b (ht b q), st.n, fun q h => ?_⟩
  · rcases set_get q1 with ⟨rfl, rfl, hl⟩ | ⟨e2, q3⟩
    · rw [hv] at q2
      cases q2
      exact h2
    · exact SlOk.mono l2 (Same.refl _) (fun q hq u _ z1 z2 => ⟨z1, hk q u (fun z => e2 (st.st.un i j l l2 q e q3 z hq)) z2⟩) (st.st.ok j l2 o q3 q2)
  · have back : ∀ (m : Nat) (l3 : Sl), (s1.set i l')[m]? = some l3 → q ∈ fp l3 → (∃ l4, s1[m]? = some l4 ∧ q ∈ fp l4) ∨ (i = m ∧ H1 q = none) := fun m l3 h hp => by
      rcases set_get h with ⟨rfl, rfl, hl⟩ | ⟨e2, q3⟩
      · rcases hf q hp with z | z
        · exact .inl ⟨l, e, z⟩
        · exact .inr ⟨rfl, z⟩
      · exact .inl ⟨l3, q3, hp⟩
    rcases back j l1 q1 p1 with ⟨w1, g1, g3⟩ | ⟨g1, g3⟩
    · rcases back k l2 q2 p2 with ⟨w2, g2, g4⟩ | ⟨g2, g4⟩
      · exact st.st.un j k w1 w2 q g1 g2 g3 g4
      · obtain ⟨_, u, hu⟩ := st.st.own ⟨j, w1, g1, g3⟩
        rw [g4] at hu
        cases hu
    · rcases back k l2 q2 p2 with ⟨w2, g2, g4⟩ | ⟨g2, g4⟩
      · obtain ⟨_, u, hu⟩ := st.st.own ⟨k, w2, g2, g4⟩
        rw [g3] at hu
        cases hu
      · exact g1.symm.trans g2
  · rcases set_get q1 with ⟨rfl, rfl, hl⟩ | ⟨e2, q3⟩
    · exact hn
    · exact st.st.nd j l2 q3
  · by_cases hb2 : b ∈ fp l
    · rcases st.o b ⟨i, l, e, hb2⟩ with z | z
      · exact absurd z hb
      · rw [q] at z
        cases z
    · exact hk b o hb2 (st.k b o q nt hb)
  · rcases own_set h with z | z
    · exact st.o q z
    · rcases hf q z with y | y
      · exact st.o q ⟨i, l, e, y⟩
      · exact .inr (st.t q y)
/-- the list of a slot is changed -/
theorem Step.chg {s1 : Ss} {F1 H1 : Hp} {i : Nat} {p : Addr} {xs ys : List D} {vs : List V} (st : Step K s F H s1 F1 H1 σ) (e : s1[i]? = some (.ow p xs)) (d : DqA K F1 ys vs) : Step K s F H (s1.set i (.ow p ys)) F1 (upd H1 p (.lst vs)) σ := by
  obtain ⟨o, h1, h2⟩ := st.st.get e
  obtain ⟨rfl, hp, us, hu, _⟩ := slok_ow.mp h2
  refine st.chgG e h1 (slok_ow.mpr ⟨rfl, hp, vs, upd_same, d⟩) (by rw [fp_ow]; exact List.pairwise_singleton _ _) (fun b o hb q => ?_) (fun b q => ?_) fun b hb => .inl (by rw [fp_ow] at hb ⊢; exact hb)
  · rw [upd_ne fun z => hb (mem_ow.mpr z)]
    exact q
  · by_cases hb : b = p
    · subst hb
      rw [upd_same] at q
      cases q
    · rw [upd_ne hb] at q
      exact q
theorem tyV_list {p : Addr} {xs : List V} (h : H p = some (.lst xs)) : tyV K "list" (.ref p) H := .inl ⟨rfl, _, SqL.of h⟩
theorem sims_app {i : Nat} (h : Sim K te a) : SimS K (tDrop (tBM K "list" rAppend (tVar i) (tCons te tNil))) (aApp i a) := fun A s q σ F H ok E kn kr kb kc => by
  unfold aApp at q
  cases e : s[i]? with
  | none =>
    rw [e] at q
    exact q.elim
  | some l =>
    rw [e] at q
    cases l with
    | no => exact q.elim
    | pu d => exact q.elim
    | nd _ _ _ => exact q.elim
    | ow p0 xs0 =>
      obtain ⟨o, h1, h2⟩ := ok.get e
      obtain ⟨rfl, g1, vs0, g2, g3⟩ := slok_ow.mp h2
      refine ⟨.ref p0, h1, tyV_list g2, ?_⟩
      refine h.d q ok fun r s1 v F1 H1 q1 st1 d1 => ?_
      cases e2 : s1[i]? with
      | none =>
        rw [e2] at q1
        exact q1.elim
      | some l =>
        rw [e2] at q1
        cases l with
        | no => exact q1.elim
        | pu d => exact q1.elim
        | nd _ _ _ => exact q1.elim
        | ow p xs =>
          obtain ⟨q1, q2⟩ := q1
          obtain ⟨o, z1, z2⟩ := st1.st.get e2
          obtain ⟨z3, y1, vs, y2, y3⟩ := slok_ow.mp z2
          rw [h1] at z1
          cases z1
          cases z3
          refine ⟨_, vs, v, rfl, rfl, y2, by rw [y3.length]; exact sz_lt q1, ?_⟩
          exact kn _ σ F1 _ q2 (st1.chg e2 (y3.append ⟨v, [], rfl, d1, rfl⟩))
/-- x[k] = e -/
def aPut (i : Nat) (a b : AE) : AS := fun A s => a s fun r s1 => match s1[i]? with
  | some (.ow _ _) => b s1 fun rk s2 => match rk.d, s2[i]? with
    | .int k, some (.ow p xs) => match ixN xs.length k with
      | some j => A.nx (s2.set i (.ow p (xs.set j r.d)))
      | none => False
    | _, _ => False
  | _ => False
theorem sims_put {i : Nat} (ha : Sim K ta aa) (hb : Sim K tb ab) : SimS K (tAsg ta (gSub (tVar i) tb rSetL)) (aPut i aa ab) := fun A s q σ F H ok E kn kr kb kc => by
  refine ha.d q ok fun r s1 v F1 H1 q1 st1 d1 => ?_
  cases e : s1[i]? with
  | none =>
    rw [e] at q1
    exact q1.elim
  | some l =>
    rw [e] at q1
    cases l with
    | no => exact q1.elim
    | pu d => exact q1.elim
    | nd _ _ _ => exact q1.elim
    | ow p0 xs0 =>
      obtain ⟨o, h1, h2⟩ := st1.st.get e
      obtain ⟨rfl, g1, vs0, g2, g3⟩ := slok_ow.mp h2
      refine ⟨.ref p0, h1, ?_⟩
      refine hb.d q1 st1.st fun rk s2 w F2 H2 q2 st2 d2 => ?_
      cases e3 : rk.d <;> simp only [e3] at q2
      rename_i k
      cases e2 : s2[i]? with
      | none =>
        simp only [e2] at q2
      | some l =>
        simp only [e2] at q2
        cases l with
        | no => exact q2.elim
        | pu d => exact q2.elim
        | nd _ _ _ => exact q2.elim
        | ow p xs =>
          simp only at q2
          cases e4 : ixN xs.length k with
          | none =>
            simp only [e4] at q2
          | some j =>
            simp only [e4] at q2
            rw [e3] at d2
            obtain ⟨o, z1, z2⟩ := st2.st.get e2
            obtain ⟨z3, y1, vs, y2, y3⟩ := slok_ow.mp z2
            rw [h1] at z1
            cases z1
            cases z3
            refine ⟨_, vs, k, j, rfl, d2, y2, by rw [y3.length]; exact e4, ?_⟩
            exact kn _ σ F2 _ q2 ((st1.trans st2).chg e2 (y3.set (Dq.mono st2.f _ _ d1)))
/-- x[k], len(x) of a list that a slot owns -/
def aIxO (i : Nat) (b : AE) : AE := fun s P => match s[i]? with
  | some (.ow _ _) => b s fun rk s1 => match rk.d, s1[i]? with
    | .int k, some (.ow _ xs) => match atI xs k with
      | some d => P (.pu d) s1
      | none => False
    | _, _ => False
  | _ => False
theorem sim_ixO {i : Nat} (hb : Sim K tb ab) : Sim K (tOp (fun x y H Q => rIxL K x y H Q ∨ rIxT K x y H Q ∨ rIxS x y H Q) (tVar i) tb) (aIxO i ab) := fun s P q σ F H ok Q k => by
  unfold aIxO at q
  cases e : s[i]? with
  | none =>
    rw [e] at q
    exact q.elim
  | some l =>
    rw [e] at q
    cases l with
    | no => exact q.elim
    | pu d => exact q.elim
    | nd _ _ _ => exact q.elim
    | ow p0 xs0 =>
      obtain ⟨o, h1, h2⟩ := ok.get e
      obtain ⟨rfl, g1, vs0, g2, g3⟩ := slok_ow.mp h2
      refine ⟨.ref p0, h1, ?_⟩
      refine hb.d q ok fun rk s2 w F2 H2 q2 st2 d2 => ?_
      cases e3 : rk.d <;> simp only [e3] at q2
      rename_i j
      cases e2 : s2[i]? with
      | none =>
        simp only [e2] at q2
      | some l =>
        simp only [e2] at q2
        cases l with
        | no => exact q2.elim
        | pu d => exact q2.elim
        | nd _ _ _ => exact q2.elim
        | ow p xs =>
          simp only at q2
          cases e4 : atI xs j with
          | none =>
            simp only [e4] at q2
          | some d =>
            simp only [e4] at q2
            rw [e3] at d2
            obtain ⟨o, z1, z2⟩ := st2.st.get e2
            obtain ⟨z3, y1, vs, y2, y3⟩ := slok_ow.mp z2
            rw [h1] at z1
            cases z1
            cases z3
            obtain ⟨x, x1, x2⟩ := atI_ok y3 e4
            exact .inl ⟨_, vs, j, x, rfl, d2, SqL.of y2, x1, k _ s2 x F2 H2 q2 st2 (.pu x2)⟩
theorem flat_any {F F' : Hp} {d : D} {v : V} (h : flatD d = true) (q : Dq K F d v) : Dq K F' d v := by
  cases d <;> first | (cases h; done) | exact q
def aItL (a : AE) : AI := fun s P => a s fun r s1 => match r.d with
  | .lst ds => P ds s1
  | .scr ds => P ds s1
  | _ => False
def aItT (a : AE) : AI := fun s P => a s fun r s1 => match r.d with
  | .tup ds => P ds s1
  | _ => False
theorem simi_list (h : Sim K te a) : SimI K (iList K te) (aItL a) := fun s P q σ F H ok R k => by
  refine h.d q ok fun r s1 v F1 H1 q1 st1 d1 => ?_
  have go : ∀ a xs ds, SqL K F1 a xs → DqA K F1 ds xs → v = .ref a → P ds s1 → ∃ a, v = .ref a ∧ (∃ xs, SqL K H1 a xs) ∧ R (Itl K a) H1 := fun a xs ds h1 h2 ev q2 => by
    refine ⟨a, ev, ⟨xs, Same.seq st1.st.le h1⟩, k ds s1 _ F1 H1 q2 st1 ⟨fun H => SqL K H a xs, YAt xs, ?_, fun H2 e => Same.seq e h1, fun i H2 x H3 e y d hd F2 e1 e2 => ?_⟩⟩
    · rw [← h2.length]
      exact walk_list
    · obtain ⟨rfl, hx⟩ := y
      obtain ⟨x2, g1, g2⟩ := h2.get hd
      rw [hx] at g1
      cases g1
      exact ⟨F2, Lf.same e2 _ _ (Dq.mono e1 _ _ g2)⟩
  cases e : r.d <;> simp only [e] at q1
  · rw [e] at d1
    obtain ⟨a, xs, ev, h1, h2⟩ := d1
    exact go a xs _ (SqL.of h1) h2 ev q1
  · rw [e] at d1
    obtain ⟨a, xs, ev, h1, h2⟩ := d1
    exact go a xs _ h1 h2 ev q1
theorem simi_tup (h : Sim K te a) : SimI K (iTup K te) (aItT a) := fun s P q σ F H ok R k => by
  refine h.d q ok fun r s1 v F1 H1 q1 st1 d1 => ?_
  cases e : r.d <;> simp only [e] at q1
  rw [e] at d1
  obtain ⟨a, xs, ev, h1, h2⟩ := d1
  refine ⟨a, ev, ⟨xs, Same.sqt st1.st.le h1⟩, k _ s1 _ F1 H1 q1 st1 ⟨fun H => SqT K H a xs, YAt xs, ?_, fun H2 e => Same.sqt e h1, fun i H2 x H3 e y d hd F2 e1 e2 => ?_⟩⟩
  · rw [← h2.length]
    exact walk_tup
  · obtain ⟨rfl, hx⟩ := y
    obtain ⟨x2, g1, g2⟩ := h2.get hd
    rw [hx] at g1
    cases g1
    exact ⟨F2, Lf.same e2 _ _ (Dq.mono e1 _ _ g2)⟩
def rngD (lo : Int) (n : Nat) : List D := (List.range n).map fun (i : Nat) => D.int (lo + (i : Int))
def aRng1 (a : AA) : AI := fun s P => a s fun ds s1 => match ds with
  | [.int j] => -(2 ^ 62) ≤ j ∧ j < 2 ^ 62 ∧ P (rngD 0 j.toNat) s1
  | _ => False
theorem rng_yields {lo : Int} {n : Nat} {F1 : Hp} : Yields K (Itr lo n) F1 (rngD lo n) := by
  refine ⟨fun _ => True, YFn fun i => .int (lo + i), ?_, fun _ _ => trivial, fun i H2 x H3 e y d hd F2 e1 e2 => ?_⟩
  · have e : (rngD lo n).length = n := by
      unfold rngD
      rw [List.length_map, List.length_range]
    rw [e]
    exact walk_range
  · obtain ⟨rfl, rfl⟩ := y
    unfold rngD at hd
    rw [List.getElem?_map] at hd
    cases e3 : (List.range n)[i]? with
    | none =>
      rw [e3] at hd
      cases hd
    | some j =>
      rw [e3] at hd
      obtain ⟨hi, hj⟩ := List.getElem?_eq_some_iff.mp e3
      rw [List.getElem_range] at hj
      cases hd
      subst hj
      exact ⟨F2, Lf.same e2 _ _ rfl⟩
theorem dqa1 {F : Hp} {d : D} {vs : List V} (h : DqA K F [d] vs) : ∃ v, vs = [v] ∧ Dq K F d v := by
  obtain ⟨x, r, rfl, h2, h3⟩ := h
  exact ⟨x, by rw [show r = [] from h3], h2⟩
theorem dqa2 {F : Hp} {d e : D} {vs : List V} (h : DqA K F [d, e] vs) : ∃ v w, vs = [v, w] ∧ Dq K F d v ∧ Dq K F e w := by
  obtain ⟨x, r, rfl, h2, h3⟩ := h
  obtain ⟨y, rfl, h4⟩ := dqa1 h3
  exact ⟨x, y, rfl, h2, h4⟩
theorem simi_rng1 {t : TA} {a : AA} (h : SimA K t a) : SimI K (iRng1 t) (aRng1 a) := fun s P q σ F H ok R k => by
  refine h s _ q σ F H ok _ fun ds s1 vs F1 H1 q1 st1 d1 => ?_
  match ds, q1, d1 with
  | [.int j], q1, d1 =>
    obtain ⟨v, rfl, h2⟩ := dqa1 d1
    cases (show v = _ from h2)
    exact ⟨j, rfl, q1.1, q1.2.1, k _ s1 _ F1 H1 q1.2.2 st1 rng_yields⟩
def aForD (g : AG) (b : AS) (A : AEnds) : List D → Ss → Prop
  | [], s => A.nx s
  | d :: ds, s => g d s fun s1 => b { nx := aForD g b A ds, rt := A.rt, bk := A.nx, ct := aForD g b A ds } s1
def aFor (i : AI) (g : AG) (b : AS) : AS := fun A s => i s fun ds s1 => aForD g b A ds s1
theorem sims_for {wi : TI} {ai : AI} {g : TG} {ag : AG} {L : List Nat} (hi : SimI K wi ai) (hg : SimG K g ag L) (hb : SimS K ts as) : SimS K (tFor wi g ts) (aFor ai ag as) := fun A s q σ F H ok E kn kr kb kc => by
  refine hi s _ q σ F H ok _ fun ds s1 J F1 H1 q1 st1 hy => ?_
  obtain ⟨G, Y, w, hG, hY⟩ := hy
  refine for_it w (fun i σ' H' => ∃ s' F', aForD ag as A (ds.drop i) s' ∧ Step K s F H s' F' H' σ' ∧ Same F1 F') ⟨s1, F1, by rw [List.drop_zero]; exact q1, st1, Same.refl _⟩ (fun i σ' H' hi ⟨s', F', _, st, sm⟩ => hG H' (sm.trans st.st.le)) ?_ ?_
  · rintro i x σ' H' H2 hi ⟨s', F', qq, st, sm⟩ y
    have ed : ds.drop i = ds[i] :: ds.drop (i + 1) := List.drop_eq_getElem_cons hi
    rw [ed] at qq
    obtain ⟨F2, l⟩ := hY i H' x H2 (sm.trans st.st.le) y ds[i] (List.getElem?_eq_getElem hi) F' sm st.st.le
    obtain ⟨st2, rs2⟩ := st.leaf l
    obtain ⟨w2, e1, e2⟩ := slok_pu.mp rs2.ok
    cases e1
    refine hg _ s' _ qq x σ' F2 H2 st2.st e2 _ fun s3 σ3 q3 st3 _ _ => ?_
    have st23 := st2.trans st3
    refine hb _ s3 q3 σ3 F2 H2 st3.st _ (fun s4 σ4 F4 H4 q4 st4 => ⟨s4, F4, q4, st23.trans st4, (sm.trans l.f).trans st4.f⟩) (fun r s4 σ4 v F4 H4 q4 st4 rs => kr r s4 σ4 v F4 H4 q4 (st23.trans st4) (rs.more st23))
      (fun s4 σ4 F4 H4 q4 st4 => kn s4 σ4 F4 H4 q4 (st23.trans st4)) (fun s4 σ4 F4 H4 q4 st4 => ⟨s4, F4, q4, st23.trans st4, (sm.trans l.f).trans st4.f⟩)
  · rintro σ' H' ⟨s', F', qq, st, _⟩
    rw [List.drop_length] at qq
    exact kn s' σ' F' H' qq st
end
end DL
namespace DL
variable [Tabl]
open PySem L2
structure GnOk (P : Program) (w : World) (K : PySem.W.Frag) (mg : Str → Option Value) (base : Heap) (CX : CXT) (k : Nat) (f : Addr) (fd : FuncData) (ps : List Str) (sp : Sp) : Prop where
  many : ∀ xs H Q E, sp xs H Q E → xs.length = ps.length
  go : ∀ (A : Around) (fr : List Env) (s : Shared) (H : Hp) (given : Args) (ws : List Value) (xs : List V) (Q : VK) (E : XK), A.guards = some [] → Room k A → Env0 P w K mg base A fr s H → BindsTo s fd given (ps.zip ws) → Vals xs ws → sp xs H Q E →
    codeAny (model P w) A (.call (.ref f) given) (CR CX fr P w H s Q E) s
section
variable {P : Program} {w : World} {K : PySem.W.Frag} {mg : Str → Option Value} {base : Heap} {CX : CXT} {k : Nat}
theorem GnOk.imp {f : Addr} {fd : FuncData} {ps : List Str} {sp sp' : Sp} (G : GnOk P w K mg base CX k f fd ps sp) (h : ∀ xs H Q E, sp' xs H Q E → sp xs H Q E) : GnOk P w K mg base CX k f fd ps sp' :=
  ⟨fun xs H Q E q => G.many xs H Q E (h _ _ _ _ q), fun A fr s H given ws xs Q E hg hr e b r q => G.go A fr s H given ws xs Q E hg hr e b r (h _ _ _ _ q)⟩
theorem gn_body {x qual : Str} {st : Stmt} {f : Addr} {fd : FuncData} {N ps : List Str} {sp : Sp} (Fn : Fun K x qual st f fd) (S : FnScope N ps (defScope st)) (many : ∀ xs H Q E, sp xs H Q E → xs.length = ps.length)
    (body : ∀ (cdv : Value) (A : Around) (fr : List Env) (s : Shared) (H : Hp) (xs : List V) (Q : VK) (E : XK), (A.deeper (PyProof.Rows.envOfC qual (defScope st) s.heap.objs.size f cdv)).guards = some [] → Room k (A.deeper (PyProof.Rows.envOfC qual (defScope st) s.heap.objs.size f cdv)) → sp xs H Q E →
      ∃ t, PSs (cxOf CX P w K mg base N qual (defScope st) f cdv A fr s H E) (defBody st) t ∧ t { nx := fun _ H' => Q .non H', rt := Q } (L2.start N xs) H) :
    GnOk P w K mg base CX (k + 1) f fd ps sp := by
  obtain ⟨oc, od, kV, doc, pm, an, cdv, ct, osl, rfl, here, hcode⟩ := Fn.ex
  refine ⟨many, fun A fr s H given ws xs Q E hg hr e0 hb rel hsp => ?_⟩
  have inK : K.In s.heap := e0.mod.kin.keeps fun b o e => (e0.bs b o e).1
  have bnd : ∀ y ∈ ps.zip ws, (defScope st).names.lookup y.1 = some .local ∨ ((defScope st).names.lookup y.1 = some .cell ∧ ((cellsFrom (s.heap.objs.size + 1) (defScope st).names []).lookup y.1).isSome = true) := by
    rintro ⟨n, v⟩ hy
    cases S.par n (List.of_mem_zip hy).1 with
    | inl q => exact .inl q
    | inr q => exact .inr ⟨q, PySem.W.cellsFrom_some _ _ _ (.inl q)⟩
  refine codeAny_call_function hr.depth (inK _ _ here) rfl S.co S.gen rfl (PySem.W.codeRec_of inK hcode) (hb _ _ _ _ ?_)
  refine wpAny_newFunctionEnv_cells S.kind bnd fun env he s1 new => ?_
  cases he
  refine ⟨(e0.mod.nolimit.keeps fun b o e => (e0.bs b o e).1).keeps new.toInCall.keep, codeAny_func ?_⟩
  obtain ⟨t, ht, hq⟩ := body cdv A fr s H xs Q E hg (hr.deeper _) hsp
  have I0 := inv_start (CX := CX) (P := P) (E := E) S hr.hd e0 (many _ _ _ _ hsp) rel new
  refine wpAny_mono (ht.run [] s1 (L2.start N xs) H _ I0 hq) (fun fl s' hs => ?_) fun e s' hs => hs
  cases fl with
  | brk =>
    obtain ⟨_, _, _, q⟩ := hs
    exact q.elim
  | cont =>
    obtain ⟨_, _, _, q⟩ := hs
    exact q.elim
  | next =>
    obtain ⟨σ', H', J, q⟩ := hs
    exact ⟨.non, H', J.os, J.bare, J.base, J.hok, rfl, q⟩
  | ret u =>
    obtain ⟨v, σ', H', J, rv, q⟩ := hs
    exact ⟨v, H', J.os, J.bare, J.base, J.hok, rv, q⟩
end
section
variable {X : Cx} {CX : CXT} {k : Nat} {f : Addr} {fd : FuncData} {ps ks : List Str} {sp : Sp} {E : XK} {x : Str} {p pos : Pos} {e : Expr} {es : List Expr} {t tk : TA} {kws : List Keyword}
theorem gn_end {pins : List (Addr × Obj)} {σ : L2.St} {H : Hp} {s : Shared} {Q : VK} {given : Args} {ws : List Value} {xs : List V} (G : GnOk X.prog X.w X.K X.mg X.base CX k f fd ps sp) (hg : X.A.guards = some []) (hr : Room k X.A) (hx : Passes CX X E) (I : L2.Inv X pins σ H s)
    (hb : BindsTo s fd given (ps.zip ws)) (r : Vals xs ws) (h : sp xs H Q E) : wpAny (model X.prog X.w) X.A (call (.ref f) given.pos given.kw) (EP X pins σ Q) X.xe s := by
  refine wpAny_call (codeAny_mono (G.go X.A X.stack s H given ws xs Q E hg hr I.env0 hb r h) ?_)
  intro res s' hq
  match res, hq with
  | .error e, hq => exact hx pins σ H s e s' I hq
  | .ok (.ret u), hq => exact I.after hq
/-- f(e, ..) -/
theorem pe_g (G : GnOk X.prog X.w X.K X.mg X.base CX k f fd ps sp) (hgd : X.A.guards = some []) (hr : Room k X.A) (hg : Gl X x) (hm : X.mg x = some (.ref f)) (hk : PySem.W.keepIn X.K (.ref f) = true) (hb : Binds X.K fd ps []) (hx : Passes CX X E)
    (ha : PA X (e :: es) t) (hdb : (x == ("__debug__" : Str)) = false := by decide) (he : starEach (e :: es) X.env = (false, eval e X.env) :: starEach es X.env := by rfl) (hpl : (backTo pos (starEach es X.env)).any (·.1) = false := by rfl) :
    PE X (.Call (.Name x p) (e :: es) [] pos) (tCall sp [] E t) := ⟨fun pins s σ H Q I h => by
  refine wpAny_Call_Name_kw (ld_glob I hg hm ?_ hdb)
  refine PySem.W.callWith_K (h₀ := X.base) I.ok.mod.kin hk (thn (ha.run pos pins s σ H _ I h) ?_) he hpl
  rintro us s1 ⟨xs, H1, I1, r, q⟩
  have q' : sp (xs ++ []) H1 Q E := q
  rw [List.append_nil] at q'
  have hl : (us ++ []).length = ps.length := by rw [List.append_nil, ← r.length]; exact G.many _ _ _ _ q'
  have bb := hb s1 us I1.kIn hl
  rw [List.append_nil] at bb
  exact ⟨I1.kIn, gn_end (given := ⟨us, []⟩) G hgd hr hx I1 bb r q'⟩⟩
/-- f(k = v, ..): by keywords alone -/
theorem pe_gK {g : List Value → List Value → List Value} {gV : List V → List V → List V} (G : GnOk X.prog X.w X.K X.mg X.base CX k f fd ps sp) (hgd : X.A.guards = some []) (hr : Room k X.A) (hg : Gl X x) (hm : X.mg x = some (.ref f)) (hk : PySem.W.keepIn X.K (.ref f) = true) (hb : KBinds X.K fd ps ks g gV) (hx : Passes CX X E)
    (hkw : PK X kws tk) (hall : (backToKw pos (keywordEach kws X.env)).all (·.1.isSome) = true := by rfl) (hks : (backToKw pos (keywordEach kws X.env)).filterMap (·.1) = ks := by rfl)
    (hdb : (x == ("__debug__" : Str)) = false := by decide) (hpl : ((backTo pos (starEach [] X.env)).any (·.1) || (backToKw pos (keywordEach kws X.env)).any (·.1.isNone)) = false := by rfl) :
    PE X (.Call (.Name x p) [] kws pos) (tCallK sp gV E tNil tk) := ⟨fun pins s σ H Q I h => by
  refine wpAny_Call_Name_kw (ld_glob I hg hm ?_ hdb)
  refine PySem.W.callWith_KW0 (h₀ := X.base) I.ok.mod.kin hk hall (thn (hkw.run pos pins s σ H _ I h) ?_) hpl
  rintro us s1 ⟨zs, H1, I1, r, q⟩
  rw [hks]
  have rr := hb.rel (vs := []) (us := []) .nil r
  have hl : (g [] us).length = ps.length := by rw [← rr.length]; exact G.many _ _ _ _ q
  exact ⟨I1.kIn, gn_end (given := ⟨[], ks.zip us⟩) G hgd hr hx I1 (hb.to s1 [] us I1.kIn hl) rr q⟩⟩
end
section
variable {P : Program} {w : World} {K : PySem.W.Frag} {mg mb : Str → Option Value} {CX : CXT} {k : Nat} {fa a : Addr} {fd : FuncData} {x : Str} {sp : Sp} {s : Shared} {vs : List Value} {ns : List Int}
/-- what is tracked at the entry: the script at most, known to its object -/
structure Entry (P : Program) (w : World) (K : PySem.W.Frag) (s : Shared) (a : Addr) (ob : Obj) (xs : List V) (H : Hp) : Prop where
  one : ∀ b u, H b = some u → b = a ∧ u = .frz ob (.lst xs) ∧ K.lookup a = none
  ok : HOk P w H s.heap
theorem entry_env {ob : Obj} {xs : List V} {H : Hp} (en : Entry P w K s a ob xs H) (ha : s.heap.get? a = some ob) (hd : ∀ es ep, ob.data ≠ .dict es ep) (KX : K.In s.heap) (hns : s.heap.Ns mainGlobals mg) (hb : s.heap.Ns builtinsNs mb)
    (hbb : ∀ x : Str, x ≠ "__name__" → mb x = bootBuiltins x) (hlim : s.heap.NoLimit) (hg : s.gens = #[]) : K.In (hidT s.heap H) ∧ (hidT s.heap H).Ns mainGlobals mg ∧ Env0 P w K mg (hidT s.heap H) callerA [] s H := by
  have out : ∀ b o, s.heap.get? b = some o → (b = a → False) → (hidT s.heap H).get? b = some o := fun b o e n => by
    refine hidT_get e ?_
    cases q : H b with
    | none => rfl
    | some u => exact (n (en.one b u q).1).elim
  have names : ∀ {b : Addr} {m : Str → Option Value}, s.heap.Ns b m → (hidT s.heap H).Ns b m := by
    rintro b m ⟨o, es, ep, e, d, r⟩
    refine ⟨o, es, ep, out b o e fun z => ?_, d, r⟩
    subst z
    rw [ha] at e
    cases e
    exact hd es ep d
  have inK : K.In (hidT s.heap H) := fun b o e => by
    refine hidT_get (KX b o e) ?_
    cases q : H b with
    | none => rfl
    | some u =>
      obtain ⟨z, _, n⟩ := en.one b u q
      rw [z, n] at e
      cases e
  refine ⟨inK, names hns, rfl, ⟨inK, names hns, ⟨mb, names hb, hbb⟩, ?_⟩, fun b o e => of_hidT e, Nat.le_of_eq (hidT_size _ _), trivial, fun b hb => ?_, en.ok, .of_eq hg⟩
  · obtain ⟨mc, h1, h2⟩ := hlim
    exact ⟨mc, names h1, h2⟩
  · cases hb
theorem law_go {H : Hp} {xs : List V} {ob : Obj} (en : Entry P w K s a ob xs H) (ha : s.heap.get? a = some ob) (hd : ∀ es ep, ob.data ≠ .dict es ep) (KX : K.In s.heap) (hns : s.heap.Ns mainGlobals mg) (hb : s.heap.Ns builtinsNs mb)
    (hbb : ∀ x : Str, x ≠ "__name__" → mb x = bootBuiltins x) (hlim : s.heap.NoLimit) (hg : s.gens = #[]) (hr : Room k callerA) (G : ∀ base : Heap, K.In base → base.Ns mainGlobals mg → GnOk P w K mg base CX k fa fd [x] sp) (hbind : ∀ (s : Shared) (u : Value), BindsTo s fd ⟨[u], []⟩ [(x, u)])
    (hsp : sp [.ref a] H (fun v _ => v = .bl true) fun _ _ _ => False) (hCX : ∀ e s', CX [] H s (fun _ _ _ => False) e s' → False) :
    codeAny (model P w) callerA (.call (.ref fa) ⟨[.ref a], []⟩) (fun r s' => r = .ok (.ret (.bool true)) ∧ OldK s.heap s'.heap ∧ s'.os = s.os ∧ PyProof.Rows.AllBare s'.gens) s := by
  obtain ⟨inK, nm, e0⟩ := entry_env en ha hd KX hns hb hbb hlim hg
  refine codeAny_mono ((G _ inK nm).go callerA [] s H ⟨[.ref a], []⟩ [.ref a] [.ref a] _ _ rfl hr e0 (hbind s (.ref a)) (.cons rfl .nil) hsp) ?_
  intro r s' h
  match r, h with
  | .error e, h => exact (hCX e s' h).elim
  | .ok (.ret u), h =>
    obtain ⟨v, H', os, bare, un, hok', rel, q⟩ := h
    cases (show v = _ from q)
    cases (show u = _ from rel)
    refine ⟨rfl, OldK.of_keep fun b o e => ?_, os, bare⟩
    cases q : H b with
    | none => exact un.keep b o e q (fun z => by cases z) (fun z => by cases z)
    | some u =>
      obtain ⟨z, z1, _⟩ := en.one b u q
      rw [z1] at q
      have h1 := (en.ok b _ q).1
      have h2 := (hok' b _ (un.frzs b ob _ q)).1
      rw [e] at h1
      cases h1
      exact h2
theorem law_g (KX : K.In s.heap) (hns : s.heap.Ns mainGlobals mg) (hb : s.heap.Ns builtinsNs mb) (hbb : ∀ x : Str, x ≠ "__name__" → mb x = bootBuiltins x) (hlim : s.heap.NoLimit) (hg : s.gens = #[])
    (ha : s.heap.get? a = some { cls := .type "list", data := .seq vs.toArray }) (hi : PyProof.Rows.IntsAre vs ns) (hl : ns.length ≤ sizeLine) (hr : Room k callerA)
    (G : ∀ base : Heap, K.In base → base.Ns mainGlobals mg → GnOk P w K mg base CX k fa fd [x] sp) (hbind : ∀ (s : Shared) (u : Value), BindsTo s fd ⟨[u], []⟩ [(x, u)])
    (hsp : ∀ H : Hp, SqL K H a (ns.map V.int) → sp [.ref a] H (fun v _ => v = .bl true) fun _ _ _ => False) (hCX : ∀ H e s', CX [] H s (fun _ _ _ => False) e s' → False) :
    codeAny (model P w) callerA (.call (.ref fa) ⟨[.ref a], []⟩) (fun r s' => r = .ok (.ret (.bool true)) ∧ OldK s.heap s'.heap ∧ s'.os = s.os ∧ PyProof.Rows.AllBare s'.gens) s := by
  have rv := vals_ints hi
  have hd : ∀ es ep, (Obj.data { cls := .type "list", data := .seq vs.toArray }) ≠ .dict es ep := fun es ep z => by cases z
  cases hk : K.lookup a with
  | some o =>
    have e := KX a o hk
    rw [ha] at e
    cases e
    refine law_go (H := fun _ => none) (xs := ns.map V.int) ⟨(fun b u z => by cases z), (fun b u z => by cases z)⟩ ha hd KX hns hb hbb hlim hg hr G hbind (hsp _ (.inr ⟨_, vs.toArray, _, hk, rfl, rfl, rfl, ?_, by simpa using rv⟩)) (hCX _)
    rw [List.size_toArray, ← rv.length, List.length_map]
    exact hl
  | none =>
    have at_a : ∀ b u, (if b = a then some (HO.frz { cls := .type "list", data := .seq vs.toArray } (.lst (ns.map V.int))) else none) = some u → b = a ∧ u = HO.frz { cls := .type "list", data := .seq vs.toArray } (.lst (ns.map V.int)) := fun b u z => by
      by_cases hb : b = a
      · rw [if_pos hb] at z
        cases z
        exact ⟨hb, rfl⟩
      · rw [if_neg hb] at z
        cases z
    refine law_go (H := fun b => if b = a then some (HO.frz { cls := .type "list", data := .seq vs.toArray } (.lst (ns.map V.int))) else none) ⟨fun b u z => ⟨(at_a b u z).1, (at_a b u z).2, hk⟩, fun b u z => ?_⟩ ha hd KX hns hb hbb hlim hg hr G hbind (hsp _ (.inl (.inr ⟨_, if_pos rfl⟩))) (hCX _)
    obtain ⟨rfl, rfl⟩ := at_a b u z
    exact ⟨ha, by rw [List.length_map]; exact hl, vs, _, rv, ha⟩
end
/-- the goal that k_head leaves -/
theorem walk_g {l : PySem.W.OpenLaw} {n k : Nat} {q : Program} {loose : List Str} {XP : (Str → Option Value) → Heap → Prop} {YP : World → Heap → Prop} {d : DefRec} {K : Params → PySem.W.Frag} {CX : World → CXT} {sp : World → Sp} {x : Str} (hn : l.most = some n) (hn2 : n ≤ sizeLine) (hdf : d.params.defaults = []) (hr : Room k callerA)
    (hY : ∀ (w : World) (h : Heap), YP w h → (K w.params).In h)
    (F : ∀ (w : World) (mg : Str → Option Value) (fa : Addr) (h : Heap), (K w.params).In h → h.Ns mainGlobals mg → mg d.name = some (.ref fa) → ∃ fd : FuncData, (∀ (s : Shared) (u : Value), BindsTo s fd ⟨[u], []⟩ [(x, u)]) ∧
        ∀ base : Heap, (K w.params).In base → base.Ns mainGlobals mg → GnOk l.prog w (K w.params) mg base (CX w) k fa fd [x] (sp w))
    (hsp : ∀ (w : World) (H : Hp) (a : Addr) (ns : List Int), ns.length ≤ n → SqL (K w.params) H a (ns.map V.int) → sp w [.ref a] H (fun v _ => v = .bl true) fun _ _ _ => False)
    (hCX : ∀ (w : World) (H : Hp) (s : Shared) (e : Value) (s' : Shared), CX w [] H s (fun _ _ _ => False) e s' → False) : PySem.W.WalkO q loose XP YP l.row.toRowW d [] (fun f vs => PySem.call f vs) := by
  refine Att.attach_call hn hdf fun w s0 s1 mg mb fa o pm cd doc a vs ns G Y ho hd hcd hmg hobj hints hlen hg => ?_
  obtain ⟨fd, hb, hF⟩ := F w mg fa _ (hY w _ Y) G.T.g hmg
  exact law_g (hY w _ Y) G.T.g G.T.b G.T.builtins G.T.nolimit hg hobj hints (Nat.le_trans hlen hn2) hr hF hb (fun H hS => hsp w H a ns hlen hS) fun H e s' => hCX w H s1 e s'
end DL
namespace DL
variable [Tabl]
open PySem L2
section
variable {K : PySem.W.Frag} {te ta tb tc : TE} {a aa ab ac : AE} {F H : Hp} {s : Ss} {σ : L2.St} {ts tu : TS} {as au : AS} {c : TT} {ac1 : AT}
def wipeS (s : Ss) : List Nat → Ss
  | [] => s
  | v :: vs => (wipeS s vs).set v .no
theorem wipeS_len (s : Ss) : ∀ vs, (wipeS s vs).length = s.length
  | [] => rfl
  | v :: vs => by
    show ((wipeS s vs).set v .no).length = s.length
    rw [List.length_set, wipeS_len s vs]
theorem wipeS_in {s : Ss} {i : Nat} {l : Sl} : ∀ {vs : List Nat}, (wipeS s vs)[i]? = some l → (i ∈ vs → l = .no) ∧ (i ∉ vs → s[i]? = some l)
  | [], h => by
    refine ⟨fun z => ?_, fun _ => h⟩
    cases z
  | v :: vs, h => by
    have h2 : ((wipeS s vs).set v .no)[i]? = some l := h
    rw [List.getElem?_set] at h2
    by_cases e : v = i
    · subst e
      rw [if_pos rfl] at h2
      split at h2
      · cases h2
        exact ⟨fun _ => rfl, fun z => absurd (List.mem_cons_self) z⟩
      · cases h2
    · rw [if_neg e] at h2
      obtain ⟨g1, g2⟩ := wipeS_in h2
      refine ⟨fun z => ?_, fun z => g2 fun y => z (List.mem_cons_of_mem _ y)⟩
      rcases List.mem_cons.mp z with y | y
      · exact absurd y.symm e
      · exact g1 y
theorem wipe_in {σ : L2.St} {i : Nat} : ∀ {vs : List Nat}, i ∈ vs → i < σ.length → (wipe σ vs)[i]? = some none
  | [], h, _ => by cases h
  | v :: vs, h, hl => by
    show ((wipe σ vs).set v none)[i]? = some none
    rw [List.getElem?_set]
    by_cases e : v = i
    · rw [if_pos e, if_pos (by rw [wipe_length, e]; exact hl)]
    · rw [if_neg e]
      rcases List.mem_cons.mp h with y | y
      · exact absurd y.symm e
      · exact wipe_in y hl
theorem own_wipe {s : Ss} {vs : List Nat} {p : Addr} (h : Own (wipeS s vs) p) : Own s p := by
  obtain ⟨i, l, e, hp⟩ := h
  obtain ⟨g1, g2⟩ := wipeS_in e
  by_cases hi : i ∈ vs
  · rw [g1 hi, fp_no] at hp
    cases hp
  · exact ⟨i, l, g2 hi, hp⟩
/-- the slots vs are empty -/
def Wiped (s : Ss) (vs : List Nat) : Prop := ∀ i l, i ∈ vs → s[i]? = some l → l = .no
theorem wiped_wipe (s : Ss) (vs : List Nat) : Wiped (wipeS s vs) vs := fun i l hi e => (wipeS_in e).1 hi
theorem StOk.into {vs : List Nat} (ok : StOk K F H σ s) (w : Wiped s vs) : StOk K F H (wipe σ vs) s where
  le := ok.le
  len := by rw [wipe_length, ok.len]
  ok := fun i l o h1 h2 => by
    by_cases hi : i ∈ vs
    · rw [w i l hi h1]
      unfold SlOk
      trivial
    · rw [wipe_out hi] at h2
      exact ok.ok i l o h1 h2
  un := ok.un
  nd := ok.nd
theorem StOk.outof {vs : List Nat} {σ2 : L2.St} (ok : StOk K F H σ2 s) (hl : σ2.length = σ.length) (e : ∀ j, j ∉ vs → σ2[j]? = σ[j]?) : StOk K F H σ (wipeS s vs) where
  le := ok.le
  len := by rw [wipeS_len, ← hl, ok.len]
  ok := fun i l o h1 h2 => by
    obtain ⟨g1, g2⟩ := wipeS_in h1
    by_cases hi : i ∈ vs
    · rw [g1 hi]
      unfold SlOk
      trivial
    · exact ok.ok i l o (g2 hi) (by rw [e i hi]; exact h2)
  un := fun i j l m p h1 h2 p1 p2 => by
    obtain ⟨g1, g2⟩ := wipeS_in h1
    obtain ⟨k1, k2⟩ := wipeS_in h2
    by_cases hi : i ∈ vs
    · rw [g1 hi, fp_no] at p1
      cases p1
    · by_cases hj : j ∈ vs
      · rw [k1 hj, fp_no] at p2
        cases p2
      · exact ok.un i j l m p (g2 hi) (k2 hj) p1 p2
  nd := fun i l h1 => by
    obtain ⟨g1, g2⟩ := wipeS_in h1
    by_cases hi : i ∈ vs
    · rw [g1 hi, fp_no]
      exact List.nodup_nil
    · exact ok.nd i l (g2 hi)
theorem Step.outof {vs : List Nat} {σ2 : L2.St} {s2 : Ss} {F2 H2 : Hp} (st : Step K s F H s2 F2 H2 σ2) (hl : σ2.length = σ.length) (e : ∀ j, j ∉ vs → σ2[j]? = σ[j]?) : Step K s F H (wipeS s2 vs) F2 H2 σ :=
  ⟨st.st.outof hl e, st.f, st.k, st.t, st.n, fun p h => st.o p (own_wipe h)⟩
theorem wipe_eq {σ2 : L2.St} {vs : List Nat} (hl : σ2.length = (wipe σ vs).length) (e : ∀ j, j ∉ vs → σ2[j]? = (wipe σ vs)[j]?) : wipe σ2 vs = wipe σ vs := by
  rw [wipe_length] at hl
  refine List.ext_getElem? fun i => ?_
  by_cases hi : i ∈ vs
  · by_cases hk : i < σ.length
    · rw [wipe_in hi hk, wipe_in hi (by rw [hl]; exact hk)]
    · rw [List.getElem?_eq_none (by rw [wipe_length]; omega), List.getElem?_eq_none (by rw [wipe_length]; omega)]
  · rw [wipe_out hi, e i hi]
def aLcD (g : AG) (t : AT) (e : AE) (vs : List Nat) : List D → Ss → List D → (List D → Ss → Prop) → Prop
  | [], s, acc, P => P acc s
  | d :: ds, s, acc, P => g d s fun s1 => t s1 fun b s2 => if b = true then e s2 fun r s3 => acc.length < 100000 ∧ aLcD g t e vs ds (wipeS s3 vs) (acc ++ [r.d]) P else aLcD g t e vs ds (wipeS s2 vs) acc P
def aLc (i : AI) (g : AG) (t : AT) (e : AE) (vs : List Nat) : AE := fun s P => i s fun ds s1 => ∀ p, aLcD g t e vs ds (wipeS s1 vs) [] fun acc s2 => P (.ow p acc) s2
/-- what stands of a comprehension between two turns -/
structure LcAt (K : PySem.W.Frag) (s : Ss) (F H : Hp) (σ : L2.St) (p : Addr) (F1 : Hp) (vs : List Nat) (s' : Ss) (F' H' : Hp) (acc : List D) : Prop where
  st : Step K s F H s' F' H' σ
  f : Same F1 F'
  pf : F' p = none
  po : ¬ Own s' p
  pl : ∃ us, H' p = some (.lst us) ∧ DqA K F' acc us
  w : Wiped s' vs
theorem LcAt.next {p : Addr} {F1 : Hp} {vs : List Nat} {s' s2 : Ss} {F' H' F2 H2 : Hp} {acc : List D} {σ2 : L2.St} (hp : H p = none) (x : LcAt K s F H σ p F1 vs s' F' H' acc) (st : Step K s' F' H' s2 F2 H2 σ2) (hl : σ2.length = σ.length) (e : ∀ j, j ∉ vs → σ2[j]? = σ[j]?) :
    LcAt K s F H σ p F1 vs (wipeS s2 vs) F2 H2 acc ∧ ∀ acc' us, DqA K F2 acc' us → LcAt K s F H σ p F1 vs (wipeS s2 vs) F2 (upd H2 p (.lst us)) acc' := by
  obtain ⟨us, g1, g2⟩ := x.pl
  have q1 : H2 p = some (.lst us) := st.k p _ g1 (fun _ z => by cases z) x.po
  have q2 : F2 p = none := (st.unf x.pf g1 (fun _ z => by cases z) x.po).1
  have q3 : ¬ Own (wipeS s2 vs) p := fun z => by
    rcases st.o p (own_wipe z) with y | y
    · exact x.po y
    · rw [g1] at y
      cases y
  have st2 : Step K s F H (wipeS s2 vs) F2 H2 σ := x.st.trans (st.outof hl e)
  refine ⟨⟨st2, x.f.trans st.f, q2, q3, ⟨us, q1, DqA.mono st.f _ _ g2⟩, wiped_wipe _ _⟩, fun acc' us' hd => ⟨⟨⟨st2.st.le.chg (S := fun b => b = p) (fun b hb => by cases hb; exact ⟨q2, _, q1, trivial⟩) (fun b o hb q => by rw [upd_ne hb]; exact q), st2.st.len, fun i l o z1 z2 => ?_, st2.st.un, st2.st.nd⟩, st2.f, fun b o q nt hn => ?_, fun b q => ?_, st2.n, st2.o⟩, x.f.trans st.f, q2, q3, ⟨us', upd_same, hd⟩, wiped_wipe _ _⟩⟩
  · refine SlOk.mono l (Same.refl _) (fun q hq u _ w1 w2 => ⟨w1, ?_⟩) (st2.st.ok i l o z1 z2)
    rw [upd_ne fun z => q3 ⟨i, l, z1, by rw [← z]; exact hq⟩]
    exact w2
  · rw [upd_ne (ne_of_none q hp)]
    exact st2.k b o q nt hn
  · by_cases hb : b = p
    · subst hb
      exact hp
    · rw [upd_ne hb] at q
      exact st2.t b q
theorem sim_lc {wi : TI} {ai : AI} {g : TG} {ag : AG} {L : List Nat} {vs : List Nat} (hi : SimI K wi ai) (hg : SimG K g ag L) (hL : ∀ j, j ∈ L → j ∈ vs) (ht : SimT K c ac1) (he : Sim K te a) : Sim K (tLc wi g c te vs) (aLc ai ag ac1 a vs) := fun s P q σ F H ok Q k => by
  refine hi s _ q σ F H ok _ fun ds s1 J F1 H1 q1 st1 hy p hp => ?_
  obtain ⟨G, Y, w, hG, hY⟩ := hy
  have hp0 : H p = none := st1.t p hp
  have no1 : ¬ Own s1 p := fun z => by
    obtain ⟨_, us, e⟩ := st1.st.own z
    rw [hp] at e
    cases e
  have f1 : F1 p = none := st1.st.le.free hp
  have start : LcAt K s F H σ p F1 vs (wipeS s1 vs) F1 (upd H1 p (.lst [])) [] := by
    have st2 : Step K s F H (wipeS s1 vs) F1 H1 σ := ⟨st1.st.outof rfl fun _ _ => rfl, st1.f, st1.k, st1.t, st1.n, fun p h => st1.o p (own_wipe h)⟩
    obtain ⟨st3, _⟩ := st2.leaf (Lf.newL (xs := []) st2.st.le hp rfl)
    exact ⟨st3, Same.refl _, f1, fun z => no1 (own_wipe z), ⟨[], upd_same, rfl⟩, wiped_wipe _ _⟩
  refine lc_it w (fun i H' => ∃ s' F' acc, aLcD ag ac1 a vs (ds.drop i) s' acc (fun acc s2 => P (.ow p acc) s2) ∧ LcAt K s F H σ p F1 vs s' F' H' acc) ⟨wipeS s1 vs, F1, [], by rw [List.drop_zero]; exact q1 p, start⟩ (fun i H' hi ⟨s', F', acc, _, x⟩ => hG H' (x.f.trans x.st.st.le)) ?_ ?_
  · rintro i v H' H2 hi ⟨s', F', acc, qq, x⟩ y
    have ed : ds.drop i = ds[i] :: ds.drop (i + 1) := List.drop_eq_getElem_cons hi
    rw [ed] at qq
    obtain ⟨F2, l⟩ := hY i H' v H2 (x.f.trans x.st.st.le) y ds[i] (List.getElem?_eq_getElem hi) F' x.f x.st.st.le
    obtain ⟨stl, rsl⟩ := (Step.refl (x.st.st.into x.w)).leaf l
    obtain ⟨w2, e1, e2⟩ := slok_pu.mp rsl.ok
    cases e1
    refine hg _ s' _ qq v (wipe σ vs) F2 H2 stl.st e2 _ fun s3 σ3 q3 st3 e3 l3 => ⟨wipe_eq l3 fun j hj => e3 j fun z => hj (hL j z), ?_⟩
    have st23 := stl.trans st3
    have hlen : σ3.length = σ.length := by rw [l3, wipe_length]
    have hout : ∀ j, j ∉ vs → σ3[j]? = σ[j]? := fun j hj => by rw [e3 j fun z => hj (hL j z), wipe_out hj]
    refine ht s3 _ q3 σ3 F2 H2 st3.st _ fun b s4 F4 H4 q4 st4 => ?_
    cases b with
    | false =>
      obtain ⟨x2, _⟩ := x.next hp0 (st23.trans st4) hlen hout
      exact ⟨wipeS s4 vs, F4, acc, q4, x2⟩
    | true =>
      refine he.d q4 st4.st fun r s5 v5 F5 H5 q5 st5 d5 => ?_
      have stA := (st23.trans st4).trans st5
      obtain ⟨x2, x3⟩ := x.next hp0 stA hlen hout
      obtain ⟨us, g1, g2⟩ := x2.pl
      refine ⟨us, g1, by rw [g2.length]; exact sz_lt q5.1, wipeS s5 vs, F5, _, q5.2, x3 _ _ (g2.append ⟨v5, [], rfl, d5, rfl⟩)⟩
  · rintro H' ⟨s', F', acc, qq, x⟩
    rw [List.drop_length] at qq
    obtain ⟨us, g1, g2⟩ := x.pl
    refine k _ s' (.ref p) F' H' qq x.st ⟨slok_ow.mpr ⟨rfl, x.pf, us, g1, g2⟩, fun q hq => ?_, by rw [fp_ow]; exact List.pairwise_singleton _ _⟩
    cases mem_ow.mp hq
    exact ⟨.inl hp0, x.po⟩
def aYes : AT := fun s P => P true s
theorem simt_yes : SimT K tYes aYes := fun s P q σ F H ok Q k => k true s F H q (.refl ok)
/-- a def that takes data alone and changes none: n parameters, S what it does -/
def spD (K : PySem.W.Frag) (n : Nat) (S : ARC) : Sp := fun vs H Q _ => ∃ F ds P, Le F H ∧ DqA K F ds vs ∧ ds.length = n ∧ S ds P ∧ ∀ rs v F' H', P rs → Lf K F H rs v F' H' → Q v H'
def aFn (n : Nat) (S : ARC) : ARC := fun ds P => ds.length = n ∧ S ds P
theorem rc_fn {n : Nat} {S : ARC} {E : XK} : RC K (fun vs H Q => spD K n S (vs ++ []) H Q E) (aFn n S) := fun ds P q F H xs le dx Q k => by
  show spD K n S (xs ++ []) H Q E
  rw [List.append_nil]
  exact ⟨F, ds, P, le, dx, q.1, q.2, k⟩
theorem sim_call {n : Nat} {S : ARC} {t : TA} {a : AA} {E : XK} (ha : SimA K t a) : Sim K (tCall (spD K n S) [] E t) (aCall (aFn n S) a) := sim_cb (r := fun vs H Q => spD K n S (vs ++ []) H Q E) rc_fn ha
/-- the same object -/
def root : Sl → Option Addr
  | .ow p _ => some p
  | .nd p _ _ => some p
  | _ => none
theorem root_v {l : Sl} {p : Addr} {o : Option V} {F H : Hp} (h : SlOk K F H l o) (e : root l = some p) : o = some (.ref p) := by
  cases l with
  | no => cases e
  | pu d => cases e
  | ow q xs =>
    cases e
    exact (slok_ow.mp h).1
  | nd q k ts =>
    cases e
    exact (slok_nd.mp h).1
/-- a def whose first parameter is a tree that it may change: what it does, from the tree, the other arguments; to the result and the tree behind -/
abbrev ART := Sl → List D → (Sl → Sl → Prop) → Prop
structure Lt (K : PySem.W.Frag) (l : Sl) (v0 : V) (F H : Hp) (r : Sl) (v : V) (l' : Sl) (F' H' : Hp) : Prop where
  f : Same F F'
  h : ∀ a o, a ∉ fp l → H a = some o → (∀ ps, o ≠ .tbl ps) → H' a = some o
  t : ∀ a, H' a = none → H a = none
  m : SlOk K F' H' l' (some v0)
  mn : (fp l').Nodup
  mf : ∀ a, a ∈ fp l' → a ∈ fp l ∨ H a = none
  le : Le F' H'
  n : ∀ a, F' a ≠ none → F a ≠ none ∨ H a = none ∨ a ∈ fp l
  ok : SlOk K F' H' r (some v)
  fr : ∀ a, a ∈ fp r → (a ∈ fp l ∨ H a = none) ∧ a ∉ fp l'
  nd : (fp r).Nodup
def spT (K : PySem.W.Frag) (n : Nat) (S : ART) : Sp := fun vs H Q _ => ∃ F l v0 ds ws P, vs = v0 :: ws ∧ Le F H ∧ SlOk K F H l (some v0) ∧ (fp l).Nodup ∧ DqA K F ds ws ∧ ds.length + 1 = n ∧ S l ds P ∧
  ∀ rs l' v F' H', P rs l' → Lt K l v0 F H rs v l' F' H' → Q v H'
/-- behind a call with a slot's tree -/
theorem Step.called {s1 : Ss} {F1 H1 F2 H2 : Hp} {j : Nat} {l l' rs : Sl} {v0 v : V} (st : Step K s F H s1 F1 H1 σ) (e : s1[j]? = some l) (hv : σ[j]? = some (some v0)) (x : Lt K l v0 F1 H1 rs v l' F2 H2) :
    Step K s F H (s1.set j l') F2 H2 σ ∧ Rs K s H F2 H2 (s1.set j l') rs v := by
  have un : ∀ b u, b ∉ fp l → F1 b = none → H1 b = some u → F2 b = none := fun b u hb h1 h2 => by
    cases z : F2 b with
    | none => rfl
    | some o =>
      rcases x.n b (by rw [z]; intro y; cases y) with y | y | y
      · exact absurd h1 y
      · rw [h2] at y
        cases y
      · exact absurd y hb
  have keep : ∀ (i : Nat) (l2 : Sl) (q : Addr), i ≠ j → s1[i]? = some l2 → q ∈ fp l2 → q ∉ fp l := fun i l2 q h1 h2 h3 h4 => h1 (st.st.un i j l2 l q h2 e h3 h4)
  have stp : Step K s1 F1 H1 (s1.set j l') F2 H2 σ := by
    refine ⟨⟨x.le, by rw [List.length_set, st.st.len], fun i l2 o w1 w2 => ?_, fun i m l2 l3 q w1 w2 p1 p2 => ?_, fun i l2 w1 => ?_⟩, x.f, fun b o w1 nt w2 => x.h b o (fun z => w2 ⟨j, l, e, z⟩) w1 nt, x.t, fun b w1 => ?_, fun b w1 => ?_⟩
    · rcases set_get w1 with ⟨rfl, rfl, hl⟩ | ⟨e3, h5⟩
      · rw [hv] at w2
        cases w2
        exact x.m
      · refine SlOk.mono l2 x.f (fun q hq u hd z1 z2 => ?_) (st.st.ok i l2 o h5 w2)
        have nq := keep i l2 q (fun z => e3 z.symm) h5 hq
        exact ⟨un q u nq z1 z2, x.h q u nq z2 hd.tbl⟩
    · rcases set_get w1 with ⟨rfl, rfl, hl⟩ | ⟨e3, h5⟩
      · rcases set_get w2 with ⟨rfl, rfl, hl⟩ | ⟨e4, h6⟩
        · rfl
        · rcases x.mf q p1 with y | y
          · exact absurd y (keep m l3 q (fun z => e4 z.symm) h6 p2)
          · obtain ⟨_, u, hu⟩ := st.st.own ⟨m, l3, h6, p2⟩
            rw [y] at hu
            cases hu
      · rcases set_get w2 with ⟨rfl, rfl, hl⟩ | ⟨e4, h6⟩
        · rcases x.mf q p2 with y | y
          · exact absurd y (keep i l2 q (fun z => e3 z.symm) h5 p1)
          · obtain ⟨_, u, hu⟩ := st.st.own ⟨i, l2, h5, p1⟩
            rw [y] at hu
            cases hu
        · exact st.st.un i m l2 l3 q h5 h6 p1 p2
    · rcases set_get w1 with ⟨rfl, rfl, hl⟩ | ⟨e3, h5⟩
      · exact x.mn
      · exact st.st.nd i l2 h5
    · rcases x.n b w1 with y | y | y
      · exact .inl y
      · exact .inr (.inl y)
      · exact .inr (.inr ⟨j, l, e, y⟩)
    · rcases own_set w1 with y | y
      · exact .inl y
      · rcases x.mf b y with z | z
        · exact .inl ⟨j, l, e, z⟩
        · exact .inr z
  refine ⟨st.trans stp, ⟨x.ok, fun a ha => ?_, x.nd⟩⟩
  obtain ⟨h1, h2⟩ := x.fr a ha
  refine ⟨?_, fun w => ?_⟩
  · rcases h1 with y | y
    · rcases st.o a ⟨j, l, e, y⟩ with z | z
      · exact .inr z
      · exact .inl z
    · exact .inl (st.t a y)
  · obtain ⟨i, l2, w1, w2⟩ := w
    rcases set_get w1 with ⟨rfl, rfl, hl⟩ | ⟨e3, h5⟩
    · exact h2 w2
    · rcases h1 with y | y
      · exact keep i l2 a (fun z => e3 z.symm) h5 w2 y
      · obtain ⟨_, u, hu⟩ := st.st.own ⟨i, l2, h5, w2⟩
        rw [y] at hu
        cases hu
/-- the same where the tree is a list of data -/
abbrev ARM := List D → List D → (Sl → List D → Prop) → Prop
def artM (S : ARM) : ART := fun l ds P => ∃ p xs, l = .ow p xs ∧ S xs ds fun r xs' => P r (.ow p xs')
abbrev spM (K : PySem.W.Frag) (n : Nat) (S : ARM) : Sp := spT K n (artM S)
def aCallM (n : Nat) (j : Nat) (S : ARM) (a : AA) : AE := fun s P => match s[j]? with
  | some (.ow p0 _) => a s fun ds s1 => match s1[j]? with
    | some (.ow p xs) => p = p0 ∧ ds.length + 1 = n ∧ S xs ds fun rs xs' => P rs (s1.set j (.ow p xs'))
    | _ => False
  | _ => False
theorem sim_callM {n j : Nat} {S : ARM} {t : TA} {a : AA} {E : XK} (ha : SimA K t a) : Sim K (tCall (spM K n S) [] E (tCons (tVar j) t)) (aCallM n j S a) := fun s P q σ F H ok Q k => by
  unfold aCallM at q
  cases e : s[j]? with
  | none =>
    rw [e] at q
    exact q.elim
  | some l =>
    rw [e] at q
    obtain ⟨o, h1, h2⟩ := ok.get e
    cases l with
    | no => exact q.elim
    | pu d => exact q.elim
    | nd _ _ _ => exact q.elim
    | ow p xs =>
      obtain ⟨rfl, _⟩ := slok_ow.mp h2
      refine ⟨.ref p, h1, ?_⟩
      refine ha s _ q σ F H ok _ fun ds s1 ws F1 H1 q1 st1 d1 => ?_
      cases e2 : s1[j]? with
      | none =>
        rw [e2] at q1
        exact q1.elim
      | some l1 =>
        rw [e2] at q1
        cases l1 with
        | no => exact q1.elim
        | pu d => exact q1.elim
        | nd _ _ _ => exact q1.elim
        | ow p1 xs1 =>
          obtain ⟨rfl, hn, hS⟩ := q1
          have hl := st1.st.ok j _ _ e2 h1
          show spM K n S ((V.ref p1 :: ws) ++ []) H1 Q E
          rw [List.append_nil]
          refine ⟨F1, _, _, ds, ws, fun rs l' => P rs (s1.set j l'), rfl, st1.st.le, hl, st1.st.nd j _ e2, d1, hn, ⟨_, _, rfl, hS⟩, fun rs l' v F2 H2 hP x => ?_⟩
          obtain ⟨st2, rs2⟩ := st1.called e2 h1 x
          exact k rs _ v F2 H2 hP st2 rs2
def startS (N : Nat) (l : List Sl) : Ss := l ++ List.replicate (N - l.length) .no
theorem start_get {N m : Nat} {ls : List Sl} {l : Sl} (h : (startS N ls)[m]? = some l) : ls[m]? = some l ∨ l = .no := by
  unfold startS at h
  by_cases hi : m < ls.length
  · rw [List.getElem?_append_left hi] at h
    exact .inl h
  · rw [List.getElem?_append_right (by omega), List.getElem?_replicate] at h
    split at h
    · cases h
      exact .inr rfl
    · cases h
theorem start_ok {N : List Str} {vs : List V} {ls : List Sl} (le : Le F H) (hl : vs.length = ls.length) (ok : ∀ (i : Nat) (l : Sl) (v : V), ls[i]? = some l → vs[i]? = some v → SlOk K F H l (some v))
    (un : ∀ (i j : Nat) (l m : Sl) (p : Addr), ls[i]? = some l → ls[j]? = some m → p ∈ fp l → p ∈ fp m → i = j) (nd : ∀ (i : Nat) (l : Sl), ls[i]? = some l → (fp l).Nodup) : StOk K F H (L2.start N vs) (startS N.length ls) where
  le := le
  len := by
    unfold L2.start startS
    rw [List.length_append, List.length_append, List.length_map, List.length_replicate, List.length_replicate, hl]
  ok := fun i l o h1 h2 => by
    rcases start_get h1 with h1 | rfl
    · unfold L2.start at h2
      have hi : i < ls.length := (List.getElem?_eq_some_iff.mp h1).1
      rw [List.getElem?_append_left (by rw [List.length_map, hl]; exact hi), List.getElem?_map] at h2
      cases e : vs[i]? with
      | none =>
        rw [e] at h2
        cases h2
      | some v =>
        rw [e] at h2
        cases h2
        exact ok i l v h1 e
    · unfold SlOk
      trivial
  un := fun i j l m p h1 h2 p1 p2 => by
    rcases start_get h1 with h1 | rfl
    · rcases start_get h2 with h2 | rfl
      · exact un i j l m p h1 h2 p1 p2
      · rw [fp_no] at p2
        cases p2
    · rw [fp_no] at p1
      cases p1
  nd := fun i l h1 => by
    rcases start_get h1 with h1 | rfl
    · exact nd i l h1
    · rw [fp_no]
      exact List.nodup_nil
theorem own_start {N : Nat} {ls : List Sl} {p : Addr} (h : Own (startS N ls) p) : ∃ (i : Nat) (l : Sl), ls[i]? = some l ∧ p ∈ fp l := by
  obtain ⟨i, l, h, hp⟩ := h
  rcases start_get h with h1 | rfl
  · exact ⟨i, l, h1, hp⟩
  · rw [fp_no] at hp
    cases hp
def endsD (P : Sl → Prop) : AEnds := ⟨fun _ => P (.pu .non), fun r _ => P r, fun _ => False, fun _ => False⟩
/-- the tree of slot 0 is handed back -/
def endsT (P : Sl → Sl → Prop) (p : Addr) : AEnds := ⟨fun s => ∃ l, s[0]? = some l ∧ root l = some p ∧ P (.pu .non) l, fun r s => ∃ l, s[0]? = some l ∧ root l = some p ∧ P r l, fun _ => False, fun _ => False⟩
def endsM (P : Sl → List D → Prop) (p : Addr) : AEnds := ⟨fun s => ∃ xs, s[0]? = some (.ow p xs) ∧ P (.pu .non) xs, fun r s => ∃ xs, s[0]? = some (.ow p xs) ∧ P r xs, fun _ => False, fun _ => False⟩
end
section
variable {P : Program} {w : World} {K : PySem.W.Frag} {mg : Str → Option Value} {base : Heap}
/-- what a def's body comes to: data alone -/
theorem endD {N : List Str} {vs : List V} {F H : Hp} {n : Nat} {S : ARC} {ts : TS} {as : AS} {Q : VK} {E : XK} (h2 : SimS K ts as) (h3 : ∀ ds Q, ds.length = n → S ds Q → as (endsD Q) (startS N.length (ds.map .pu)))
    (h : spD K n S vs H Q E) : ts { nx := fun _ H' => Q .non H', rt := Q } (L2.start N vs) H := by
  obtain ⟨F, ds, R, le, dx, hl, hS, kq⟩ := h
  have pus : ∀ (i : Nat) (l : Sl), (ds.map Sl.pu)[i]? = some l → ∃ d, ds[i]? = some d ∧ l = .pu d := fun i l e => by
    rw [List.getElem?_map] at e
    cases e1 : ds[i]? with
    | none =>
      rw [e1] at e
      cases e
    | some d =>
      rw [e1] at e
      cases e
      exact ⟨d, rfl, rfl⟩
  have ok0 : StOk K F H (L2.start N vs) (startS N.length (ds.map .pu)) := by
    refine start_ok le (by rw [List.length_map, dx.length]) (fun i l v e1 e2 => ?_) (fun i j l m p e1 e2 p1 p2 => ?_) fun i l e1 => ?_
    · obtain ⟨d, e, rfl⟩ := pus i l e1
      obtain ⟨v2, g1, g2⟩ := dx.get e
      rw [e2] at g1
      cases g1
      exact slok_pu.mpr ⟨v, rfl, g2⟩
    · obtain ⟨d, e, rfl⟩ := pus i l e1
      rw [fp_pu] at p1
      cases p1
    · obtain ⟨d, e, rfl⟩ := pus i l e1
      rw [fp_pu]
      exact List.nodup_nil
  have no : ∀ p, ¬ Own (startS N.length (ds.map .pu)) p := fun p z => by
    obtain ⟨i, l, e1, hp⟩ := own_start z
    obtain ⟨d, e, rfl⟩ := pus i l e1
    rw [fp_pu] at hp
    cases hp
  have fin : ∀ r s' v σ' F' H', R r → Step K (startS N.length (ds.map .pu)) F H s' F' H' σ' → Rs K (startS N.length (ds.map .pu)) H F' H' s' r v → Q v H' := fun r s' v σ' F' H' q st rs =>
    kq r v F' H' q ⟨st.f, ⟨fun a o e nt => st.k a o e nt (no a), st.t⟩, st.st.le, fun a z => by
      rcases st.n a z with y | y | y
      · exact .inl y
      · exact .inr y
      · exact absurd y (no a), rs.ok, fun p hp => by
      rcases (rs.fr p hp).1 with y | y
      · exact y
      · exact absurd y (no p), rs.nd⟩
  exact h2 _ _ (h3 ds R hl hS) (L2.start N vs) F H ok0 _ (fun s' σ' F' H' q st => fin (.pu .non) s' .non σ' F' H' q st (.pu rfl)) (fun r s' σ' v F' H' q st rs => fin r s' v σ' F' H' q st rs) (fun _ _ _ _ q _ => q.elim) (fun _ _ _ _ q _ => q.elim)
/-- what a def's body comes to: the first parameter a tree -/
theorem endTC {N : List Str} {vs : List V} {H : Hp} {n : Nat} {S : ART} {ts : TS} {as : AS} {Q : VK} {E : XK} (h2 : SimS K ts as)
    (h3 : ∀ l ds Q p, ds.length + 1 = n → root l = some p → S l ds Q → ∃ A : AEnds, (∀ s, A.nx s → (endsT Q p).nx s) ∧ (∀ r s, A.rt r s → (endsT Q p).rt r s) ∧ (∀ s, ¬ A.bk s) ∧ (∀ s, ¬ A.ct s) ∧ as A (startS N.length (l :: ds.map .pu)))
    (hrt : ∀ l ds Q, S l ds Q → (root l).isSome = true) (h : spT K n S vs H Q E) : ts { nx := fun _ H' => Q .non H', rt := Q } (L2.start N vs) H := by
  obtain ⟨F, l0, v0, ds, ws, R, rfl, le, hl0, hn0, dx, hl, hS, kq⟩ := h
  obtain ⟨p, hp⟩ := Option.isSome_iff_exists.mp (hrt _ _ _ hS)
  have pus : ∀ (i : Nat) (l : Sl), (l0 :: ds.map Sl.pu)[i]? = some l → (i = 0 ∧ l = l0) ∨ (∃ j d, i = j + 1 ∧ ds[j]? = some d ∧ l = .pu d) := fun i l e => by
    cases i with
    | zero =>
      cases e
      exact .inl ⟨rfl, rfl⟩
    | succ i =>
      have e : (ds.map Sl.pu)[i]? = some l := by simpa using e
      rw [List.getElem?_map] at e
      cases e1 : ds[i]? with
      | none =>
        rw [e1] at e
        cases e
      | some d =>
        rw [e1] at e
        cases e
        exact .inr ⟨i, d, rfl, e1, rfl⟩
  have ok0 : StOk K F H (L2.start N (v0 :: ws)) (startS N.length (l0 :: ds.map .pu)) := by
    refine start_ok le (by rw [List.length_cons, List.length_cons, List.length_map, dx.length]) (fun i l v e1 e2 => ?_) (fun i j l m p e1 e2 p1 p2 => ?_) fun i l e1 => ?_
    · rcases pus i l e1 with ⟨rfl, rfl⟩ | ⟨j, d, rfl, e, rfl⟩
      · cases e2
        exact hl0
      · have e2 : ws[j]? = some v := by simpa using e2
        obtain ⟨v2, g1, g2⟩ := dx.get e
        rw [e2] at g1
        cases g1
        exact slok_pu.mpr ⟨v, rfl, g2⟩
    · rcases pus i l e1 with ⟨rfl, rfl⟩ | ⟨k, d, rfl, e, rfl⟩
      · rcases pus j m e2 with ⟨rfl, rfl⟩ | ⟨k, d, rfl, e, rfl⟩
        · rfl
        · rw [fp_pu] at p2
          cases p2
      · rw [fp_pu] at p1
        cases p1
    · rcases pus i l e1 with ⟨rfl, rfl⟩ | ⟨k, d, rfl, e, rfl⟩
      · exact hn0
      · rw [fp_pu]
        exact List.nodup_nil
  have ow1 : ∀ q, Own (startS N.length (l0 :: ds.map .pu)) q → q ∈ fp l0 := fun q z => by
    obtain ⟨i, l, e1, hq⟩ := own_start z
    rcases pus i l e1 with ⟨rfl, rfl⟩ | ⟨k, d, rfl, e, rfl⟩
    · exact hq
    · rw [fp_pu] at hq
      cases hq
  have own0 : ∀ q, q ∈ fp l0 → Own (startS N.length (l0 :: ds.map .pu)) q := fun q hq => ⟨0, l0, by
    unfold startS
    rfl, hq⟩
  have ev := root_v hl0 hp
  have fin : ∀ r s' v σ' F' H', (∃ l, s'[0]? = some l ∧ root l = some p ∧ R r l) → Step K (startS N.length (l0 :: ds.map .pu)) F H s' F' H' σ' → Rs K (startS N.length (l0 :: ds.map .pu)) H F' H' s' r v → Q v H' := fun r s' v σ' F' H' q st rs => by
    obtain ⟨l, e0, er, q⟩ := q
    obtain ⟨o, _, g1⟩ := st.st.get e0
    have go := root_v g1 er
    rw [go, ← ev] at g1
    refine kq r l v F' H' q ⟨st.f, fun a o ha z nt => st.k a o z nt fun y => ha (ow1 a y), st.t, g1, st.st.nd 0 l e0, fun a ha => ?_, st.st.le, fun a z => ?_, rs.ok, fun a ha => ?_, rs.nd⟩
    · rcases st.o a ⟨0, l, e0, ha⟩ with y | y
      · exact .inl (ow1 a y)
      · exact .inr y
    · rcases st.n a z with y | y | y
      · exact .inl y
      · exact .inr (.inl y)
      · exact .inr (.inr (ow1 a y))
    · obtain ⟨y1, y2⟩ := rs.fr a ha
      refine ⟨?_, fun z => y2 ⟨0, l, e0, z⟩⟩
      rcases y1 with y | y
      · exact .inr y
      · exact .inl (ow1 a y)
  obtain ⟨A, a1, a2, a3, a4, a5⟩ := h3 l0 ds R p hl hp hS
  exact h2 _ _ a5 (L2.start N (v0 :: ws)) F H ok0 _ (fun s' σ' F' H' q st => fin (.pu .non) s' .non σ' F' H' (a1 _ q) st (.pu rfl)) (fun r s' σ' v F' H' q st rs => fin r s' v σ' F' H' (a2 _ _ q) st rs) (fun _ _ _ _ q _ => (a3 _ q).elim) (fun _ _ _ _ q _ => (a4 _ q).elim)
theorem endM {N : List Str} {vs : List V} {H : Hp} {n : Nat} {S : ARM} {ts : TS} {as : AS} {Q : VK} {E : XK} (h2 : SimS K ts as)
    (h3 : ∀ xs ds Q p, ds.length + 1 = n → S xs ds Q → as (endsM Q p) (startS N.length (.ow p xs :: ds.map .pu)))
    (h : spM K n S vs H Q E) : ts { nx := fun _ H' => Q .non H', rt := Q } (L2.start N vs) H :=
  endTC h2 (fun l ds Q p h1 h4 h5 => by
    obtain ⟨q, xs, rfl, h6⟩ := h5
    cases h4
    exact ⟨endsM (fun r xs' => Q r (.ow p xs')) p, fun s ⟨xs, e, z⟩ => ⟨_, e, rfl, z⟩, fun r s ⟨xs, e, z⟩ => ⟨_, e, rfl, z⟩, fun _ z => z, fun _ z => z, h3 xs ds _ p h1 h6⟩) (fun l ds Q ⟨q, xs, e, _⟩ => by rw [e]; rfl) h
theorem spD_len {n : Nat} {S : ARC} {vs : List V} {H : Hp} {Q : VK} {E : XK} (h : spD K n S vs H Q E) : vs.length = n := by
  obtain ⟨F, ds, P, _, h1, h2, _⟩ := h
  rw [h1.length, h2]
theorem spT_len {n : Nat} {S : ART} {vs : List V} {H : Hp} {Q : VK} {E : XK} (h : spT K n S vs H Q E) : vs.length = n := by
  obtain ⟨F, l, v0, ds, ws, P, rfl, _, _, _, h1, h2, _⟩ := h
  rw [List.length_cons, h1.length, h2]
/-- THE RULE for a def over data -/
theorem okD {x qual : Str} {st : Stmt} {f : Addr} {fd : FuncData} {N ps : List Str} {k n : Nat} {S : ARC} (Fn : Fun K x qual st f fd) (Sc : FnScope N ps (defScope st)) (hn : ps.length = n)
    (hbody : ∀ (cdv : Value) (A : Around) (outer : List Env) (s : Shared) (H : Hp) (E : XK), (A.deeper (PyProof.Rows.envOfC qual (defScope st) s.heap.objs.size f cdv)).guards = some [] → Room k (A.deeper (PyProof.Rows.envOfC qual (defScope st) s.heap.objs.size f cdv)) → ∃ ts as, PSs (cxOf CX0 P w K mg base N qual (defScope st) f cdv A outer s H E).nox (defBody st) ts ∧ SimS K ts as ∧
      ∀ ds Q, ds.length = n → S ds Q → as (endsD Q) (startS N.length (ds.map .pu))) : GnOk P w K mg base CX0 (k + 1) f fd ps (spD K n S) := by
  refine gn_body Fn Sc (fun vs H Q E h => by rw [spD_len h, hn]) (fun cdv A outer s H vs Q E hgd hr h => ?_)
  obtain ⟨ts, as, h1, h2, h3⟩ := hbody cdv A outer s H E hgd hr
  exact ⟨ts, h1.nox, endD (F := H) h2 h3 h⟩
/-- THE RULE for a def whose first parameter is a list that it may change -/
theorem okM {x qual : Str} {st : Stmt} {f : Addr} {fd : FuncData} {N ps : List Str} {k n : Nat} {S : ARM} (Fn : Fun K x qual st f fd) (Sc : FnScope N ps (defScope st)) (hn : ps.length = n)
    (hbody : ∀ (cdv : Value) (A : Around) (outer : List Env) (s : Shared) (H : Hp) (E : XK), (A.deeper (PyProof.Rows.envOfC qual (defScope st) s.heap.objs.size f cdv)).guards = some [] → Room k (A.deeper (PyProof.Rows.envOfC qual (defScope st) s.heap.objs.size f cdv)) → ∃ ts as, PSs (cxOf CX0 P w K mg base N qual (defScope st) f cdv A outer s H E).nox (defBody st) ts ∧ SimS K ts as ∧
      ∀ xs ds Q p, ds.length + 1 = n → S xs ds Q → as (endsM Q p) (startS N.length (.ow p xs :: ds.map .pu))) : GnOk P w K mg base CX0 (k + 1) f fd ps (spM K n S) := by
  refine gn_body Fn Sc (fun vs H Q E h => by rw [spT_len h, hn]) (fun cdv A outer s H vs Q E hgd hr h => ?_)
  obtain ⟨ts, as, h1, h2, h3⟩ := hbody cdv A outer s H E hgd hr
  exact ⟨ts, h1.nox, endM h2 h3 h⟩
end
end DL
namespace DL
variable [Tabl]
open PySem L2
section
variable {K : PySem.W.Frag} {te ta tb tc : TE} {a aa ab ac : AE} {F H : Hp} {s : Ss} {σ : L2.St}
inductive TyN where
  | int | bool | str | tuple | list
def TyN.nm : TyN → String
  | .int => "int" | .bool => "bool" | .str => "str" | .tuple => "tuple" | .list => "list"
def tyD : D → Option String
  | .non => some "NoneType" | .bl _ => some "bool" | .int _ => some "int" | .str _ => some "str" | .tup _ => some "tuple" | .lst _ => some "list" | .scr _ => some "list" | .ob _ => none | .ins _ _ _ => none | .dk _ _ => some "dict" | .dt _ _ => some "dict" | .exc _ _ => none
def isi : TyN → D → Option Bool
  | _, .ob _ => none
  | _, .ins _ _ _ => none
  | _, .exc _ _ => none
  | .int, .int _ => some true
  | .int, .bl _ => some true
  | .bool, .bl _ => some true
  | .str, .str _ => some true
  | .tuple, .tup _ => some true
  | .list, .lst _ => some true
  | .list, .scr _ => some true
  | _, _ => some false
theorem ty_ok {d : D} {x : V} (le : Le F H) (h : Dq K F d x) {b : Bool} {T : TyN} (e : isi T d = some b) : ∃ t, tyD d = some t ∧ TyX K H x (.type t) := by
  cases d with
  | non =>
    cases (show x = _ from h)
    exact ⟨_, rfl, .base .non⟩
  | bl i =>
    cases (show x = _ from h)
    exact ⟨_, rfl, .base (.bl i)⟩
  | int i =>
    cases (show x = _ from h)
    exact ⟨_, rfl, .base (.int i)⟩
  | str i =>
    cases (show x = _ from h)
    exact ⟨_, rfl, .base (.str i)⟩
  | tup ds =>
    obtain ⟨a, xs, rfl, h1, _⟩ := h
    refine ⟨_, rfl, ?_⟩
    rcases h1 with (h1 | ⟨o, h1⟩) | ⟨o, its, n, h1, h2, _⟩
    · exact .base (.tup (le _ _ h1))
    · exact .fTuple (le _ _ h1)
    · exact .kTuple h1 h2
  | lst ds =>
    obtain ⟨a, xs, rfl, h1, _⟩ := h
    exact ⟨_, rfl, .base (.lst (le _ _ h1))⟩
  | scr ds =>
    obtain ⟨a, xs, rfl, h1, _⟩ := h
    refine ⟨_, rfl, ?_⟩
    rcases h1 with (h1 | ⟨o, h1⟩) | ⟨o, its, n, h1, h2, _⟩
    · exact .base (.lst (le _ _ h1))
    · exact .base (.frz (le _ _ h1))
    · exact .kList h1 h2
  | ob f => cases T <;> cases e
  | ins C ns ds => cases T <;> cases e
  | dk ks ds =>
    obtain ⟨a, xs, rfl, h1, _⟩ := h
    exact ⟨_, rfl, .base (.dK (le _ _ h1))⟩
  | dt ks ds =>
    obtain ⟨a, xs, rfl, h1, _⟩ := h
    exact ⟨_, rfl, .base (.dT (le _ _ h1))⟩
  | exc c d => cases T <;> cases e
theorem kit_ok {d : D} {T : TyN} {b : Bool} {t : String} (e : isi T d = some b) (h : tyD d = some t) : kitB t T.nm = some b := by
  cases d <;> cases T <;> first | (cases h; done) | (cases h; cases e; decide +kernel)
def aIsi (T : TyN) (a : AE) : AE := fun s P => a s fun r s1 => match isi T r.d with
  | some b => P (.pu (.bl b)) s1
  | none => False
theorem sim_isi {T : TyN} (h : Sim K ta aa) : Sim K (tCB (rIsi K) (tCons ta (tCons (tC (.ty T.nm)) tNil))) (aIsi T aa) := fun s P q σ F H ok Q k => by
  refine h.d q ok fun r s1 v F1 H1 q1 st1 d1 => ?_
  cases e : isi T r.d with
  | none =>
    rw [e] at q1
    exact q1.elim
  | some b =>
    rw [e] at q1
    obtain ⟨t, g1, g2⟩ := ty_ok st1.st.le d1 e
    exact ⟨v, .ty T.nm, .type t, .type T.nm, b, rfl, .ty _, g2, kit_ty (kit_ok e g1), k _ s1 _ F1 H1 q1 st1 (.pu rfl)⟩
def rI1 (f : Int → Int) : List V → Hp → VK → Prop := fun xs H Q => ∃ i, xs = [.int i] ∧ Q (.int (f i)) H
def aI1 (f : Int → Int) : ARC := fun ds P => match ds with
  | [.int i] => P (.pu (.int (f i)))
  | _ => False
theorem rc_i1 {f : Int → Int} : RC K (rI1 f) (aI1 f) := fun ds P q F H xs le dx Q k => by
  match ds, q, dx with
  | [.int i], q, dx =>
    obtain ⟨v, rfl, h⟩ := dqa1 dx
    cases (show v = _ from h)
    exact ⟨i, rfl, k _ _ F H q (Lf.same le _ _ rfl)⟩
def rI2 (f : Int → Int → Int) : List V → Hp → VK → Prop := fun xs H Q => ∃ i j, xs = [.int i, .int j] ∧ Q (.int (f i j)) H
def aI2 (f : Int → Int → Int) : ARC := fun ds P => match ds with
  | [.int i, .int j] => P (.pu (.int (f i j)))
  | _ => False
theorem rc_i2 {f : Int → Int → Int} : RC K (rI2 f) (aI2 f) := fun ds P q F H xs le dx Q k => by
  match ds, q, dx with
  | [.int i, .int j], q, dx =>
    obtain ⟨v, w, rfl, h, h2⟩ := dqa2 dx
    cases (show v = _ from h)
    cases (show w = _ from h2)
    exact ⟨i, j, rfl, k _ _ F H q (Lf.same le _ _ rfl)⟩
/-- int(x) of an int or a bool -/
def aInt : ARC := fun ds P => match ds with
  | [.int i] => P (.pu (.int i))
  | [.bl b] => P (.pu (.int (if b then 1 else 0)))
  | _ => False
theorem rc_int : RC K (fun xs H Q => (∃ i, xs = [.int i] ∧ Q (.int i) H) ∨ ∃ k, xs = [.bl k] ∧ Q (.int (if k then 1 else 0)) H) aInt := fun ds P q F H xs le dx Q k => by
  match ds, q, dx with
  | [.int i], q, dx =>
    obtain ⟨v, rfl, h⟩ := dqa1 dx
    cases (show v = _ from h)
    exact .inl ⟨i, rfl, k _ _ F H q (Lf.same le _ _ rfl)⟩
  | [.bl i], q, dx =>
    obtain ⟨v, rfl, h⟩ := dqa1 dx
    cases (show v = _ from h)
    exact .inr ⟨i, rfl, k _ _ F H q (Lf.same le _ _ rfl)⟩
/-- len -/
def aLen : ARC := fun ds P => match ds with
  | [d] => match seqD d with
    | some xs => P (.pu (.int xs.length))
    | none => False
  | _ => False
theorem rc_len : RC K (fun xs H Q => ∃ p ys, xs = [.ref p] ∧ (SqL K H p ys ∨ SqT K H p ys) ∧ Q (.int ys.length) H) aLen := fun ds P q F H xs le dx Q k => by
  match ds, q, dx with
  | [d], q, dx =>
    obtain ⟨v, rfl, h⟩ := dqa1 dx
    unfold aLen at q
    simp only at q
    cases e : seqD d with
    | none =>
      rw [e] at q
      exact q.elim
    | some es =>
      rw [e] at q
      obtain ⟨a, ys, rfl, g1, g2⟩ := seqD_ok e h
      refine ⟨a, ys, rfl, ?_, ?_⟩
      · rcases g1 with g1 | g1
        · exact .inl (Same.seq le g1)
        · exact .inr (Same.sqt le g1)
      · rw [g2.length]
        exact k _ _ F H q (Lf.same le _ _ rfl)
/-- the ints of a list of data -/
def intsD : List D → Option (List Int)
  | [] => some []
  | .int i :: ds => (intsD ds).map (i :: ·)
  | _ => none
theorem intsD_eq : ∀ {ds : List D} {ns : List Int}, intsD ds = some ns → ds = ns.map D.int
  | [], ns, h => by
    cases h
    rfl
  | d :: ds, ns, h => by
    cases d <;> first | (cases h; done) | skip
    rename_i i
    unfold intsD at h
    cases e : intsD ds with
    | none =>
      rw [e] at h
      cases h
    | some ms =>
      rw [e] at h
      cases h
      rw [intsD_eq e]
      rfl
theorem intsD_map : ∀ ns : List Int, intsD (ns.map D.int) = some ns
  | [] => rfl
  | n :: ns => by
    show (intsD (ns.map D.int)).map (n :: ·) = _
    rw [intsD_map ns]
    rfl
def blsD : List D → Option (List Bool)
  | [] => some []
  | .bl i :: ds => (blsD ds).map (i :: ·)
  | _ => none
theorem blsD_eq : ∀ {ds : List D} {ns : List Bool}, blsD ds = some ns → ds = ns.map D.bl
  | [], ns, h => by
    cases h
    rfl
  | d :: ds, ns, h => by
    cases d <;> first | (cases h; done) | skip
    rename_i i
    unfold blsD at h
    cases e : blsD ds with
    | none =>
      rw [e] at h
      cases h
    | some ms =>
      rw [e] at h
      cases h
      rw [blsD_eq e]
      rfl
theorem blsD_map : ∀ ns : List Bool, blsD (ns.map D.bl) = some ns
  | [] => rfl
  | n :: ns => by
    show (blsD (ns.map D.bl)).map (n :: ·) = _
    rw [blsD_map ns]
    rfl
def lstD : D → Option (List D)
  | .lst xs => some xs
  | .scr xs => some xs
  | _ => none
theorem lstD_ok {d : D} {ds : List D} {x : V} (h : lstD d = some ds) (dx : Dq K F d x) : ∃ a xs, x = .ref a ∧ SqL K F a xs ∧ DqA K F ds xs := by
  cases d <;> first | (cases h; done) | skip
  · cases h
    obtain ⟨a, xs, h1, h2, h3⟩ := dx
    exact ⟨a, xs, h1, SqL.of h2, h3⟩
  · cases h
    obtain ⟨a, xs, h1, h2, h3⟩ := dx
    exact ⟨a, xs, h1, h2, h3⟩
/-- a function of a list of ints, of bools -/
def aInts (f : List Int → (D → Prop) → Prop) : ARC := fun ds P => match ds with
  | [d] => match (lstD d).bind intsD with
    | some ns => f ns fun d => P (.pu d)
    | none => False
  | _ => False
def aBls (f : List Bool → Bool) : ARC := fun ds P => match ds with
  | [d] => match (lstD d).bind blsD with
    | some ns => P (.pu (.bl (f ns)))
    | none => False
  | _ => False
theorem ints_in {ds : List D} {P : Sl → Prop} {f : List Int → (D → Prop) → Prop} {xs : List V} (le : Le F H) (q : aInts f ds P) (dx : DqA K F ds xs) : ∃ (a : Addr) (ns : List Int), xs = [V.ref a] ∧ SqL K H a (ns.map V.int) ∧ f ns fun d => P (.pu d) := by
  match ds, q, dx with
  | [d], q, dx =>
    obtain ⟨v, rfl, h⟩ := dqa1 dx
    unfold aInts at q
    simp only at q
    cases e : lstD d with
    | none =>
      rw [e] at q
      exact q.elim
    | some es =>
      rw [e] at q
      simp only [Option.bind_some] at q
      cases e2 : intsD es with
      | none =>
        rw [e2] at q
        exact q.elim
      | some ns =>
        rw [e2] at q
        obtain ⟨a, ys, rfl, g1, g2⟩ := lstD_ok e h
        rw [intsD_eq e2] at g2
        have e3 := of_dqa_ints _ _ g2
        subst e3
        exact ⟨a, ns, rfl, Same.seq le g1, q⟩
theorem bls_in {ds : List D} {P : Sl → Prop} {f : List Bool → Bool} {xs : List V} (le : Le F H) (q : aBls f ds P) (dx : DqA K F ds xs) : ∃ (a : Addr) (ns : List Bool), xs = [V.ref a] ∧ SqL K H a (ns.map V.bl) ∧ P (.pu (.bl (f ns))) := by
  match ds, q, dx with
  | [d], q, dx =>
    obtain ⟨v, rfl, h⟩ := dqa1 dx
    unfold aBls at q
    simp only at q
    cases e : lstD d with
    | none =>
      rw [e] at q
      exact q.elim
    | some es =>
      rw [e] at q
      simp only [Option.bind_some] at q
      cases e2 : blsD es with
      | none =>
        rw [e2] at q
        exact q.elim
      | some ns =>
        rw [e2] at q
        obtain ⟨a, ys, rfl, g1, g2⟩ := lstD_ok e h
        rw [blsD_eq e2] at g2
        have e3 := of_dqa_bls _ _ g2
        subst e3
        exact ⟨a, ns, rfl, Same.seq le g1, q⟩
def fSum : List Int → (D → Prop) → Prop := fun ns P => P (.int ns.sum)
def fMax : List Int → (D → Prop) → Prop := fun ns P => 0 < ns.length ∧ ∀ m, m ∈ ns → (∀ y, y ∈ ns → y ≤ m) → P (.int m)
theorem rc_sum : RC K (rSum K) (aInts fSum) := fun ds P q F H xs le dx Q k => by
  obtain ⟨a, ns, rfl, h1, h2⟩ := ints_in le q dx
  exact ⟨a, ns, rfl, h1, k _ _ F H h2 (Lf.same le _ _ rfl)⟩
theorem rc_max : RC K (rMax K) (aInts fMax) := fun ds P q F H xs le dx Q k => by
  obtain ⟨a, ns, rfl, h1, h2, h3⟩ := ints_in le q dx
  exact ⟨a, ns, rfl, h1, h2, fun m g1 g2 => k _ _ F H (h3 m g1 g2) (Lf.same le _ _ rfl)⟩
theorem rc_all : RC K (rAll K) (aBls fun bs => bs.all id) := fun ds P q F H xs le dx Q k => by
  obtain ⟨a, ns, rfl, h1, h2⟩ := bls_in le q dx
  exact ⟨a, ns, rfl, h1, k _ _ F H h2 (Lf.same le _ _ rfl)⟩
/-- list(x), tuple(x) -/
def aList : ARC := fun ds P => match ds with
  | [d] => match seqD d with
    | some xs => ∀ p, P (.ow p xs)
    | none => False
  | _ => False
theorem rc_list : RC K (fun xs H Q => ∃ p ys, xs = [.ref p] ∧ (SqL K H p ys ∨ SqT K H p ys) ∧ ∀ l, H l = none → Q (.ref l) (upd H l (.lst ys))) aList := fun ds P q F H xs le dx Q k => by
  match ds, q, dx with
  | [d], q, dx =>
    obtain ⟨v, rfl, h⟩ := dqa1 dx
    unfold aList at q
    simp only at q
    cases e : seqD d with
    | none =>
      rw [e] at q
      exact q.elim
    | some es =>
      rw [e] at q
      obtain ⟨a, ys, rfl, g1, g2⟩ := seqD_ok e h
      refine ⟨a, ys, rfl, ?_, fun p hp => k _ _ _ _ (q p) (Lf.newL le hp g2)⟩
      rcases g1 with g1 | g1
      · exact .inl (Same.seq le g1)
      · exact .inr (Same.sqt le g1)
def cutD (xs : List D) (lo hi : Option Int) : List D := (xs.drop (HT.sIx xs.length 0 lo)).take (HT.sIx xs.length xs.length hi - HT.sIx xs.length 0 lo)
theorem cut_ok {ds : List D} {xs : List V} {lo hi : Option Int} (h : DqA K F ds xs) : DqA K F (cutD ds lo hi) (cutV xs lo hi) := by
  unfold cutD cutV
  rw [h.length]
  exact (h.drop _).take _
abbrev AO := Ss → (Option Int → Ss → Prop) → Prop
def SimO (K : PySem.W.Frag) (to : TO) (a : AO) : Prop := ∀ s P, a s P → ∀ σ F H, StOk K F H σ s → ∀ Q : Option Int → Hp → Prop,
  (∀ o s' F' H', P o s' → Step K s F H s' F' H' σ → Q o H') → to σ H Q
def aNoP : AO := fun s P => P none s
def aPart (a : AE) : AO := fun s P => a s fun r s1 => match r.d with
  | .int i => P (some i) s1
  | _ => False
theorem simo_no : SimO K tNoPart aNoP := fun s P q σ F H ok Q k => k none s F H q (.refl ok)
theorem simo_part (h : Sim K te a) : SimO K (tPart te) (aPart a) := fun s P q σ F H ok Q k => by
  refine h.d q ok fun r s1 v F1 H1 q1 st1 d1 => ?_
  cases e : r.d <;> simp only [e] at q1
  rename_i i
  rw [e] at d1
  exact ⟨i, d1, k (some i) s1 F1 H1 q1 st1⟩
def aSlL (a : AE) (l u : AO) : AE := fun s P => a s fun r s1 => l s1 fun lo s2 => u s2 fun hi s3 => match lstD r.d with
  | some xs => ∀ p, P (.ow p (cutD xs lo hi)) s3
  | none => False
theorem sim_slL {tl tu : TO} {al au : AO} (h : Sim K te a) (hl : SimO K tl al) (hu : SimO K tu au) : Sim K (tSl (rSlL K) te tl tu) (aSlL a al au) := fun s P q σ F H ok Q k => by
  refine h.d q ok fun r s1 v F1 H1 q1 st1 d1 => ?_
  refine hl s1 _ q1 σ F1 H1 st1.st _ fun lo s2 F2 H2 q2 st2 => ?_
  refine hu s2 _ q2 σ F2 H2 st2.st _ fun hi s3 F3 H3 q3 st3 => ?_
  cases e : lstD r.d with
  | none =>
    rw [e] at q3
    exact q3.elim
  | some es =>
    rw [e] at q3
    obtain ⟨b, ys, rfl, g1, g2⟩ := lstD_ok e d1
    have sm := st2.f.trans st3.f
    refine ⟨b, ys, rfl, Same.seq st3.st.le (Same.seq sm g1), fun p hp => ?_⟩
    obtain ⟨st4, rs4⟩ := ((st1.trans st2).trans st3).leaf (Lf.newL st3.st.le hp (cut_ok (DqA.mono sm _ _ g2)))
    exact k _ s3 _ _ _ (q3 p) st4 rs4
def aSlT (a : AE) (l u : AO) : AE := fun s P => a s fun r s1 => l s1 fun lo s2 => u s2 fun hi s3 => match r.d with
  | .tup xs => P (.pu (.tup (cutD xs lo hi))) s3
  | _ => False
theorem cutV_whole {xs : List V} {lo hi : Option Int} (h : HT.sIx xs.length 0 lo = 0 ∧ HT.sIx xs.length xs.length hi = xs.length) : cutV xs lo hi = xs := by
  unfold cutV
  rw [h.1, h.2, List.drop_zero, Nat.sub_zero, List.take_length]
theorem sim_slT {tl tu : TO} {al au : AO} (h : Sim K te a) (hl : SimO K tl al) (hu : SimO K tu au) : Sim K (tSl (rSlA K) te tl tu) (aSlT a al au) := fun s P q σ F H ok Q k => by
  refine h.d q ok fun r s1 v F1 H1 q1 st1 d1 => ?_
  refine hl s1 _ q1 σ F1 H1 st1.st _ fun lo s2 F2 H2 q2 st2 => ?_
  refine hu s2 _ q2 σ F2 H2 st2.st _ fun hi s3 F3 H3 q3 st3 => ?_
  cases e : r.d <;> simp only [e] at q3
  rename_i es
  rw [e] at d1
  obtain ⟨b, ys, rfl, g1, g2⟩ := d1
  have sm := st2.f.trans st3.f
  have g3 := DqA.mono sm _ _ g2
  refine ⟨b, ys, rfl, Same.sqt st3.st.le (Same.sqt sm g1), fun hw => ?_, fun _ p hp => ?_⟩
  · refine k _ s3 _ F3 H3 q3 ((st1.trans st2).trans st3) (.pu ⟨b, ys, rfl, Same.sqt sm g1, ?_⟩)
    have g4 := cut_ok (lo := lo) (hi := hi) g3
    rw [cutV_whole hw] at g4
    exact g4
  · obtain ⟨st4, rs4⟩ := ((st1.trans st2).trans st3).leaf (Lf.newT st3.st.le hp (cut_ok g3))
    exact k _ s3 _ _ _ q3 st4 rs4
end
end DL
namespace DL
variable [Tabl]
open PySem L2
structure DE (X : Cx) (e : Expr) (t : TE) (a : AE) : Prop where
  pe : PE X e t
  sm : Sim X.K t a
structure DT (X : Cx) (e : Expr) (t : TT) (a : AT) : Prop where
  pe : PT X e t
  sm : SimT X.K t a
structure DW (X : Cx) (e : Expr) (t : TT) (a : AT) : Prop where
  pe : PW X e t
  sm : SimT X.K t a
structure DA (X : Cx) (es : List Expr) (t : TA) (a : AA) : Prop where
  pe : PA X es t
  sm : SimA X.K t a
structure DS (X : Cx) (st : Stmt) (t : TS) (a : AS) : Prop where
  pe : PS X st t
  sm : SimS X.K t a
structure DSs (X : Cx) (st : List Stmt) (t : TS) (a : AS) : Prop where
  pe : PSs X st t
  sm : SimS X.K t a
structure DG (X : Cx) (e : Expr) (t : TG) (a : AG) (L : List Nat) : Prop where
  pe : PG X e t
  sm : SimG X.K t a L
  ex : ∀ d s P, a d s P → ∃ s1, P s1
structure DGs (X : Cx) (es : List Expr) (t : TGs) (a : AGs) (L : List Nat) (n : Nat) : Prop where
  pe : PGs X es t
  sm : SimGs X.K t a L
  ex : ∀ ds s P, a ds s P → ds.length = n ∧ ∃ s1, P s1
structure DI (X : Cx) (tg it : Expr) (t : TI) (a : AI) : Prop where
  pe : PI X tg it t
  sm : SimI X.K t a
structure DO (X : Cx) (e : Option Expr) (t : TO) (a : AO) : Prop where
  pe : PO X e t
  sm : SimO X.K t a
section
variable {X : Cx} {te ta tb tc : TE} {a aa ab ac : AE} {e ea eb ec : Expr} {es : List Expr} {pos p : Pos} {t u : TT} {at1 au : AT} {ts tu : TS} {as aus : AS}
theorem d_var (i : Nat) {x : Str} (hN : X.N[i]? = some x := by rfl) (hv : Vis X.env.scope x := by first | exact Or.inl rfl | exact Or.inr (Or.inl rfl) | exact Or.inr (Or.inr rfl)) (hd : (x == ("__debug__" : Str)) = false := by decide)
    (hcd : (x == ("__classdict__" : Str)) = false := by decide) : DE X (.Name x pos) (tVar i) (aVar i) := ⟨pe_var hN hv hd hcd, sim_var⟩
theorem d_int {i j} : DE X (.Constant (.int i) j pos) (tC (.int i)) (aC (.int i)) := ⟨pe_int, sim_c fun _ => rfl⟩
theorem d_bl {b j} : DE X (.Constant (.bool b) j pos) (tC (.bl b)) (aC (.bl b)) := ⟨pe_bl, sim_c fun _ => rfl⟩
theorem d_non {j} : DE X (.Constant .none j pos) (tC .non) (aC .non) := ⟨pe_non, sim_c fun _ => rfl⟩
theorem d_str {x j} : DE X (.Constant (.str x) j pos) (tC (.str x)) (aC (.str x)) := ⟨pe_str, sim_c fun _ => rfl⟩
theorem d_gint {x : Str} {i : Int} (c : ∃ t, X.mg x = some (.int i t)) (hg : Gl X x := by rfl) (hd : (x == ("__debug__" : Str)) = false := by decide) : DE X (.Name x pos) (tC (.int i)) (aC (.int i)) := by
  obtain ⟨u, h1⟩ := c
  exact ⟨pe_glob hg h1 ⟨u, rfl⟩ hd, sim_c fun _ => rfl⟩
theorem d_gstr {x : Str} {i : Str} (c : ∃ t, X.mg x = some (.str i t)) (hg : Gl X x := by rfl) (hd : (x == ("__debug__" : Str)) = false := by decide) : DE X (.Name x pos) (tC (.str i)) (aC (.str i)) := by
  obtain ⟨u, h1⟩ := c
  exact ⟨pe_glob hg h1 ⟨u, rfl⟩ hd, sim_c fun _ => rfl⟩
theorem d_gtup {x : Str} {q : Addr} {xs : List V} {ds : List D} (c : X.mg x = some (.ref q)) (h : ∀ F, SqT X.K F q xs) (hd2 : ∀ F, DqA X.K F ds xs) (hg : Gl X x := by rfl) (hd : (x == ("__debug__" : Str)) = false := by decide) : DE X (.Name x pos) (tC (.ref q)) (aC (.tup ds)) :=
  ⟨pe_glob hg c rfl hd, sim_c fun F => ⟨q, xs, rfl, h F, hd2 F⟩⟩
theorem d_op {op : Operator} {r : R2} {ar : AR2} (ho : OpR X (binaryOp op) r) (hr : RD X.K r ar) (ha : DE X ea ta aa) (hb : DE X eb tb ab) : DE X (.BinOp ea op eb pos) (tOp r ta tb) (aOp ar aa ab) := ⟨pe_op ho ha.pe hb.pe, sim_op hr ha.sm hb.sm⟩
theorem d_add (ha : DE X ea ta aa) (hb : DE X eb tb ab) : DE X (.BinOp ea .Add eb pos) (tOp (rI0 fun i j => .int (i + j)) ta tb) (aOp (aI fun i j => i + j) aa ab) := d_op op_add rd_i ha hb
theorem d_sub (ha : DE X ea ta aa) (hb : DE X eb tb ab) : DE X (.BinOp ea .Sub eb pos) (tOp (rI0 fun i j => .int (i - j)) ta tb) (aOp (aI fun i j => i - j) aa ab) := d_op op_sub rd_i ha hb
theorem d_mul (ha : DE X ea ta aa) (hb : DE X eb tb ab) : DE X (.BinOp ea .Mult eb pos) (tOp (rI CMul fun i j => .int (i * j)) ta tb) (aOp (aIC CMul fun i j => i * j) aa ab) := d_op op_mul rd_ic ha hb
theorem d_fdiv (ha : DE X ea ta aa) (hb : DE X eb tb ab) : DE X (.BinOp ea .FloorDiv eb pos) (tOp (rI CDiv fun i j => .int (i / j)) ta tb) (aOp (aIC CDiv fun i j => i / j) aa ab) := d_op op_fdiv rd_ic ha hb
theorem d_fdivW (ha : DE X ea ta aa) (hb : DE X eb tb ab) : DE X (.BinOp ea .FloorDiv eb pos) (tOp (rI CDivW fun i j => .int (i / j)) ta tb) (aOp (aIC CDivW fun i j => i / j) aa ab) := d_op op_fdivW rd_ic ha hb
theorem d_mod (ha : DE X ea ta aa) (hb : DE X eb tb ab) : DE X (.BinOp ea .Mod eb pos) (tOp (rI (fun _ j => 0 < j) fun i j => .int (i % j)) ta tb) (aOp (aIC (fun _ j => 0 < j) fun i j => i % j) aa ab) := d_op op_mod rd_ic ha hb
theorem d_pow (ha : DE X ea ta aa) (hb : DE X eb tb ab) : DE X (.BinOp ea .Pow eb pos) (tOp (rI CPow fun i j => .int (i ^ j.toNat)) ta tb) (aOp (aIC CPow fun i j => i ^ j.toNat) aa ab) := d_op op_pow rd_ic ha hb
def aNeg (a : AE) : AE := fun s P => a s fun r s1 => match r.d with
  | .int i => P (.pu (.int (-i))) s1
  | _ => False
theorem d_neg (ha : DE X ea ta aa) : DE X (.UnaryOp .USub ea pos) (tUn (rU fun i => .int (-i)) ta) (aNeg aa) := ⟨pe_un un_neg ha.pe, fun s P q σ F H ok Q k => by
  refine ha.sm.d q ok fun r s1 v F1 H1 q1 st1 d1 => ?_
  cases e : r.d <;> simp only [e] at q1
  rename_i i
  rw [e] at d1
  exact ⟨i, d1, k _ s1 _ F1 H1 q1 st1 (.pu rfl)⟩⟩
theorem d_cmp {op : CmpOp} {r : R2} {ar : AR2} (ho : OpR X (compareOp op) r) (hr : RD X.K r ar) (ha : DE X ea ta aa) (hb : DE X eb tb ab) (hm : behindInMarks op eb = false) : DE X (.Compare ea [op] [eb] pos) (tOp r ta tb) (aOp ar aa ab) :=
  ⟨pe_cmpR ho ha.pe hb.pe hm, sim_op hr ha.sm hb.sm⟩
theorem t_cmp {op : CmpOp} {r : R2} {ar : AR2} (ho : OpR X (compareOp op) r) (hr : RD X.K r ar) (ha : DE X ea ta aa) (hb : DE X eb tb ab) (hm : behindInMarks op eb = false) : DT X (.Compare ea [op] [eb] pos) (tTest (tOp r ta tb)) (aTest (aOp ar aa ab)) :=
  ⟨pt_cmpR ho ha.pe hb.pe hm, sim_test (sim_op hr ha.sm hb.sm)⟩
theorem d_chain {op op' : CmpOp} {r r' : R2} {ar ar' : AR2} (ho : OpR X (compareOp op) r) (hr : RD X.K r ar) (ho' : OpR X (compareOp op') r') (hr' : RD X.K r' ar') (ha : DE X ea ta aa) (hb : DE X eb tb ab) (hc : DE X ec tc ac)
    (hm : lastMarks [op, op'] [eb, ec] = false := by with_unfolding_all rfl) : DE X (.Compare ea [op, op'] [eb, ec] pos) (tChain r r' ta tb tc) (aChain ar ar' aa ab ac) := ⟨pe_chain ho ho' ha.pe hb.pe hc.pe hm, sim_chain hr hr' ha.sm hb.sm hc.sm⟩
theorem t_nin {K : PySem.W.Frag} (hK : X.K = K := by rfl) (ha : DE X ea ta aa) (hb : DE X eb tb ab) (hm : behindInMarks .NotIn eb = false := by rfl) : DT X (.Compare ea [.NotIn] [eb] pos) (tTest (tOp (rIn K true) ta tb)) (aTest (aOp (aIn true) aa ab)) := by
  subst hK
  exact t_cmp op_notIn_seq rd_in ha hb hm
theorem t_val (h : DE X ea ta aa) (he : ∀ whole, isTrue ea X.env whole = (do let v ← whole; standAt ea.pos; holding [v] (truthy v)) := by intro _; rfl) : DT X ea (tB ta) (aTest aa) := ⟨pt_val h.pe he, sim_B h.sm⟩
theorem t_not (h : DT X ea t at1) : DT X (.UnaryOp .Not ea pos) (tNot t) (aNot at1) := ⟨pt_not h.pe, sim_not h.sm⟩
theorem w_and1 (h : DT X ea t at1) : DW X (.BoolOp .And [ea] pos) t at1 := ⟨pw_and1 h.pe, h.sm⟩
theorem w_or1 (h : DT X ea t at1) : DW X (.BoolOp .Or [ea] pos) t at1 := ⟨pw_or1 h.pe, h.sm⟩
theorem w_and (h : DT X ea t at1) (h2 : DW X (.BoolOp .And (eb :: es) pos) u au) : DW X (.BoolOp .And (ea :: eb :: es) pos) (tAnd t u) (aAnd at1 au) := ⟨pw_and h.pe h2.pe, sim_and h.sm h2.sm⟩
theorem w_or (h : DT X ea t at1) (h2 : DW X (.BoolOp .Or (eb :: es) pos) u au) : DW X (.BoolOp .Or (ea :: eb :: es) pos) (tOr t u) (aOr at1 au) := ⟨pw_or h.pe h2.pe, sim_or h.sm h2.sm⟩
theorem t_w (h : DW X ea t at1) : DT X ea t at1 := ⟨h.pe.pt, h.sm⟩
theorem d_one {op} (h : DE X ea ta aa) : DE X (.BoolOp op [ea] pos) ta aa := ⟨pe_one h.pe, h.sm⟩
theorem d_and (h : DE X ea ta aa) (h2 : DE X (.BoolOp .And (eb :: es) pos) tb ab) : DE X (.BoolOp .And (ea :: eb :: es) pos) (tAndV ta tb) (aAndV aa ab) := ⟨pe_and h.pe h2.pe, sim_andV h.sm h2.sm⟩
theorem d_not (h : DE X ea ta aa) : DE X (.UnaryOp .Not ea pos) (tNotV ta) (aNotV aa) := ⟨pe_not h.pe, sim_notV h.sm⟩
theorem d_if (h : DT X ec t at1) (ha : DE X ea ta aa) (hb : DE X eb tb ab) : DE X (.IfExp ec ea eb pos) (tIf t ta tb) (aIf at1 aa ab) := ⟨pe_ifExp h.pe ha.pe hb.pe, sim_if h.sm ha.sm hb.sm⟩
theorem da_nil : DA X [] tNil aNil := ⟨pa_nil, sim_nil⟩
theorem da_cons {tr : TA} {ar : AA} (ha : DE X ea ta aa) (hr : DA X es tr ar) (hs : starEach (ea :: es) X.env = (false, eval ea X.env) :: starEach es X.env := by rfl) : DA X (ea :: es) (tCons ta tr) (aCons aa ar) := ⟨pa_cons ha.pe hr.pe hs, sim_cons ha.sm hr.sm⟩
theorem d_tup {x1} {tr : TA} {ar : AA} (h : DA X es tr ar) : DE X (.Tuple es x1 pos) (tTup tr) (aTup ar) := ⟨pe_tup h.pe, sim_tup h.sm⟩
theorem d_lst {tr : TA} {ar : AA} (h : DA X es tr ar) : DE X (.List es pos) (tLst tr) (aLst ar) := ⟨pe_lst h.pe, sim_lst h.sm⟩
theorem d_ix {K : PySem.W.Frag} (hK : X.K = K := by rfl) (ha : DE X ea ta aa) (hb : DE X eb tb ab) (hs : PlainIx eb := by exact fun _ _ => rfl) : DE X (.Subscript ea eb pos) (tOp (rIx K) ta tb) (aOp aIx aa ab) := by
  subst hK
  exact ⟨pe_ix ix_seq ha.pe hb.pe hs, sim_op rd_ix ha.sm hb.sm⟩
theorem d_ixO {K : PySem.W.Frag} (hK : X.K = K := by rfl) {i : Nat} (ha : DE X ea (tVar i) (aVar i)) (hb : DE X eb tb ab) (hs : PlainIx eb := by exact fun _ _ => rfl) : DE X (.Subscript ea eb pos) (tOp (rIx K) (tVar i) tb) (aIxO i ab) := by
  subst hK
  exact ⟨pe_ix ix_seq ha.pe hb.pe hs, sim_ixO hb.sm⟩
theorem do_no : DO X none tNoPart aNoP := ⟨po_none, simo_no⟩
theorem do_so (h : DE X ea ta aa) : DO X (some ea) (tPart ta) (aPart aa) := ⟨po_some h.pe, simo_part h.sm⟩
theorem d_slL {K : PySem.W.Frag} (hK : X.K = K := by rfl) {lo hi : Option Expr} {tl th : TO} {al ah : AO} {p2 : Pos} (he : DE X ea ta aa) (hl : DO X lo tl al) (hu : DO X hi th ah) : DE X (.Subscript ea (.Slice lo hi none p2) pos) (tSl (rSlL K) ta tl th) (aSlL aa al ah) := by
  subst hK
  exact ⟨pe_slice sl_list he.pe hl.pe hu.pe, sim_slL he.sm hl.sm hu.sm⟩
theorem d_slT {K : PySem.W.Frag} (hK : X.K = K := by rfl) {lo hi : Option Expr} {tl th : TO} {al ah : AO} {p2 : Pos} (he : DE X ea ta aa) (hl : DO X lo tl al) (hu : DO X hi th ah) : DE X (.Subscript ea (.Slice lo hi none p2) pos) (tSl (rSlA K) ta tl th) (aSlT aa al ah) := by
  subst hK
  exact ⟨pe_slice sl_tupA he.pe hl.pe hu.pe, sim_slT he.sm hl.sm hu.sm⟩
theorem d_cb {K : PySem.W.Frag} (hK : X.K = K := by rfl) {x : Str} {id : String} {r : List V → Hp → VK → Prop} {ar : ARC} {tr : TA} {aar : AA} (hr : RC K r ar) (hc : CallR X (.builtin id) r) (hm : X.mg x = none) (hv : bootBuiltins x = some (.builtin id)) (ha : DA X (e :: es) tr aar) (hg : Gl X x := by rfl) (hn : x ≠ "__name__" := by decide) (hdb : (x == ("__debug__" : Str)) = false := by decide)
    (he : starEach (e :: es) X.env = (false, eval e X.env) :: starEach es X.env := by rfl) (hpl : (backTo pos (starEach es X.env)).any (·.1) = false := by rfl) : DE X (.Call (.Name x p) (e :: es) [] pos) (tCB r tr) (aCall ar aar) := by
  subst hK
  exact ⟨pe_callB hc hg hm hv ha.pe hn hdb he hpl, sim_cb hr ha.sm⟩
theorem d_ct {K : PySem.W.Frag} (hK : X.K = K := by rfl) {x : Str} {T : String} {r : List V → Hp → VK → Prop} {ar : ARC} {tr : TA} {aar : AA} (hr : RC K r ar) (hc : CallR X (.type T) r) (hm : X.mg x = none) (hv : bootBuiltins x = some (.type T)) (ha : DA X (e :: es) tr aar) (hg : Gl X x := by rfl) (hn : x ≠ "__name__" := by decide) (hdb : (x == ("__debug__" : Str)) = false := by decide)
    (he : starEach (e :: es) X.env = (false, eval e X.env) :: starEach es X.env := by rfl) (hpl : (backTo pos (starEach es X.env)).any (·.1) = false := by rfl) : DE X (.Call (.Name x p) (e :: es) [] pos) (tCB r tr) (aCall ar aar) := by
  subst hK
  exact ⟨pe_callTy hc hg hm hv ha.pe hn hdb he hpl, sim_cb hr ha.sm⟩
def absI (i : Int) : Int := if i < 0 then -i else i
def maxI (i j : Int) : Int := if j > i then j else i
def minI (i j : Int) : Int := if j < i then j else i
theorem cr_abs : CallR X (.builtin "abs") (rI1 absI) := call_abs
theorem cr_max2 (hc : X.calm = true) : CallR X (.builtin "max") (rI2 maxI) := call_max2 hc
theorem cr_min2 (hc : X.calm = true) : CallR X (.builtin "min") (rI2 minI) := call_min2 hc
theorem d_isi {K : PySem.W.Frag} (hK : X.K = K := by rfl) {T : TyN} {x y : Str} {p2 : Pos} (ha : DE X ea ta aa) (hm : X.mg x = none) (hv : bootBuiltins x = some (.builtin "isinstance")) (hmT : X.mg y = none) (hvT : bootBuiltins y = some (.type T.nm)) (hg : Gl X x := by rfl) (hgT : Gl X y := by rfl)
    (hn : x ≠ "__name__" := by decide) (hdb : (x == ("__debug__" : Str)) = false := by decide) (hnT : y ≠ "__name__" := by decide) (hdbT : (y == ("__debug__" : Str)) = false := by decide)
    (he : starEach (ea :: [.Name y p2]) X.env = (false, eval ea X.env) :: starEach [.Name y p2] X.env := by rfl) (he2 : starEach [.Name y p2] X.env = (false, eval (.Name y p2) X.env) :: starEach [] X.env := by rfl) (hpl : (backTo pos (starEach [.Name y p2] X.env)).any (·.1) = false := by rfl) :
    DE X (.Call (.Name x p) [ea, .Name y p2] [] pos) (tCB (rIsi K) (tCons ta (tCons (tC (.ty T.nm)) tNil))) (aIsi T aa) := by
  subst hK
  exact ⟨pe_callB call_isi hg hm hv (pa_cons ha.pe (pa_cons (pe_bltn hgT hmT hvT rfl hnT hdbT) pa_nil he2) he) hn hdb he hpl, sim_isi ha.sm⟩
/-- own defs -/
theorem d_call {K : PySem.W.Frag} (hK : X.K = K := by rfl) {x : Str} {f : Addr} {fd : FuncData} {ps : List Str} {k n : Nat} {S : ARC} {tr : TA} {aar : AA} (F : GnOk X.prog X.w K X.mg X.base CX0 k f fd ps (spD K n S)) (hgd : X.A.guards = some []) (hr : Room k X.A) (hm : X.mg x = some (.ref f)) (hk : PySem.W.keepIn K (.ref f) = true) (hb : Binds K fd ps [])
    (ha : DA X (e :: es) tr aar) (hg : Gl X x := by rfl) (hdb : (x == ("__debug__" : Str)) = false := by decide) (he : starEach (e :: es) X.env = (false, eval e X.env) :: starEach es X.env := by rfl) (hpl : (backTo pos (starEach es X.env)).any (·.1) = false := by rfl) :
    DE X (.Call (.Name x p) (e :: es) [] pos) (tCall (spD K n S) [] E0 tr) (aCall (aFn n S) aar) := by
  subst hK
  exact ⟨pe_g F hgd hr hg hm hk hb pass0 ha.pe hdb he hpl, sim_call ha.sm⟩
theorem d_callM {K : PySem.W.Frag} (hK : X.K = K := by rfl) {x y : Str} {f : Addr} {fd : FuncData} {ps : List Str} {k n j : Nat} {S : ARM} {tr : TA} {aar : AA} {p2 : Pos} (F : GnOk X.prog X.w K X.mg X.base CX0 k f fd ps (spM K n S)) (hgd : X.A.guards = some []) (hr : Room k X.A) (hm : X.mg x = some (.ref f)) (hk : PySem.W.keepIn K (.ref f) = true) (hb : Binds K fd ps [])
    (hv : DE X (.Name y p2) (tVar j) (aVar j)) (ha : DA X es tr aar) (hg : Gl X x := by rfl) (hdb : (x == ("__debug__" : Str)) = false := by decide) (he : starEach (.Name y p2 :: es) X.env = (false, eval (.Name y p2) X.env) :: starEach es X.env := by rfl) (hpl : (backTo pos (starEach es X.env)).any (·.1) = false := by rfl) :
    DE X (.Call (.Name x p) (.Name y p2 :: es) [] pos) (tCall (spM K n S) [] E0 (tCons (tVar j) tr)) (aCallM n j S aar) := by
  subst hK
  exact ⟨pe_g F hgd hr hg hm hk hb pass0 (pa_cons hv.pe ha.pe he) hdb he hpl, sim_callM ha.sm⟩
section
variable {tg : Expr}
theorem di_list {K : PySem.W.Frag} (hK : X.K = K := by rfl) (h : DE X ea ta aa) : DI X tg ea (iList K ta) (aItL aa) := by
  subst hK
  exact ⟨pi_list h.pe, simi_list h.sm⟩
theorem di_tup {K : PySem.W.Frag} (hK : X.K = K := by rfl) (h : DE X ea ta aa) : DI X tg ea (iTup K ta) (aItT aa) := by
  subst hK
  exact ⟨pi_tup h.pe, simi_tup h.sm⟩
theorem di_rng1 {tr : TA} {ar : AA} (hm : X.mg "range" = none) (ha : DA X [ea] tr ar) (hg : Gl X "range" := by rfl) (hs : starEach [ea] X.env = [(false, eval ea X.env)] := by rfl) : DI X tg (.Call (.Name "range" p) [ea] [] pos) (iRng1 tr) (aRng1 ar) := ⟨pi_range1 hg hm ha.pe hs, simi_rng1 ha.sm⟩
end
theorem dg_name {i : Nat} {x : Str} (hN : X.N.Nodup) (hi : X.N[i]? = some x := by rfl) (hx : Loc X.env.scope x := by first | exact Or.inl rfl | exact Or.inr rfl) (hf : X.fn x = true ∨ X.env.scope.names.lookup x = some .local := by first | exact .inl rfl | exact .inr rfl | assumption) : DG X (.Name x pos) (gName i) (agName i) [i] :=
  ⟨pg_name hN hi hx hf, simg_name, fun d s P h => ⟨_, h⟩⟩
theorem dgs_nil : DGs X [] gNil agNil [] 0 := ⟨pgs_nil, simgs_nil, fun ds s P h => ⟨by rw [h.1] <;> rfl, s, h.2⟩⟩
theorem dgs_cons {g : TG} {ag : AG} {L M : List Nat} {n : Nat} {gs : TGs} {ags : AGs} (h1 : DG X ea g ag L) (h2 : DGs X es gs ags M n) (hs : (assignEach (ea :: es) X.env).map (·.2) = assign ea X.env :: (assignEach es X.env).map (·.2) := by rfl) : DGs X (ea :: es) (gCons g gs) (agCons ag ags) (L ++ M) (n + 1) := by
  refine ⟨pgs_cons h1.pe h2.pe hs, simgs_cons h1.sm h2.sm, fun ds s P h => ?_⟩
  cases ds with
  | nil => exact h.elim
  | cons d ds =>
    obtain ⟨s1, h3⟩ := h1.ex _ _ _ h
    obtain ⟨h4, s2, h5⟩ := h2.ex _ _ _ h3
    exact ⟨by rw [List.length_cons, h4], s2, h5⟩
theorem dg_tup {K : PySem.W.Frag} (hK : X.K = K := by rfl) {k n : Nat} {L : List Nat} {gs : TGs} {ags : AGs} (hc : X.calm = true) (h : DGs X es gs ags L n) (hn : (assignEach es X.env).length = n := by rfl) (hst : (assignEach es X.env).findIdx? (·.1) = none := by rfl) : DG X (.Tuple es k pos) (gTup K n gs) (agTup ags) L := by
  subst hK
  refine ⟨pg_tup hc h.pe hn hst, simg_tup h.sm fun ds s P q => (h.ex ds s P q).1, fun d s P q => ?_⟩
  cases d <;> first | exact q.elim | skip
  exact (h.ex _ s P q).2
theorem d_lc {elt tg iter : Expr} {scope : Scope} {own : List (Str × Nat)} {wi : TI} {ai : AI} {g : TG} {ag : AG} {L : List Nat} (hc : X.calm = true) (hN : X.N.Nodup) (hi : DI X tg iter wi ai) (ok : BlkOk X.N X.env.scope scope own) (hL : ∀ j, j ∈ L → j ∈ own.map (·.2))
    (hg : ∀ (s : Shared) (H : Hp) (C : Addr) (cl : List (Str × Addr)) (fp : List Addr), DG (X.blk s H scope (compEnvC scope cl C X.env) fp) tg g ag L)
    (he : ∀ (s : Shared) (H : Hp) (C : Addr) (cl : List (Str × Addr)) (fp : List Addr), DE (X.blk s H scope (compEnvC scope cl C X.env) fp) elt te aa) (hs : ∀ x, foldedSetIterable iter X.env x = pure x := by intro _; rfl) :
    DE X (.ListComp elt [⟨tg, iter, [], 0⟩] scope pos) (tLc wi g tYes te (own.map (·.2))) (aLc ai ag aYes aa (own.map (·.2))) :=
  ⟨pe_lc hc hN hi.pe ok (fun s H C cl fp => (hg s H C cl fp).pe) (fun _ _ _ _ _ => pts_nil) (fun s H C cl fp => (he s H C cl fp).pe) hs,
    sim_lc hi.sm (hg ⟨X.base, X.s_0.gens, X.s_0.drawn, X.s_0.toks, X.s_0.os⟩ X.H_0 0 [] []).sm hL simt_yes (he ⟨X.base, X.s_0.gens, X.s_0.drawn, X.s_0.toks, X.s_0.os⟩ X.H_0 0 [] []).sm⟩
theorem d_lcI {elt tg iter cnd : Expr} {scope : Scope} {own : List (Str × Nat)} {wi : TI} {ai : AI} {g : TG} {ag : AG} {L : List Nat} (hc : X.calm = true) (hN : X.N.Nodup) (hi : DI X tg iter wi ai) (ok : BlkOk X.N X.env.scope scope own) (hL : ∀ j, j ∈ L → j ∈ own.map (·.2))
    (hg : ∀ (s : Shared) (H : Hp) (C : Addr) (cl : List (Str × Addr)) (fp : List Addr), DG (X.blk s H scope (compEnvC scope cl C X.env) fp) tg g ag L)
    (ht : ∀ (s : Shared) (H : Hp) (C : Addr) (cl : List (Str × Addr)) (fp : List Addr), DT (X.blk s H scope (compEnvC scope cl C X.env) fp) cnd t at1)
    (he : ∀ (s : Shared) (H : Hp) (C : Addr) (cl : List (Str × Addr)) (fp : List Addr), DE (X.blk s H scope (compEnvC scope cl C X.env) fp) elt te aa) (hs : ∀ x, foldedSetIterable iter X.env x = pure x := by intro _; rfl) :
    DE X (.ListComp elt [⟨tg, iter, [cnd], 0⟩] scope pos) (tLc wi g t te (own.map (·.2))) (aLc ai ag at1 aa (own.map (·.2))) :=
  ⟨pe_lc hc hN hi.pe ok (fun s H C cl fp => (hg s H C cl fp).pe) (fun s H C cl fp => pts_one (ht s H C cl fp).pe) (fun s H C cl fp => (he s H C cl fp).pe) hs,
    sim_lc hi.sm (hg ⟨X.base, X.s_0.gens, X.s_0.drawn, X.s_0.toks, X.s_0.os⟩ X.H_0 0 [] []).sm hL (ht ⟨X.base, X.s_0.gens, X.s_0.drawn, X.s_0.toks, X.s_0.os⟩ X.H_0 0 [] []).sm (he ⟨X.base, X.s_0.gens, X.s_0.drawn, X.s_0.toks, X.s_0.os⟩ X.H_0 0 [] []).sm⟩
variable {st : Stmt} {sts : List Stmt}
theorem s_set {i : Nat} {x : Str} {pos' : Pos} (hN : X.N.Nodup) (he : DE X ea ta aa) (hi : X.N[i]? = some x := by rfl) (hx : Loc X.env.scope x := by first | exact Or.inl rfl | exact Or.inr rfl) (hs : swapsWith ea (some (.Name x pos')) pos.line X.env = pure false := by rfl)
    (hf : X.fn x = true ∨ X.env.scope.names.lookup x = some .local := by first | exact .inl rfl | exact .inr rfl | assumption) : DS X (.Assign [.Name x pos'] ea pos) (tAsg ta (gName i)) (aSet i aa) := ⟨ps_set hN hi hx he.pe hs hf, sims_set he.sm⟩
theorem s_asg {tg : Expr} {g : TG} {ag : AG} {L : List Nat} (he : DE X ea ta aa) (hg : DG X tg g ag L) (hs : swapsWithSole [tg] ea pos.line X.env = pure false := by rfl) (hw : swappedStores [tg] ea X.env = pure none := by rfl)
    (h1 : (assignEach [tg] X.env).map (·.2) = [assign tg X.env] := by rfl) : DS X (.Assign [tg] ea pos) (tAsg ta g) (aAsg aa ag) := ⟨ps_asg he.pe hg.pe hs hw h1, sims_asg he.sm hg.sm⟩
/-- x, y = e, f -/
def aPar (i j : Nat) (a b : AE) : AS := fun A s => a s fun r1 s1 => b s1 fun r2 s2 => A.nx ((s2.set i r1).set j r2)
theorem Step.put2 {K : PySem.W.Frag} {F H F1 H1 : Hp} {s s1 : Ss} {σ : L2.St} {r1 r2 : Sl} {v w : V} {i j : Nat} (st : Step K s F H s1 F1 H1 σ) (q1 : Rs K s H F1 H1 s1 r1 v) (q2 : Rs K s H F1 H1 s1 r2 w) (hne : ∀ p, p ∈ fp r1 → p ∈ fp r2 → False) :
    Step K s F H ((s1.set i r1).set j r2) F1 H1 ((σ.set i (some v)).set j (some w)) := by
  refine (st.put q1).put ⟨q2.ok, fun p hp => ⟨(q2.fr p hp).1, fun z => ?_⟩, q2.nd⟩
  rcases own_set z with y | y
  · exact (q2.fr p hp).2 y
  · exact hne p y hp
theorem s_par {i j : Nat} {x y : Str} {px py pt : Pos} {kt k2 : Nat} {pt2 : Pos} (hc : X.calm = true) (hN : X.N.Nodup) (ha : DE X ea ta aa) (hb : DE X eb tb ab) (hij : i ≠ j)
    (hw : swappedStores [.Tuple [.Name x px, .Name y py] kt pt] (.Tuple [ea, eb] k2 pt2) X.env = pure (some [x, y])) (hi : X.N[i]? = some x := by rfl) (hj : X.N[j]? = some y := by rfl)
    (hx : X.env.scope.names.lookup x = some .local := by rfl) (hy : X.env.scope.names.lookup y = some .local := by rfl)
    (hs : swapsWithSole [.Tuple [.Name x px, .Name y py] kt pt] (.Tuple [ea, eb] k2 pt2) pos.line X.env = pure false := by rfl)
    (he : starEach (ea :: [eb]) X.env = (false, eval ea X.env) :: starEach [eb] X.env := by rfl) (he2 : starEach [eb] X.env = (false, eval eb X.env) :: starEach [] X.env := by rfl) :
    DS X (.Assign [.Tuple [.Name x px, .Name y py] kt pt] (.Tuple [ea, eb] k2 pt2) pos) (tPar i j (tCons ta (tCons tb tNil))) (aPar i j aa ab) :=
  ⟨ps_par hc hN hi hj hij hx hy (pa_cons ha.pe (pa_cons hb.pe pa_nil he2) he) hw hs, fun A s q σ F H ok E kn kr kb kc => by
    refine ha.sm s _ q σ F H ok _ fun r1 s1 v1 F1 H1 q1 st1 rs1 => ?_
    refine hb.sm s1 _ q1 σ F1 H1 st1.st _ fun r2 s2 v2 F2 H2 q2 st2 rs2 => ?_
    refine ⟨v1, v2, rfl, kn _ _ F2 H2 q2 ((st1.trans st2).put2 (rs1.keep st2) (rs2.more st1) fun p e1 e2 => ?_)⟩
    obtain ⟨g1, g2⟩ := rs1.fr p e1
    obtain ⟨g3, g4⟩ := rs2.fr p e2
    rcases g3 with z | z
    · obtain ⟨_, us, h3⟩ := SlOk.own r1 rs1.ok e1
      rw [h3] at z
      cases z
    · exact g2 z⟩
theorem s_app {i : Nat} {x : Str} {p2 apos cpos : Pos} (he : DE X ea ta aa) (hv : DE X (.Name x p2) (tVar i) (aVar i)) (hbase : attributeBase (.Name x p2) "append" X.env (eval (.Name x p2) X.env) = eval (.Name x p2) X.env := by rfl)
    (hfew : ((backTo cpos (starEach (ea :: []) X.env)).all (fun x => !x.1) && (backToKw cpos (keywordEach [] X.env)).all (fun x => x.1.isSome) && decide ((ea :: []).length + ([] : List Keyword).length + (if ([] : List Keyword).isEmpty then 0 else 1) < 30)) = true := by rfl)
    (hline : (apos.endLine == cpos.line) = true := by rfl) (hs : starEach (ea :: []) X.env = (false, eval ea X.env) :: starEach [] X.env := by rfl) (hplain : (backTo cpos (starEach [] X.env)).any (·.1) = false := by rfl)
    (hsw : swapsWith (.Call (.Attribute (.Name x p2) "append" apos) [ea] [] cpos) none pos.line X.env = pure false := by rfl) : DS X (.Expr (.Call (.Attribute (.Name x p2) "append" apos) [ea] [] cpos) pos) (tDrop (tBM X.K "list" rAppend (tVar i) (tCons ta tNil))) (aApp i aa) :=
  ⟨ps_expr (pe_bm PySem.F.plainAttrs_list PySem.F.slot_list_append PySem.F.type_list_append mt_append hv.pe (pa_cons he.pe pa_nil hs) hbase hfew hline hs hplain) hsw, sims_app he.sm⟩
theorem s_put {i : Nat} {x : Str} {p2 spos : Pos} (he : DE X ea ta aa) (hv : DE X (.Name x p2) (tVar i) (aVar i)) (hk : DE X eb tb ab)
    (ha : ∀ v, assign (.Subscript (.Name x p2) eb spos) X.env v = (do
      let ov ← holding [v] (eval (.Name x p2) X.env)
      let iv ← holding [v, ov] (eval eb X.env)
      standAt spos
      holding [v, ov, iv] (setItem ov iv v)
      release [v, ov, iv] []) := by intro _; rfl) (hs : swapsWithSole [.Subscript (.Name x p2) eb spos] ea pos.line X.env = pure false := by rfl) (hw : swappedStores [.Subscript (.Name x p2) eb spos] ea X.env = pure none := by rfl)
    (h1 : (assignEach [.Subscript (.Name x p2) eb spos] X.env).map (·.2) = [assign (.Subscript (.Name x p2) eb spos) X.env] := by rfl) :
    DS X (.Assign [.Subscript (.Name x p2) eb spos] ea pos) (tAsg ta (gSub (tVar i) tb rSetL)) (aPut i aa ab) := ⟨ps_asg he.pe (pg_sub hv.pe hk.pe set_list ha) hs hw h1, sims_put he.sm hk.sm⟩
theorem s_expr (he : DE X ea ta aa) (hs : swapsWith ea none pos.line X.env = pure false := by rfl) : DS X (.Expr ea pos) (tDrop ta) (aDrop aa) := ⟨ps_expr he.pe hs, sims_drop he.sm⟩
theorem s_ret (he : DE X ea ta aa) : DS X (.Return (some ea) pos) (tRet ta) (aRet aa) := ⟨ps_ret he.pe, sims_ret he.sm⟩
theorem s_if {b1 b2 : List Stmt} (hc : DT X ec t at1) (h1 : DSs X b1 ts as) (h2 : DSs X b2 tu aus) : DS X (.If ec b1 b2 pos) (tIfS t ts tu) (aIfS at1 as aus) := ⟨ps_if hc.pe h1.pe h2.pe, sims_if hc.sm h1.sm h2.sm⟩
theorem s_nev : DS X st tNever aNev := ⟨ps_never, sims_nev⟩
theorem s_for {tg iter : Expr} {body : List Stmt} {wi : TI} {ai : AI} {g : TG} {ag : AG} {L : List Nat} (hp : PassesOwn (model X.prog X.w) X.A X.env X.xe) (hc : X.calm = true) (hi : DI X tg iter wi ai) (hg : DG X tg g ag L) (hb : DSs X body ts as)
    (hs : ∀ x, foldedSetIterable iter X.env x = pure x := by intro _; rfl) : DS X (.For tg iter body [] pos) (tFor wi g ts) (aFor ai ag as) := ⟨ps_for hp hc hi.pe hg.pe hb.pe hs, sims_for hi.sm hg.sm hb.sm⟩
theorem ss_nil : DSs X [] tNext aNext := ⟨pss_nil, sims_next⟩
theorem ss_one (h : DS X st ts as) : DSs X [st] ts as := ⟨pss_one h.pe, h.sm⟩
theorem ss_cons (h : DS X st ts as) (h2 : DSs X sts tu aus) : DSs X (st :: sts) (tSeq ts tu) (aSeq as aus) := ⟨pss_cons h.pe h2.pe, sims_seq h.sm h2.sm⟩
end
section
variable {P : Program} {w : World} {K : PySem.W.Frag} {mg : Str → Option Value} {base : Heap}
theorem fnD {x qual : Str} {st : Stmt} {f : Addr} {fd : FuncData} {N ps : List Str} {k n : Nat} {S : ARC} {as : AS} (Fn : Fun K x qual st f fd) (Sc : FnScope N ps (defScope st)) (hn : ps.length = n)
    (hS : ∀ ds Q, ds.length = n → S ds Q → as (endsD Q) (startS N.length (ds.map .pu)))
    (hbody : ∀ (cdv : Value) (A : Around) (outer : List Env) (s : Shared) (H : Hp) (E : XK), (A.deeper (PyProof.Rows.envOfC qual (defScope st) s.heap.objs.size f cdv)).guards = some [] → Room k (A.deeper (PyProof.Rows.envOfC qual (defScope st) s.heap.objs.size f cdv)) → ∃ ts, DSs (cxOf CX0 P w K mg base N qual (defScope st) f cdv A outer s H E).nox (defBody st) ts as) :
    GnOk P w K mg base CX0 (k + 1) f fd ps (spD K n S) := okD Fn Sc hn fun cdv A outer s H E hg hr => by
  obtain ⟨ts, h⟩ := hbody cdv A outer s H E hg hr
  exact ⟨ts, as, h.pe, h.sm, hS⟩
theorem fnM {x qual : Str} {st : Stmt} {f : Addr} {fd : FuncData} {N ps : List Str} {k n : Nat} {S : ARM} {as : AS} (Fn : Fun K x qual st f fd) (Sc : FnScope N ps (defScope st)) (hn : ps.length = n)
    (hS : ∀ xs ds Q p, ds.length + 1 = n → S xs ds Q → as (endsM Q p) (startS N.length (.ow p xs :: ds.map .pu)))
    (hbody : ∀ (cdv : Value) (A : Around) (outer : List Env) (s : Shared) (H : Hp) (E : XK), (A.deeper (PyProof.Rows.envOfC qual (defScope st) s.heap.objs.size f cdv)).guards = some [] → Room k (A.deeper (PyProof.Rows.envOfC qual (defScope st) s.heap.objs.size f cdv)) → ∃ ts, DSs (cxOf CX0 P w K mg base N qual (defScope st) f cdv A outer s H E).nox (defBody st) ts as) :
    GnOk P w K mg base CX0 (k + 1) f fd ps (spM K n S) := okM Fn Sc hn fun cdv A outer s H E hg hr => by
  obtain ⟨ts, h⟩ := hbody cdv A outer s H E hg hr
  exact ⟨ts, as, h.pe, h.sm, hS⟩
end
end DL
namespace DL
variable [Tabl]
open PySem L2
abbrev aAdd (a b : AE) : AE := aOp (aI fun i j => i + j) a b
abbrev aSub (a b : AE) : AE := aOp (aI fun i j => i - j) a b
abbrev aMul (a b : AE) : AE := aOp (aIC CMul fun i j => i * j) a b
abbrev aDiv (a b : AE) : AE := aOp (aIC CDiv fun i j => i / j) a b
abbrev aDivW (a b : AE) : AE := aOp (aIC CDivW fun i j => i / j) a b
abbrev aMod (a b : AE) : AE := aOp (aIC (fun _ j => 0 < j) fun i j => i % j) a b
abbrev aPow (a b : AE) : AE := aOp (aIC CPow fun i j => i ^ j.toNat) a b
abbrev aLt : AR2 := aB fun i j => decide (i < j)
abbrev aLe : AR2 := aB fun i j => decide (i ≤ j)
abbrev aGt : AR2 := aB fun i j => decide (j < i)
abbrev aGe : AR2 := aB fun i j => decide (j ≤ i)
/-- powers of great numbers -/
def CPowW (i j : Int) : Prop := 0 ≤ j ∧ (Builtin.Int.intBits i : Int) * j ≤ 2 ^ 27
theorem op_powW {X : Cx} : OpR X (binaryOp .Pow) (rI CPowW fun i j => .int (i ^ j.toNat)) := opI fun _ _ _ _ _ _ _ hc q => PyProof.Rows.pow_int hc.1 hc.2 q
abbrev aPowW (a b : AE) : AE := aOp (aIC CPowW fun i j => i ^ j.toNat) a b
theorem d_powW {X : Cx} {ea eb : Expr} {ta tb : TE} {aa ab : AE} {pos : Pos} (ha : DE X ea ta aa) (hb : DE X eb tb ab) : DE X (.BinOp ea .Pow eb pos) (tOp (rI CPowW fun i j => .int (i ^ j.toNat)) ta tb) (aPowW aa ab) := d_op op_powW rd_ic ha hb
/-- list(range(..)) -/
def aListRange1 (a : AA) : AE := fun s P => a s fun ds s1 => match ds with
  | [.int j] => (0 ≤ j ∧ j ≤ 16777216) ∧ ∀ p, P (.ow p (rngD 0 j.toNat)) s1
  | _ => False
theorem dqa_rng {K : PySem.W.Frag} {F : Hp} (a b : Int) : DqA K F (rngD a (b - a).toNat) (rgV a b) := by
  unfold rngD rgV
  generalize (List.range (b - a).toNat) = l
  induction l with
  | nil => rfl
  | cons x l ih => exact ⟨_, _, rfl, rfl, ih⟩
theorem d_list_range1 {X : Cx} {ea : Expr} {ta : TE} {aa : AE} {p p2 pos pos2 : Pos} (hm : X.mg "list" = none) (hm2 : X.mg "range" = none) (hc : X.calm = true) (ha : DE X ea ta aa) (hg : Gl X "list" := by rfl) (hg2 : Gl X "range" := by rfl) (n1 : starEach [ea] X.env = (false, eval ea X.env) :: starEach [] X.env := by rfl)
    (na : starEach [.Call (.Name "range" p) [ea] [] pos] X.env = (false, eval (.Call (.Name "range" p) [ea] [] pos) X.env) :: starEach [] X.env := by rfl) :
    DE X (.Call (.Name "list" p2) [.Call (.Name "range" p) [ea] [] pos] [] pos2) (tLstRg (tRg1 ta)) (aListRange1 (aCons aa aNil)) :=
  ⟨pe_listRg hc hg hm (prg_1 hg2 hm2 ha.pe n1) na, fun s P q σ F H ok Q k => by
    refine ha.sm.d q ok fun r s1 v F1 H1 q1 st1 d1 => ?_
    have q2 : (match [r.d] with | [.int j] => (0 ≤ j ∧ j ≤ 16777216) ∧ ∀ p, P (.ow p (rngD 0 j.toNat)) s1 | _ => False) := q1
    cases e : r.d <;> simp only [e] at q2
    rename_i j
    rw [e] at d1
    refine ⟨j, d1, RgOk.of_le (by omega) (by omega) (by omega) (by omega), fun p hp => ?_⟩
    have hd := dqa_rng (K := X.K) (F := F1) 0 j
    obtain ⟨st2, rs2⟩ := st1.leaf (Lf.newL st1.st.le hp hd)
    have q3 := q2.2 p
    rw [show j.toNat = (j - 0).toNat by omega] at q3
    exact k _ s1 _ _ _ q3 st2 rs2⟩
/-- a def that changes its first argument, called with a new tree -/
def aCallT (n : Nat) (S : ARM) (a0 : AE) (ar : AA) : AE := fun s P => a0 s fun r s1 => match r with
  | .ow _ xs => ar s1 fun ds s2 => ds.length + 1 = n ∧ S xs ds fun rs _ => P rs s2
  | _ => False
theorem Step.calledN {K : PySem.W.Frag} {s s1 : Ss} {σ : L2.St} {F H F1 H1 F2 H2 : Hp} {l l' rs : Sl} {v0 v : V} (st : Step K s F H s1 F1 H1 σ) (r0 : Rs K s H F1 H1 s1 l v0) (x : Lt K l v0 F1 H1 rs v l' F2 H2) :
    Step K s F H s1 F2 H2 σ ∧ Rs K s H F2 H2 s1 rs v := by
  have un : ∀ b u, b ∉ fp l → F1 b = none → H1 b = some u → F2 b = none := fun b u hb h1 h2 => by
    cases z : F2 b with
    | none => rfl
    | some o =>
      rcases x.n b (by rw [z]; intro y; cases y) with y | y | y
      · exact absurd h1 y
      · rw [h2] at y
        cases y
      · exact absurd y hb
  refine ⟨⟨⟨x.le, st.st.len, fun i l2 o w1 w2 => ?_, st.st.un, st.st.nd⟩, st.f.trans x.f, fun b o w1 nt w2 => ?_, fun b w => st.t b (x.t b w), fun b w => ?_, st.o⟩, ⟨x.ok, fun a ha => ?_, x.nd⟩⟩
  · refine SlOk.mono l2 x.f (fun q hq u hd z1 z2 => ?_) (st.st.ok i l2 o w1 w2)
    have nq : q ∉ fp l := fun z => (r0.fr q z).2 ⟨i, l2, w1, hq⟩
    exact ⟨un q u nq z1 z2, x.h q u nq z2 hd.tbl⟩
  · refine x.h b o (fun z => ?_) (st.k b o w1 nt w2) nt
    rcases (r0.fr b z).1 with y | y
    · rw [w1] at y
      cases y
    · exact w2 y
  · rcases x.n b w with y | y | y
    · exact st.n b y
    · exact .inr (.inl (st.t b y))
    · rcases (r0.fr b y).1 with z | z
      · exact .inr (.inl z)
      · exact .inr (.inr z)
  · obtain ⟨h1, h2⟩ := x.fr a ha
    rcases h1 with y | y
    · exact r0.fr a y
    · refine ⟨.inl (st.t a y), fun w => ?_⟩
      obtain ⟨_, u, hu⟩ := st.st.own w
      rw [y] at hu
      cases hu
theorem sim_callT {K : PySem.W.Frag} {n : Nat} {S : ARM} {te : TE} {t : TA} {a0 : AE} {a : AA} {E : XK} (h0 : Sim K te a0) (ha : SimA K t a) : Sim K (tCall (spM K n S) [] E (tCons te t)) (aCallT n S a0 a) := fun s P q σ F H ok Q k => by
  refine h0 s _ q σ F H ok _ fun r s1 v F1 H1 q1 st1 rs1 => ?_
  cases r with
  | no => exact q1.elim
  | pu d => exact q1.elim
  | nd _ _ _ => exact q1.elim
  | ow p xs =>
    refine ha s1 _ q1 σ F1 H1 st1.st _ fun ds s2 ws F2 H2 q2 st2 d2 => ?_
    have rs2 := rs1.keep st2
    show spM K n S ((v :: ws) ++ []) H2 Q E
    rw [List.append_nil]
    refine ⟨F2, _, v, ds, ws, fun rs _ => P rs s2, rfl, st2.st.le, rs2.ok, rs2.nd, d2, q2.1, ⟨_, _, rfl, q2.2⟩, fun rs l' v F3 H3 hP x => ?_⟩
    obtain ⟨st3, rs3⟩ := (st1.trans st2).calledN rs2 x
    exact k rs s2 v F3 H3 hP st3 rs3
theorem d_callT {X : Cx} {K : PySem.W.Frag} (hK : X.K = K := by rfl) {x : Str} {f : Addr} {fd : FuncData} {ps : List Str} {k n : Nat} {S : ARM} {tr : TA} {aar : AA} {p pos : Pos} {ea : Expr} {es : List Expr} {ta : TE} {aa : AE} (F : GnOk X.prog X.w K X.mg X.base CX0 k f fd ps (spM K n S)) (hgd : X.A.guards = some []) (hr : Room k X.A) (hm : X.mg x = some (.ref f)) (hk : PySem.W.keepIn K (.ref f) = true) (hb : Binds K fd ps [])
    (h0 : DE X ea ta aa) (ha : DA X es tr aar) (hg : Gl X x := by rfl) (hdb : (x == ("__debug__" : Str)) = false := by decide) (he : starEach (ea :: es) X.env = (false, eval ea X.env) :: starEach es X.env := by rfl) (hpl : (backTo pos (starEach es X.env)).any (·.1) = false := by rfl) :
    DE X (.Call (.Name x p) (ea :: es) [] pos) (tCall (spM K n S) [] E0 (tCons ta tr)) (aCallT n S aa aar) := by
  subst hK
  exact ⟨pe_g F hgd hr hg hm hk hb pass0 (pa_cons h0.pe ha.pe he) hdb he hpl, sim_callT h0.sm ha.sm⟩
def spLaw (K : PySem.W.Frag) : Sp := fun vs H Q _ => ∃ (a : Addr) (ns : List Int), vs = [.ref a] ∧ SqL K H a (ns.map V.int) ∧ ns.length ≤ 63 ∧ (∀ p, p ∈ Tabl.tabs → LamX.TabS H p.1 p.2) ∧ ∀ H', Q (.bl true) H'
/-- all but the tables -/
def noT (H : Hp) : Hp := fun b => match H b with
  | some (.tbl _) => none
  | o => o
theorem noT_of {H : Hp} {b : Addr} {o : HO} (h : H b = some o) (n : ∀ ps, o ≠ .tbl ps) : noT H b = some o := by
  unfold noT
  rw [h]
  cases o <;> first | rfl | exact absurd rfl (n _)
theorem of_noT {H : Hp} {b : Addr} {o : HO} (h : noT H b = some o) : H b = some o ∧ ∀ ps, o ≠ .tbl ps := by
  unfold noT at h
  cases e : H b with
  | none =>
    rw [e] at h
    cases h
  | some u =>
    rw [e] at h
    cases u <;> first | (cases h; done) | (cases h; exact ⟨rfl, fun ps z => by cases z⟩)
theorem le_noT {H : Hp} (t : ∀ p, p ∈ Tabl.tabs → LamX.TabS H p.1 p.2) : Le (noT H) H := ⟨fun b o h => (of_noT h).1, fun a ps h => (of_noT h).2 ps rfl, t⟩
theorem seq_noT {K : PySem.W.Frag} {H : Hp} {a : Addr} {xs : List V} (h : SqL K H a xs) : SqL K (noT H) a xs := by
  rcases h with (h | ⟨o, h⟩) | h
  · exact .inl (.inl (noT_of h fun ps z => by cases z))
  · exact .inl (.inr ⟨o, noT_of h fun ps z => by cases z⟩)
  · exact .inr h
def SLaw : ARC := fun ds P => ∃ ns : List Int, ds = [.scr (ns.map D.int)] ∧ ns.length ≤ 63 ∧ P (.pu (.bl true))
theorem spLaw_D {K : PySem.W.Frag} : ∀ vs H Q E, spLaw K vs H Q E → spD K 1 SLaw vs H Q E := fun vs H Q E h => by
  obtain ⟨a, ns, rfl, h1, h2, ht, q⟩ := h
  refine ⟨noT H, [.scr (ns.map D.int)], fun r => r = .pu (.bl true), le_noT ht, ⟨.ref a, [], rfl, ⟨a, _, rfl, seq_noT h1, dqa_ints ns⟩, rfl⟩, rfl, ⟨ns, rfl, h2, rfl⟩, fun rs v F' H' hr l => ?_⟩
  subst hr
  obtain ⟨w, e1, e2⟩ := slok_pu.mp l.ok
  cases e1
  cases (show v = _ from e2)
  exact q H'
end DL
namespace DL
variable [Tabl]
open PySem L2
def rngK (k m : Nat) : List D := (List.range' k m).map fun (i : Nat) => D.int (i : Int)
theorem rngK_succ (k m : Nat) : rngK k (m + 1) = D.int (k : Int) :: rngK (k + 1) m := rfl
theorem rngD_K (n : Nat) : rngD 0 n = rngK 0 n := by
  unfold rngD rngK
  rw [List.range_eq_range']
  refine List.map_congr_left fun i _ => ?_
  rw [Int.zero_add]
theorem cutD_to (xs : List D) (k : Nat) : cutD xs none (some (k : Int)) = xs.take k := by
  unfold cutD
  rw [HT.sIx_nat, HT.sIx_none, List.drop_zero, Nat.sub_zero]
  by_cases h : k ≤ xs.length
  · rw [Nat.min_eq_left h]
  · rw [Nat.min_eq_right (by omega), List.take_of_length_le (Nat.le_refl _), List.take_of_length_le (by omega)]
theorem cutD_last (xs : List D) : cutD xs none (some (-1)) = xs.take (xs.length - 1) := by
  unfold cutD
  rw [HT.sIx_none, List.drop_zero, Nat.sub_zero]
  have e : HT.sIx xs.length xs.length (some (-1)) = xs.length - 1 := by
    show (if (-1 : Int) < 0 then ((-1 : Int) + (xs.length : Int)).toNat else min (-1 : Int).toNat xs.length) = _
    rw [if_pos (by decide)]
    omega
  rw [e]
end DL
namespace DL
variable [Tabl]
open PySem L2
mutual
def pyD : D → PyData
  | .non => .none
  | .bl b => .bool b
  | .int i => .int i
  | .str x => .str x
  | .tup xs => .tuple (pyA xs)
  | .lst xs => .list (pyA xs)
  | .scr xs => .list (pyA xs)
  | .ob _ => .none
  | .ins _ _ _ => .none
  | .dk _ _ => .none
  | .dt _ _ => .none
  | .exc _ _ => .none
def pyA : List D → List PyData
  | [] => []
  | d :: ds => pyD d :: pyA ds
end
mutual
def shD : Nat → D → Prop
  | _, .non => True
  | _, .bl _ => True
  | _, .int i => -(10 ^ 60) < i ∧ i < 10 ^ 60
  | _, .str x => x.cps.toList.all (fun c => decide (c < 16 ^ 8)) = true
  | k, .tup xs => 0 < k ∧ shA (k - 1) xs
  | k, .lst xs => 0 < k ∧ shA (k - 1) xs
  | k, .scr xs => 0 < k ∧ shA (k - 1) xs
  | _, .ob _ => False
  | _, .ins _ _ _ => False
  | _, .dk _ _ => False
  | _, .dt _ _ => False
  | _, .exc _ _ => False
def shA : Nat → List D → Prop
  | _, [] => True
  | k, d :: ds => shD k d ∧ shA k ds
end
mutual
def sizD : D → Nat
  | .non => 0
  | .bl _ => 0
  | .int _ => 0
  | .str x => x.cps.size
  | .tup xs => sizA xs
  | .lst xs => sizA xs
  | .scr xs => sizA xs
  | .ob _ => 0
  | .ins _ _ _ => 0
  | .dk _ _ => 0
  | .dt _ _ => 0
  | .exc _ _ => 0
def sizA : List D → Nat
  | [] => 0
  | d :: ds => sizD d + 1 + sizA ds
end
section
variable {K : PySem.W.Frag} {F H : Hp}
mutual
theorem dp_of : ∀ (d : D) (k : Nat) (v : V), shD k d → Dq K F d v → Dp K F v (pyD d)
  | .non, k, v, _, h => by
    cases (show v = _ from h)
    exact .non
  | .bl b, k, v, _, h => by
    cases (show v = _ from h)
    exact .bl b
  | .int i, k, v, _, h => by
    cases (show v = _ from h)
    exact .int i
  | .str x, k, v, _, h => by
    cases (show v = _ from h)
    exact .str x
  | .tup ds, k, v, hs, h => by
    obtain ⟨a, xs, rfl, h1, h2⟩ := h
    exact .tup h1 (dp_all ds (k - 1) xs (by simp only [shD] at hs; exact hs.2) h2)
  | .lst ds, k, v, hs, h => by
    obtain ⟨a, xs, rfl, h1, h2⟩ := h
    exact .lst (SqL.of h1) (dp_all ds (k - 1) xs (by simp only [shD] at hs; exact hs.2) h2)
  | .scr ds, k, v, hs, h => by
    obtain ⟨a, xs, rfl, h1, h2⟩ := h
    exact .lst h1 (dp_all ds (k - 1) xs (by simp only [shD] at hs; exact hs.2) h2)
  | .ob f, k, v, hs, h => by
    simp only [shD] at hs
  | .ins _ _ _, k, v, hs, h => by
    simp only [shD] at hs
  | .dk _ _, k, v, hs, h => by
    simp only [shD] at hs
  | .dt _ _, k, v, hs, h => by
    simp only [shD] at hs
  | .exc _ _, k, v, hs, h => by
    simp only [shD] at hs
theorem dp_all : ∀ (ds : List D) (k : Nat) (vs : List V), shA k ds → DqA K F ds vs → DpAll K F vs (pyA ds)
  | [], k, vs, _, h => by
    cases (show vs = [] from h)
    exact .nil
  | d :: ds, k, vs, hs, h => by
    obtain ⟨x, r, rfl, h1, h2⟩ := h
    simp only [shA] at hs
    exact .cons (dp_of d k x hs.1 h1) (dp_all ds k r hs.2 h2)
end
theorem int60 {i : Int} (h : -(10 ^ 60) < i ∧ i < 10 ^ 60) : i.natAbs < 10 ^ 60 := by omega
mutual
theorem sh_ok : ∀ (d : D) (k : Nat), shD k d → (pyD d).showable = true ∧ (pyD d).leavesShort 64 = true ∧ (pyD d).depth ≤ k ∧ (pyD d).hasDict = false ∧ (pyD d).bulk ≤ sizD d
  | .non, k, _ => ⟨rfl, rfl, Nat.zero_le _, rfl, Nat.le_refl _⟩
  | .bl b, k, _ => ⟨rfl, rfl, Nat.zero_le _, rfl, Nat.le_refl _⟩
  | .int i, k, hs => by
    simp only [shD] at hs
    have h1 := int60 hs
    have h2 : i.natAbs.log2 < 200 := by
      by_cases hz : i.natAbs = 0
      · rw [hz]
        decide
      · exact (Nat.log2_lt hz).mpr (Nat.lt_of_lt_of_le h1 (by decide +kernel))
    have h3 := int_text_length_le10 (k := 60) (by decide) h1
    refine ⟨?_, ?_, Nat.zero_le _, rfl, Nat.le_refl _⟩
    · simp only [pyD, PyData.showable, decide_eq_true_eq]
      omega
    · simp only [pyD, PyData.leavesShort, decide_eq_true_eq]
      have : (PyData.shown (.int i)).length ≤ 61 := by
        have e : (PyData.shown (.int i)).length = (toString i).length := by
          simp only [PyData.shown]
          show (Str.ofString (toString i)).length = _
          rw [ofString_length]
        omega
      omega
  | .str x, k, hs => by
    simp only [shD] at hs
    refine ⟨rfl, ?_, Nat.zero_le _, rfl, Nat.le_refl _⟩
    simp only [pyD, PyData.leavesShort]
    exact hs
  | .tup ds, k, hs => by
    simp only [shD] at hs
    obtain ⟨h1, h2, h3, h4, h5⟩ := sh_all ds (k - 1) hs.2
    refine ⟨by simpa only [pyD, PyData.showable] using h1, by simpa only [pyD, PyData.leavesShort] using h2, ?_, by simpa only [pyD, PyData.hasDict] using h4, by simpa only [pyD, PyData.bulk, sizD] using h5⟩
    simp only [pyD, PyData.depth]
    omega
  | .lst ds, k, hs => by
    simp only [shD] at hs
    obtain ⟨h1, h2, h3, h4, h5⟩ := sh_all ds (k - 1) hs.2
    refine ⟨by simpa only [pyD, PyData.showable] using h1, by simpa only [pyD, PyData.leavesShort] using h2, ?_, by simpa only [pyD, PyData.hasDict] using h4, by simpa only [pyD, PyData.bulk, sizD] using h5⟩
    simp only [pyD, PyData.depth]
    omega
  | .scr ds, k, hs => by
    simp only [shD] at hs
    obtain ⟨h1, h2, h3, h4, h5⟩ := sh_all ds (k - 1) hs.2
    refine ⟨by simpa only [pyD, PyData.showable] using h1, by simpa only [pyD, PyData.leavesShort] using h2, ?_, by simpa only [pyD, PyData.hasDict] using h4, by simpa only [pyD, PyData.bulk, sizD] using h5⟩
    simp only [pyD, PyData.depth]
    omega
  | .ob f, k, hs => by simp only [shD] at hs
  | .ins _ _ _, k, hs => by simp only [shD] at hs
  | .dk _ _, k, hs => by simp only [shD] at hs
  | .dt _ _, k, hs => by simp only [shD] at hs
  | .exc _ _, k, hs => by simp only [shD] at hs
theorem sh_all : ∀ (ds : List D) (k : Nat), shA k ds → PyData.showableAll (pyA ds) = true ∧ PyData.leavesShortAll 64 (pyA ds) = true ∧ PyData.depthAll (pyA ds) ≤ k ∧ PyData.hasDictAll (pyA ds) = false ∧ PyData.bulkAll (pyA ds) ≤ sizA ds
  | [], k, _ => ⟨rfl, rfl, Nat.zero_le _, rfl, Nat.le_refl _⟩
  | d :: ds, k, hs => by
    simp only [shA] at hs
    obtain ⟨h1, h2, h3, h4, h5⟩ := sh_ok d k hs.1
    obtain ⟨g1, g2, g3, g4, g5⟩ := sh_all ds k hs.2
    refine ⟨by simp only [pyA, PyData.showableAll, h1, g1, Bool.and_self], by simp only [pyA, PyData.leavesShortAll, h2, g2, Bool.and_self], ?_, by simp only [pyA, PyData.hasDictAll, h4, g4, Bool.or_self], ?_⟩
    · simp only [pyA, PyData.depthAll]
      omega
    · simp only [pyA, PyData.bulkAll, sizA]
      omega
end
/-- repr(x) -/
def rRepr (K : PySem.W.Frag) : List V → Hp → VK → Prop := fun vs H Q => ∃ v d, vs = [v] ∧ Dp K H v d ∧ d.showable = true ∧ d.depth ≤ 60 ∧ d.hasDict = false ∧ d.shown.length ≤ sizeLine ∧ Q (.str d.shown) H
theorem cr_repr {X : Cx} {k : Nat} (hg : X.A.guards = some []) (hr : Room k X.A) : CallR X (.builtin "repr") (rRepr X.K) := by
  intro pins s σ H vs us Q I r h
  obtain ⟨v, d, rfl, hp, h1, h2, h3, h4, q⟩ := h
  obtain ⟨u, rfl, ru⟩ := vals1 r
  obtain ⟨as, rd⟩ := Dp.reads I d v u hp ru
  have un := hr.un
  cases hp with
  | non =>
    cases ru
    exact PySem.P.repr_of_none ⟨.str _, H, I.tok _, ⟨_, rfl⟩, q⟩
  | bl b =>
    cases ru
    cases b <;> exact PySem.P.repr_of_bool ⟨.str _, H, I.tok _, ⟨_, rfl⟩, q⟩
  | int i =>
    obtain ⟨t, rfl⟩ := ru
    refine PySem.P.repr_of_int ?_ ⟨.str _, H, I.tok _, ⟨_, rfl⟩, q⟩
    simpa only [PyData.showable, decide_eq_true_eq] using h1
  | str x =>
    obtain ⟨t, rfl⟩ := ru
    exact PySem.P.repr_of_str ⟨.str _, H, I.tok _, ⟨_, rfl⟩, q⟩ h4
  | lst hs ha =>
    cases ru
    exact repr_of_reads' rd h1 (PyData.noDict_hsm h3) hg (by omega) (fun _ _ e => e) (fun h' u tk hk => ⟨.str _, H, I.kept hk, ⟨_, rfl⟩, q⟩) h4
  | tup hs ha =>
    cases ru
    exact repr_of_reads' rd h1 (PyData.noDict_hsm h3) hg (by omega) (fun _ _ e => e) (fun h' u tk hk => ⟨.str _, H, I.kept hk, ⟨_, rfl⟩, q⟩) h4
/-- the text of repr -/
def rpD (d : D) : Str := (pyD d).shown
def aRepr : ARC := fun ds P => match ds with
  | [d] => (shD 40 d ∧ sizD d ≤ 200000) ∧ P (.pu (.str (rpD d)))
  | _ => False
theorem Dp.mono {v : V} {d : PyData} (le : Le F H) (h : Dp K F v d) : Dp K H v d := by
  refine Dp.rec (motive_1 := fun v d _ => Dp K H v d) (motive_2 := fun vs ds _ => DpAll K H vs ds) ?_ ?_ ?_ ?_ ?_ ?_ ?_ ?_ h
  · exact .non
  · exact fun b => .bl b
  · exact fun b => .int b
  · exact fun b => .str b
  · exact fun h1 _ h2 => .lst (Same.seq le h1) h2
  · exact fun h1 _ h2 => .tup (Same.sqt le h1) h2
  · exact .nil
  · exact fun _ _ h1 h2 => .cons h1 h2
theorem rc_repr : RC K (rRepr K) aRepr := fun ds P q F H xs le dx Q k => by
  match ds, q, dx with
  | [d], q, dx =>
    obtain ⟨v, rfl, h⟩ := dqa1 dx
    obtain ⟨⟨q1, q2⟩, q3⟩ := q
    obtain ⟨h1, h2, h3, h4, h5⟩ := sh_ok d _ q1
    refine ⟨v, pyD d, rfl, Dp.mono le (dp_of d _ v q1 h), h1, by omega, h4, ?_, k _ _ F H q3 (Lf.same le _ _ rfl)⟩
    have z := PyData.shown_le_bulk 64 (by decide) (pyD d) h2
    rw [sizeLine_eq]
    omega
end
end DL
namespace PySem
open AutoSeq1 (wpAny_loadPart')
theorem enum_new_any {v : Value} {ob : Obj} {Hh : Heap → Prop} (bg : Begins v ob Hh) :
    Meets (Builtin.«enumerate.__new__» ⟨[.type "enumerate", v], []⟩) (fun _ R sh => Hh sh.heap ∧
      R (.ok (.ret (.ref (sh.heap.push ob).objs.size))) { sh with heap := (sh.heap.push ob).push { cls := .type "enumerate", data := .fields #[.none, .bool false, .ref sh.heap.objs.size, rawInt 0, .none, .none] } }) :=
  .of_wp fun pr wd Ar Rr sh hq => by
    obtain ⟨hp, gs, dd, tks, osx⟩ := sh
    obtain ⟨hyp, hq⟩ := hq
    have hsub2 := sub_enumerate
    have go : ∀ {A' : Around} {E : Value → Shared → Prop} {Q : Value → Shared → Prop}, Q (.ref hp.objs.size) ⟨hp.push ob, gs, dd, tks, osx⟩ → wpAny (model pr wd) A' (pyIter v) Q E ⟨hp, gs, dd, tks, osx⟩ := fun q => bg.iter pr wd _ _ ⟨hp, gs, dd, tks, osx⟩ _ hyp q
    wp_walk using go
    refine wpAny_stack_any fun st => wpAny_pure ?_
    split
    · rename_i cc _ _ _ _ _
      cases (cc == Value.type "enumerate")
      · wp_walk using go
        exact ⟨_, rfl, hq⟩
      · wp_walk using go
        exact ⟨_, rfl, hq⟩
    · wp_walk using go
      exact ⟨_, rfl, hq⟩
section
variable {pr : Program} {wd : World} {Ar : Around} {E : Value → Shared → Prop} {sh : Shared}
theorem call_enum_any {v : Value} {ob : Obj} {Hh : Heap → Prop} {Q : Value → Shared → Prop} (bg : Begins v ob Hh) (hyp : Hh sh.heap)
    (hq : ∀ h', IsEnum h' (sh.heap.objs.size + 1) sh.heap.objs.size 0 .none → h'.get? sh.heap.objs.size = some ob → h'.objs.size = sh.heap.objs.size + 2 → (∀ b o, sh.heap.get? b = some o → h'.get? b = some o) → Q (.ref (sh.heap.objs.size + 1)) { sh with heap := h' }) :
    wpAny (model pr wd) Ar (call (.type "enumerate") [v]) Q E sh := by
  refine callType_new F.called_enumerate (by decide) (F.typeCall_enumerate_1 _) (F.newCall_enumerate_1 _) (fun obj => F.args_object_init_2 obj _) F.entry_enumerate_new (enum_new_any bg) ⟨hyp, ?_⟩
  have hz : (sh.heap.push ob).objs.size = sh.heap.objs.size + 1 := Heap.size_push ..
  have en : IsEnum ((sh.heap.push ob).push { cls := .type "enumerate", data := .fields #[.none, .bool false, .ref sh.heap.objs.size, rawInt 0, .none, .none] }) (sh.heap.objs.size + 1) sh.heap.objs.size 0 .none := by
    have z := Heap.get?_push_size (sh.heap.push ob) (o := { cls := .type "enumerate", data := .fields #[.none, .bool false, .ref sh.heap.objs.size, rawInt 0, .none, .none] }) rfl
    rw [hz] at z
    exact z
  rw [hz]
  exact ⟨⟨_, en, rfl⟩, hq _ en (Heap.get?_push_of_some _ (Heap.get?_push_size _ bg.free)) (by rw [Heap.size_push, hz]) fun b o x => Heap.get?_push_of_some _ (Heap.get?_push_of_some _ x)⟩
end
end PySem
namespace DL
variable [Tabl]
open PySem L2
/-- the tuple at a, each item in a new pair -/
def IteT (K : PySem.W.Frag) (a : Addr) : It :=
  ⟨fun i H => ∃ (xs : List V) (x : V), SqT K H a xs ∧ xs[i]? = some x, fun i H v H' => ∃ T x, v = .ref T ∧ H T = none ∧ H' = upd H T (.tup [.int (i : Nat), x]) ∧ ∀ xs, SqT K H a xs → xs[i]? = some x, fun i H => ∃ xs : List V, SqT K H a xs ∧ xs.length = i⟩
theorem turn_enumT {P : Program} {w : World} {K : PySem.W.Frag} {elts : List Expr} {kk : Nat} {tpos : Pos} (a e it : Addr) :
    Turn P w K (.Tuple elts kk tpos) (IteT K a) [e, it] e (fun i h => (∃ old, IsEnum h e it ((i : Nat) : Int) old) ∧ h.IsTupleIter it a i ∧ e ≠ it ∧ e ≠ a ∧ a ≠ it) where
  mem := List.mem_cons_self
  obj := fun i h st b hb => by
    obtain ⟨⟨old, he⟩, ⟨o, ho, hc, hd⟩, _⟩ := st
    rcases List.mem_cons.mp hb with z | z
    · rw [z]
      exact ⟨_, he, fun v q => nomatch q⟩
    · rw [List.mem_singleton.mp z]
      exact ⟨o, ho, fun v q => by rw [hd] at q; cases q⟩
  keep := fun i h h' st k => by
    obtain ⟨⟨old, he⟩, hi, hne⟩ := st
    exact ⟨⟨old, k e List.mem_cons_self _ he⟩, hi.at fun o q => k it (List.mem_cons_of_mem _ List.mem_cons_self) o q, hne⟩
  item := by
    intro X hP hw hK hc i pins s σ H E I hf st hg
    subst hP hw hK
    obtain ⟨⟨old, he⟩, hit, hne, nea, nai⟩ := st
    obtain ⟨xs, x, hq, hx⟩ := hg
    obtain ⟨its, rv, p, hz⟩ := I.tuple hq
    obtain ⟨u, hu, ru⟩ := rv.get hx
    have hel : e < s.heap.objs.size := Heap.lt_size he
    have hil : it < s.heap.objs.size := by
      obtain ⟨_, q, _⟩ := hit
      exact Heap.lt_size q
    have hlt : i < its.length := (List.getElem?_eq_some_iff.mp hu).1
    have hh : X.A.in1.handled = none := I.ok.hd hc
    refine wpAny_pyNext_enum_itemD (n := its.toArray.size) (Draws.tuple hh it a nai its.toArray) he ⟨hit, p⟩ (by simpa using hlt) hne (by simp [hne, nea]) fun x2 h' tk hx2 ho hit' hT hsz hk => ?_
    have e2 : x2 = u := by
      have hx2 : its.toArray[i]? = some x2 := hx2
      rw [show its.toArray[i]? = its[i]? by simp, hu] at hx2
      cases hx2
      rfl
    subst e2
    refine ⟨_, rfl, wpAny_letOwnedTupleGo_enum (s := { s with heap := h', toks := tk + 1 }) ho fun h'' he' sb => ?_⟩
    have hT2 : h''.get? s.heap.objs.size = some { cls := .type "tuple", data := .seq #[.int i tk, x2] } := (sb.2 _ (Nat.ne_of_gt hel)).trans hT
    have new : ObjOk X.prog X.w (upd H s.heap.objs.size (.tup [.int (i : Nat), x])) h'' s.heap.objs.size (.tup [.int (i : Nat), x]) :=
      ⟨by show 2 ≤ sizeLine; decide, [.int i tk, x2], .cons ⟨_, rfl⟩ (.cons ru .nil), ⟨_, hT2, rfl, _, rfl⟩⟩
    have mem2 : ∀ b, b ∉ [e, it] → b ≠ e ∧ b ≠ it := fun b hb => ⟨fun z => hb (by rw [z]; exact List.mem_cons_self), fun z => hb (by rw [z]; exact List.mem_cons_of_mem _ List.mem_cons_self)⟩
    have I1 : Inv X pins σ (upd H s.heap.objs.size (.tup [.int (i : Nat), x])) { s with heap := h'', toks := tk + 1 } :=
      I.turnedNew (ch := [e, it]) (fun b ob hb q => (sb.2 b (mem2 b hb).1).trans (hk b ob (mem2 b hb).1 (mem2 b hb).2 q)) hf (Nat.le_refl _) new
    refine ⟨.ref s.heap.objs.size, _, I1, rfl, ⟨_, x, rfl, I.hok.fresh (Nat.le_refl _), rfl, fun ys hy => by rw [I.tuple_inj hy hq]; exact hx⟩, ⟨⟨x2, ?_⟩, hit'.1.at fun o q => (sb.2 it (Ne.symm hne)).trans q, hne, nea, nai⟩, fun b hb => ?_⟩
    · rw [show ((i + 1 : Nat) : Int) = (i : Int) + 1 by omega]
      exact he'
    · have hb' : b < s.heap.objs.size := by
        rcases List.mem_cons.mp hb with z | z
        · rw [z]
          exact hel
        · rw [List.mem_singleton.mp z]
          exact hil
      rw [upd_ne (Nat.ne_of_lt hb')]
      exact (hf b hb).1
  done := by
    intro X hP hw hK hc i pins s σ H E I hf st hg
    subst hP hw hK
    obtain ⟨⟨old, he⟩, hit, hne, nea, nai⟩ := st
    obtain ⟨xs, hq, hx⟩ := hg
    obtain ⟨its, rv, p, hz⟩ := I.tuple hq
    obtain ⟨f0, f1, f2, f3, f4, f5⟩ := hf it (List.mem_cons_of_mem _ List.mem_cons_self)
    have hl := rv.length
    have hh : X.A.in1.handled = none := I.ok.hd hc
    have hs : its.toArray.size = i := by
      rw [List.size_toArray]
      omega
    have D1 := Draws.tuple (prog := X.prog) (w := X.w) hh it a nai its.toArray
    exact wpAny_pyNext_enum_endD D1 he (by rw [hs]; exact ⟨hit, p⟩) fun h' eb => ⟨rfl, I.turned (t' := s.toks) (fun b o hb q => eb b o hb q) f0 f1 f3 f4 f5⟩
  self := fun A i s Q E st h => let ⟨⟨_, he⟩, _⟩ := st; wpAny_pyIter_enum he h
def iEnumT (K : PySem.W.Frag) (ta : TA) : TI := fun σ H R => ta σ H fun vs H1 => ∃ a xs, vs = [.ref a] ∧ SqT K H1 a xs ∧ R (IteT K a) H1
theorem pi_enumT {X : Cx} {e : Expr} {ta : TA} {p pos tpos : Pos} {elts : List Expr} {kk : Nat} (hg : Gl X "enumerate") (hm : X.mg "enumerate" = none) (ha : PA X [e] ta) (hs : starEach [e] X.env = [(false, eval e X.env)] := by rfl) :
    PI X (.Tuple elts kk tpos) (.Call (.Name "enumerate" p) [e] [] pos) (iEnumT X.K ta) := by
  refine ⟨fun pins s σ H R I h => ?_⟩
  refine PyProof.Rows.Call_ (ld_blt I hg hm PyProof.Rows.boot_enumerate (PyProof.Rows.callWith_type1 (thn (ha.run pos pins s σ H _ I h) fun us s1 ⟨vs, H1, I1, r1, q1⟩ => ?_) hs rfl))
  obtain ⟨a, xs, rfl, hq, q⟩ := q1
  rw [Vals.ref1 r1]
  obtain ⟨its, rv, tp, hz⟩ := I1.tuple hq
  have hlt : a < s1.heap.objs.size := by
    obtain ⟨o, ho, _⟩ := tp
    exact Heap.lt_size ho
  refine call_enum_any (begins_tuple a its.toArray) tp fun h' he hit hsz hk => wpAny_pyIter_enum he ?_
  have I2 : Inv X pins σ H1 { s1 with heap := h' } := I1.kept (t' := s1.toks) hk
  refine ⟨s1.heap.objs.size + 1, [s1.heap.objs.size + 1, s1.heap.objs.size], _, _, H1, rfl, I2, turn_enumT a (s1.heap.objs.size + 1) s1.heap.objs.size, ⟨⟨.none, he⟩, ⟨_, hit, rfl, rfl⟩, Nat.succ_ne_self _, Nat.ne_of_gt (Nat.lt_succ_of_lt hlt), Nat.ne_of_lt hlt⟩, fun b hb => ?_, q⟩
  have hle : s1.heap.objs.size ≤ b := by
    rcases List.mem_cons.mp hb with z | z
    · rw [z]
      exact Nat.le_add_right _ _
    · rw [List.mem_singleton.mp z]
      exact Nat.le_refl _
  exact I1.fpOk hle (I1.hok.fresh hle)
theorem walk_enumT {K : PySem.W.Frag} {a : Addr} {xs : List V} : Walk (IteT K a) xs.length (fun H => SqT K H a xs) (YPair (fun i => some (.int (i : Nat))) (fun i => xs[i]?)) := by
  refine ⟨fun i _ hi q => ⟨xs, xs[i], q, List.getElem?_eq_getElem hi⟩, fun _ q => ⟨xs, q, rfl⟩, fun i H v H' _ q y => ?_⟩
  obtain ⟨T, x, h1, h2, h3, h4⟩ := y
  exact ⟨T, .int (i : Nat), x, h1, h2, h3, rfl, h4 xs q⟩
def enumD (ds : List D) : List D := (List.range ds.length).zip ds |>.map fun p => D.tup [.int (p.1 : Nat), p.2]
def aItEnT (a : AA) : AI := fun s P => a s fun ds s1 => match ds with
  | [.tup es] => P (enumD es) s1
  | _ => False
theorem enumD_get {ds : List D} {i : Nat} {d : D} (h : (enumD ds)[i]? = some d) : ∃ e, ds[i]? = some e ∧ d = .tup [.int (i : Nat), e] := by
  unfold enumD at h
  rw [List.getElem?_map] at h
  cases e1 : ((List.range ds.length).zip ds)[i]? with
  | none =>
    rw [e1] at h
    cases h
  | some p =>
    rw [e1] at h
    cases h
    obtain ⟨h1, h2⟩ := List.getElem?_zip_eq_some.mp e1
    obtain ⟨h3, h4⟩ := List.getElem?_eq_some_iff.mp h1
    rw [List.getElem_range] at h4
    exact ⟨p.2, h2, by rw [h4]⟩
theorem enumD_len (ds : List D) : (enumD ds).length = ds.length := by
  unfold enumD
  simp
theorem pair_lf {K : PySem.W.Frag} {F1 H2 H3 : Hp} {x : V} {d e : D} {v1 v2 : V} {T : Addr} (e2 : Le F1 H2) (h2 : H2 T = none) (hx : x = .ref T) (h3 : H3 = upd H2 T (.tup [v1, v2])) (d1 : Dq K F1 d v1) (d2 : Dq K F1 e v2) : ∃ F2, Lf K F1 H2 (.pu (.tup [d, e])) x F2 H3 := by
  subst hx h3
  exact ⟨_, Lf.newT e2 h2 ⟨v1, [v2], rfl, d1, v2, [], rfl, d2, rfl⟩⟩
theorem simi_enT {K : PySem.W.Frag} {t : TA} {a : AA} (h : SimA K t a) : SimI K (iEnumT K t) (aItEnT a) := fun s P q σ F H ok R k => by
  refine h s _ q σ F H ok _ fun ds s1 vs F1 H1 q1 st1 d1 => ?_
  match ds, q1, d1 with
  | [.tup es], q1, d1 =>
    obtain ⟨v, rfl, g⟩ := dqa1 d1
    obtain ⟨a, xs, rfl, h1, h2⟩ := g
    refine ⟨a, xs, rfl, Same.sqt st1.st.le h1, k _ s1 _ F1 H1 q1 st1 ⟨fun H => SqT K H a xs, YPair (fun i => some (.int (i : Nat))) (fun i => xs[i]?), ?_, fun H2 e => Same.sqt e h1, fun i H2 x H3 e y d hd F2 e1 e2 => ?_⟩⟩
    · rw [enumD_len, ← h2.length]
      exact walk_enumT
    · obtain ⟨T, y1, y2, g1, g2, g3, g4, g5⟩ := y
      obtain ⟨ed, he, rfl⟩ := enumD_get hd
      obtain ⟨x2, w1, w2⟩ := h2.get he
      have g5 : xs[i]? = some y2 := g5
      rw [w1] at g5
      cases g5
      cases g4
      exact pair_lf e2 g2 g1 g3 rfl (Dq.mono e1 _ _ w2)
theorem di_enumerateT {X : Cx} {K : PySem.W.Frag} (hK : X.K = K := by rfl) {ea : Expr} {tr : TA} {ar : AA} {p pos tpos : Pos} {elts : List Expr} {kk : Nat} (hm : X.mg "enumerate" = none) (ha : DA X [ea] tr ar) (hg : Gl X "enumerate" := by rfl) (hs : starEach [ea] X.env = [(false, eval ea X.env)] := by rfl) :
    DI X (.Tuple elts kk tpos) (.Call (.Name "enumerate" p) [ea] [] pos) (iEnumT K tr) (aItEnT ar) := by
  subst hK
  exact ⟨pi_enumT hg hm ha.pe hs, simi_enT ha.sm⟩
/-- enumerate of a list -/
def aItEnL (a : AA) : AI := fun s P => a s fun ds s1 => match ds with
  | [d] => match lstD d with
    | some es => P (enumD es) s1
    | none => False
  | _ => False
theorem simi_enL {K : PySem.W.Frag} {t : TA} {a : AA} (h : SimA K t a) : SimI K (iEnum K t) (aItEnL a) := fun s P q σ F H ok R k => by
  refine h s _ q σ F H ok _ fun ds s1 vs F1 H1 q1 st1 d1 => ?_
  match ds, q1, d1 with
  | [d], q1, d1 =>
    obtain ⟨v, rfl, g⟩ := dqa1 d1
    simp only at q1
    cases e0 : lstD d with
    | none =>
      rw [e0] at q1
      exact q1.elim
    | some es =>
      rw [e0] at q1
      obtain ⟨a, xs, rfl, h1, h2⟩ := lstD_ok e0 g
      refine ⟨a, xs, rfl, Same.seq st1.st.le h1, k _ s1 _ F1 H1 q1 st1 ⟨fun H => SqL K H a xs, YPair (fun i => some (.int (i : Nat))) (fun i => xs[i]?), ?_, fun H2 e => Same.seq e h1, fun i H2 x H3 e y d hd F2 e1 e2 => ?_⟩⟩
      · rw [enumD_len, ← h2.length]
        exact walk_enum
      · obtain ⟨T, y1, y2, g1, g2, g3, g4, g5⟩ := y
        obtain ⟨ed, he, rfl⟩ := enumD_get hd
        obtain ⟨x2, w1, w2⟩ := h2.get he
        have g5 : xs[i]? = some y2 := g5
        rw [w1] at g5
        cases g5
        cases g4
        exact pair_lf e2 g2 g1 g3 rfl (Dq.mono e1 _ _ w2)
theorem di_enumerateL {X : Cx} {K : PySem.W.Frag} (hK : X.K = K := by rfl) {ea : Expr} {tr : TA} {ar : AA} {p pos tpos : Pos} {elts : List Expr} {kk : Nat} (hm : X.mg "enumerate" = none) (ha : DA X [ea] tr ar) (hg : Gl X "enumerate" := by rfl) (hs : starEach [ea] X.env = [(false, eval ea X.env)] := by rfl) :
    DI X (.Tuple elts kk tpos) (.Call (.Name "enumerate" p) [ea] [] pos) (iEnum K tr) (aItEnL ar) := by
  subst hK
  exact ⟨pi_enum hg hm ha.pe hs, simi_enL ha.sm⟩
/-- zip of two tuples, of two lists -/
def zipD (ds es : List D) : List D := (ds.zip es).map fun p => D.tup [p.1, p.2]
theorem zipD_len (ds es : List D) : (zipD ds es).length = min ds.length es.length := by
  unfold zipD
  simp
theorem zipD_get {ds es : List D} {i : Nat} {d : D} (h : (zipD ds es)[i]? = some d) : ∃ x y, ds[i]? = some x ∧ es[i]? = some y ∧ d = .tup [x, y] := by
  unfold zipD at h
  rw [List.getElem?_map] at h
  cases e1 : (ds.zip es)[i]? with
  | none =>
    rw [e1] at h
    cases h
  | some p =>
    rw [e1] at h
    cases h
    obtain ⟨h1, h2⟩ := List.getElem?_zip_eq_some.mp e1
    exact ⟨p.1, p.2, h1, h2, rfl⟩
theorem walk_zipT {K : PySem.W.Frag} {a b : Addr} {xs ys : List V} {n : Nat} (hn : n = min xs.length ys.length) : Walk (RZ.ItzT K a b) n (fun H => SqT K H a xs ∧ SqT K H b ys) (YPair (fun i => xs[i]?) (fun i => ys[i]?)) := by
  subst hn
  refine ⟨fun i _ hi q => ⟨xs, ys, _, _, q.1, q.2, List.getElem?_eq_getElem (show i < xs.length by omega), List.getElem?_eq_getElem (show i < ys.length by omega)⟩, fun _ q => ⟨xs, ys, q.1, q.2, by omega⟩, fun i H v H' _ q y => ?_⟩
  obtain ⟨T, x, z, h1, h2, h3, h4, h5⟩ := y
  exact ⟨T, x, z, h1, h2, h3, h4 xs q.1, h5 ys q.2⟩
def aItZip (a : AA) : AI := fun s P => a s fun ds s1 => match ds with
  | [.tup xs, .tup ys] => P (zipD xs ys) s1
  | [d, e] => match lstD d, lstD e with
    | some xs, some ys => P (zipD xs ys) s1
    | _, _ => False
  | _ => False
theorem simi_zip {K : PySem.W.Frag} {t : TA} {a : AA} (h : SimA K t a) : SimI K (RZ.iZipA K t) (aItZip a) := fun s P q σ F H ok R k => by
  refine h s _ q σ F H ok _ fun ds s1 vs F1 H1 q1 st1 d1 => ?_
  have lists : ∀ d e, ds = [d, e] → (∃ us ws, lstD d = some us ∧ lstD e = some ws ∧ P (zipD us ws) s1) → ∃ a b xs ys, vs = [.ref a, .ref b] ∧ ((SqL K H1 a xs ∧ SqL K H1 b ys ∧ R (Itz K a b) H1) ∨ (SqT K H1 a xs ∧ SqT K H1 b ys ∧ R (RZ.ItzT K a b) H1)) := fun d e eds q7 => by
    subst eds
    obtain ⟨v, w, rfl, g, g'⟩ := dqa2 d1
    obtain ⟨us, ws, e0, e0', q8⟩ := q7
    obtain ⟨a, xs, rfl, h1, h2⟩ := lstD_ok e0 g
    obtain ⟨b, ys, rfl, h1', h2'⟩ := lstD_ok e0' g'
    refine ⟨a, b, xs, ys, rfl, .inl ⟨Same.seq st1.st.le h1, Same.seq st1.st.le h1', k _ s1 _ F1 H1 q8 st1 ⟨fun H => SqL K H a xs ∧ SqL K H b ys, YPair (fun i => xs[i]?) (fun i => ys[i]?), walk_zip (by rw [zipD_len, h2.length, h2'.length]), fun H2 e => ⟨Same.seq e h1, Same.seq e h1'⟩, fun i H2 x H3 e y d hd F2 e1 e2 => ?_⟩⟩⟩
    obtain ⟨T, y1, y2, g1, g2, g3, g4, g5⟩ := y
    obtain ⟨ed, ed', he, he', rfl⟩ := zipD_get hd
    obtain ⟨x2, w1, w2⟩ := h2.get he
    obtain ⟨x3, w3, w4⟩ := h2'.get he'
    have g4 : xs[i]? = some y1 := g4
    have g5 : ys[i]? = some y2 := g5
    rw [w1] at g4
    rw [w3] at g5
    cases g4
    cases g5
    exact pair_lf e2 g2 g1 g3 (Dq.mono e1 _ _ w2) (Dq.mono e1 _ _ w4)
  unfold aItZip at q1
  split at q1
  · rename_i xs0 ys0
    obtain ⟨v, w, rfl, g, g'⟩ := dqa2 d1
    obtain ⟨a, xs, rfl, h1, h2⟩ := g
    obtain ⟨b, ys, rfl, h1', h2'⟩ := g'
    refine ⟨a, b, xs, ys, rfl, .inr ⟨Same.sqt st1.st.le h1, Same.sqt st1.st.le h1', k _ s1 _ F1 H1 q1 st1 ⟨fun H => SqT K H a xs ∧ SqT K H b ys, YPair (fun i => xs[i]?) (fun i => ys[i]?), walk_zipT (by rw [zipD_len, h2.length, h2'.length]), fun H2 e => ⟨Same.sqt e h1, Same.sqt e h1'⟩, fun i H2 x H3 e y d hd F2 e1 e2 => ?_⟩⟩⟩
    obtain ⟨T, y1, y2, g1, g2, g3, g4, g5⟩ := y
    obtain ⟨ed, ed', he, he', rfl⟩ := zipD_get hd
    obtain ⟨x2, w1, w2⟩ := h2.get he
    obtain ⟨x3, w3, w4⟩ := h2'.get he'
    have g4 : xs[i]? = some y1 := g4
    have g5 : ys[i]? = some y2 := g5
    rw [w1] at g4
    rw [w3] at g5
    cases g4
    cases g5
    exact pair_lf e2 g2 g1 g3 (Dq.mono e1 _ _ w2) (Dq.mono e1 _ _ w4)
  · rename_i d e _
    refine lists d e rfl ?_
    cases e0 : lstD d with
    | none =>
      rw [e0] at q1
      exact q1.elim
    | some us =>
      cases e1 : lstD e with
      | none =>
        rw [e0, e1] at q1
        exact q1.elim
      | some ws =>
        rw [e0, e1] at q1
        exact ⟨us, ws, rfl, rfl, q1⟩
  · exact q1.elim
theorem di_zip {X : Cx} {K : PySem.W.Frag} (hK : X.K = K := by rfl) {ea eb : Expr} {tr : TA} {ar : AA} {p pos tpos : Pos} {elts : List Expr} {kk : Nat} (hm : X.mg "zip" = none) (ha : DA X [ea, eb] tr ar) (hg : Gl X "zip" := by rfl) (hs : starEach [ea, eb] X.env = (false, eval ea X.env) :: starEach [eb] X.env := by rfl) (hpl : (backTo pos (starEach [eb] X.env)).any (·.1) = false := by rfl) :
    DI X (.Tuple elts kk tpos) (.Call (.Name "zip" p) [ea, eb] [] pos) (RZ.iZipA K tr) (aItZip ar) := by
  subst hK
  exact ⟨RZ.pi_zipA hg hm ha.pe hs hpl, simi_zip ha.sm⟩
end DL
namespace DL
variable [Tabl]
open PySem L2
def gP {α : Type} (n : Nat) (ix : List Nat) (us ws : List α) : List α := if us.length = 0 ∧ ws.length = n then ix.filterMap (fun i => ws[i]?) else []
theorem vals_pick {zs : List V} {ws : List Value} (r : Vals zs ws) : ∀ ix : List Nat, Vals (ix.filterMap (fun i => zs[i]?)) (ix.filterMap (fun i => ws[i]?))
  | [] => .nil
  | i :: ix => by
    rw [List.filterMap_cons, List.filterMap_cons]
    cases e : zs[i]? with
    | none =>
      rw [r.none_of e]
      exact vals_pick r ix
    | some x =>
      obtain ⟨u, h1, h2⟩ := r.get e
      rw [h1]
      exact .cons h2 (vals_pick r ix)
theorem dqa_pick {K : PySem.W.Frag} {F : Hp} {ds : List D} {zs : List V} (h : DqA K F ds zs) : ∀ ix : List Nat, DqA K F (ix.filterMap (fun i => ds[i]?)) (ix.filterMap (fun i => zs[i]?))
  | [] => rfl
  | i :: ix => by
    rw [List.filterMap_cons, List.filterMap_cons]
    cases e : ds[i]? with
    | none =>
      have e2 : zs[i]? = none := by
        rw [List.getElem?_eq_none_iff] at e ⊢
        rw [h.length]
        exact e
      rw [e2]
      exact dqa_pick h ix
    | some d =>
      obtain ⟨x, h1, h2⟩ := h.get e
      rw [h1]
      exact ⟨x, _, rfl, h2, dqa_pick h ix⟩
theorem kbinds_of {K : PySem.W.Frag} {fd : FuncData} {ps ks : List Str} {n : Nat} {ix : List Nat} (hp : 0 < ps.length) (h : ∀ (s : Shared) (ws : List Value), K.In s.heap → ws.length = n → BindsTo s fd ⟨[], ks.zip ws⟩ (ps.zip (ix.filterMap (fun i => ws[i]?)))) : KBinds K fd ps ks (gP n ix) (gP n ix) := by
  refine ⟨fun s us ws kin hl => ?_, fun {vs us zs ws} r rz => ?_⟩
  · unfold gP at hl ⊢
    by_cases c : us.length = 0 ∧ ws.length = n
    · rw [if_pos c]
      have e : us = [] := List.eq_nil_of_length_eq_zero c.1
      subst e
      exact h s ws kin c.2
    · rw [if_neg c] at hl
      rw [← hl] at hp
      exact absurd hp (Nat.lt_irrefl _)
  · unfold gP
    rw [r.length, rz.length]
    by_cases c : us.length = 0 ∧ ws.length = n
    · rw [if_pos c, if_pos c]
      exact vals_pick rz ix
    · rw [if_neg c, if_neg c]
      exact .nil
structure DK (X : Cx) (ks : List Keyword) (t : TA) (a : AA) : Prop where
  pe : PK X ks t
  sm : SimA X.K t a
section
variable {X : Cx} {te : TE} {ta : TA} {a : AE} {ar : AA} {e : Expr} {kws : List Keyword} {nm : Option Str} {kpos : Pos}
theorem dk_nil : DK X [] tNil aNil := ⟨pk_nil, sim_nil⟩
theorem dk_cons (h : DE X e te a) (hr : DK X kws ta ar) : DK X (⟨nm, e, kpos⟩ :: kws) (tCons te ta) (aCons a ar) := ⟨pk_cons h.pe hr.pe, sim_cons h.sm hr.sm⟩
end
def aCallK (n m : Nat) (ix : List Nat) (S : ARC) (a : AA) : AE := fun s P => a s fun ds s1 => ds.length = m ∧ aFn n S (ix.filterMap (fun i => ds[i]?)) fun r => P r s1
theorem sim_callK {K : PySem.W.Frag} {n m : Nat} {ix : List Nat} {S : ARC} {t : TA} {a : AA} (h : SimA K t a) : Sim K (tCallK (spD K n S) (gP m ix) E0 tNil t) (aCallK n m ix S a) := fun s P q σ F H ok Q k => by
  show t σ H fun zs H2 => spD K n S (gP m ix [] zs) H2 Q E0
  refine h s _ q σ F H ok _ fun ds s1 zs F1 H1 q1 st1 d1 => ?_
  obtain ⟨q1, q2⟩ := q1
  have e : gP m ix ([] : List V) zs = ix.filterMap (fun i => zs[i]?) := by
    unfold gP
    rw [if_pos ⟨rfl, by rw [d1.length, q1]⟩]
  rw [e]
  refine ⟨F1, _, _, st1.st.le, dqa_pick d1 ix, q2.1, q2.2, fun rs v F2 H2 hp l => ?_⟩
  obtain ⟨st2, rs2⟩ := st1.leaf l
  exact k rs s1 v F2 H2 hp st2 rs2
theorem d_callK {X : Cx} {K : PySem.W.Frag} (hK : X.K = K := by rfl) {x : Str} {f : Addr} {fd : FuncData} {ps ks : List Str} {k n m : Nat} {ix : List Nat} {S : ARC} {tr : TA} {aar : AA} {p pos : Pos} {kws : List Keyword} (F : GnOk X.prog X.w K X.mg X.base CX0 k f fd ps (spD K n S)) (hgd : X.A.guards = some []) (hr : Room k X.A) (hm : X.mg x = some (.ref f)) (hk : PySem.W.keepIn K (.ref f) = true) (hb : KBinds K fd ps ks (gP m ix) (gP m ix))
    (ha : DK X kws tr aar) (hg : Gl X x := by rfl) (hall : (backToKw pos (keywordEach kws X.env)).all (·.1.isSome) = true := by rfl) (hks : (backToKw pos (keywordEach kws X.env)).filterMap (·.1) = ks := by rfl)
    (hdb : (x == ("__debug__" : Str)) = false := by decide) (hpl : ((backTo pos (starEach [] X.env)).any (·.1) || (backToKw pos (keywordEach kws X.env)).any (·.1.isNone)) = false := by rfl) :
    DE X (.Call (.Name x p) [] kws pos) (tCallK (spD K n S) (gP m ix) E0 tNil tr) (aCallK n m ix S aar) := by
  subst hK
  exact ⟨pe_gK F hgd hr hg hm hk hb pass0 ha.pe hall hks hdb hpl, sim_callK ha.sm⟩
/-- what stands is known: no table -/
theorem Le.know {F H : Hp} {a : Addr} {o : HO} (l : Le F H) (h : H a = some o) (n : ∀ ps, o ≠ .tbl ps := by intro _ z; cases z) : Le (upd F a o) H := l.more (fun b u q => by
    by_cases hb : b = a
    · subst hb
      rw [upd_same] at q
      cases q
      exact h
    · rw [upd_ne hb] at q
      exact l b u q) fun b hb => by
    by_cases hb2 : b = a
    · subst hb2
      exact .inr ⟨o, h, n⟩
    · rw [upd_ne hb2] at hb
      exact .inl hb
section
variable {X : Cx} {p pos p2 : Pos} {y : Str} {i : Nat}
end
def aCatL : AR2 := fun d e P => match d, e with
  | .lst xs, .lst ys => xs.length + ys.length ≤ 200000 ∧ ∀ p, P (.ow p (xs ++ ys))
  | _, _ => False
theorem rd_catL {K : PySem.W.Frag} : RD K rCat aCatL := fun d e P q F H x y le dx dy Q k => by
  unfold aCatL at q
  split at q
  · rename_i xs ys
    obtain ⟨a, us, rfl, h1, h2⟩ := dx
    obtain ⟨b, ws, rfl, h3, h4⟩ := dy
    refine ⟨a, b, us, ws, rfl, rfl, le _ _ h1, le _ _ h3, ?_, fun p hp => k _ _ _ _ (q.2 p) (Lf.newL le hp (h2.append h4))⟩
    rw [h2.length, h4.length]
    exact Nat.le_trans q.1 (by decide)
  · exact q.elim
def aCatT : AR2 := fun d e P => match d, e with
  | .tup xs, .tup ys => xs.length + ys.length ≤ 200000 ∧ P (.pu (.tup (xs ++ ys)))
  | _, _ => False
theorem rd_catT {K : PySem.W.Frag} : RD K (rCatA K) aCatT := fun d e P q F H x y le dx dy Q k => by
  unfold aCatT at q
  split at q
  · rename_i xs ys
    obtain ⟨a, us, rfl, h1, h2⟩ := dx
    obtain ⟨b, ws, rfl, h3, h4⟩ := dy
    refine ⟨a, b, us, ws, rfl, rfl, Same.sqt le h1, Same.sqt le h3, ?_, fun e => ?_, fun _ e => ?_, fun _ _ p hp => k _ _ _ _ q.2 (Lf.newT le hp (h2.append h4))⟩
    · rw [h2.length, h4.length]
      exact Nat.le_trans q.1 (by decide)
    · have z := h2.append h4
      rw [e, List.nil_append] at z
      exact k _ _ F H q.2 (Lf.same le _ _ ⟨b, ws, rfl, h3, z⟩)
    · have z := h2.append h4
      rw [e, List.append_nil] at z
      exact k _ _ F H q.2 (Lf.same le _ _ ⟨a, us, rfl, h1, z⟩)
  · exact q.elim
section
variable {X : Cx} {te ta tb : TE} {a aa ab : AE} {ea eb : Expr} {pos : Pos}
theorem d_cat_lst (ha : DE X ea ta aa) (hb : DE X eb tb ab) : DE X (.BinOp ea .Add eb pos) (tOp rCat ta tb) (aOp aCatL aa ab) := d_op op_cat rd_catL ha hb
theorem d_cat_tup {K : PySem.W.Frag} (hK : X.K = K := by rfl) (ha : DE X ea ta aa) (hb : DE X eb tb ab) : DE X (.BinOp ea .Add eb pos) (tOp (rCatA K) ta tb) (aOp aCatT aa ab) := by
  subst hK
  exact d_op op_catA rd_catT ha hb
end
end DL
namespace DL
open PySem L2
theorem kbinds_fun {K : PySem.W.Frag} {x qual : Str} {st : Stmt} {f : Addr} {fd : FuncData} {ps ks : List Str} {n : Nat} {ix : List Nat} (F : Fun K x qual st f fd) (hp : 0 < ps.length)
    (h : ∀ (kV doc pm : Value) (an : Option Addr) (cdv ct : Value) (ws : List Value), ws.length = n → bindArgs (PySem.W.fnOf x qual (defArgs st) (defBody st) (defScope st) .none kV doc pm an cdv ct) ⟨[], ks.zip ws⟩ = pure (ps.zip (ix.filterMap (fun i => ws[i]?)))) : KBinds K fd ps ks (gP n ix) (gP n ix) := by
  obtain ⟨oc, od, kV, doc, pm, an, cdv, ct, osl, rfl, lk, hcd⟩ := F.ex
  exact kbinds_of hp fun s ws _ hl => .of_eq (h kV doc pm an cdv ct ws hl)
end DL
namespace DL
variable [Tabl]
open PySem L2
theorem at2_0 (x y : D) : atI [x, y] 0 = some x := rfl
theorem at2_1 (x y : D) : atI [x, y] 1 = some y := rfl
theorem at3_0 (x y z : D) : atI [x, y, z] 0 = some x := rfl
theorem at3_1 (x y z : D) : atI [x, y, z] 1 = some y := rfl
theorem at3_2 (x y z : D) : atI [x, y, z] 2 = some z := rfl
theorem dec_t {c : Prop} [Decidable c] : (decide c = true) = c := decide_eq_true_eq
def isIntD : D → Bool
  | .int _ => true
  | _ => false
def withinD (d : D) (lo hi : Int) : Bool := match d with
  | .int i => decide (lo ≤ i) && decide (i ≤ hi)
  | _ => false
/-- the draws of a cell: c of them are done -/
def Pot (c : Nat) (xs : List D) : Prop := ∃ a b k : Int, xs = [.int a, .int b, .int k] ∧ 0 ≤ a ∧ 0 ≤ b ∧ b < 2305843009213693921 ∧ 0 ≤ k ∧ k ≤ c
theorem Pot.mono {c d : Nat} {xs : List D} (h : Pot c xs) (l : c ≤ d) : Pot d xs := by
  obtain ⟨a, b, k, h1, h2, h3, h4, h5, h6⟩ := h
  exact ⟨a, b, k, h1, h2, h3, h4, h5, by omega⟩
theorem atI_in {ds : List D} {i : Int} (h0 : 0 ≤ i) (h1 : i < ds.length) : ∃ d, atI ds i = some d ∧ ds[i.toNat]? = some d ∧ d ∈ ds := by
  have hi : i.toNat < ds.length := by omega
  refine ⟨ds[i.toNat], ?_, List.getElem?_eq_getElem hi, List.getElem_mem hi⟩
  unfold atI ixN
  rw [if_pos h0, if_pos h1]
  exact List.getElem?_eq_getElem hi
theorem at5 (a b c d e : Int) (i : Int) (h0 : 0 ≤ i) (h1 : i < 5) : ∃ p, atI [D.int a, D.int b, D.int c, D.int d, D.int e] i = some (.int p) ∧ (p = a ∨ p = b ∨ p = c ∨ p = d ∨ p = e) := by
  rcases (show i = 0 ∨ i = 1 ∨ i = 2 ∨ i = 3 ∨ i = 4 by omega) with rfl | rfl | rfl | rfl | rfl
  · exact ⟨a, rfl, .inl rfl⟩
  · exact ⟨b, rfl, .inr (.inl rfl)⟩
  · exact ⟨c, rfl, .inr (.inr (.inl rfl))⟩
  · exact ⟨d, rfl, .inr (.inr (.inr (.inl rfl)))⟩
  · exact ⟨e, rfl, .inr (.inr (.inr (.inr rfl)))⟩
theorem cmul_l {i j : Int} (h0 : 0 ≤ i) (h1 : i < 18446744073709551616) : CMul i j := .inl ⟨by omega, by omega⟩
theorem cmul_r {i j : Int} (h0 : 0 ≤ j) (h1 : j < 18446744073709551616) : CMul i j := .inr ⟨by omega, by omega⟩
theorem cdiv {i j : Int} (h0 : 0 < j) (h1 : j < 1073741824) : CDiv i j := ⟨h0, h1⟩
theorem cpow3 {i : Int} (h0 : 0 ≤ i) (h1 : i < 18446744073709551616) : CPow i 3 := ⟨by decide, by decide, by omega⟩
theorem mul_le {a b A B : Int} (a0 : 0 ≤ a) (b0 : 0 ≤ b) (ha : a ≤ A) (hb : b ≤ B) : 0 ≤ a * b ∧ a * b ≤ A * B := ⟨Int.mul_nonneg a0 b0, Int.mul_le_mul ha hb b0 (Int.le_trans a0 ha)⟩
theorem cdivW {i j : Int} (h0 : 0 < j) (h1 : j < 1267650600228229401496703205376) : CDivW i j := by
  refine ⟨h0, ?_⟩
  have hz : j.natAbs ≠ 0 := by omega
  exact (Nat.log2_lt hz).mpr (Nat.lt_of_lt_of_le (show j.natAbs < 2 ^ 100 by omega) (Nat.pow_le_pow_right (by decide) (by decide)))
theorem own_nn (x m : Int) {c : Prop} [Decidable c] (hm : m ≠ 0) : 0 ≤ x % m * (if c then 1 else 0) := Int.mul_nonneg (Int.emod_nonneg _ hm) (by split <;> decide)
theorem cpw : CPowW (10 ^ Int.toNat 60) 5 := by
  unfold CPowW
  decide +kernel
theorem big_pos : (0 : Int) < (10 ^ Int.toNat 60) ^ Int.toNat 5 := by decide +kernel
abbrev tupI (bs : List Int) : D := .tup (bs.map D.int)
abbrev lstI (bs : List Int) : D := .lst (bs.map D.int)
end DL
namespace DL
variable [Tabl]
open PySem L2 StX
def aExt (i : Nat) (a : AE) : AS := fun A s => match s[i]? with
  | some (.ow _ _) => a s fun r s1 => match r.d, s1[i]? with
    | .lst ys, some (.ow p xs) => xs.length + ys.length < 100000 ∧ A.nx (s1.set i (.ow p (xs ++ ys)))
    | _, _ => False
  | _ => False
theorem sims_ext {K : PySem.W.Frag} {te : TE} {a : AE} {i : Nat} (h : Sim K te a) : SimS K (tDrop (tBM K "list" rExtend (tVar i) (tCons te tNil))) (aExt i a) := fun A s q σ F H ok E kn kr kb kc => by
  unfold aExt at q
  cases e : s[i]? with
  | none =>
    rw [e] at q
    exact q.elim
  | some l =>
    rw [e] at q
    cases l with
    | no => exact q.elim
    | pu d => exact q.elim
    | nd _ _ _ => exact q.elim
    | ow p0 xs0 =>
      obtain ⟨o, h1, h2⟩ := ok.get e
      obtain ⟨rfl, g1, vs0, g2, g3⟩ := slok_ow.mp h2
      refine ⟨.ref p0, h1, tyV_list g2, ?_⟩
      refine h.d q ok fun r s1 v F1 H1 q1 st1 d1 => ?_
      cases e1 : r.d <;> simp only [e1] at q1
      rename_i ys
      rw [e1] at d1
      obtain ⟨b, us, rfl, u1, u2⟩ := d1
      cases e2 : s1[i]? with
      | none =>
        simp only [e2] at q1
      | some l =>
        simp only [e2] at q1
        cases l with
        | no => exact q1.elim
        | pu d => exact q1.elim
        | nd _ _ _ => exact q1.elim
        | ow p xs =>
          simp only at q1
          obtain ⟨q1, q2⟩ := q1
          obtain ⟨o, z1, z2⟩ := st1.st.get e2
          obtain ⟨z3, y1, vs, y2, y3⟩ := slok_ow.mp z2
          rw [h1] at z1
          cases z1
          cases z3
          refine ⟨_, b, vs, us, rfl, rfl, y2, st1.st.le _ _ u1, ?_, ?_⟩
          · rw [y3.length, u2.length]
            exact Nat.le_of_lt (sz_lt q1)
          · exact kn _ σ F1 _ q2 (st1.chg e2 (y3.append u2))
theorem s_ext {X : Cx} {te : TE} {a : AE} {ea : Expr} {i : Nat} {x : Str} {p2 apos cpos pos : Pos} (he : DE X ea te a) (hv : DE X (.Name x p2) (tVar i) (aVar i)) (hbase : attributeBase (.Name x p2) "extend" X.env (eval (.Name x p2) X.env) = eval (.Name x p2) X.env := by rfl)
    (hfew : ((backTo cpos (starEach (ea :: []) X.env)).all (fun x => !x.1) && (backToKw cpos (keywordEach [] X.env)).all (fun x => x.1.isSome) && decide ((ea :: []).length + ([] : List Keyword).length + (if ([] : List Keyword).isEmpty then 0 else 1) < 30)) = true := by rfl)
    (hline : (apos.endLine == cpos.line) = true := by rfl) (hs : starEach (ea :: []) X.env = (false, eval ea X.env) :: starEach [] X.env := by rfl) (hplain : (backTo cpos (starEach [] X.env)).any (·.1) = false := by rfl)
    (hsw : swapsWith (.Call (.Attribute (.Name x p2) "extend" apos) [ea] [] cpos) none pos.line X.env = pure false := by rfl) : DS X (.Expr (.Call (.Attribute (.Name x p2) "extend" apos) [ea] [] cpos) pos) (tDrop (tBM X.K "list" rExtend (tVar i) (tCons te tNil))) (aExt i a) :=
  ⟨ps_expr (pe_bm PySem.F.plainAttrs_list PySem.F.slot_list_extend PySem.F.type_list_extend mt_extend hv.pe (pa_cons he.pe pa_nil hs) hbase hfew hline hs hplain) hsw, sims_ext he.sm⟩
section
variable {X : Cx} {ta tb : TE} {aa ab : AE} {ea eb : Expr} {pos : Pos}
end
end DL
namespace SrtO
open PySem PySem.Spec PyProof.Rows
section
variable {prog : Program} {w : World} {A : Around} {s : Shared}
/-- the tuple of ints -/
def IsTI (h : Heap) (v : Value) (ns : List Int) : Prop := ∃ a o its n, v = .ref a ∧ h.get? a = some o ∧ o.cls = .type "tuple" ∧ o.data = .seq its n ∧ IntsAre its.toList ns
theorem IsTI.keeps {h h' : Heap} {v : Value} {ns : List Int} (x : IsTI h v ns) (k : ∀ b o, h.get? b = some o → o.cls = .type "tuple" → h'.get? b = some o) : IsTI h' v ns := by
  obtain ⟨a, o, its, n, h1, h2, h3, h4, h5⟩ := x
  exact ⟨a, o, its, n, h1, k a o h2 h3, h3, h4, h5⟩
end
end SrtO
namespace DL
variable [Tabl]
open PySem L2 PyProof.Rows
end DL
namespace DL
variable [Tabl]
open PySem L2
def ixF : List Str → Str → Option Nat
  | [], _ => none
  | n :: ns, f => if f = n then some 0 else (ixF ns f).map (· + 1)
theorem lookup_ix : ∀ {ns : List Str} {vs : List V} {f : Str}, ns.length = vs.length → (ns.zip vs).lookup f = (ixF ns f).bind fun k => vs[k]?
  | [], vs, f, h => rfl
  | n :: ns, [], f, h => by cases h
  | n :: ns, v :: vs, f, h => by
    have ih := lookup_ix (ns := ns) (vs := vs) (f := f) (by simpa using h)
    rw [List.zip_cons_cons, List.lookup_cons]
    unfold ixF
    by_cases e : f = n
    · subst e
      simp
    · rw [if_neg e, show (f == n) = false from beq_eq_false_iff_ne.mpr e, ih]
      cases ixF ns f <;> simp
/-- the class c is a plain one, and has no attribute f of its own -/
def FldOk (K : PySem.W.Frag) (c f : Str) : Prop := Cls K (clsA K c) ∧ NoAttr K (clsA K c) f
abbrev Pth := List (Str × Str)
/-- the part of a tree at a path of fields -/
def subT : Sl → Pth → Option Sl
  | l, [] => some l
  | .nd _ (.ins c _ ns) ts, (c', f) :: r => if c' = c then (ixF ns f).bind fun k => (ts[k]?).bind fun t => subT t r else none
  | .pu (.ins c ns ds), (c', f) :: r => if c' = c then (ixF ns f).bind fun k => (ds[k]?).bind fun d => subT (.pu d) r else none
  | _, _ :: _ => none
def putT : Sl → Pth → Sl → Sl
  | _, [], t => t
  | .nd p (.ins c dx ns) ts, (_, f) :: r, t => match ixF ns f with
    | some k => match ts[k]? with
      | some u => .nd p (.ins c dx ns) (ts.set k (putT u r t))
      | none => .nd p (.ins c dx ns) ts
    | none => .nd p (.ins c dx ns) ts
  | l, _ :: _, _ => l
def tFlds (K : PySem.W.Frag) (te : TE) : Pth → TE
  | [] => te
  | cf :: r => tFlds K (tFld K te cf.2) r
section
variable {K : PySem.W.Frag} {F H F2 H2 : Hp}
theorem SlOkA.len : ∀ {ts : List Sl} {vs : List V}, SlOkA K F H ts vs → vs.length = ts.length
  | [], vs, h => by
    rw [SlOkA] at h
    subst h
    rfl
  | t :: ts, vs, h => by
    rw [SlOkA] at h
    obtain ⟨x, r, rfl, h2, h3⟩ := h
    rw [List.length_cons, List.length_cons, h3.len]
theorem SlOkA.get : ∀ {ts : List Sl} {vs : List V} {k : Nat} {t : Sl}, SlOkA K F H ts vs → ts[k]? = some t → ∃ x, vs[k]? = some x ∧ SlOk K F H t (some x)
  | [], vs, k, t, h, e => by simp at e
  | t0 :: ts, vs, 0, t, h, e => by
    rw [SlOkA] at h
    obtain ⟨x, r, rfl, h2, h3⟩ := h
    cases e
    exact ⟨x, rfl, h2⟩
  | t0 :: ts, vs, k + 1, t, h, e => by
    rw [SlOkA] at h
    obtain ⟨x, r, rfl, h2, h3⟩ := h
    obtain ⟨y, e1, e2⟩ := h3.get (k := k) (by simpa using e)
    exact ⟨y, by simpa using e1, e2⟩
theorem mem_fpA : ∀ {ts : List Sl} {k : Nat} {t : Sl} {b : Addr}, ts[k]? = some t → b ∈ fp t → b ∈ fpA ts
  | [], k, t, b, e, h => by simp at e
  | t0 :: ts, 0, t, b, e, h => by
    cases e
    rw [fpA]
    exact List.mem_append_left _ h
  | t0 :: ts, k + 1, t, b, e, h => by
    rw [fpA]
    exact List.mem_append_right _ (mem_fpA (k := k) (by simpa using e) h)
theorem nd_child : ∀ {ts : List Sl} {k : Nat} {t : Sl}, (fpA ts).Nodup → ts[k]? = some t → (fp t).Nodup
  | [], k, t, h, e => by simp at e
  | t0 :: ts, 0, t, h, e => by
    cases e
    rw [fpA] at h
    exact (List.nodup_append.mp h).1
  | t0 :: ts, k + 1, t, h, e => by
    rw [fpA] at h
    exact nd_child (k := k) (List.nodup_append.mp h).2.1 (by simpa using e)
theorem fpA_set : ∀ {ts : List Sl} {k : Nat} {t t' : Sl}, (fpA ts).Nodup → ts[k]? = some t → (fp t').Nodup → (∀ b, b ∈ fp t' → b ∈ fp t ∨ b ∉ fpA ts) → (fpA (ts.set k t')).Nodup ∧ ∀ b, b ∈ fpA (ts.set k t') → b ∈ fp t' ∨ (b ∈ fpA ts ∧ b ∉ fp t)
  | [], k, t, t', h, e, hn, hf => by simp at e
  | t0 :: ts, 0, t, t', h, e, hn, hf => by
    cases e
    rw [fpA] at h
    rw [List.set_cons_zero, fpA]
    obtain ⟨h1, h2, h3⟩ := List.nodup_append.mp h
    refine ⟨List.nodup_append.mpr ⟨hn, h2, fun a ha b hb z => ?_⟩, fun b hb => ?_⟩
    · subst z
      rcases hf a ha with y | y
      · exact h3 a y a hb rfl
      · rw [fpA] at y
        exact y (List.mem_append_right _ hb)
    · rw [fpA]
      rcases List.mem_append.mp hb with y | y
      · exact .inl y
      · exact .inr ⟨List.mem_append_right _ y, fun z => h3 b z b y rfl⟩
  | t0 :: ts, k + 1, t, t', h, e, hn, hf => by
    rw [fpA] at h
    rw [List.set_cons_succ, fpA]
    obtain ⟨h1, h2, h3⟩ := List.nodup_append.mp h
    have e' : ts[k]? = some t := by simpa using e
    obtain ⟨g1, g2⟩ := fpA_set h2 e' hn fun b hb => by
      rcases hf b hb with y | y
      · exact .inl y
      · rw [fpA] at y
        exact .inr fun z => y (List.mem_append_right _ z)
    refine ⟨List.nodup_append.mpr ⟨h1, g1, fun a ha b hb z => ?_⟩, fun b hb => ?_⟩
    · subst z
      rcases g2 a hb with y | ⟨y, _⟩
      · rcases hf a y with w | w
        · exact h3 a ha a (mem_fpA e' w) rfl
        · rw [fpA] at w
          exact w (List.mem_append_left _ ha)
      · exact h3 a ha a y rfl
    · rw [fpA]
      rcases List.mem_append.mp hb with y | y
      · exact .inr ⟨List.mem_append_left _ y, fun z => h3 b y b (mem_fpA e' z) rfl⟩
      · rcases g2 b y with w | ⟨w, w2⟩
        · exact .inl w
        · exact .inr ⟨List.mem_append_right _ w, w2⟩
theorem SlOkA.setG : ∀ {ts : List Sl} {vs : List V} {k : Nat} {t t' : Sl} {x : V}, SlOkA K F H ts vs → (fpA ts).Nodup → ts[k]? = some t → SlOk K F2 H2 t' (some x) → Same F F2 →
    (∀ b, b ∉ fp t → ∀ u, Dat u → F b = none → H b = some u → F2 b = none ∧ H2 b = some u) → SlOkA K F2 H2 (ts.set k t') (vs.set k x)
  | [], vs, k, t, t', x, h, hn, e, h2, f, hk => by simp at e
  | t0 :: ts, vs, 0, t, t', x, h, hn, e, h2, f, hk => by
    cases e
    rw [SlOkA] at h
    obtain ⟨y, r, rfl, g2, g3⟩ := h
    rw [fpA] at hn
    obtain ⟨n1, n2, n3⟩ := List.nodup_append.mp hn
    rw [List.set_cons_zero, List.set_cons_zero, SlOkA]
    exact ⟨x, r, rfl, h2, SlOkA.mono ts f (fun b hb u => hk b (fun z => n3 b z b hb rfl) u) g3⟩
  | t0 :: ts, vs, k + 1, t, t', x, h, hn, e, h2, f, hk => by
    rw [SlOkA] at h
    obtain ⟨y, r, rfl, g2, g3⟩ := h
    rw [fpA] at hn
    obtain ⟨n1, n2, n3⟩ := List.nodup_append.mp hn
    have e' : ts[k]? = some t := by simpa using e
    rw [List.set_cons_succ, List.set_cons_succ, SlOkA]
    exact ⟨y, _, rfl, SlOk.mono t0 f (fun b hb u => hk b (fun z => n3 b hb b (mem_fpA e' z) rfl) u) g2, g3.setG n2 e' h2 f hk⟩
theorem set_self {α : Type} : ∀ {l : List α} {k : Nat} {x : α}, l[k]? = some x → l.set k x = l
  | [], k, x, h => rfl
  | y :: l, 0, x, h => by
    cases h
    rfl
  | y :: l, k + 1, x, h => by
    rw [List.set_cons_succ, set_self (by simpa using h)]
/-- what holds of the part of a tree at a path: its value, how it is read, how it is changed -/
theorem focus : ∀ (path : Pth) (l : Sl) (v : V) (t : Sl), SlOk K F H l (some v) → Le F H → (fp l).Nodup → subT l path = some t → (∀ cf, cf ∈ path → FldOk K cf.1 cf.2) →
    (∀ b, b ∈ fp t → b ∈ fp l) ∧ ∃ x, SlOk K F H t (some x) ∧ (fp t).Nodup ∧ (∀ (te : TE) (σ : L2.St) (Q : VK), (∀ R : VK, R v H → te σ H R) → Q x H → tFlds K te path σ H Q) ∧
    ∀ (t' : Sl) (F2 H2 : Hp), SlOk K F2 H2 t' (some x) → (fp t').Nodup → Same F F2 → (∀ b, b ∉ fp t → ∀ u, Dat u → F b = none → H b = some u → F2 b = none ∧ H2 b = some u) → (∀ b, b ∈ fp t' → b ∈ fp t ∨ b ∉ fp l) →
      SlOk K F2 H2 (putT l path t') (some v) ∧ (fp (putT l path t')).Nodup ∧ ∀ b, b ∈ fp (putT l path t') → b ∈ fp t' ∨ (b ∈ fp l ∧ b ∉ fp t) := by
  intro path
  induction path with
  | nil =>
    intro l v t ok le hn e hc
    unfold subT at e
    cases e
    refine ⟨fun b h => h, v, ok, hn, fun te σ Q h q => h Q q, fun t' F2 H2 h1 h2 h3 h4 h5 => ?_⟩
    unfold putT
    exact ⟨h1, h2, fun b hb => .inl hb⟩
  | cons cf r ih =>
    intro l v t ok le hn e hc
    obtain ⟨c', f⟩ := cf
    obtain ⟨hcl, hna⟩ := hc (c', f) List.mem_cons_self
    have hc2 : ∀ cf, cf ∈ r → FldOk K cf.1 cf.2 := fun cf h => hc cf (List.mem_cons_of_mem _ h)
    cases l with
    | no => simp [subT] at e
    | ow p xs => simp [subT] at e
    | pu d =>
      cases d <;> first | (simp [subT] at e; done) | skip
      rename_i c ns ds
      unfold subT at e
      by_cases ec : c' = c
      · subst ec
        rw [if_pos rfl] at e
        cases e1 : ixF ns f with
        | none =>
          rw [e1] at e
          cases e
        | some k =>
          rw [e1, Option.bind_some] at e
          cases e2 : ds[k]? with
          | none =>
            rw [e2] at e
            cases e
          | some d1 =>
            rw [e2, Option.bind_some] at e
            obtain ⟨w, ew, a, dx, xs, rfl, g1, g2, g3⟩ := slok_pu.mp ok
            cases ew
            obtain ⟨x1, e3, e4⟩ := g3.get e2
            obtain ⟨j1, x, j2, j3, j4, j5⟩ := ih (.pu d1) x1 t (slok_pu.mpr ⟨x1, rfl, e4⟩) le (by rw [fp_pu]; exact List.nodup_nil) e hc2
            have tn : ∀ b, b ∉ fp t := fun b hb => by
              have := j1 b hb
              rw [fp_pu] at this
              cases this
            refine ⟨fun b hb => absurd hb (tn b), x, j2, j3, fun te σ Q h q => ?_, fun t' F2 H2 h1 h2 h3 h4 h5 => ?_⟩
            · refine j4 (tFld K te f) σ Q (fun R hr => ?_) q
              refine h _ ⟨a, _, dx, _, x1, rfl, le _ _ g1, hcl, hna, ?_, hr⟩
              rw [lookup_ix (by rw [g2, g3.length]), e1]
              exact e3
            · unfold putT
              refine ⟨SlOk.mono _ h3 (fun b hb => ?_) ok, by rw [fp_pu]; exact List.nodup_nil, fun b hb => ?_⟩
              · rw [fp_pu] at hb
                cases hb
              · rw [fp_pu] at hb
                cases hb
      · rw [if_neg ec] at e
        cases e
    | nd p k ts =>
      cases k <;> first | (simp [subT] at e; done) | skip
      rename_i c dx ns
      unfold subT at e
      by_cases ec : c' = c
      · subst ec
        rw [if_pos rfl] at e
        cases e1 : ixF ns f with
        | none =>
          rw [e1] at e
          cases e
        | some k =>
          rw [e1, Option.bind_some] at e
          cases e2 : ts[k]? with
          | none =>
            rw [e2] at e
            cases e
          | some t1 =>
            rw [e2, Option.bind_some] at e
            obtain ⟨ev, hp, hdx, hdo, hlen, vs, hcell, hts⟩ := slok_nd.mp ok
            cases ev
            rw [fp_nd] at hn
            obtain ⟨n1, n2⟩ := List.nodup_cons.mp hn
            obtain ⟨n3, n4, n5⟩ := List.nodup_append.mp n2
            obtain ⟨x1, e3, e4⟩ := hts.get e2
            have hl2 : ns.length = vs.length := by
              rw [hts.len]
              exact hlen
            obtain ⟨j1, x, j2, j3, j4, j5⟩ := ih t1 x1 t e4 le (nd_child n4 e2) e hc2
            have up : ∀ b, b ∈ fp t → b ∈ fpA ts := fun b hb => mem_fpA e2 (j1 b hb)
            refine ⟨fun b hb => ?_, x, j2, j3, fun te σ Q h q => ?_, fun t' F2 H2 h1 h2 h3 h4 h5 => ?_⟩
            · rw [fp_nd]
              exact List.mem_cons_of_mem _ (List.mem_append_right _ (up b hb))
            · refine j4 (tFld K te f) σ Q (fun R hr => ?_) q
              refine h _ ⟨p, _, dx, _, x1, rfl, hcell, hcl, hna, ?_, hr⟩
              rw [lookup_ix hl2, e1]
              exact e3
            · have h5' : ∀ b, b ∈ fp t' → b ∈ fp t ∨ b ∉ fpA ts := fun b hb => by
                rcases h5 b hb with y | y
                · exact .inl y
                · refine .inr fun z => y ?_
                  rw [fp_nd]
                  exact List.mem_cons_of_mem _ (List.mem_append_right _ z)
              obtain ⟨i1, i2, i3⟩ := j5 t' F2 H2 h1 h2 h3 h4 fun b hb => by
                rcases h5' b hb with y | y
                · exact .inl y
                · exact .inr fun z => y (mem_fpA e2 z)
              have hput : putT (.nd p (.ins c' dx ns) ts) ((c', f) :: r) t' = .nd p (.ins c' dx ns) (ts.set k (putT t1 r t')) := by
                simp only [putT, e1, e2]
              rw [hput]
              obtain ⟨m1, m2⟩ := fpA_set n4 e2 i2 fun b hb => by
                rcases i3 b hb with y | ⟨y, _⟩
                · rcases h5' b y with w | w
                  · exact .inl (j1 b w)
                  · exact .inr w
                · exact .inl y
              have mm : ∀ b, b ∈ fpA (ts.set k (putT t1 r t')) → b ∈ fp t' ∨ (b ∈ fpA ts ∧ b ∉ fp t) := fun b hb => by
                rcases m2 b hb with y | ⟨y, y2⟩
                · rcases i3 b y with w | ⟨w, w2⟩
                  · exact .inl w
                  · exact .inr ⟨mem_fpA e2 w, w2⟩
                · exact .inr ⟨y, fun z => y2 (j1 b z)⟩
              have out : ∀ b, b ∈ fp t' → b ∈ fpA ts ∨ b ∉ fp (.nd p (.ins c' dx ns) ts) := fun b hb => by
                rcases h5 b hb with y | y
                · exact .inl (up b y)
                · exact .inr y
              have pn : p ∉ fp t := fun z => n1 (List.mem_append_right _ (up p z))
              have dn : ∀ b, b ∈ NK.dxs (.ins c' dx ns) → b ∉ fp t := fun b hb z => n5 b hb b (up b z) rfl
              have k1 := h4 p pn _ (NK.dat _ vs) hp hcell
              refine ⟨slok_nd.mpr ⟨rfl, k1.1, fun b hb => ?_, ?_, ?_, vs, k1.2, ?_⟩, ?_, fun b hb => ?_⟩
              · cases List.mem_singleton.mp hb
                exact (h4 _ (dn _ hb) (.own p) trivial (hdx _ hb) hdo).1
              · exact (h4 dx (dn dx (List.mem_singleton.mpr rfl)) (.own p) trivial (hdx dx (List.mem_singleton.mpr rfl)) hdo).2
              · rw [List.length_set]
                exact hlen
              · have := hts.setG n4 e2 i1 h3 (fun b hb u fd f1 f2 => h4 b (fun z => hb (j1 b z)) u fd f1 f2)
                rw [set_self e3] at this
                exact this
              · have inl : ∀ b, (b = p ∨ b ∈ NK.dxs (.ins c' dx ns)) → b ∉ fpA (ts.set k (putT t1 r t')) := fun b hb z => by
                  have nb : b ∉ fpA ts := fun y => by
                    rcases hb with w | w
                    · subst w
                      exact n1 (List.mem_append_right _ y)
                    · exact n5 b w b y rfl
                  rcases mm b z with y | ⟨y, _⟩
                  · rcases out b y with w | w
                    · exact nb w
                    · refine w ?_
                      rw [fp_nd]
                      rcases hb with q | q
                      · exact List.mem_cons.mpr (.inl q)
                      · exact List.mem_cons_of_mem _ (List.mem_append_left _ q)
                  · exact nb y
                rw [fp_nd]
                refine List.nodup_cons.mpr ⟨fun z => ?_, List.nodup_append.mpr ⟨n3, m1, fun a ha b hb z => ?_⟩⟩
                · rcases List.mem_append.mp z with y | y
                  · exact n1 (List.mem_append_left _ y)
                  · exact inl p (.inl rfl) y
                · subst z
                  exact inl a (.inr ha) hb
              · rw [fp_nd] at hb ⊢
                rcases List.mem_cons.mp hb with y | y
                · subst y
                  exact .inr ⟨List.mem_cons_self, pn⟩
                · rcases List.mem_append.mp y with w | w
                  · exact .inr ⟨List.mem_cons_of_mem _ (List.mem_append_left _ w), dn b w⟩
                  · rcases mm b w with q | ⟨q, q2⟩
                    · exact .inl q
                    · exact .inr ⟨List.mem_cons_of_mem _ (List.mem_append_right _ q), q2⟩
      · rw [if_neg ec] at e
        cases e
end
end DL
namespace DL
variable [Tabl]
open PySem L2
/-- a change of a tree; ex: what it takes in -/
structure Lx (K : PySem.W.Frag) (ex : List Addr) (l : Sl) (v0 : V) (F H : Hp) (r : Sl) (v : V) (l' : Sl) (F' H' : Hp) : Prop where
  f : Same F F'
  h : ∀ a o, a ∉ fp l → H a = some o → (∀ ps, o ≠ .tbl ps) → H' a = some o
  t : ∀ a, H' a = none → H a = none
  m : SlOk K F' H' l' (some v0)
  mn : (fp l').Nodup
  mf : ∀ a, a ∈ fp l' → a ∈ fp l ∨ H a = none ∨ a ∈ ex
  le : Le F' H'
  n : ∀ a, F' a ≠ none → F a ≠ none ∨ H a = none ∨ a ∈ fp l
  ok : SlOk K F' H' r (some v)
  fr : ∀ a, a ∈ fp r → (a ∈ fp l ∨ H a = none) ∧ a ∉ fp l'
  nd : (fp r).Nodup
theorem Lt.x {K : PySem.W.Frag} {l l' r : Sl} {v0 v : V} {F H F' H' : Hp} (x : Lt K l v0 F H r v l' F' H') : Lx K [] l v0 F H r v l' F' H' :=
  ⟨x.f, x.h, x.t, x.m, x.mn, fun a h => (x.mf a h).elim .inl fun z => .inr (.inl z), x.le, x.n, x.ok, x.fr, x.nd⟩
def FOk (K : PySem.W.Frag) (path : Pth) : Prop := ∀ cf, cf ∈ path → FldOk K cf.1 cf.2
theorem fok_nil {K : PySem.W.Frag} : FOk K [] := fun cf h => by cases h
section
variable {K : PySem.W.Frag} {s s1 : Ss} {σ : L2.St} {F H F1 H1 F2 H2 : Hp} {i : Nat} {l l' rs t : Sl} {v0 v : V} {ex : List Addr} {path : Pth}
def ExOk (s : Ss) (H : Hp) (s1 : Ss) (H1 : Hp) (ex : List Addr) : Prop := ∀ a, a ∈ ex → (H a = none ∨ Own s a) ∧ ¬ Own s1 a ∧ ∃ u, H1 a = some u
theorem exok_nil : ExOk s H s1 H1 [] := fun a h => by cases h
theorem Lx.unf (x : Lx K ex l v0 F1 H1 rs v l' F2 H2) {b : Addr} {u : HO} (hb : b ∉ fp l) (nt : ∀ ps, u ≠ .tbl ps) (h1 : F1 b = none) (h2 : H1 b = some u) : F2 b = none ∧ H2 b = some u := by
  refine ⟨?_, x.h b u hb h2 nt⟩
  cases z : F2 b with
  | none => rfl
  | some o =>
    rcases x.n b (by rw [z]; intro y; cases y) with y | y | y
    · exact absurd h1 y
    · rw [h2] at y
      cases y
    · exact absurd y hb
/-- behind a change of a slot's tree -/
theorem Step.calledX (st : Step K s F H s1 F1 H1 σ) (e : s1[i]? = some l) (hv : σ[i]? = some (some v0)) (hex : ExOk s H s1 H1 ex) (x : Lx K ex l v0 F1 H1 rs v l' F2 H2) :
    Step K s F H (s1.set i l') F2 H2 σ ∧ Rs K s H F2 H2 (s1.set i l') rs v := by
  have keep : ∀ (j : Nat) (l2 : Sl) (q : Addr), j ≠ i → s1[j]? = some l2 → q ∈ fp l2 → q ∉ fp l := fun j l2 q h1 h2 h3 h4 => h1 (st.st.un j i l2 l q h2 e h3 h4)
  have far : ∀ (j : Nat) (l2 : Sl) (q : Addr), j ≠ i → s1[j]? = some l2 → q ∈ fp l2 → q ∉ fp l' := fun j l2 q h1 h2 h3 h4 => by
    rcases x.mf q h4 with y | y | y
    · exact keep j l2 q h1 h2 h3 y
    · obtain ⟨_, u, hu⟩ := st.st.own ⟨j, l2, h2, h3⟩
      rw [y] at hu
      cases hu
    · exact (hex q y).2.1 ⟨j, l2, h2, h3⟩
  refine ⟨⟨⟨x.le, by rw [List.length_set, st.st.len], fun j l2 o w1 w2 => ?_, fun j m l2 l3 q w1 w2 p1 p2 => ?_, fun j l2 w1 => ?_⟩, st.f.trans x.f, fun b o w1 nt w2 => ?_, fun b w => st.t b (x.t b w), fun b w1 => ?_, fun b w1 => ?_⟩, ⟨x.ok, fun a ha => ?_, x.nd⟩⟩
  · rcases set_get w1 with ⟨rfl, rfl, hl⟩ | ⟨e3, h5⟩
    · rw [hv] at w2
      cases w2
      exact x.m
    · exact SlOk.mono l2 x.f (fun q hq u hd z1 z2 => x.unf (keep j l2 q (fun z => e3 z.symm) h5 hq) hd.tbl z1 z2) (st.st.ok j l2 o h5 w2)
  · rcases set_get w1 with ⟨rfl, rfl, hl⟩ | ⟨e3, h5⟩
    · rcases set_get w2 with ⟨rfl, rfl, hl⟩ | ⟨e4, h6⟩
      · rfl
      · exact absurd p1 (far m l3 q (fun z => e4 z.symm) h6 p2)
    · rcases set_get w2 with ⟨rfl, rfl, hl⟩ | ⟨e4, h6⟩
      · exact absurd p2 (far j l2 q (fun z => e3 z.symm) h5 p1)
      · exact st.st.un j m l2 l3 q h5 h6 p1 p2
  · rcases set_get w1 with ⟨rfl, rfl, hl⟩ | ⟨e3, h5⟩
    · exact x.mn
    · exact st.st.nd j l2 h5
  · refine x.h b o (fun z => ?_) (st.k b o w1 nt w2) nt
    rcases st.o b ⟨i, l, e, z⟩ with y | y
    · exact w2 y
    · rw [w1] at y
      cases y
  · rcases x.n b w1 with y | y | y
    · exact st.n b y
    · exact .inr (.inl (st.t b y))
    · rcases st.o b ⟨i, l, e, y⟩ with z | z
      · exact .inr (.inr z)
      · exact .inr (.inl z)
  · rcases own_set w1 with y | y
    · exact st.o b y
    · rcases x.mf b y with z | z | z
      · exact st.o b ⟨i, l, e, z⟩
      · exact .inr (st.t b z)
      · exact (hex b z).1.symm
  · obtain ⟨h1, h2⟩ := x.fr a ha
    refine ⟨?_, fun w => ?_⟩
    · rcases h1 with y | y
      · exact (st.o a ⟨i, l, e, y⟩).symm
      · exact .inl (st.t a y)
    · obtain ⟨j, l2, w1, w2⟩ := w
      rcases set_get w1 with ⟨rfl, rfl, hl⟩ | ⟨e3, h5⟩
      · exact h2 w2
      · rcases h1 with y | y
        · exact keep j l2 a (fun z => e3 z.symm) h5 w2 y
        · obtain ⟨_, u, hu⟩ := st.st.own ⟨j, l2, h5, w2⟩
          rw [y] at hu
          cases hu
def isNo : Sl → Bool
  | .no => true
  | _ => false
/-- a place: its value, how it is read, what a change of its tree comes to -/
theorem Step.place (st : Step K s F H s1 F1 H1 σ) (e : s1[i]? = some l) (e2 : subT l path = some t) (hno : isNo t = false) (hc : FOk K path) :
    ∃ x, SlOk K F1 H1 t (some x) ∧ (fp t).Nodup ∧ (∀ b, b ∈ fp t → Own s1 b) ∧ (∀ Q : VK, Q x H1 → tFlds K (tVar i) path σ H1 Q) ∧
    ∀ (ex : List Addr), ExOk s H s1 H1 ex → ∀ (r t' : Sl) (w : V) (F2 H2 : Hp), Lx K ex t x F1 H1 r w t' F2 H2 → Step K s F H (s1.set i (putT l path t')) F2 H2 σ ∧ Rs K s H F2 H2 (s1.set i (putT l path t')) r w := by
  obtain ⟨o, h1, h2⟩ := st.st.get e
  have hv : ∃ v, o = some v := by
    cases l with
    | no =>
      cases path with
      | nil =>
        unfold subT at e2
        cases e2
        cases hno
      | cons cf r => simp [subT] at e2
    | pu d =>
      obtain ⟨v, h3, _⟩ := slok_pu.mp h2
      exact ⟨v, h3⟩
    | ow p xs => exact ⟨_, (slok_ow.mp h2).1⟩
    | nd p k ts => exact ⟨_, (slok_nd.mp h2).1⟩
  obtain ⟨v, rfl⟩ := hv
  obtain ⟨j1, x, j2, j3, j4, j5⟩ := focus path l v t h2 st.st.le (st.st.nd i l e) e2 hc
  refine ⟨x, j2, j3, fun b hb => ⟨i, l, e, j1 b hb⟩, fun Q q => j4 (tVar i) σ Q (fun R hr => ⟨v, h1, hr⟩) q, fun ex hex r t' w F2 H2 y => ?_⟩
  have stands : ∀ b, b ∈ fp l → ∃ u, H1 b = some u := fun b hb => (st.st.own ⟨i, l, e, hb⟩).2
  obtain ⟨m1, m2, m3⟩ := j5 t' F2 H2 y.m y.mn y.f (fun b hb u hd z1 z2 => y.unf hb hd.tbl z1 z2) fun b hb => by
    rcases y.mf b hb with z | z | z
    · exact .inl z
    · refine .inr fun w => ?_
      obtain ⟨u, hu⟩ := stands b w
      rw [z] at hu
      cases hu
    · exact .inr fun w => (hex b z).2.1 ⟨i, l, e, w⟩
  refine st.calledX e h1 hex ⟨y.f, fun a o ha q => y.h a o (fun z => ha (j1 a z)) q, y.t, m1, m2, fun a ha => ?_, y.le, fun a ha => ?_, y.ok, fun a ha => ?_, y.nd⟩
  · rcases m3 a ha with z | ⟨z, _⟩
    · rcases y.mf a z with q | q | q
      · exact .inl (j1 a q)
      · exact .inr (.inl q)
      · exact .inr (.inr q)
    · exact .inl z
  · rcases y.n a ha with z | z | z
    · exact .inl z
    · exact .inr (.inl z)
    · exact .inr (.inr (j1 a z))
  · obtain ⟨g1, g2⟩ := y.fr a ha
    refine ⟨g1.elim (fun z => .inl (j1 a z)) .inr, fun z => ?_⟩
    rcases m3 a z with q | ⟨q, q2⟩
    · exact g2 q
    · rcases g1 with w | w
      · exact q2 w
      · obtain ⟨u, hu⟩ := stands a q
        rw [w] at hu
        cases hu
/-- frozen in its place -/
theorem Lx.frz {x : V} (ok : SlOk K F H t (some x)) (le : Le F H) : Lx K [] t x F H (.pu t.d) x (.pu t.d) (frzF F H (fp t)) H := by
  have e1 : Same F (frzF F H (fp t)) := same_frz fun p hp => (SlOk.own t ok hp).1
  have dv : Dq K (frzF F H (fp t)) t.d x := SlOk.frz t e1 (fun p hp u h => by rw [frzF_in hp]; exact h) ok
  refine ⟨e1, fun _ _ _ h _ => h, fun _ h => h, slok_pu.mpr ⟨x, rfl, dv⟩, by rw [fp_pu]; exact List.nodup_nil, fun a ha => ?_, le.frz ok, fun a ha => ?_, slok_pu.mpr ⟨x, rfl, dv⟩, fun a ha => ?_, by rw [fp_pu]; exact List.nodup_nil⟩
  · rw [fp_pu] at ha
    cases ha
  · by_cases hb : a ∈ fp t
    · exact .inr (.inr hb)
    · rw [frzF_out hb] at ha
      exact .inl ha
  · rw [fp_pu] at ha
    cases ha
end
end DL
namespace DL
variable [Tabl]
open PySem L2
section
variable {P : Program} {w : World} {K : PySem.W.Frag} {mg : Str → Option Value} {base : Heap} {CX : CXT}
theorem gn_of {k : Nat} {f : Addr} {fd : FuncData} {ps : List Str} {sp : Sp} (F : FnOk P w K mg base CX k f fd ps sp) : GnOk P w K mg base CX k f fd ps sp :=
  ⟨F.len, fun A fr s H given ws xs Q E _ hr e b r q => F.run A fr s H given ws xs Q E hr e b r q⟩
theorem fnDF {x qual : Str} {st : Stmt} {f : Addr} {fd : FuncData} {N ps : List Str} {k n : Nat} {S : ARC} {as : AS} (Fn : Fun K x qual st f fd) (Sc : FnScope N ps (defScope st)) (hn : ps.length = n)
    (hS : ∀ ds Q, ds.length = n → S ds Q → as (endsD Q) (startS N.length (ds.map .pu)))
    (hbody : ∀ (cdv : Value) (A : Around) (outer : List Env) (s : Shared) (H : Hp) (E : XK), Room k (A.deeper (PyProof.Rows.envOfC qual (defScope st) s.heap.objs.size f cdv)) → ∃ ts, DSs (cxOf CX0 P w K mg base N qual (defScope st) f cdv A outer s H E).nox (defBody st) ts as) :
    FnOk P w K mg base CX0 (k + 1) f fd ps (spD K n S) := by
  refine Fn.ok Sc (fun vs H Q E h => by rw [spD_len h, hn]) (fun cdv A outer s H vs Q E hr h => ?_)
  obtain ⟨ts, h1⟩ := hbody cdv A outer s H E hr
  exact ⟨ts, h1.pe, endD (F := H) h1.sm hS h⟩
theorem fnMF {x qual : Str} {st : Stmt} {f : Addr} {fd : FuncData} {N ps : List Str} {k n : Nat} {S : ARM} {as : AS} (Fn : Fun K x qual st f fd) (Sc : FnScope N ps (defScope st)) (hn : ps.length = n)
    (hS : ∀ xs ds Q p, ds.length + 1 = n → S xs ds Q → as (endsM Q p) (startS N.length (.ow p xs :: ds.map .pu)))
    (hbody : ∀ (cdv : Value) (A : Around) (outer : List Env) (s : Shared) (H : Hp) (E : XK), Room k (A.deeper (PyProof.Rows.envOfC qual (defScope st) s.heap.objs.size f cdv)) → ∃ ts, DSs (cxOf CX0 P w K mg base N qual (defScope st) f cdv A outer s H E).nox (defBody st) ts as) :
    FnOk P w K mg base CX0 (k + 1) f fd ps (spM K n S) := by
  refine Fn.ok Sc (fun vs H Q E h => by rw [spT_len h, hn]) (fun cdv A outer s H vs Q E hr h => ?_)
  obtain ⟨ts, h1⟩ := hbody cdv A outer s H E hr
  exact ⟨ts, h1.pe, endM h1.sm hS h⟩
end
section
variable {X : Cx} {K : PySem.W.Frag} {x : Str} {p pos : Pos} {e ea : Expr} {es : List Expr} {te ta : TE} {aa : AE} {tr : TA} {aar : AA} {k n : Nat} {f : Addr} {fd : FuncData} {ps : List Str} {S : ARC} {SM : ARM} {ST : ART}
theorem d_callF (hK : X.K = K := by rfl) (F : FnOk X.prog X.w K X.mg X.base CX0 k f fd ps (spD K n S)) (hr : Room k X.A) (hm : X.mg x = some (.ref f)) (hk : PySem.W.keepIn K (.ref f) = true) (hb : Binds K fd ps [])
    (ha : DA X (e :: es) tr aar) (hg : Gl X x := by rfl) (hdb : (x == ("__debug__" : Str)) = false := by decide) (he : starEach (e :: es) X.env = (false, eval e X.env) :: starEach es X.env := by rfl) (hpl : (backTo pos (starEach es X.env)).any (·.1) = false := by rfl) :
    DE X (.Call (.Name x p) (e :: es) [] pos) (tCall (spD K n S) [] E0 tr) (aCall (aFn n S) aar) := by
  subst hK
  exact ⟨pe_call F hr hg hm hk hb .nil pass0 ha.pe hdb he hpl, sim_call ha.sm⟩
theorem d_callMF {j : Nat} {p2 : Pos} {y : Str} (hK : X.K = K := by rfl) (F : FnOk X.prog X.w K X.mg X.base CX0 k f fd ps (spM K n SM)) (hr : Room k X.A) (hm : X.mg x = some (.ref f)) (hk : PySem.W.keepIn K (.ref f) = true) (hb : Binds K fd ps [])
    (h0 : DE X (.Name y p2) (tVar j) (aVar j)) (ha : DA X es tr aar) (hg : Gl X x := by rfl) (hdb : (x == ("__debug__" : Str)) = false := by decide) (he : starEach (.Name y p2 :: es) X.env = (false, eval (.Name y p2) X.env) :: starEach es X.env := by rfl) (hpl : (backTo pos (starEach es X.env)).any (·.1) = false := by rfl) :
    DE X (.Call (.Name x p) (.Name y p2 :: es) [] pos) (tCall (spM K n SM) [] E0 (tCons (tVar j) tr)) (aCallM n j SM aar) := by
  subst hK
  exact ⟨pe_call F hr hg hm hk hb .nil pass0 (pa_cons h0.pe ha.pe he) hdb he hpl, sim_callM ha.sm⟩
def plc (s : Ss) (i : Nat) (path : Pth) : Option Sl := (s[i]?).bind fun l => subT l path
def setP (s : Ss) (i : Nat) (path : Pth) (t : Sl) : Ss := match s[i]? with
  | some l => s.set i (putT l path t)
  | none => s
theorem plc_some {s : Ss} {i : Nat} {path : Pth} {t : Sl} (h : plc s i path = some t) : ∃ l, s[i]? = some l ∧ subT l path = some t ∧ ∀ t', setP s i path t' = s.set i (putT l path t') := by
  unfold plc at h
  cases e : s[i]? with
  | none =>
    rw [e] at h
    cases h
  | some l =>
    rw [e] at h
    exact ⟨l, rfl, h, fun t' => by unfold setP; rw [e]⟩
theorem notNo {t : Sl} {p : Addr} (h : root t = some p) : isNo t = false := by
  cases t <;> first | rfl | cases h
/-- a place's tree, by its root -/
theorem Step.placeR {s s1 : Ss} {σ : L2.St} {F H F1 H1 : Hp} {i : Nat} {path : Pth} {t : Sl} {q : Addr} (st : Step K s F H s1 F1 H1 σ) (h : plc s1 i path = some t) (hr : root t = some q) (hc : FOk K path) :
    SlOk K F1 H1 t (some (.ref q)) ∧ (fp t).Nodup ∧ (∀ b, b ∈ fp t → Own s1 b) ∧ (∀ Q : VK, Q (.ref q) H1 → tFlds K (tVar i) path σ H1 Q) ∧
    ∀ (ex : List Addr), ExOk s H s1 H1 ex → ∀ (r t' : Sl) (w : V) (F2 H2 : Hp), Lx K ex t (.ref q) F1 H1 r w t' F2 H2 → Step K s F H (setP s1 i path t') F2 H2 σ ∧ Rs K s H F2 H2 (setP s1 i path t') r w := by
  obtain ⟨l, h1, h2, h3⟩ := plc_some h
  obtain ⟨x, j1, j2, j3, j4, j5⟩ := st.place h1 h2 (notNo hr) hc
  have ex := root_v j1 hr
  cases ex
  exact ⟨j1, j2, j3, j4, fun ex hex r t' w F2 H2 y => by rw [h3]; exact j5 ex hex r t' w F2 H2 y⟩
end
end DL
namespace DL
variable [Tabl]
open PySem L2
theorem Le.write {F H : Hp} {p : Addr} {u o : HO} (l : Le F H) (h0 : F p = none) (hp : H p = some u) (hd : Dat u) : Le F (upd H p o) := l.chg (S := fun b => b = p) (fun b hb => by cases hb; exact ⟨h0, u, hp, hd⟩) fun b x hb q => by
  rw [upd_ne hb]
  exact q
section
variable {K : PySem.W.Frag} {s s1 : Ss} {σ : L2.St} {F H F1 H1 : Hp} {te ta : TE} {aa : AE}
abbrev ATg := Sl → Ss → (Ss → Prop) → Prop
abbrev ATgs := List Sl → Ss → (Ss → Prop) → Prop
abbrev AAS := Ss → (List Sl → Ss → Prop) → Prop
structure RsA (K : PySem.W.Frag) (s : Ss) (H F' H' : Hp) (s' : Ss) (rs : List Sl) (vs : List V) : Prop where
  ok : SlOkA K F' H' rs vs
  fr : ∀ p, p ∈ fpA rs → (H p = none ∨ Own s p) ∧ ¬ Own s' p
  nd : (fpA rs).Nodup
def SimTg (K : PySem.W.Frag) (g : TG) (a : ATg) : Prop := ∀ r s1 P, a r s1 P → ∀ v s F H F1 H1 σ, Step K s F H s1 F1 H1 σ → Rs K s H F1 H1 s1 r v → ∀ Q : L2.St → Hp → Prop,
  (∀ s2 σ2 H2, P s2 → Step K s F H s2 F1 H2 σ2 → (∀ b, ¬ Own s1 b → b ∉ fp r → ∀ u, H1 b = some u → H2 b = some u) → (∀ b, Own s2 b → Own s1 b ∨ b ∈ fp r) → Q σ2 H2) → g v σ H1 Q
def SimTgs (K : PySem.W.Frag) (gs : TGs) (a : ATgs) : Prop := ∀ rs s1 P, a rs s1 P → ∀ vs s F H F1 H1 σ, Step K s F H s1 F1 H1 σ → RsA K s H F1 H1 s1 rs vs → ∀ Q : L2.St → Hp → Prop,
  (∀ s2 σ2 H2, P s2 → Step K s F H s2 F1 H2 σ2 → Q σ2 H2) → gs vs σ H1 Q
def SimAS (K : PySem.W.Frag) (ta : TA) (a : AAS) : Prop := ∀ s P, a s P → ∀ σ F H, StOk K F H σ s → ∀ Q : List V → Hp → Prop,
  (∀ rs s' vs F' H', P rs s' → Step K s F H s' F' H' σ → RsA K s H F' H' s' rs vs → Q vs H') → ta σ H Q
theorem fpA_nil : fpA [] = [] := by rw [fpA]
theorem fpA_cons (t : Sl) (ts : List Sl) : fpA (t :: ts) = fp t ++ fpA ts := by rw [fpA]
theorem fpA_app : ∀ (ts us : List Sl), fpA (ts ++ us) = fpA ts ++ fpA us
  | [], us => by rw [fpA_nil, List.nil_append, List.nil_append]
  | t :: ts, us => by rw [List.cons_append, fpA_cons, fpA_cons, fpA_app ts us, List.append_assoc]
theorem slokA_nil {vs : List V} : SlOkA K F H [] vs ↔ vs = [] := by rw [SlOkA]
theorem slokA_cons {t : Sl} {ts : List Sl} {vs : List V} : SlOkA K F H (t :: ts) vs ↔ ∃ x r, vs = x :: r ∧ SlOk K F H t (some x) ∧ SlOkA K F H ts r := by rw [SlOkA]
theorem slokA_snoc : ∀ {ts : List Sl} {vs : List V} {t : Sl} {x : V}, SlOkA K F H ts vs → SlOk K F H t (some x) → SlOkA K F H (ts ++ [t]) (vs ++ [x])
  | [], vs, t, x, h, h2 => by
    rw [slokA_nil.mp h]
    exact slokA_cons.mpr ⟨x, [], rfl, h2, slokA_nil.mpr rfl⟩
  | t0 :: ts, vs, t, x, h, h2 => by
    obtain ⟨y, r, rfl, h3, h4⟩ := slokA_cons.mp h
    exact slokA_cons.mpr ⟨y, r ++ [x], rfl, h3, slokA_snoc h4 h2⟩
end
end DL
namespace DL
variable [Tabl]
open PySem L2
def ixA {α : Type} [DecidableEq α] : List α → α → Option Nat
  | [], _ => none
  | n :: ns, f => if n = f then some 0 else (ixA ns f).map (· + 1)
section
variable {κ : Type} [DecidableEq κ]
theorem valV_ix : ∀ {ks : List κ} {vs : List V} {k : κ}, ks.length = vs.length → valV (ks.zip vs) k = (ixA ks k).bind fun j => vs[j]?
  | [], vs, k, h => rfl
  | n :: ks, [], k, h => by cases h
  | n :: ks, v :: vs, k, h => by
    have ih := valV_ix (ks := ks) (vs := vs) (k := k) (by simpa using h)
    rw [List.zip_cons_cons]
    unfold ixA
    by_cases e : n = k
    · subst e
      rw [valV_pos rfl, if_pos rfl]
      rfl
    · rw [valV_neg e, if_neg e, ih]
      cases ixA ks k <;> simp
theorem ixA_lt : ∀ {ks : List κ} {k : κ} {j : Nat}, ixA ks k = some j → j < ks.length ∧ ks[j]? = some k
  | n :: ks, k, j, h => by
    unfold ixA at h
    by_cases e : n = k
    · rw [if_pos e] at h
      cases h
      exact ⟨Nat.succ_pos _, by rw [e]; rfl⟩
    · rw [if_neg e] at h
      cases q : ixA ks k with
      | none =>
        rw [q] at h
        cases h
      | some i =>
        rw [q] at h
        cases h
        obtain ⟨h1, h2⟩ := ixA_lt q
        exact ⟨Nat.succ_lt_succ h1, by simpa using h2⟩
theorem ixA_none : ∀ {ks : List κ} {k : κ}, ixA ks k = none ↔ k ∉ ks
  | [], k => by simp [ixA]
  | n :: ks, k => by
    unfold ixA
    have ih := ixA_none (ks := ks) (k := k)
    by_cases e : n = k
    · rw [if_pos e]
      simp [e]
    · rw [if_neg e]
      constructor
      · intro h z
        rcases List.mem_cons.mp z with y | y
        · exact e y.symm
        · have := ih.mp (by cases q : ixA ks k with
            | none => rfl
            | some j => rw [q] at h; cases h)
          exact this y
      · intro h
        rw [ih.mpr fun z => h (List.mem_cons_of_mem _ z)]
        rfl
theorem putK_ix (ks : List κ) (vs : List V) (k : κ) (v : V) (hl : ks.length = vs.length) (hn : ks.Nodup) : putK (ks.zip vs) k v = match ixA ks k with
    | some j => ks.zip (vs.set j v)
    | none => (ks ++ [k]).zip (vs ++ [v]) := by
  have ha : ((ks.zip vs).any fun kv => decide (kv.1 = k)) = (ixA ks k).isSome := by
    rw [valV_any, valV_ix hl]
    cases e : ixA ks k with
    | none => rfl
    | some j =>
      have := (ixA_lt e).1
      rw [Option.bind_some, List.getElem?_eq_getElem (by omega)]
      rfl
  unfold putK
  rw [ha]
  cases e : ixA ks k with
  | none =>
    rw [if_neg (by simp)]
    rw [List.zip_append hl]
    rfl
  | some j =>
    rw [if_pos (by rfl)]
    show _ = ks.zip (vs.set j v)
    clear ha
    induction ks generalizing vs j with
    | nil => cases e
    | cons n ks ih =>
      cases vs with
      | nil => cases hl
      | cons w vs =>
        obtain ⟨n1, n2⟩ := List.nodup_cons.mp hn
        unfold ixA at e
        rw [List.zip_cons_cons, List.map_cons]
        by_cases en : n = k
        · rw [if_pos en] at e
          cases e
          subst en
          rw [if_pos rfl, List.set_cons_zero, List.zip_cons_cons]
          refine congrArg (_ :: ·) ?_
          have : ∀ (vs : List V), (ks.zip vs).map (fun kv => if kv.1 = n then (kv.1, v) else kv) = ks.zip vs := fun vs => by
            refine Eq.trans (List.map_congr_left fun p hp => ?_) (List.map_id _)
            have := (List.of_mem_zip (a := p.1) (b := p.2) hp).1
            rw [if_neg fun z => n1 (by rw [← z]; exact this)]
            rfl
          exact this vs
        · rw [if_neg en] at e
          cases q : ixA ks k with
          | none =>
            rw [q] at e
            cases e
          | some i =>
            rw [q] at e
            cases e
            rw [if_neg en, List.set_cons_succ, List.zip_cons_cons, ih vs (by simpa using hl) n2 i q]
end
section
variable {K : PySem.W.Frag} {F H F2 H2 : Hp} {ex : List Addr}
/-- a list gets other items -/
theorem Lx.lst {p : Addr} {xs ys : List D} {us : List V} (ok : SlOk K F H (.ow p xs) (some (.ref p))) (le : Le F H) (d : DqA K F ys us) : Lx K [] (.ow p xs) (.ref p) F H (.pu .non) .non (.ow p ys) F (upd H p (.lst us)) := by
  obtain ⟨_, hp, vs, hv, _⟩ := slok_ow.mp ok
  refine ⟨Same.refl _, fun a o ha h _ => ?_, fun a h => ?_, slok_ow.mpr ⟨rfl, hp, us, upd_same, d⟩, by rw [fp_ow]; exact List.pairwise_singleton _ _, fun a ha => .inl (by rw [fp_ow] at ha ⊢; exact ha), le.write hp hv trivial, fun a h => .inl h, slok_pu.mpr ⟨_, rfl, rfl⟩, fun a ha => ?_, by rw [fp_pu]; exact List.nodup_nil⟩
  · rw [upd_ne fun z => ha (mem_ow.mpr z)]
    exact h
  · by_cases z : a = p
    · subst z
      rw [upd_same] at h
      cases h
    · rw [upd_ne z] at h
      exact h
  · rw [fp_pu] at ha
    cases ha
def aDicT : AE := fun s P => ∀ p, P (.nd p (.dt []) []) s
theorem fp_leaf (p : Addr) (k : NK) (hk : k.dxs = []) : fp (.nd p k []) = [p] := by rw [fp_nd, hk, fpA]; rfl
theorem sim_dicT : Sim K tDNewT aDicT := fun s P q σ F H ok Q k p hp => by
  have fpe : fp (.nd p (.dt []) []) = [p] := fp_leaf p _ rfl
  obtain ⟨st, rs⟩ := (Step.refl ok).leaf (r := .nd p (.dt []) []) (v := .ref p) (F2 := F) (H2 := upd H p (.dT [])) ⟨Same.refl _, .of (same_upd hp), ok.le.trans (same_upd hp), fun _ h => .inl h, slok_nd.mpr ⟨rfl, ok.le.free hp, fun b hb => (by cases hb), trivial, ⟨rfl, List.nodup_nil⟩, [], upd_same, slokA_nil.mpr rfl⟩,
    fun b hb => (by rw [fpe] at hb; rw [List.mem_singleton.mp hb]; exact hp), (by rw [fpe]; exact List.pairwise_singleton _ _)⟩
  exact k _ s _ F _ (q p) st rs
theorem d_dicT {X : Cx} {pos : Pos} : DE X (.Dict [] [] pos) tDNewT aDicT := ⟨pe_dnewT, sim_dicT⟩
def keyD : D → Option Key
  | .int i => some (.inl i)
  | .str x => some (.inr x)
  | _ => none
theorem keyD_ok {d : D} {k : Key} {v : V} (h : keyD d = some k) (q : Dq K F d v) : v = kV k := by
  cases d <;> first | (cases h; done) | (cases h; exact q)
end
end DL
namespace DL
variable [Tabl]
open PySem L2
section
variable {K : PySem.W.Frag} {F H : Hp} {te ta tb : TE} {aa ab : AE} {s : Ss} {σ : L2.St}
abbrev sI (i : Int) : Str := Str.ofString (toString i)
end
end DL
namespace DL
variable [Tabl]
open PySem PySem.Spec L2 PyProof.Rows
/-- ks are the unlike ones among ns -/
def Dist (ns ks : List Int) : Prop := ks.Nodup ∧ ∀ j, j ∈ ks ↔ j ∈ ns
def tLenSetL (K : PySem.W.Frag) (ta : TE) : TE := fun σ H Q => ta σ H fun x H1 => ∃ (l : Addr) (ns : List Int), x = .ref l ∧ SqL K H1 l (ns.map V.int) ∧ ns.length ≤ 4000 ∧ ∀ ks, Dist ns ks → Q (.int (ks.length : Nat)) H1
theorem firstMet_dist (ns : List Int) : ∀ i, i ≤ ns.length → Dist (ns.take i) (PyProof.Rows.firstMet (fun i => ns.getD i 0) i)
  | 0, _ => ⟨List.nodup_nil, fun j => by simp [PyProof.Rows.firstMet_zero]⟩
  | i + 1, hi => by
    obtain ⟨h1, h2⟩ := firstMet_dist ns i (by omega)
    have hlt : i < ns.length := hi
    have e2 : ns.take (i + 1) = ns.take i ++ [ns.getD i 0] := by
      rw [List.take_add_one, List.getElem?_eq_getElem hlt, List.getD_eq_getElem?_getD, List.getElem?_eq_getElem hlt]
      rfl
    rw [PyProof.Rows.firstMet_succ, e2]
    generalize ns.getD i 0 = x
    generalize PyProof.Rows.firstMet (fun i => ns.getD i 0) i = l at h1 h2
    show Dist _ (if l.any (· == x) then l else l ++ [x])
    split
    · rename_i hx
      obtain ⟨y, hy, ey⟩ := List.any_eq_true.mp hx
      have ey2 : y = x := eq_of_beq ey
      subst ey2
      refine ⟨h1, fun j => ?_⟩
      rw [List.mem_append, List.mem_singleton, h2 j]
      constructor
      · exact .inl
      · rintro (z | z)
        · exact z
        · rw [z]
          exact (h2 y).mp hy
    · rename_i hx
      refine ⟨List.nodup_append.mpr ⟨h1, List.pairwise_singleton _ _, fun a ha b hb z => ?_⟩, fun j => ?_⟩
      · rw [List.mem_singleton.mp hb] at z
        subst z
        exact hx (List.any_eq_true.mpr ⟨a, ha, beq_self_eq_true _⟩)
      · rw [List.mem_append, List.mem_append, h2 j]
theorem pe_lenSetL {X : Cx} {a : Expr} {ta : TE} {p p2 q pos : Pos} (hg : Gl X "len") (hm : X.mg "len" = none) (hg2 : Gl X "set") (hm2 : X.mg "set" = none) (ha : PE X a ta) (hc : X.calm = true := by rfl)
    (na : starEach [a] X.env = (false, eval a X.env) :: starEach [] X.env := by rfl) : PE X (.Call (.Name "len" p) [.Call (.Name "set" p2) [a] [] q] [] pos) (tLenSetL X.K ta) := by
  refine ⟨fun pins s σ H Q I h => ?_⟩
  refine Call_ (ld_blt I hg hm boot_len ?_)
  refine PyProof.Rows.callWith_builtin1 (PyProof.Rows.args_cons ?_ rfl) rfl rfl
  refine Call_ (ld_blt I hg2 hm2 PyProof.Rows.boot_set ?_)
  refine PyProof.Rows.callWith_type1 (PyProof.Rows.args_cons (thn (ha.run pins s σ H _ I h) fun v s1 ⟨x, H1, I1, r1, q1⟩ => PyProof.Rows.args_nil ?_) na) na rfl
  obtain ⟨l, ns, rfl, hq, hl, q1⟩ := q1
  cases r1
  obtain ⟨its, r, pl, hz⟩ := I1.list hq
  have hlen : its.toArray.size = ns.length := by rw [List.size_toArray, ← r.length, List.length_map]
  refine call_set_list (I1.ok.hd hc) pl.isList (by simpa using RZ.intsAre_vals r) (by rw [hlen]; unfold scanBound; omega) fun h' tk hS hk => ?_
  refine PyProof.Rows.args_nil ?_
  have hd := firstMet_dist ns ns.length (Nat.le_refl _)
  rw [List.take_length] at hd
  rw [hlen] at hS
  have hle := PyProof.Rows.firstMet_length_le (fun i => ns.getD i 0) ns.length
  obtain ⟨o, es, ep, t, ho, hex, hdd, _, _, _, hf, hn⟩ := hS
  have I2 : Inv X pins σ H1 { s1 with heap := h', toks := tk } := I1.kept fun b o e => hk b o (Heap.lt_size e) e
  refine call_len_set ho hex hdd hf (by rw [hn]; omega) ?_
  have hq := q1 _ hd
  rw [← hn] at hq
  exact ⟨.int (es.size : Nat), H1, I2.tok _, ⟨_, rfl⟩, hq⟩
end DL
namespace DL
variable [Tabl]
open PySem L2
section
variable {K : PySem.W.Frag} {te : TE} {a : AE}
theorem sim_lenSetL (h : Sim K te a) : Sim K (tLenSetL K te) (fun s P => a s fun r s1 => match r.d with
    | .lst ds => ∃ ns, intsD ds = some ns ∧ ns.length ≤ 4000 ∧ ∀ ks : List Int, Dist ns ks → P (.pu (.int ks.length)) s1
    | _ => False) := fun s P q σ F H ok Q k => by
  refine h.d q ok fun r s1 v F1 H1 q1 st1 d1 => ?_
  cases e : r.d <;> simp only [e] at q1
  rename_i ds
  obtain ⟨ns, en, hl, q1⟩ := q1
  rw [e, intsD_eq en] at d1
  obtain ⟨l, xs, rfl, h1, h2⟩ := d1
  rw [of_dqa_ints ns xs h2] at h1
  exact ⟨l, ns, rfl, SqL.of (st1.st.le _ _ h1), hl, fun ks hk => k _ s1 _ F1 H1 (q1 ks hk) st1 (.pu rfl)⟩
def aLenSetL (a : AE) : AE := fun s P => a s fun r s1 => match r.d with
    | .lst ds => ∃ ns, intsD ds = some ns ∧ ns.length ≤ 4000 ∧ ∀ ks : List Int, Dist ns ks → P (.pu (.int ks.length)) s1
    | _ => False
theorem d_lenSetL {X : Cx} (hK : X.K = K := by rfl) {ea : Expr} {p p2 q pos : Pos} (hm : X.mg "len" = none) (hm2 : X.mg "set" = none) (h : DE X ea te a) (hg : Gl X "len" := by rfl) (hg2 : Gl X "set" := by rfl) (hc : X.calm = true := by rfl)
    (na : starEach [ea] X.env = (false, eval ea X.env) :: starEach [] X.env := by rfl) : DE X (.Call (.Name "len" p) [.Call (.Name "set" p2) [ea] [] q] [] pos) (tLenSetL K te) (aLenSetL a) := by
  subst hK
  exact ⟨pe_lenSetL hg hm hg2 hm2 h.pe hc na, sim_lenSetL h.sm⟩
end
end DL
namespace DL
variable [Tabl]
open PySem PySem.Builtin PySem.Spec L2 PyProof.Rows
section
variable {X : Cx} {CX : CXT} {k : Nat} {C f : Addr} {fd : FuncData} {ps : List Str} {sp : Sp} {E : XK}
/-- what len asks of an own class -/
structure LenC (K : PySem.W.Frag) (C f : Addr) : Prop where
  cl : Cls K C
  at_ : PySem.W.findIn K (.ref C) "__len__" = some (some (.ref f))
  fn : PySem.W.typeIn K (.ref f) = some (.type "function")
end
section
variable {K : PySem.W.Frag} {te ta tb : TE} {aa ab : AE} {F H : Hp} {s : Ss} {σ : L2.St} {t : TA} {a : AA}
mutual
def eoD : D → Prop
  | .non => True
  | .bl _ => True
  | .int _ => True
  | .str _ => True
  | .tup xs => eoA xs
  | .lst xs => eoA xs
  | .scr xs => eoA xs
  | _ => False
def eoA : List D → Prop
  | [] => True
  | d :: ds => eoD d ∧ eoA ds
end
mutual
theorem dp_ok : ∀ (d : D) (v : V), eoD d → Dq K F d v → Dp K F v (pyD d)
  | .non, v, _, h => by
    cases (show v = _ from h)
    exact .non
  | .bl b, v, _, h => by
    cases (show v = _ from h)
    exact .bl b
  | .int i, v, _, h => by
    cases (show v = _ from h)
    exact .int i
  | .str x, v, _, h => by
    cases (show v = _ from h)
    exact .str x
  | .tup ds, v, hs, h => by
    obtain ⟨a, xs, rfl, h1, h2⟩ := h
    exact .tup h1 (dp_oks ds xs (by simpa only [eoD] using hs) h2)
  | .lst ds, v, hs, h => by
    obtain ⟨a, xs, rfl, h1, h2⟩ := h
    exact .lst (SqL.of h1) (dp_oks ds xs (by simpa only [eoD] using hs) h2)
  | .scr ds, v, hs, h => by
    obtain ⟨a, xs, rfl, h1, h2⟩ := h
    exact .lst h1 (dp_oks ds xs (by simpa only [eoD] using hs) h2)
  | .ob f, v, hs, h => by simp only [eoD] at hs
  | .ins _ _ _, v, hs, h => by simp only [eoD] at hs
  | .dk _ _, v, hs, h => by simp only [eoD] at hs
  | .dt _ _, v, hs, h => by simp only [eoD] at hs
theorem dp_oks : ∀ (ds : List D) (vs : List V), eoA ds → DqA K F ds vs → DpAll K F vs (pyA ds)
  | [], vs, _, h => by
    cases (show vs = [] from h)
    exact .nil
  | d :: ds, vs, hs, h => by
    obtain ⟨x, r, rfl, h1, h2⟩ := h
    simp only [eoA] at hs
    exact .cons (dp_ok d x hs.1 h1) (dp_oks ds r hs.2 h2)
end
section
variable {X : Cx} {ea eb : Expr} {pos : Pos}
end
end
end DL
namespace DL
variable [Tabl]
open PySem L2 StX
structure DAS (X : Cx) (es : List Expr) (t : TA) (a : AAS) : Prop where
  pe : PA X es t
  sm : SimAS X.K t a
structure DTg (X : Cx) (e : Expr) (g : TG) (a : ATg) : Prop where
  pe : PG X e g
  sm : SimTg X.K g a
structure DTgs (X : Cx) (es : List Expr) (g : TGs) (a : ATgs) : Prop where
  pe : PGs X es g
  sm : SimTgs X.K g a
section
variable {X : Cx} {K : PySem.W.Frag} {e ea : Expr} {es : List Expr} {te ta : TE} {aa : AE} {tr : TA} {ar : AAS} {g : TG} {t : ATg} {gs : TGs} {ts : ATgs} {pos : Pos}
end
end DL
namespace DL
variable [Tabl]
open PySem L2 TL
abbrev Stg := List (List Int)
def LenOk (ls : List Int) : Prop := 2 ≤ ls.length ∧ ls.length ≤ 4 ∧ ls.Nodup ∧ ∀ l ∈ ls, 0 ≤ l ∧ l ≤ 1000000
def StOkD (st : Stg) : Prop := 1 ≤ st.length ∧ st.length ≤ 6 ∧ ∀ ls ∈ st, LenOk ls
/-- the lengths of the lanes of a row -/
def lensOf : Stg → List Int → List Int
  | ls :: st, k :: row => ((atI ls k).getD 0) :: lensOf st row
  | _, _ => []
def sumOf (st : Stg) (row : List Int) : Int := (lensOf st row).sum
def IsRow (st : Stg) (row : List Int) : Prop := row.length = st.length ∧ ∀ (i : Nat) (k : Int) (ls : List Int), row[i]? = some k → st[i]? = some ls → 0 ≤ k ∧ k < ls.length
/-- rows by their delays -/
def grpPut (ks : List Int) (gs : List (List (List Int))) (k : Int) (row : List Int) : List Int × List (List (List Int)) := match ixA ks k with
  | some j => (ks, gs.set j ((gs.getD j []) ++ [row]))
  | none => (ks ++ [k], gs ++ [[row]])
theorem IsRow.tail {ls : List Int} {st : Stg} {k : Int} {row : List Int} (h : IsRow (ls :: st) (k :: row)) : (0 ≤ k ∧ k < ls.length) ∧ IsRow st row := by
  refine ⟨h.2 0 k ls rfl rfl, by simpa using h.1, fun i x l e1 e2 => h.2 (i + 1) x l (by simpa using e1) (by simpa using e2)⟩
end DL
namespace DL
variable [Tabl]
open PySem L2
structure ZApart (z TI TO i1 i2 a b : Addr) : Prop where
  S : ZipSep2 z TI TO i1 i2 [i1, a] [i2, b]
  n1 : a ≠ i1
  n2 : b ≠ i2
def sqD (k : Bool) (d : D) : Option (List D) := if k then (match d with | .tup xs => some xs | _ => none) else lstD d
end DL
namespace DL
variable [Tabl]
open PySem L2 TL
theorem zipD_map {α β : Type} (f : α → D) (g : β → D) : ∀ (xs : List α) (ys : List β), zipD (xs.map f) (ys.map g) = (xs.zip ys).map fun p => D.tup [f p.1, g p.2]
  | [], ys => by simp [zipD]
  | x :: xs, [] => by simp [zipD]
  | x :: xs, y :: ys => by
    have := zipD_map f g xs ys
    unfold zipD at this ⊢
    simp only [List.map_cons, List.zip_cons_cons]
    rw [this]
theorem enum_map {α : Type} (f : α → D) (xs : List α) : enumD (xs.map f) = ((List.range xs.length).zip xs).map fun p => D.tup [.int (p.1 : Nat), f p.2] := by
  unfold enumD
  rw [List.length_map, List.zip_map_right, List.map_map]
  rfl
theorem sq_t (xs : List D) : seqD (.tup xs) = some xs := rfl
theorem sq_l (xs : List D) : seqD (.lst xs) = some xs := rfl
theorem bls_all (n : Nat) : ((List.replicate n true).all id) = true := by
  rw [List.all_eq_true]
  intro x hx
  rw [(List.mem_replicate.mp hx).2]
  rfl
/-- what a dict of lists holds -/
def OwsOk (ows : List Sl) (gs : List (List (List Int))) : Prop := ows.length = gs.length ∧ ∀ (j : Nat) g, gs[j]? = some g → ∃ p, ows[j]? = some (.ow p (g.map tupI))
theorem dsA_get : ∀ (ts : List Sl) (j : Nat), (dsA ts)[j]? = (ts[j]?).map Sl.d
  | [], j => by
    unfold dsA
    simp
  | t :: ts, 0 => by
    unfold dsA
    simp
  | t :: ts, j + 1 => by
    unfold dsA
    rw [List.getElem?_cons_succ, List.getElem?_cons_succ, dsA_get ts j]
theorem OwsOk.ds {ows : List Sl} {gs : List (List (List Int))} (h : OwsOk ows gs) : dsA ows = gs.map fun g => D.lst (g.map tupI) := by
  refine List.ext_getElem? fun j => ?_
  rw [dsA_get, List.getElem?_map]
  cases e : gs[j]? with
  | none =>
    have : gs.length ≤ j := List.getElem?_eq_none_iff.mp e
    rw [List.getElem?_eq_none (by rw [h.1]; exact this)]
    rfl
  | some g =>
    obtain ⟨p, e2⟩ := h.2 j g e
    rw [e2]
    rfl
theorem OwsOk.set {ows : List Sl} {gs : List (List (List Int))} (h : OwsOk ows gs) (j : Nat) (p : Addr) (g : List (List Int)) : OwsOk (ows.set j (.ow p (g.map tupI))) (gs.set j g) := by
  refine ⟨by rw [List.length_set, List.length_set]; exact h.1, fun i g' e => ?_⟩
  by_cases hi : j = i
  · subst hi
    have hl : j < gs.length := by
      have := (List.getElem?_eq_some_iff.mp e).1
      rwa [List.length_set] at this
    rw [List.getElem?_set_self hl] at e
    cases e
    exact ⟨p, List.getElem?_set_self (by rw [h.1]; exact hl)⟩
  · rw [List.getElem?_set_ne hi] at e
    rw [List.getElem?_set_ne hi]
    exact h.2 i g' e
theorem OwsOk.snoc {ows : List Sl} {gs : List (List (List Int))} (h : OwsOk ows gs) (p : Addr) (g : List (List Int)) : OwsOk (ows ++ [.ow p (g.map tupI)]) (gs ++ [g]) := by
  refine ⟨by rw [List.length_append, List.length_append, h.1]; rfl, fun i g' e => ?_⟩
  by_cases hi : i < gs.length
  · rw [List.getElem?_append_left hi] at e
    rw [List.getElem?_append_left (by rw [h.1]; exact hi)]
    exact h.2 i g' e
  · have hi2 : i = gs.length := by
      have := (List.getElem?_eq_some_iff.mp e).1
      simp only [List.length_append, List.length_cons, List.length_nil] at this
      omega
    subst hi2
    rw [List.getElem?_append_right (Nat.le_refl _), Nat.sub_self] at e
    cases e
    exact ⟨p, by rw [List.getElem?_append_right (by rw [h.1]; exact Nat.le_refl _), h.1, Nat.sub_self]; rfl⟩
def RuleOk (st : Stg) (rows : List (List Int)) : Prop := 1 ≤ rows.length ∧ rows.length ≤ 401 ∧ ∀ (i : Nat) row, rows[i]? = some row → IsRow st row ∧ sumOf st row = i
end DL
namespace DL
variable [Tabl]
open PySem L2 TL PyProof
theorem rngD_len (lo : Int) (n : Nat) : (rngD lo n).length = n := by
  unfold rngD
  rw [List.length_map, List.length_range]
end DL
namespace DL
variable [Tabl]
open PySem PySem.Spec L2 PyProof.Rows
section
variable {K : PySem.W.Frag} {te ta tb : TE} {a aa ab : AE} {F H : Hp} {s : Ss} {σ : L2.St}
theorem DqA.reverse : ∀ {ds : List D} {xs : List V}, DqA K H ds xs → DqA K H ds.reverse xs.reverse
  | [], xs, h => by
    cases (show xs = [] from h)
    exact h
  | d :: ds, xs, h => by
    obtain ⟨x, r, rfl, h1, h2⟩ := h
    rw [List.reverse_cons, List.reverse_cons]
    exact (DqA.reverse h2).append ⟨x, [], rfl, h1, rfl⟩
end
end DL
namespace DL
variable [Tabl]
open PySem PySem.Spec L2 PyProof.Rows
section
variable {K : PySem.W.Frag} {F H : Hp} {s : Ss} {σ : L2.St} {te to tk tf : TE} {ae ao ak af : AE}
end
section
variable {X : Cx} {K : PySem.W.Frag} {te to tk tf : TE} {ae ao ak af : AE} {pos : Pos}
end
end DL
namespace DL
variable [Tabl]
open PySem L2 TL
/-- lengths that a drawn stage has -/
def LenM (most : Int) (ls : List Int) : Prop := 2 ≤ ls.length ∧ ls.length ≤ 4 ∧ ls.Nodup ∧ ∀ l ∈ ls, 0 ≤ l ∧ l ≤ most
theorem LenM.ok {most : Int} {ls : List Int} (h : LenM most ls) (hm : most ≤ 1000000) : LenOk ls := ⟨h.1, h.2.1, h.2.2.1, fun l hl => ⟨(h.2.2.2 l hl).1, Int.le_trans (h.2.2.2 l hl).2 hm⟩⟩
/-- what is known of rows by their delays -/
structure GrpOk (st : Stg) (all : List (List Int)) (a : List Int × List (List (List Int))) (n : Nat) : Prop where
  len : a.1.length = a.2.length
  nd : a.1.Nodup
  le : a.1.length ≤ n
  gle : ∀ g ∈ a.2, g.length ≤ n
  sum : ∀ (j : Nat) k g, a.1[j]? = some k → a.2[j]? = some g → g ≠ [] ∧ ∀ r ∈ g, r ∈ all ∧ sumOf st r = k
theorem GrpOk.put {st : Stg} {all : List (List Int)} {a : List Int × List (List (List Int))} {n : Nat} (h : GrpOk st all a n) {row : List Int} (hr : row ∈ all) : GrpOk st all (grpPut a.1 a.2 (sumOf st row) row) (n + 1) := by
  unfold grpPut
  cases e : ixA a.1 (sumOf st row) with
  | some j =>
    obtain ⟨j1, j2⟩ := ixA_lt e
    have j3 : j < a.2.length := by rw [← h.len]; exact j1
    have eg : a.2.getD j [] = a.2[j] := by
      rw [List.getD_eq_getElem?_getD, List.getElem?_eq_getElem j3]
      rfl
    refine ⟨by rw [List.length_set]; exact h.len, h.nd, Nat.le_succ_of_le h.le, fun g hg => ?_, fun i k g e1 e2 => ?_⟩
    · rcases List.mem_or_eq_of_mem_set hg with hg | rfl
      · exact Nat.le_succ_of_le (h.gle g hg)
      · have := h.gle _ (List.getElem_mem j3)
        rw [eg, List.length_append, List.length_cons, List.length_nil]
        omega
    · by_cases hi : j = i
      · subst hi
        rw [List.getElem?_set_self j3] at e2
        cases e2
        have e1 : a.1[j]? = some k := e1
        rw [j2] at e1
        cases e1
        refine ⟨by simp, fun r hr2 => ?_⟩
        rcases List.mem_append.mp hr2 with hr2 | hr2
        · rw [eg] at hr2
          exact (h.sum j _ _ j2 (List.getElem?_eq_getElem j3)).2 r hr2
        · rw [List.mem_singleton.mp hr2]
          exact ⟨hr, rfl⟩
      · rw [List.getElem?_set_ne hi] at e2
        exact h.sum i k g e1 e2
  | none =>
    have hn : sumOf st row ∉ a.1 := ixA_none.mp e
    refine ⟨by simp [h.len], List.nodup_append.mpr ⟨h.nd, List.pairwise_singleton _ _, fun x hx y hy z => ?_⟩, by simp; exact h.le, fun g hg => ?_, fun i k g e1 e2 => ?_⟩
    · rw [List.mem_singleton.mp hy] at z
      subst z
      exact hn hx
    · rcases List.mem_append.mp hg with hg | hg
      · exact Nat.le_succ_of_le (h.gle g hg)
      · rw [List.mem_singleton.mp hg, List.length_cons, List.length_nil]
        omega
    · by_cases hi : i < a.1.length
      · have e1 : (a.1 ++ [sumOf st row])[i]? = some k := e1
        have e2 : (a.2 ++ [[row]])[i]? = some g := e2
        rw [List.getElem?_append_left hi] at e1
        rw [List.getElem?_append_left (by rw [← h.len]; exact hi)] at e2
        exact h.sum i k g e1 e2
      · have e1 : (a.1 ++ [sumOf st row])[i]? = some k := e1
        have e2 : (a.2 ++ [[row]])[i]? = some g := e2
        have hi2 : i = a.1.length := by
          have := (List.getElem?_eq_some_iff.mp e1).1
          rw [List.length_append, List.length_cons, List.length_nil] at this
          omega
        subst hi2
        rw [List.getElem?_append_right (Nat.le_refl _), Nat.sub_self] at e1
        rw [h.len, List.getElem?_append_right (Nat.le_refl _), Nat.sub_self] at e2
        cases e1
        cases e2
        exact ⟨by simp, fun r hr2 => by rw [List.mem_singleton.mp hr2]; exact ⟨hr, rfl⟩⟩
theorem dsA_set : ∀ (ts : List Sl) (j : Nat) (t : Sl), dsA (ts.set j t) = (dsA ts).set j t.d
  | [], j, t => by simp [dsA]
  | u :: ts, 0, t => by simp [dsA]
  | u :: ts, j + 1, t => by simp [dsA, dsA_set ts j t]
theorem dsA_app : ∀ (ts us : List Sl), dsA (ts ++ us) = dsA ts ++ dsA us
  | [], us => by simp [dsA]
  | t :: ts, us => by simp [dsA, dsA_app ts us]
end DL
namespace DL
variable [Tabl]
open PySem L2 TL PyProof
theorem gap : ∀ {ys : List Int}, ys.Pairwise (· ≤ ·) → ∀ x y, (x, y) ∈ ys.zip ys.tail → x + 1 < y → x + 1 ∉ ys
  | [], _, x, y, h, _ => by simp at h
  | [a], _, x, y, h, _ => by simp at h
  | a :: b :: r, hs, x, y, h, hlt => by
    rw [List.tail_cons, List.zip_cons_cons] at h
    have hab := List.rel_of_pairwise_cons hs (List.mem_cons_self)
    rcases List.mem_cons.mp h with e | h
    · cases e
      intro hm
      rcases List.mem_cons.mp hm with e | hm
      · omega
      · rcases List.mem_cons.mp hm with e | hm
        · omega
        · have := List.rel_of_pairwise_cons hs.tail hm
          omega
    · intro hm
      rcases List.mem_cons.mp hm with e | hm
      · have hx := (List.of_mem_zip h).1
        have := List.rel_of_pairwise_cons hs hx
        omega
      · exact gap hs.tail x y (by rw [List.tail_cons]; exact h) hlt hm
end DL
namespace L2
open PySem PySem.Spec PyProof.Rows
end L2
namespace DL
variable [Tabl]
open PySem L2
end DL
namespace DL
variable [Tabl]
open PySem L2 TL PyProof
def canB (w : Str) (n size x y d : Int) : Bool :=
  if max x y > size ∨ (n = 1 ∧ d = 0) then false else if w = "any" then decide (d + y - x ≠ 0) else if w = "order" then decide (1 ≤ d + y - x) else if n = 1 then decide (x = 0) && decide (y = 0) else decide (1 ≤ d + y - x) && decide (d + y - x ≤ n * d + n - 1)
def WordOk (w : Str) : Prop := w = "queue" ∨ w = "order" ∨ w = "any"
end DL
namespace DL
variable [Tabl]
open PySem L2 TL PyProof
end DL
namespace PySem
section
variable {prog : Program} {w : World} {A : Around} {E : Value → Shared → Prop} {s : Shared} {z TI TO i1 i2 : Addr} {fp1 fp2 : List Addr} {n1 n2 i : Nat} {P1 P2 : Nat → Value → Prop} {St1 St2 : Nat → Heap → Prop} {a1 a2 o : Value} {f : Bool}
end
open AutoSeq1 (wpAny_loadPart')
section
variable {pr : Program} {wd : World} {Ar : Around} {E : Value → Shared → Prop} {sh : Shared}
end
end PySem
namespace DL
variable [Tabl]
open PySem L2
structure EApart (e z TI TO i1 i2 a b : Addr) : Prop where
  Z : ZApart z TI TO i1 i2 a b
  ez : e ≠ z
  eI : e ≠ TI
  eT : e ≠ TO
  e1 : e ≠ i1
  e2 : e ≠ i2
  ea : e ≠ a
  eb : e ≠ b
theorem Lf.pus {K : PySem.W.Frag} {F H F1 H1 F2 H2 : Hp} {d e : D} {v w : V} (a : Lf K F H (.pu d) v F1 H1) (b : Lf K F1 H1 (.pu e) w F2 H2) : Lf K F H (.pu e) w F2 H2 where
  f := a.f.trans b.f
  h := a.h.trans b.h
  le := b.le
  n := fun x hx => by
    rcases b.n x hx with z | z
    · exact a.n x z
    · exact .inr (a.h.t x z)
  ok := b.ok
  fr := fun q hq => by
    rw [fp_pu] at hq
    cases hq
  nd := by
    rw [fp_pu]
    exact List.nodup_nil
section
variable {X : Cx} {K : PySem.W.Frag} {to tk : TE} {ao ak : AE} {pos : Pos} {ek eo : Expr}
end
end DL
namespace SrtO
open PySem PyProof.Rows Srt
section
variable {prog : Program} {w : World} {A : Around} {E : Value → Shared → Prop} {s : Shared}
end
end SrtO
namespace L2
open PySem PySem.Spec PyProof.Rows
end L2
namespace DL
variable [Tabl]
open PySem L2
end DL
namespace DL
variable [Tabl]
open PySem L2
section
variable {K : PySem.W.Frag} {F H : Hp} {s : Ss} {σ : L2.St} {te to tf : TE} {ae ao af : AE} {tka : TA} {aka : AA}
def keysD : List D → Option (List Key)
  | [] => some []
  | d :: ds => match keyD d with
    | some k => match keysD ds with
      | some ks => some (k :: ks)
      | none => none
    | none => none
theorem keysD_ok : ∀ {ds : List D} {kk : List Key} {vs : List V}, keysD ds = some kk → DqA K F ds vs → vs = kk.map kV
  | [], kk, vs, h, g => by
    cases h
    exact g
  | d :: ds, kk, vs, h, g => by
    unfold keysD at h
    cases e1 : keyD d with
    | none =>
      rw [e1] at h
      cases h
    | some k =>
      rw [e1] at h
      cases e2 : keysD ds with
      | none =>
        rw [e2] at h
        cases h
      | some ks =>
        rw [e2] at h
        cases h
        obtain ⟨x, r, rfl, h1, h2⟩ := g
        rw [keyD_ok e1 h1, keysD_ok e2 h2]
        rfl
theorem sim_ktup {t : TA} {a : AA} (ha : SimA K t a) {P : List Key → Ss → Prop} (q : a s fun ds s1 => ds.length ≤ 100 ∧ ∃ kk, keysD ds = some kk ∧ P kk s1) (ok : StOk K F H σ s) {Q : VK}
    (k : ∀ kk s1 b F1 H1, P kk s1 → Step K s F H s1 F1 H1 σ → F1 b = some (.tup (kk.map kV)) → Q (.ref b) H1) : tTup t σ H Q := by
  refine ha s _ q σ F H ok _ fun ds s1 vs F1 H1 q1 st1 d1 => ⟨?_, fun p hp => ?_⟩
  · rw [d1.length]
    exact sz_of (Nat.le_trans q1.1 (by decide))
  · obtain ⟨_, kk, ek, q2⟩ := q1
    obtain ⟨st2, rs2⟩ := st1.leaf (Lf.newT st1.st.le hp d1)
    have e := keysD_ok ek d1
    subst e
    exact k kk s1 p _ _ q2 st2 upd_same
/-- d[k] = e of a dict that is its def's own: the value stands for good -/
def aPutT (i : Nat) (path : Pth) (a : AE) (ak : AA) : AS := fun A s => a s fun r s1 => match plc s1 i path with
  | some (.nd q (.dt _) _) => ak s1 fun dk s2 => dk.length ≤ 100 ∧ ∃ kk, keysD dk = some kk ∧ match plc s2 i path with
    | some (.nd q1 (.dt ks) ts) => q1 = q ∧ ks.length < 100000 ∧ match ixA ks kk with
      | some j => A.nx (setP s2 i path (.nd q (.dt ks) (ts.set j (.pu r.d))))
      | none => A.nx (setP s2 i path (.nd q (.dt (ks ++ [kk])) (ts ++ [.pu r.d])))
    | _ => False
  | _ => False
theorem sims_putT {i : Nat} {path : Pth} (hc : FOk K path) (ha : Sim K te ae) (hk : SimA K tka aka) : SimS K (sDPut (tFlds K (tVar i) path) (tTup tka) te) (aPutT i path ae aka) := fun A s q σ F H ok E kn kr kb kc => by
  refine ha.d q ok fun r s1 v F1 H1 q1 st1 d1 => ?_
  cases e0 : plc s1 i path with
  | none =>
    simp only [e0] at q1
  | some l0 =>
    simp only [e0] at q1
    cases l0 with
    | no => exact q1.elim
    | pu d => exact q1.elim
    | ow p xs => exact q1.elim
    | nd q0 kk0 ts0 =>
      cases kk0 <;> first | exact q1.elim | skip
      rename_i ks0
      simp only at q1
      obtain ⟨g1, _, _, g4, _⟩ := st1.placeR e0 rfl hc
      refine g4 _ ?_
      refine sim_ktup hk q1 st1.st fun kk s2 bk F2 H2 q2 st2 hb => ?_
      have hb2 := st2.st.le _ _ hb
      have st := st1.trans st2
      cases e1 : plc s2 i path with
      | none =>
        simp only [e1] at q2
      | some l1 =>
        simp only [e1] at q2
        cases l1 with
        | no => exact q2.elim
        | pu d => exact q2.elim
        | ow p xs => exact q2.elim
        | nd q1' kk1 ts =>
          cases kk1 <;> first | exact q2.elim | skip
          rename_i ks
          simp only at q2
          obtain ⟨rfl, hlt, q2⟩ := q2
          obtain ⟨w1, w2, w3, w4, w5⟩ := st.placeR e1 rfl hc
          obtain ⟨_, hfq, _, _, hlen, vs, hcell, hts⟩ := slok_nd.mp w1
          rw [fp_nd] at w2
          obtain ⟨n1, n2⟩ := List.nodup_cons.mp w2
          have n2' : (fpA ts).Nodup := by simpa [NK.dxs] using n2
          have n1' : q1' ∉ fpA ts := by simpa [NK.dxs] using n1
          have hlen2 : ks.length = vs.length := by rw [hts.len]; exact hlen.1
          have dd : Dq K F2 r.d v := Dq.mono st2.f _ _ d1
          -- a new cell at q1', with the same own objects at most
          have go : ∀ (ks' : List (List Key)) (ts' : List Sl) (vs' : List V), (ks'.length = ts'.length ∧ ks'.Nodup) → SlOkA K F2 (upd H2 q1' (.dT (ks'.zip vs'))) ts' vs' → (fpA ts').Nodup → (∀ b, b ∈ fpA ts' → b ∈ fpA ts) →
              Lx K [] (.nd q1' (.dt ks) ts) (.ref q1') F2 H2 (.pu .non) .non (.nd q1' (.dt ks') ts') F2 (upd H2 q1' (.dT (ks'.zip vs'))) := fun ks' ts' vs' y1 y2 y3 y4 => by
            refine ⟨Same.refl _, fun a o ha h _ => ?_, fun a h => ?_, slok_nd.mpr ⟨rfl, hfq, fun b hb => (by cases hb), trivial, y1, vs', upd_same, y2⟩, ?_, fun a ha => ?_, st.st.le.write hfq hcell trivial, fun a h => .inl h, slok_pu.mpr ⟨_, rfl, rfl⟩, fun a ha => ?_, by rw [fp_pu]; exact List.nodup_nil⟩
            · rw [upd_ne fun z => ha (by rw [fp_nd, z]; exact List.mem_cons_self)]
              exact h
            · by_cases z : a = q1'
              · subst z
                rw [upd_same] at h
                cases h
              · rwa [upd_ne z] at h
            · rw [fp_nd]
              refine List.nodup_cons.mpr ⟨fun z => n1' (y4 _ (by simpa [NK.dxs] using z)), by simpa [NK.dxs] using y3⟩
            · rw [fp_nd] at ha ⊢
              rcases List.mem_cons.mp ha with z | z
              · exact .inl (by rw [z]; exact List.mem_cons_self)
              · exact .inl (List.mem_cons_of_mem _ (by simpa [NK.dxs] using y4 _ (by simpa [NK.dxs] using z)))
            · rw [fp_pu] at ha
              cases ha
          have mono : ∀ u, SlOkA K F2 (upd H2 q1' u) ts vs := fun u => SlOkA.mono ts (Same.refl _) (fun b hb u _ h1 h2 => ⟨h1, by rw [upd_ne fun z => n1' (by rw [← z]; exact hb)]; exact h2⟩) hts
          have e2 := putK_ix ks vs kk v hlen2 hlen.2
          refine ⟨q1', _, rfl, DPut.t hcell hb2 (by rw [List.length_zip]; exact Nat.lt_of_le_of_lt (Nat.min_le_left _ _) (sz_lt hlt)), ?_⟩
          rw [e2]
          cases ei : ixA ks kk with
          | some j =>
            rw [ei] at q2
            obtain ⟨j1, j2⟩ := ixA_lt ei
            have et : ts[j]? = some (ts[j]'(by have := hlen.1; omega)) := List.getElem?_eq_getElem _
            obtain ⟨m1, m2⟩ := fpA_set (t' := .pu r.d) n2' et (by rw [fp_pu]; exact List.nodup_nil) fun b hb => by
              rw [fp_pu] at hb
              cases hb
            obtain ⟨st3, _⟩ := w5 [] exok_nil _ _ _ _ _ (go ks (ts.set j (.pu r.d)) (vs.set j v) ⟨by rw [List.length_set]; exact hlen.1, hlen.2⟩ ((mono _).setG n2' et (slok_pu.mpr ⟨v, rfl, dd⟩) (Same.refl _) (fun b hb u _ f1 f2 => ⟨f1, f2⟩)) m1 fun b hb => by
              rcases m2 b hb with z | z
              · rw [fp_pu] at z
                cases z
              · exact z.1)
            exact kn _ σ F2 _ q2 st3
          | none =>
            rw [ei] at q2
            obtain ⟨st3, _⟩ := w5 [] exok_nil _ _ _ _ _ (go (ks ++ [kk]) (ts ++ [.pu r.d]) (vs ++ [v]) ⟨by simp [hlen.1], List.nodup_append.mpr ⟨hlen.2, List.pairwise_singleton _ _, fun a ha b hb z => by
              rw [List.mem_singleton.mp hb] at z
              subst z
              exact ixA_none.mp ei ha⟩⟩ (slokA_snoc (mono _) (slok_pu.mpr ⟨v, rfl, dd⟩)) (by rw [fpA_app, fpA_cons, fpA_nil, fp_pu]; simpa using n2') fun b hb => by
              rw [fpA_app, fpA_cons, fpA_nil, fp_pu] at hb
              simpa using hb)
            exact kn _ σ F2 _ q2 st3
end
section
variable {X : Cx} {K : PySem.W.Frag} {te to tf : TE} {ae ao af : AE} {tka : TA} {aka : AA} {pos : Pos}
theorem s_putT (hK : X.K = K := by rfl) {i : Nat} {path : Pth} (hu : X.A.units + 64 < cLine) {o v : Expr} {es : List Expr} {x1} {tpos pos' : Pos} (ho : PE X o (tFlds K (tVar i) path)) (hp : FOk K path) (he : DA X es tka aka) (hv : DE X v te ae) (hs : swapsWith v (some (.Subscript o (.Tuple es x1 tpos) pos')) pos.line X.env = pure false := by rfl) :
    DS X (.Assign [.Subscript o (.Tuple es x1 tpos) pos'] v pos) (sDPut (tFlds K (tVar i) path) (tTup tka) te) (aPutT i path ae aka) := by
  subst hK
  exact ⟨ps_dput (by omega) ho (pe_tup he.pe) hv.pe hs, sims_putT hp hv.sm he.sm⟩
end
end DL
namespace DL
variable [Tabl]
open PySem L2
section
variable {K : PySem.W.Frag} {F H F1 H1 F2 H2 : Hp} {s : Ss} {σ : L2.St}
/-- no slot owns anything -/
def Plain (s : Ss) : Prop := ∀ (i : Nat) (l : Sl), s[i]? = some l → fp l = []
theorem StOk.grow (ok : StOk K F1 H1 σ s) (pl : Plain s) (hf : Same F1 F2) (hl : Le F2 H2) : StOk K F2 H2 σ s :=
  ⟨hl, ok.len, fun i l o e1 e2 => SlOk.mono l hf (fun p hp => by rw [pl i l e1] at hp; cases hp) (ok.ok i l o e1 e2), fun i j l m p e1 _ hp _ => (by rw [pl i l e1] at hp; cases hp), fun i l e => by rw [pl i l e]; exact List.nodup_nil⟩
structure PotAt (K : PySem.W.Frag) (F H : Hp) (z : Addr × List D) : Prop where
  f : F z.1 = none
  h : ∃ vs, H z.1 = some (.lst vs) ∧ DqA K F z.2 vs
theorem PotAt.mono {F H F' H' : Hp} {z : Addr × List D} (x : PotAt K F H z) (hf : Same F F') (hn : F' z.1 = none) (hh : ∀ o, (∀ ps, o ≠ .tbl ps) → H z.1 = some o → H' z.1 = some o) : PotAt K F' H' z := by
  obtain ⟨vs, h1, h2⟩ := x.h
  exact ⟨hn, vs, hh _ (fun _ z => by cases z) h1, DqA.mono hf _ _ h2⟩
end
end DL
namespace DL
variable [Tabl]
open PySem PySem.Spec L2 PyProof.Rows HT
section
variable {prog : Program} {w : World} {A : Around} {E : Value → Shared → Prop} {s : Shared}
end
section
variable {K : PySem.W.Frag} {te : TE} {a : AE} {F H : Hp} {s : Ss} {σ : L2.St}
end
end DL
namespace DL
variable [Tabl]
open PySem L2
section
variable {K : PySem.W.Frag}
end
end DL
namespace DL
variable [Tabl]
open PySem L2
section
variable {K : PySem.W.Frag}
end
end DL
namespace L2
open PySem PySem.Spec PyProof.Rows
end L2
namespace DL
variable [Tabl]
open PySem PySem.Spec L2 PyProof.Rows
abbrev pairD (q : Int × Int) : D := .tup [.int q.1, .int q.2]
end DL
namespace DL
variable [Tabl]
open PySem PySem.Spec L2 PyProof.Rows
section
variable {K : PySem.W.Frag} {te ta tb tk : TE} {ab ak : AE}
theorem same_put {F H : Hp} {p : Addr} {vs : List V} (h1 : F p = none) (h2 : H p = some (.lst vs)) (le : Le F H) : Same F (upd F p (.lst vs)) ∧ Le (upd F p (.lst vs)) H :=
  ⟨fun b o q => by
    rw [upd_ne (ne_of_none q h1)]
    exact q, le.know h2⟩
end
section
variable {X : Cx} {K : PySem.W.Frag} {p pos p2 : Pos} {y : Str} {i : Nat} {path : Pth} {ek eo eb : Expr} {tk tb : TE} {ak ab : AE}
end
end DL
namespace DL
variable [Tabl]
open PySem PySem.Spec L2 PyProof.Rows
abbrev AAB := Ss → (List D → List D → Ss → Prop) → Prop
def SimB (K : PySem.W.Frag) (i : Nat) (t : TA) (a : AAB) : Prop := ∀ s P, a s P → ∀ σ F H, StOk K F H σ s → ∀ Q : List V → Hp → Prop,
  (∀ ds es s' vs us p xs F' H', P ds es s' → s'[i]? = some (.ow p xs) → Step K s F H s' F' H' σ → DqA K F' ds vs → DqA K F' es us → Q (vs ++ .ref p :: us) H') → t σ H Q
def abHere (i : Nat) (b : AA) : AAB := fun s P => match s[i]? with
  | some (.ow p _) => b s fun es s2 => (∃ xs, s2[i]? = some (.ow p xs)) ∧ P [] es s2
  | _ => False
def abCons (a : AE) (r : AAB) : AAB := fun s P => a s fun r1 s1 => r s1 fun ds es s2 => P (r1.d :: ds) es s2
section
variable {K : PySem.W.Frag} {ta : TE} {tr : TA} {aa : AE} {ar : AA} {ab : AAB} {i : Nat}
theorem simb_here (hb : SimA K tr ar) : SimB K i (tCons (tVar i) tr) (abHere i ar) := fun s P q σ F H ok Q k => by
  unfold abHere at q
  cases e : s[i]? with
  | none =>
    rw [e] at q
    exact q.elim
  | some l =>
    rw [e] at q
    cases l with
    | no => exact q.elim
    | pu d => exact q.elim
    | nd _ _ _ => exact q.elim
    | ow p xs0 =>
      obtain ⟨o, h1, h2⟩ := ok.get e
      obtain ⟨rfl, _⟩ := slok_ow.mp h2
      refine ⟨.ref p, h1, ?_⟩
      refine hb s _ q σ F H ok _ fun es s2 us F2 H2 q2 st2 d2 => ?_
      obtain ⟨⟨xs, e2⟩, q2⟩ := q2
      exact k [] es s2 [] us p xs F2 H2 q2 e2 st2 rfl d2
theorem simb_cons (ha : Sim K ta aa) (hr : SimB K i tr ab) : SimB K i (tCons ta tr) (abCons aa ab) := fun s P q σ F H ok Q k => by
  refine ha.d q ok fun r1 s1 v1 F1 H1 q1 st1 d1 => ?_
  refine hr s1 _ q1 σ F1 H1 st1.st _ fun ds es s2 vs us p xs F2 H2 q2 e2 st2 d2 d3 => ?_
  exact k (r1.d :: ds) es s2 (v1 :: vs) us p xs F2 H2 q2 e2 (st1.trans st2) ⟨v1, vs, rfl, Dq.mono st2.f _ _ d1, d2⟩ d3
/-- a result that holds nothing of what was lent -/
def flatS : Sl → Bool
  | .pu d => flatD d
  | .ow _ xs => xs.all flatD
  | _ => false
def aCallBo (r : ARC) (i : Nat) (a : AAB) : AE := fun s P => a s fun ds es s1 => ∃ p xs, s1[i]? = some (.ow p xs) ∧ r (ds ++ .lst xs :: es) fun rs => flatS rs = true ∧ P rs s1
theorem dqa_flat {F F' : Hp} : ∀ {xs : List D} {vs : List V}, xs.all flatD = true → DqA K F xs vs → DqA K F' xs vs
  | [], vs, _, h => h
  | x :: xs, vs, hx, h => by
    rw [List.all_cons, Bool.and_eq_true] at hx
    obtain ⟨v, r, rfl, h1, h2⟩ := h
    exact ⟨v, r, rfl, flat_any hx.1 h1, dqa_flat hx.2 h2⟩
theorem lf_flatS {F F1 H F2 H2 : Hp} {rs : Sl} {v : V} (le : Le F H) (f1 : Same F F1) (l : Lf K F1 H rs v F2 H2) (fl : flatS rs = true) : Lf K F H rs v F H2 := by
  cases rs with
  | no => cases fl
  | nd _ _ _ => cases fl
  | pu d =>
    obtain ⟨w, w1, w2⟩ := slok_pu.mp l.ok
    cases w1
    exact ⟨Same.refl _, l.h, l.back le, fun _ h => .inl h, slok_pu.mpr ⟨v, rfl, flat_any fl w2⟩, fun _ e => (by rw [fp_pu] at e; cases e), by rw [fp_pu]; exact List.nodup_nil⟩
  | ow p xs =>
    obtain ⟨w1, w2, vs, w3, w4⟩ := slok_ow.mp l.ok
    refine ⟨Same.refl _, l.h, l.back le, fun _ h => .inl h, slok_ow.mpr ⟨w1, ?_, vs, w3, dqa_flat fl w4⟩, l.fr, l.nd⟩
    cases e : F p with
    | none => rfl
    | some o =>
      rw [l.f _ _ (f1 _ _ e)] at w2
      cases w2
theorem dqa_app {F : Hp} : ∀ {ds es : List D} {vs us : List V}, DqA K F ds vs → DqA K F es us → DqA K F (ds ++ es) (vs ++ us)
  | [], es, vs, us, h1, h2 => by
    cases (show vs = [] from h1)
    exact h2
  | d :: ds, es, vs, us, h1, h2 => by
    obtain ⟨v, r, rfl, h3, h4⟩ := h1
    exact ⟨v, r ++ us, rfl, h3, dqa_app h4 h2⟩
theorem sim_callBo {r : List V → Hp → VK → Prop} {arc : ARC} (hr : RC K r arc) (ha : SimB K i tr ab) : Sim K (tCB r tr) (aCallBo arc i ab) := fun s P q σ F H ok Q k => by
  refine ha s _ q σ F H ok _ fun ds es s1 vs us p xs F1 H1 q1 e1 st1 d1 d2 => ?_
  obtain ⟨p', xs', e1', q1⟩ := q1
  rw [e1] at e1'
  cases e1'
  obtain ⟨o2, _, h3⟩ := st1.st.get e1
  obtain ⟨_, g1, ws, g2, g3⟩ := slok_ow.mp h3
  obtain ⟨e3, e4⟩ := same_put g1 g2 st1.st.le
  refine hr _ _ q1 (upd F1 p (.lst ws)) H1 _ e4 (dqa_app (DqA.mono e3 _ _ d1) ⟨_, _, rfl, ⟨p, ws, rfl, upd_same, DqA.mono e3 _ _ g3⟩, DqA.mono e3 _ _ d2⟩) Q fun rs v F2 H2 hp l => ?_
  obtain ⟨fl, q3⟩ := hp
  obtain ⟨st2, rs2⟩ := st1.leaf (lf_flatS st1.st.le e3 l fl)
  exact k rs s1 v F1 H2 q3 st2 rs2
end
structure DAB (X : Cx) (es : List Expr) (i : Nat) (t : TA) (a : AAB) : Prop where
  pe : PA X es t
  sm : SimB X.K i t a
section
variable {X : Cx} {K : PySem.W.Frag} {p pos p2 : Pos} {x y : Str} {i : Nat} {e : Expr} {es : List Expr} {ta : TE} {tr : TA} {aa : AE} {ar : AA} {ab : AAB}
theorem dab_here (hv : DE X (.Name y p2) (tVar i) (aVar i)) (hr : DA X es tr ar) (hs : starEach (.Name y p2 :: es) X.env = (false, eval (.Name y p2) X.env) :: starEach es X.env := by rfl) : DAB X (.Name y p2 :: es) i (tCons (tVar i) tr) (abHere i ar) := ⟨pa_cons hv.pe hr.pe hs, simb_here hr.sm⟩
theorem dab_cons (ha : DE X e ta aa) (hr : DAB X es i tr ab) (hs : starEach (e :: es) X.env = (false, eval e X.env) :: starEach es X.env := by rfl) : DAB X (e :: es) i (tCons ta tr) (abCons aa ab) := ⟨pa_cons ha.pe hr.pe hs, simb_cons ha.sm hr.sm⟩
theorem d_callBoF (hK : X.K = K := by rfl) {f : Addr} {fd : FuncData} {ps : List Str} {k n : Nat} {S : ARC} (F : FnOk X.prog X.w K X.mg X.base CX0 k f fd ps (spD K n S)) (hr : Room k X.A) (hm : X.mg x = some (.ref f)) (hk : PySem.W.keepIn K (.ref f) = true) (hb : Binds K fd ps [])
    (ha : DAB X (e :: es) i tr ab) (hg : Gl X x := by rfl) (hdb : (x == ("__debug__" : Str)) = false := by decide) (he : starEach (e :: es) X.env = (false, eval e X.env) :: starEach es X.env := by rfl) (hpl : (backTo pos (starEach es X.env)).any (·.1) = false := by rfl) :
    DE X (.Call (.Name x p) (e :: es) [] pos) (tCall (spD K n S) [] E0 tr) (aCallBo (aFn n S) i ab) := by
  subst hK
  exact ⟨pe_call F hr hg hm hk hb .nil pass0 ha.pe hdb he hpl, sim_callBo (r := fun vs H Q => spD X.K n S (vs ++ []) H Q E0) rc_fn ha.sm⟩
end
end DL
namespace L2
open PySem PySem.Spec PyProof.Rows
section
variable {X : Cx} {pins : List (Addr × Obj)} {σ : St} {H : Hp} {s : Shared} {a b : Addr} {r : Value} {d : V} {kk : List Key} {A : Around} {E : Value → Shared → Prop}
end
section
variable {X : Cx} {o e f : Expr} {td ty tx : TE} {apos cpos : Pos}
end
end L2
namespace DL
variable [Tabl]
open PySem PySem.Spec L2 PyProof.Rows
section
variable {K : PySem.W.Frag} {te tn : TE} {a an : AE} {g : TG} {ag : AG} {c : TT} {ac1 : AT} {L vs : List Nat} {s : Ss} {σ : L2.St} {F H : Hp}
end
section
variable {X : Cx} {K : PySem.W.Frag}
end
end DL
namespace DL
variable [Tabl]
open PySem PySem.Spec L2 PyProof.Rows
section
variable {K : PySem.W.Frag} {te : TE} {a : AE} {g : TG} {ag : AG} {c : TT} {ac1 : AT} {s : Ss} {σ : L2.St} {F H : Hp}
structure LcO (K : PySem.W.Frag) (s : Ss) (F H : Hp) (σ : L2.St) (p : Addr) (F1 : Hp) (vs : List Nat) (s' : Ss) (F' H' : Hp) (acc : List Sl) : Prop where
  st : Step K s F H s' F' H' σ
  f : Same F1 F'
  pf : F' p = none
  po : ¬ Own s' p
  pl : ∃ us, H' p = some (.lst us) ∧ SlOkA K F' H' acc us
  fr : ∀ b, b ∈ fpA acc → (H b = none ∨ Own s b) ∧ ¬ Own s' b
  nd : (p :: fpA acc).Nodup
  w : Wiped s' vs
theorem LcO.next {p : Addr} {F1 : Hp} {vs : List Nat} {s' s2 : Ss} {F' H' F2 H2 : Hp} {acc : List Sl} {σ2 : L2.St} (x : LcO K s F H σ p F1 vs s' F' H' acc) (st : Step K s' F' H' s2 F2 H2 σ2) (hl : σ2.length = σ.length) (e : ∀ j, j ∉ vs → σ2[j]? = σ[j]?) : LcO K s F H σ p F1 vs (wipeS s2 vs) F2 H2 acc := by
  obtain ⟨us, g1, g2⟩ := x.pl
  have stay : ∀ b u, H' b = some u → ¬ Own s' b → ¬ Own (wipeS s2 vs) b := fun b u hb hn z => by
    rcases st.o b (own_wipe z) with y | y
    · exact hn y
    · rw [hb] at y
      cases y
  have keep : ∀ b, b ∈ fpA acc → ∀ u, Dat u → F' b = none → H' b = some u → F2 b = none ∧ H2 b = some u := fun b hb u hd h1 h2 => st.unf h1 h2 hd.tbl (x.fr b hb).2
  exact ⟨x.st.trans (st.outof hl e), x.f.trans st.f, (st.unf x.pf g1 (fun _ z => by cases z) x.po).1, stay p _ g1 x.po, ⟨us, st.k p _ g1 (fun _ z => by cases z) x.po, SlOkA.mono acc st.f keep g2⟩, fun b hb => ⟨(x.fr b hb).1, by
    obtain ⟨_, u, hu⟩ := SlOkA.own acc g2 hb
    exact stay b u hu (x.fr b hb).2⟩, x.nd, wiped_wipe _ _⟩
end
section
variable {X : Cx} {K : PySem.W.Frag} {te : TE} {aa : AE}
end
end DL
namespace DL
variable [Tabl]
open PySem L2
section
variable {K : PySem.W.Frag} {F H : Hp}
end
end DL
namespace L2
open PySem PySem.Spec PyProof.Rows
def EmSt (h : Heap) (e it l S : Addr) (items : Array Value) (i : Nat) : Prop :=
  h.IsListIter it l i ∧ h.IsList l items ∧ ((∃ old, IsEnum h e it i old) ∨ ∃ old T f oT, IsEnumHeld h e it i old T f ∧ h.get? T = some oT ∧ T ≠ e ∧ T ≠ it ∧ T ≠ S)
theorem EmSt.keep {h h' : Heap} {e it l S : Addr} {items : Array Value} {i : Nat} (x : EmSt h e it l S items i) (hk : ∀ b o, b ≠ S → h.get? b = some o → h'.get? b = some o) (h1 : e ≠ S) (h2 : it ≠ S) (h3 : l ≠ S) : EmSt h' e it l S items i := by
  obtain ⟨hit, hl, he⟩ := x
  refine ⟨hit.at fun o x => hk _ o h2 x, hl.at fun o x => hk _ o h3 x, ?_⟩
  rcases he with ⟨old, he⟩ | ⟨old, T, f, oT, he, hT, r1, r2, r3⟩
  · exact .inl ⟨old, hk _ _ h1 he⟩
  · exact .inr ⟨old, T, f, oT, hk _ _ h1 he, hk _ _ r3 hT, r1, r2, r3⟩
section
variable {prog : Program} {w : World} {A : Around} {E : Value → Shared → Prop} {s : Shared} {R : Result → Shared → Prop} {items : Array Value} {e it l S : Addr}
end
end L2
namespace DL
variable [Tabl]
open PySem L2 PyProof.Rows
end DL
namespace DL
variable [Tabl]
open PySem PySem.Spec L2 PyProof.Rows
section
variable {prog : Program} {w : World} {A : Around} {E : Value → Shared → Prop} {s : Shared} {l : Addr} {xs : Array (Int × Tok)}
end
end DL
namespace DL
variable [Tabl]
open PySem PySem.Spec L2 PyProof.Rows
section
variable {K : PySem.W.Frag} {i : Nat} {path : Pth}
mutual
def noL : D → Bool
  | .non => true
  | .bl _ => true
  | .int _ => true
  | .str _ => true
  | .tup xs => noLA xs
  | _ => false
def noLA : List D → Bool
  | [] => true
  | d :: ds => noL d && noLA ds
end
mutual
theorem noL_off : ∀ (d : D) {F : Hp} {v : V} {p : Addr} {ws : List V}, noL d = true → F p = some (.lst ws) → Dq K F d v → Dq K (fun b => if b = p then none else F b) d v
  | .non, F, v, p, ws, h, e, q => q
  | .bl _, F, v, p, ws, h, e, q => q
  | .int _, F, v, p, ws, h, e, q => q
  | .str _, F, v, p, ws, h, e, q => q
  | .tup xs, F, v, p, ws, h, e, q => by
    obtain ⟨a, ys, rfl, g1, g2⟩ := q
    refine ⟨a, ys, rfl, ?_, noL_offA xs (by simpa [noL] using h) e g2⟩
    rcases g1 with g1 | g1
    · refine .inl ?_
      by_cases z : a = p
      · subst z
        rcases g1 with g1 | ⟨o, g1⟩
        · rw [e] at g1
          cases g1
        · rw [e] at g1
          cases g1
      · rcases g1 with g1 | ⟨o, g1⟩
        · exact .inl ((if_neg z).trans g1)
        · exact .inr ⟨o, (if_neg z).trans g1⟩
    · exact .inr g1
  | .lst _, F, v, p, ws, h, e, q => by simp [noL] at h
  | .scr _, F, v, p, ws, h, e, q => by simp [noL] at h
  | .ob _, F, v, p, ws, h, e, q => by simp [noL] at h
  | .ins _ _ _, F, v, p, ws, h, e, q => by simp [noL] at h
  | .dk _ _, F, v, p, ws, h, e, q => by simp [noL] at h
  | .dt _ _, F, v, p, ws, h, e, q => by simp [noL] at h
theorem noL_offA : ∀ (ds : List D) {F : Hp} {vs : List V} {p : Addr} {ws : List V}, noLA ds = true → F p = some (.lst ws) → DqA K F ds vs → DqA K (fun b => if b = p then none else F b) ds vs
  | [], F, vs, p, ws, h, e, q => q
  | d :: ds, F, vs, p, ws, h, e, q => by
    simp only [noLA, Bool.and_eq_true] at h
    obtain ⟨x, r, rfl, g1, g2⟩ := q
    exact ⟨x, r, rfl, noL_off d h.1 e g1, noL_offA ds h.2 e g2⟩
end
def SimBP (K : PySem.W.Frag) (i : Nat) (path : Pth) (t : TA) (a : AAB) : Prop := ∀ s P, a s P → ∀ σ F H, StOk K F H σ s → ∀ Q : List V → Hp → Prop,
  (∀ ds es s' vs us p xs F' H', P ds es s' → plc s' i path = some (.ow p xs) → Step K s F H s' F' H' σ → DqA K F' ds vs → DqA K F' es us → Q (vs ++ .ref p :: us) H') → t σ H Q
theorem slokA_erase {F H : Hp} : ∀ {ts : List Sl} {vs : List V} (j : Nat), SlOkA K F H ts vs → SlOkA K F H (ts.eraseIdx j) (vs.eraseIdx j)
  | [], vs, j, h => by
    rw [slokA_nil.mp h]
    exact slokA_nil.mpr rfl
  | t :: ts, vs, 0, h => by
    obtain ⟨x, r, rfl, _, h2⟩ := slokA_cons.mp h
    exact h2
  | t :: ts, vs, j + 1, h => by
    obtain ⟨x, r, rfl, h1, h2⟩ := slokA_cons.mp h
    exact slokA_cons.mpr ⟨x, _, rfl, h1, slokA_erase j h2⟩
theorem fpA_erase : ∀ {ts : List Sl} {j : Nat} {c : Sl}, (fpA ts).Nodup → ts[j]? = some c → (fpA (ts.eraseIdx j)).Nodup ∧ (∀ b, b ∈ fpA (ts.eraseIdx j) → b ∈ fpA ts) ∧ ∀ b, b ∈ fp c → b ∉ fpA (ts.eraseIdx j)
  | [], j, c, h, e => by cases e
  | t :: ts, 0, c, h, e => by
    cases e
    rw [fpA_cons] at h
    obtain ⟨h1, h2, h3⟩ := List.nodup_append.mp h
    refine ⟨h2, fun b hb => ?_, fun b hb z => h3 b hb b z rfl⟩
    rw [fpA_cons]
    exact List.mem_append_right _ hb
  | t :: ts, j + 1, c, h, e => by
    rw [fpA_cons] at h
    obtain ⟨h1, h2, h3⟩ := List.nodup_append.mp h
    have e' : ts[j]? = some c := by simpa using e
    obtain ⟨g1, g2, g3⟩ := fpA_erase (j := j) h2 e'
    have e3 : fpA ((t :: ts).eraseIdx (j + 1)) = fp t ++ fpA (ts.eraseIdx j) := by rw [List.eraseIdx_cons_succ, fpA_cons]
    rw [e3]
    refine ⟨List.nodup_append.mpr ⟨h1, g1, fun a ha b hb => h3 a ha b (g2 b hb)⟩, fun b hb => ?_, fun b hb z => ?_⟩
    · rw [fpA_cons]
      rcases List.mem_append.mp hb with y | y
      · exact List.mem_append_left _ y
      · exact List.mem_append_right _ (g2 b y)
    · rcases List.mem_append.mp z with y | y
      · exact h3 b y b (mem_fpA e' hb) rfl
      · exact g3 b hb y
/-- a dict gives one of its own lists away -/
theorem Lx.drop {F H : Hp} {q r : Addr} {ks : List Key} {ts : List Sl} {vs : List V} {xs : List D} {j : Nat} (ok : SlOk K F H (.nd q (.dk ks) ts) (some (.ref q))) (hn : (fp (.nd q (.dk ks) ts)).Nodup) (le : Le F H) (hcell : H q = some ((NK.dk ks).cell K vs)) (hts : SlOkA K F H ts vs) (e : ts[j]? = some (.ow r xs)) :
    Lx K [] (.nd q (.dk ks) ts) (.ref q) F H (.ow r xs) (.ref r) (.nd q (.dk (ks.eraseIdx j)) (ts.eraseIdx j)) F (upd H q (.dK ((ks.eraseIdx j).zip (vs.eraseIdx j)))) := by
  obtain ⟨_, hq, _, _, hlen, _⟩ := slok_nd.mp ok
  have hlen' : ks.length = ts.length ∧ ks.Nodup := hlen
  rw [fp_nd] at hn
  obtain ⟨n1, n2⟩ := List.nodup_cons.mp hn
  have n2' : (fpA ts).Nodup := by simpa [NK.dxs] using n2
  have n1' : q ∉ fpA ts := by simpa [NK.dxs] using n1
  obtain ⟨f1, f2, f3⟩ := fpA_erase n2' e
  obtain ⟨x, ex, hx⟩ := hts.get e
  obtain ⟨hxr, hr, us, hus, du⟩ := slok_ow.mp hx
  cases hxr
  have rin : r ∈ fpA ts := mem_fpA e (by rw [fp_ow]; exact List.mem_cons_self)
  have rq : r ≠ q := fun z => n1' (by rw [← z]; exact rin)
  have up : ∀ b u, b ≠ q → H b = some u → (upd H q (.dK ((ks.eraseIdx j).zip (vs.eraseIdx j)))) b = some u := fun b u hb h => by
    rw [upd_ne hb]
    exact h
  have fpe : fp (.nd q (.dk (ks.eraseIdx j)) (ts.eraseIdx j)) = q :: fpA (ts.eraseIdx j) := by
    rw [fp_nd]
    simp [NK.dxs]
  have fpo : fp (.nd q (.dk ks) ts) = q :: fpA ts := by
    rw [fp_nd]
    simp [NK.dxs]
  have hjl : j < ts.length := (List.getElem?_eq_some_iff.mp e).1
  refine ⟨Same.refl _, fun a o ha h _ => ?_, fun a h => ?_, slok_nd.mpr ⟨rfl, hq, fun b hb => (by cases hb), trivial, ⟨?_, ?_⟩, vs.eraseIdx j, upd_same, ?_⟩, ?_, fun a ha => ?_, le.write hq hcell trivial, fun a h => .inl h, slok_ow.mpr ⟨rfl, hr, us, up r _ rq hus, du⟩, fun a ha => ?_, by rw [fp_ow]; exact List.pairwise_singleton _ _⟩
  · refine up a o (fun z => ha ?_) h
    rw [fpo, z]
    exact List.mem_cons_self
  · by_cases z : a = q
    · subst z
      rw [upd_same] at h
      cases h
    · rw [upd_ne z] at h
      exact h
  · rw [List.length_eraseIdx, List.length_eraseIdx, hlen'.1]
  · exact hlen'.2.sublist (List.eraseIdx_sublist _ _)
  · exact SlOkA.mono _ (Same.refl _) (fun b hb u _ h1 h2 => ⟨h1, up b u (fun z => n1' (by rw [← z]; exact f2 b hb)) h2⟩) (slokA_erase j hts)
  · rw [fpe]
    exact List.nodup_cons.mpr ⟨fun z => n1' (f2 q z), f1⟩
  · rw [fpe] at ha
    rw [fpo]
    rcases List.mem_cons.mp ha with y | y
    · exact .inl (by rw [y]; exact List.mem_cons_self)
    · exact .inl (List.mem_cons_of_mem _ (f2 a y))
  · rw [fp_ow] at ha
    cases List.mem_singleton.mp ha
    refine ⟨.inl (by rw [fpo]; exact List.mem_cons_of_mem _ rin), fun z => ?_⟩
    rw [fpe] at z
    rcases List.mem_cons.mp z with y | y
    · exact rq y
    · exact f3 r (by rw [fp_ow]; exact List.mem_cons_self) y
end
end DL
namespace DL
variable [Tabl]
open PySem PySem.Spec L2 PyProof.Rows
structure DABP (X : Cx) (es : List Expr) (i : Nat) (path : Pth) (t : TA) (a : AAB) : Prop where
  pe : PA X es t
  sm : SimBP X.K i path t a
section
variable {X : Cx} {K : PySem.W.Frag} {p pos p2 : Pos} {x y : Str} {i : Nat} {path : Pth} {e eo : Expr} {es : List Expr} {ta : TE} {tr : TA} {aa : AE} {ar : AA} {ab : AAB}
end
end DL
namespace DL
variable [Tabl]
open PySem L2
def pickL {α : Type} (ix : List Nat) (ws : List α) : List α := ix.filterMap fun i => ws[i]?
section
variable {X : Cx} {k n : Nat} {f C : Addr} {fd : FuncData} {ps ks : List Str} {sp : Sp} {x m : Str} {p pos apos : Pos} {o : Expr} {kws : List Keyword} {tk : TA} {ta : TE} {ix : List Nat} {E : XK} {CX : CXT}
end
section
variable {X : Cx} {K : PySem.W.Frag} {k n : Nat} {f C : Addr} {fd : FuncData} {ps ks : List Str} {x : Str} {p pos : Pos} {kws : List Keyword} {tr : TA} {aar : AA} {ix : List Nat} {ST : ART}
end
end DL
namespace DL
variable [Tabl]
open PySem L2
section
variable {K : PySem.W.Frag} {X : Cx}
def min3 (i j k : Int) : Int := minI (minI i j) k
end
end DL
namespace L2
open PySem PySem.Spec PySem.W PyProof.Rows SeqAt
section
variable {X : Cx}
end
end L2
namespace L2
open PySem PySem.Spec PyProof.Rows
section
variable {X : Cx}
end
end L2
namespace DL
variable [Tabl]
open PySem L2
section
variable {K : PySem.W.Frag} {F H : Hp}
end
section
variable {X : Cx} {ea eb ec : Expr} {ta tb : TE} {aa ab : AE} {pos p : Pos} {tg : Expr}
end
end DL
namespace DL
variable [Tabl]
open PySem L2
section
variable {K : PySem.W.Frag} {te : TE} {a : AE}
end
end DL
namespace L2
open PySem PySem.Spec PyProof.Rows
structure EqC (K : PySem.W.Frag) (C f : Addr) : Prop where
  at_ : PySem.W.findIn K (.ref C) "__eq__" = some (some (.ref f))
  fn : PySem.W.isFn K (.ref f) = true
  raw : ∃ (nm q : Str) (N : Addr) (bs : List Value) (hdct : Bool) (sn : List Str) (sub : List Value) (ab : Bool) (col : Option Bool) (dd : Option Addr) (k0 k1 k2 k3 k5 : Option Value) (newId : String) (on : Obj) (es : Array DictEntry) (ep : Nat),
    K.lookup C = some (excClassObj nm q C N bs [.type "object"] hdct sn sub ab col dd k0 k1 k2 k3 k5 newId) ∧ K.lookup N = some on ∧ on.data = .dict es ep ∧
    (es.toList.all fun e => match e.key with | .str _ _ => true | _ => false) = true ∧ nsFind es "__eq__" = some (.ref f) ∧ nsFind es "__ne__" = none
section
variable {X : Cx} {CX : CXT} {k : Nat} {C f : Addr} {fd : FuncData} {ps : List Str} {sp : Sp} {E : XK}
end
end L2
namespace DL
variable [Tabl]
open PySem L2
/-- what isinstance asks of an own class -/
structure IsC (K : PySem.W.Frag) (C : Addr) : Prop where
  cl : Cls K C
  ha : PySem.W.findIn K (.ref C) "__class__" = some (some (.builtin "object.__class__"))
  hn : PySem.W.specialIn K (.builtin "object.__class__") "__get__" = some (some (.builtin "getset_descriptor.__get__"))
  htk : PySem.W.takesIn K (.builtin "object.__class__") = some true
  hm : PySem.W.mroIn K C (.type "object") = some true
  hk : ((PySem.W.clsIn K C).isSome && PySem.W.typeIn K (.ref C) == some (.type "type")) = true
section
variable {K : PySem.W.Frag} {te ta tb : TE} {aa ab : AE} {F H : Hp}
end
section
variable {X : Cx} {K : PySem.W.Frag} {ea eb : Expr} {ta tb : TE} {aa ab : AE} {p pos p2 : Pos}
end
end DL
namespace DL
variable [Tabl]
open PySem L2
inductive TK where
  | ju | pu | ow | ei
  | ins (c : Str) (ns : List Str) (ks : List TK)
  | dk (k : TK) | dt (k : TK) | ls (k : TK)
mutual
def Has : TK → Sl → Prop
  | .ju, _ => True
  | .pu, l => ∃ d, l = .pu d
  | .ow, l => ∃ p xs, l = .ow p xs
  | .ei, l => isNo l = false
  | .ins c ns ks, l => ∃ p dx ts, l = .nd p (.ins c dx ns) ts ∧ HasA ks ts
  | .dk k, l => ∃ p ke ts, l = .nd p (.dk ke) ts ∧ ∀ t ∈ ts, Has k t
  | .dt k, l => ∃ p ke ts, l = .nd p (.dt ke) ts ∧ ∀ t ∈ ts, Has k t
  | .ls k, l => ∃ p ts, l = .nd p .ls ts ∧ ∀ t ∈ ts, Has k t
def HasA : List TK → List Sl → Prop
  | [], ts => ts = []
  | k :: ks, ts => ∃ t r, ts = t :: r ∧ Has k t ∧ HasA ks r
end
theorem has_pu (d : D) : Has .pu (.pu d) := by unfold Has; exact ⟨d, rfl⟩
theorem has_ow (p : Addr) (xs : List D) : Has .ow (.ow p xs) := by unfold Has; exact ⟨p, xs, rfl⟩
theorem has_ju (l : Sl) : Has .ju l := by unfold Has; trivial
theorem of_pu {l : Sl} (h : Has .pu l) : l = .pu l.d := by
  unfold Has at h
  obtain ⟨d, rfl⟩ := h
  unfold Sl.d
  rfl
theorem of_ow {l : Sl} (h : Has .ow l) : ∃ p xs, l = .ow p xs := by
  unfold Has at h
  exact h
abbrev En := List D
def evS : TK → Sl → D
  | .ju, _ => .non
  | _, l => l.d
structure Mt (Ks : List TK) (s : Ss) (e : En) : Prop where
  l1 : s.length = Ks.length
  l2 : e.length = Ks.length
  at' : ∀ (i : Nat) (k : TK), Ks[i]? = some k → ∃ l : Sl, s[i]? = some l ∧ Has k l ∧ e[i]? = some (evS k l)
def Rk (s s' : Ss) : Prop := ∀ (j : Nat) (p : Addr), (s'[j]?).bind root = some p → (s[j]?).bind root = some p
structure Un (T : List Nat) (s s' : Ss) : Prop where
  t : ∀ j : Nat, j ∉ T → s'[j]? = s[j]?
  r : Rk s s'
theorem Rk.refl (s : Ss) : Rk s s := fun _ _ h => h
theorem Rk.trans {s s1 s2 : Ss} (a : Rk s s1) (b : Rk s1 s2) : Rk s s2 := fun j p h => a j p (b j p h)
theorem Un.refl (s : Ss) : Un [] s s := ⟨fun _ _ => rfl, .refl s⟩
theorem Un.trans {s s1 s2 : Ss} {T U : List Nat} (a : Un T s s1) (b : Un U s1 s2) : Un (T ++ U) s s2 :=
  ⟨fun j h => (b.t j fun z => h (List.mem_append_right _ z)).trans (a.t j fun z => h (List.mem_append_left _ z)), a.r.trans b.r⟩
theorem Mt.ix {Ks : List TK} {s : Ss} {e : En} (m : Mt Ks s e) {i : Nat} {k : TK} (h : Ks[i]? = some k) : ∃ l, s[i]? = some l ∧ Has k l ∧ e[i]? = some (evS k l) := m.at' i k h
theorem ev_d {k : TK} {l : Sl} (h : k ≠ .ju) : evS k l = l.d := by
  cases k <;> first | exact absurd rfl h | rfl
theorem get_set {α : Type} {l : List α} {i j : Nat} {x : α} (h : i < l.length) : (l.set i x)[j]? = if i = j then some x else l[j]? := by
  rw [List.getElem?_set]
  split
  · rfl
  · rfl
theorem Mt.set {Ks : List TK} {s : Ss} {e : En} (m : Mt Ks s e) {i : Nat} {k : TK} {l : Sl} (h : Has k l) : Mt (Ks.set i k) (s.set i l) (e.set i (evS k l)) where
  l1 := by rw [List.length_set, List.length_set, m.l1]
  l2 := by rw [List.length_set, List.length_set, m.l2]
  at' := fun j k2 q => by
    rw [List.getElem?_set] at q
    by_cases hij : i = j
    · subst hij
      rw [if_pos rfl] at q
      split at q
      · rename_i hl
        cases q
        exact ⟨l, by rw [get_set (by rw [m.l1]; exact hl), if_pos rfl], h, by rw [get_set (by rw [m.l2]; exact hl), if_pos rfl]⟩
      · cases q
    · rw [if_neg hij] at q
      obtain ⟨l2, g1, g2, g3⟩ := m.ix q
      exact ⟨l2, by rw [List.getElem?_set, if_neg hij]; exact g1, g2, by rw [List.getElem?_set, if_neg hij]; exact g3⟩
/-- the slot changes, what it says does not -/
theorem Mt.same {Ks : List TK} {s : Ss} {e : En} (m : Mt Ks s e) {i : Nat} {k : TK} {l : Sl} (h : Has k l) (hk : k ≠ .ju) (he : e[i]? = some l.d) : Mt (Ks.set i k) (s.set i l) e := by
  have := m.set (i := i) h
  rw [ev_d hk, set_self he] at this
  exact this
theorem rk_set {s : Ss} {i : Nat} {l l0 : Sl} (e : s[i]? = some l0) (h : ∀ p, root l = some p → root l0 = some p) : Rk s (s.set i l) := fun j p q => by
  by_cases hij : i = j
  · subst hij
    have hl := (List.getElem?_eq_some_iff.mp e).1
    rw [get_set hl, if_pos rfl] at q
    rw [e]
    exact h p q
  · rwa [List.getElem?_set, if_neg hij] at q
theorem un_set {s : Ss} {i : Nat} {l l0 : Sl} (e : s[i]? = some l0) (h : ∀ p, root l = some p → root l0 = some p) : Un [i] s (s.set i l) :=
  ⟨fun j hj => by rw [List.getElem?_set, if_neg fun z => hj (by rw [z]; exact List.mem_cons_self)], rk_set e h⟩
abbrev FE := En → Option (D × En)
abbrev FT := En → Option (Bool × En)
abbrev FA := En → Option (List D × En)
abbrev FO := En → Option (Option Int × En)
abbrev FG := D → En → Option En
abbrev FGs := List D → En → Option En
def SE (K : List TK) (a : AE) (f : FE) (k : TK) (K' : List TK) (T : List Nat) : Prop := ∀ s e r e', Mt K s e → f e = some (r, e') → ∀ P, (∀ l s', Has k l → l.d = r → Mt K' s' e' → Un T s s' → P l s') → a s P
def ST (K : List TK) (a : AT) (f : FT) (K' : List TK) (T : List Nat) : Prop := ∀ s e r e', Mt K s e → f e = some (r, e') → ∀ P, (∀ s', Mt K' s' e' → Un T s s' → P r s') → a s P
def SA (K : List TK) (a : AA) (f : FA) (K' : List TK) (T : List Nat) : Prop := ∀ s e r e', Mt K s e → f e = some (r, e') → ∀ P, (∀ s', Mt K' s' e' → Un T s s' → P r s') → a s P
def SO (K : List TK) (a : AO) (f : FO) (K' : List TK) (T : List Nat) : Prop := ∀ s e r e', Mt K s e → f e = some (r, e') → ∀ P, (∀ s', Mt K' s' e' → Un T s s' → P r s') → a s P
/-- values -/
def V2 (r : AR2) (g : D → D → Option D) (k : TK) : Prop := ∀ d e x, g d e = some x → ∀ P, (∀ l, Has k l → l.d = x → P l) → r d e P
def VC (r : ARC) (g : List D → Option D) (k : TK) : Prop := ∀ ds x, g ds = some x → ∀ P, (∀ l, Has k l → l.d = x → P l) → r ds P
theorem ex_bind {α β : Type} {o : Option α} {f : α → Option β} {b : β} (h : o.bind f = some b) : ∃ a, o = some a ∧ f a = some b := Option.bind_eq_some_iff.mp h
theorem ex_map {α β : Type} {o : Option α} {f : α → β} {b : β} (h : o.map f = some b) : ∃ a, o = some a ∧ f a = b := Option.map_eq_some_iff.mp h
def fVar (i : Nat) : FE := fun e => (e[i]?).map fun d => (d, e)
def fC (d : D) : FE := fun e => some (d, e)
theorem se_c {K : List TK} {d : D} : SE K (aC d) (fC d) .pu K [] := fun s e r e' m h P hP => by
  cases h
  exact hP (.pu d) s (has_pu d) (by unfold Sl.d; rfl) m (.refl s)
theorem se_var {K : List TK} {i : Nat} (h : K[i]? = some .pu) : SE K (aVar i) (fVar i) .pu K [] := fun s e r e' m hf P hP => by
  obtain ⟨l, g1, g2, g3⟩ := m.ix h
  obtain ⟨d, h1, h2⟩ := ex_map hf
  cases h2
  rw [g3] at h1
  cases h1
  unfold aVar
  rw [g1]
  rw [of_pu g2]
  exact hP _ s (has_pu _) (by unfold Sl.d; rw [ev_d (by simp)]) m (.refl s)
/-- a tree of the def's own becomes a value -/
theorem se_frz {K : List TK} {i : Nat} {k : TK} (h : K[i]? = some k) (hk : k ≠ .ju := by simp) : SE K (aVar i) (fVar i) .pu (K.set i .pu) [i] := fun s e r e' m hf P hP => by
  obtain ⟨l, g1, g2, g3⟩ := m.ix h
  obtain ⟨d, h1, h2⟩ := ex_map hf
  cases h2
  rw [g3] at h1
  cases h1
  rw [ev_d hk] at g3 hP
  have fin : P (.pu l.d) (s.set i (.pu l.d)) := hP _ _ (has_pu _) (by rw [Sl.d]) (m.same (has_pu _) (by simp) (by rw [Sl.d]; exact g3)) (un_set g1 fun p q => by cases q)
  unfold aVar
  rw [g1]
  cases l with
  | no =>
    exfalso
    cases k <;> simp [Has, isNo] at g2 hk
  | pu d =>
    have : s.set i (.pu (Sl.pu d).d) = s := set_self (by rw [g1, Sl.d])
    rw [this, Sl.d] at fin
    exact fin
  | ow p xs =>
    rw [Sl.d] at fin
    exact fin
  | nd p kk ts =>
    rw [Sl.d] at fin
    exact fin
def fMov (i : Nat) : FE := fun e => (e[i]?).map fun d => (d, e.set i .non)
section
variable {K K1 K2 K3 : List TK} {a b c : AE} {fa fb fc : FE} {ka kb kc k : TK} {T T1 T2 T3 : List Nat}
def fOp (g : D → D → Option D) (a b : FE) : FE := fun e => (a e).bind fun x => (b x.2).bind fun y => (g x.1 y.1).map fun r => (r, y.2)
theorem se_op {r : AR2} {g : D → D → Option D} (hr : V2 r g k) (ha : SE K a fa ka K1 T1) (hb : SE K1 b fb kb K2 T2) : SE K (aOp r a b) (fOp g fa fb) k K2 (T1 ++ T2) := fun s e x e' m h P hP => by
  obtain ⟨⟨d1, e1⟩, h1, h⟩ := ex_bind h
  obtain ⟨⟨d2, e2⟩, h2, h⟩ := ex_bind h
  obtain ⟨d3, h3, h4⟩ := ex_map h
  cases h4
  refine ha s e d1 e1 m h1 _ fun l1 s1 k1 q1 m1 u1 => ?_
  refine hb s1 e1 d2 e2 m1 h2 _ fun l2 s2 k2 q2 m2 u2 => ?_
  subst q1 q2
  exact hr _ _ _ h3 _ fun l hk hd => hP l s2 hk hd m2 (u1.trans u2)
def gI (f : Int → Int → Int) : D → D → Option D
  | .int i, .int j => some (.int (f i j))
  | _, _ => none
def gB (f : Int → Int → Bool) : D → D → Option D
  | .int i, .int j => some (.bl (f i j))
  | _, _ => none
def gIC (C : Int → Int → Prop) [∀ i j, Decidable (C i j)] (f : Int → Int → Int) : D → D → Option D
  | .int i, .int j => if C i j then some (.int (f i j)) else none
  | _, _ => none
theorem puP {x : D} {P : Sl → Prop} (hP : ∀ l, Has .pu l → l.d = x → P l) : P (.pu x) := hP _ (has_pu x) (by rw [Sl.d])
theorem owP {xs : List D} {P : Sl → Prop} (hP : ∀ l, Has .ow l → l.d = .lst xs → P l) (p : Addr) : P (.ow p xs) := hP _ (has_ow p xs) (by rw [Sl.d])
theorem v_i {f : Int → Int → Int} : V2 (aI f) (gI f) .pu := fun d e x h P hP => by
  cases d <;> cases e <;> first | (cases h; done) | skip
  cases h
  exact puP hP
theorem v_b {f : Int → Int → Bool} : V2 (aB f) (gB f) .pu := fun d e x h P hP => by
  cases d <;> cases e <;> first | (cases h; done) | skip
  cases h
  exact puP hP
theorem v_ic {C : Int → Int → Prop} [∀ i j, Decidable (C i j)] {f : Int → Int → Int} : V2 (aIC C f) (gIC C f) .pu := fun d e x h P hP => by
  cases d <;> cases e <;> first | (cases h; done) | skip
  rename_i i j
  have h : (if C i j then some (D.int (f i j)) else none) = some x := h
  split at h
  · rename_i hc
    cases h
    exact ⟨hc, puP hP⟩
  · cases h
def gEq (neg : Bool) : D → D → Option D := fun d e => (eqS d e).map fun b => .bl (if neg then !b else b)
theorem v_eq : V2 aEq (gEq false) .pu := fun d e x h P hP => by
  obtain ⟨b, h1, h2⟩ := ex_map h
  subst h2
  unfold aEq
  rw [h1]
  exact puP hP
theorem v_ne : V2 aNe (gEq true) .pu := fun d e x h P hP => by
  obtain ⟨b, h1, h2⟩ := ex_map h
  subst h2
  unfold aNe
  rw [h1]
  exact puP hP
def gIsN (neg : Bool) : D → D → Option D := fun d e => match e with
  | .non => (isN d).map fun b => .bl (if neg then !b else b)
  | _ => none
theorem v_isN : V2 aIsN (gIsN false) .pu := fun d e x h P hP => by
  unfold gIsN at h
  cases e <;> first | (cases h; done) | skip
  obtain ⟨b, h1, h2⟩ := ex_map h
  subst h2
  unfold aIsN
  rw [h1]
  exact puP hP
def gIn (neg : Bool) : D → D → Option D := fun d e => (seqD e).bind fun ds => if flatD d = true ∧ ds.all flatD = true then some (.bl (if neg then !inF d ds else inF d ds)) else none
theorem v_in {neg : Bool} : V2 (aIn neg) (gIn neg) .pu := fun d e x h P hP => by
  obtain ⟨ds, h1, h⟩ := ex_bind h
  split at h
  · rename_i hc
    cases h
    unfold aIn
    rw [h1]
    exact ⟨hc.1, hc.2, puP hP⟩
  · cases h
def gIx : D → D → Option D := fun d e => (seqD d).bind fun ds => match e with
  | .int i => atI ds i
  | _ => none
theorem v_ix : V2 aIx gIx .pu := fun d e x h P hP => by
  obtain ⟨ds, h1, h2⟩ := ex_bind h
  clear h
  cases e <;> first | (cases h2; done) | skip
  rename_i i
  have h : atI ds i = some x := h2
  unfold aIx
  rw [h1]
  simp only [h]
  exact puP hP
def gCatL : D → D → Option D
  | .lst xs, .lst ys => if xs.length + ys.length ≤ 200000 then some (.lst (xs ++ ys)) else none
  | _, _ => none
def gCatT : D → D → Option D
  | .tup xs, .tup ys => if xs.length + ys.length ≤ 200000 then some (.tup (xs ++ ys)) else none
  | _, _ => none
theorem v_catL : V2 aCatL gCatL .ow := fun d e x h P hP => by
  cases d <;> cases e <;> first | (cases h; done) | skip
  rename_i xs ys
  have h : (if xs.length + ys.length ≤ 200000 then some (D.lst (xs ++ ys)) else none) = some x := h
  split at h
  · rename_i hc
    cases h
    exact ⟨hc, fun p => owP hP p⟩
  · cases h
theorem v_catT : V2 aCatT gCatT .pu := fun d e x h P hP => by
  cases d <;> cases e <;> first | (cases h; done) | skip
  rename_i xs ys
  have h : (if xs.length + ys.length ≤ 200000 then some (D.tup (xs ++ ys)) else none) = some x := h
  split at h
  · rename_i hc
    cases h
    exact ⟨hc, puP hP⟩
  · cases h
def gMulT : D → D → Option D
  | .tup ds, .int k => if ds ≠ [] ∧ ds.length ≤ 900 ∧ 0 ≤ k ∧ k ≤ 1100 then some (.tup (List.replicate k.toNat ds).flatten) else none
  | _, _ => none
instance {α : Type} (ds : List α) : Decidable (ds ≠ []) := match ds with
  | [] => .isFalse fun h => h rfl
  | _ :: _ => .isTrue fun h => by cases h
def gIsB (neg : Bool) : D → D → Option D
  | .bl a, .bl b => some (.bl (if neg then !decide (a = b) else decide (a = b)))
  | _, _ => none
mutual
def eoB : D → Bool
  | .non => true
  | .bl _ => true
  | .int _ => true
  | .str _ => true
  | .tup xs => eoBA xs
  | .lst xs => eoBA xs
  | .scr xs => eoBA xs
  | _ => false
def eoBA : List D → Bool
  | [] => true
  | d :: ds => eoB d && eoBA ds
end
mutual
theorem eoB_ok : ∀ d : D, eoB d = true → eoD d
  | .non, _ => by unfold eoD; trivial
  | .bl _, _ => by unfold eoD; trivial
  | .int _, _ => by unfold eoD; trivial
  | .str _, _ => by unfold eoD; trivial
  | .tup xs, h => by unfold eoD; exact eoBA_ok xs (by rwa [eoB] at h)
  | .lst xs, h => by unfold eoD; exact eoBA_ok xs (by rwa [eoB] at h)
  | .scr xs, h => by unfold eoD; exact eoBA_ok xs (by rwa [eoB] at h)
  | .ob _, h => by simp [eoB] at h
  | .ins _ _ _, h => by simp [eoB] at h
  | .dk _ _, h => by simp [eoB] at h
  | .dt _ _, h => by simp [eoB] at h
theorem eoBA_ok : ∀ ds : List D, eoBA ds = true → eoA ds
  | [], _ => by unfold eoA; trivial
  | d :: ds, h => by
    rw [eoBA, Bool.and_eq_true] at h
    unfold eoA
    exact ⟨eoB_ok d h.1, eoBA_ok ds h.2⟩
end
def fNeg (a : FE) : FE := fun e => (a e).bind fun x => match x.1 with
  | .int i => some (.int (-i), x.2)
  | _ => none
def fNotV (a : FE) : FE := fun e => (a e).bind fun x => match x.1 with
  | .bl b => some (.bl (!b), x.2)
  | _ => none
theorem se_notV (ha : SE K a fa ka K1 T1) : SE K (aNotV a) (fNotV fa) .pu K1 T1 := fun s e x e' m h P hP => by
  obtain ⟨⟨d1, e1⟩, h1, h⟩ := ex_bind h
  cases d1 <;> first | (cases h; done) | skip
  cases h
  refine ha s e _ e1 m h1 _ fun l1 s1 k1 q1 m1 u1 => ?_
  rw [q1]
  exact hP _ _ (has_pu _) (by rw [Sl.d]) m1 u1
def fAndV (a b : FE) : FE := fun e => (a e).bind fun x => match x.1 with
  | .bl c => if c = true then b x.2 else some (.bl false, x.2)
  | _ => none
def fOrV (a b : FE) : FE := fun e => (a e).bind fun x => match x.1 with
  | .bl c => if c = true then some (.bl true, x.2) else b x.2
  | _ => none
theorem se_andV (ha : SE K a fa ka K1 T1) (hb : SE K1 b fb .pu K1 T2) : SE K (aAndV a b) (fAndV fa fb) .pu K1 (T1 ++ T2) := fun s e x e' m h P hP => by
  obtain ⟨⟨d1, e1⟩, h1, h⟩ := ex_bind h
  cases d1 <;> first | (cases h; done) | skip
  rename_i c
  refine ha s e _ e1 m h1 _ fun l1 s1 k1 q1 m1 u1 => ?_
  rw [q1]
  have h : (if c = true then fb e1 else some (.bl false, e1)) = some (x, e') := h
  show if c = true then b s1 P else P (.pu (.bl false)) s1
  split
  · rename_i hc
    rw [if_pos hc] at h
    exact hb s1 e1 _ _ m1 h _ fun l2 s2 k2 q2 m2 u2 => hP l2 s2 k2 q2 m2 (u1.trans u2)
  · rename_i hc
    rw [if_neg hc] at h
    cases h
    exact hP _ _ (has_pu _) (by rw [Sl.d]) m1 ⟨fun j hj => u1.t j fun z => hj (List.mem_append_left _ z), u1.r⟩
/-- a op b op c -/
def fChain (g g' : D → D → Option D) (a b c : FE) : FE := fun e => (a e).bind fun x => (b x.2).bind fun y => (g x.1 y.1).bind fun z => match z with
  | .bl t => if t = true then (c y.2).bind fun w => (g' y.1 w.1).map fun r => (r, w.2) else some (.bl false, y.2)
  | _ => none
theorem se_chain {r r' : AR2} {g g' : D → D → Option D} (hr : V2 r g .pu) (hr' : V2 r' g' .pu) (ha : SE K a fa ka K1 T1) (hb : SE K1 b fb kb K2 T2) (hc : SE K2 c fc kc K2 T3) : SE K (aChain r r' a b c) (fChain g g' fa fb fc) .pu K2 (T1 ++ T2 ++ T3) := fun s e x e' m h P hP => by
  obtain ⟨⟨d1, e1⟩, h1, h'⟩ := ex_bind h
  clear h
  obtain ⟨⟨d2, e2⟩, h2, h⟩ := ex_bind h'
  clear h'
  obtain ⟨z, h3, h'⟩ := ex_bind h
  clear h
  cases z <;> first | (cases h'; done) | skip
  rename_i t
  refine ha s e d1 e1 m h1 _ fun l1 s1 k1 q1 m1 u1 => ?_
  refine hb s1 e1 d2 e2 m1 h2 _ fun l2 s2 k2 q2 m2 u2 => ?_
  subst q1 q2
  refine hr _ _ _ h3 _ fun l hk hd => ?_
  rw [of_pu hk, hd]
  have h : (if t = true then (fc e2).bind fun w => (g' l2.d w.1).map fun r => (r, w.2) else some (.bl false, e2)) = some (x, e') := h'
  show if t = true then c s2 _ else P (.pu (.bl false)) s2
  split
  · rename_i ht
    rw [if_pos ht] at h
    obtain ⟨⟨d3, e3⟩, h4, h⟩ := ex_bind h
    obtain ⟨d4, h5, h6⟩ := ex_map h
    cases h6
    refine hc s2 e2 d3 e3 m2 h4 _ fun l3 s3 k3 q3 m3 u3 => ?_
    subst q3
    exact hr' _ _ _ h5 _ fun l hk hd => hP l s3 hk hd m3 ((u1.trans u2).trans u3)
  · rename_i ht
    rw [if_neg ht] at h
    cases h
    exact hP _ _ (has_pu _) (by rw [Sl.d]) m2 ⟨fun j hj => (u1.trans u2).t j fun z => hj (List.mem_append_left _ z), (u1.trans u2).r⟩
variable {t u : AT} {ft fu : FT}
def fTest (a : FE) : FT := fun e => (a e).bind fun x => match x.1 with
  | .bl b => some (b, x.2)
  | _ => none
theorem st_test (ha : SE K a fa ka K1 T1) : ST K (aTest a) (fTest fa) K1 T1 := fun s e x e' m h P hP => by
  obtain ⟨⟨d1, e1⟩, h1, h⟩ := ex_bind h
  cases d1 <;> first | (cases h; done) | skip
  cases h
  refine ha s e _ e1 m h1 _ fun l1 s1 k1 q1 m1 u1 => ?_
  rw [q1]
  exact hP s1 m1 u1
def fAnd (a b : FT) : FT := fun e => (a e).bind fun x => if x.1 = true then b x.2 else some (false, x.2)
def fOr (a b : FT) : FT := fun e => (a e).bind fun x => if x.1 = true then some (true, x.2) else b x.2
def fNot (a : FT) : FT := fun e => (a e).map fun x => (!x.1, x.2)
def fYes : FT := fun e => some (true, e)
theorem st_yes : ST K aYes fYes K [] := fun s e x e' m h P hP => by
  cases h
  exact hP s m (.refl s)
theorem st_and (ha : ST K t ft K1 T1) (hb : ST K1 u fu K1 T2) : ST K (aAnd t u) (fAnd ft fu) K1 (T1 ++ T2) := fun s e x e' m h P hP => by
  obtain ⟨⟨c, e1⟩, h1, h⟩ := ex_bind h
  refine ha s e _ e1 m h1 _ fun s1 m1 u1 => ?_
  have h : (if c = true then fu e1 else some (false, e1)) = some (x, e') := h
  show if c = true then u s1 P else P false s1
  split
  · rename_i hc
    rw [if_pos hc] at h
    exact hb s1 e1 _ _ m1 h _ fun s2 m2 u2 => hP s2 m2 (u1.trans u2)
  · rename_i hc
    rw [if_neg hc] at h
    cases h
    exact hP _ m1 ⟨fun j hj => u1.t j fun z => hj (List.mem_append_left _ z), u1.r⟩
theorem st_or (ha : ST K t ft K1 T1) (hb : ST K1 u fu K1 T2) : ST K (aOr t u) (fOr ft fu) K1 (T1 ++ T2) := fun s e x e' m h P hP => by
  obtain ⟨⟨c, e1⟩, h1, h⟩ := ex_bind h
  refine ha s e _ e1 m h1 _ fun s1 m1 u1 => ?_
  have h : (if c = true then some (true, e1) else fu e1) = some (x, e') := h
  show if c = true then P true s1 else u s1 P
  split
  · rename_i hc
    rw [if_pos hc] at h
    cases h
    exact hP _ m1 ⟨fun j hj => u1.t j fun z => hj (List.mem_append_left _ z), u1.r⟩
  · rename_i hc
    rw [if_neg hc] at h
    exact hb s1 e1 _ _ m1 h _ fun s2 m2 u2 => hP s2 m2 (u1.trans u2)
theorem st_not (ha : ST K t ft K1 T1) : ST K (aNot t) (fNot ft) K1 T1 := fun s e x e' m h P hP => by
  obtain ⟨⟨c, e1⟩, h1, h⟩ := ex_map h
  cases h
  exact ha s e _ e1 m h1 _ fun s1 m1 u1 => hP s1 m1 u1
def fIf (c : FT) (a b : FE) : FE := fun e => (c e).bind fun x => if x.1 = true then a x.2 else b x.2
end
end DL
namespace DL
variable [Tabl]
open PySem L2
mutual
def leK : TK → TK → Bool
  | k, .ei => match k with
    | .ju => false
    | _ => true
  | .ju, .ju => true
  | .pu, .pu => true
  | .ow, .ow => true
  | .ins c ns ks, .ins c' ns' ks' => decide (c = c') && decide (ns = ns') && leKs ks ks'
  | .dk k, .dk k' => leK k k'
  | .dt k, .dt k' => leK k k'
  | .ls k, .ls k' => leK k k'
  | _, _ => false
def leKs : List TK → List TK → Bool
  | [], [] => true
  | k :: ks, k' :: ks' => leK k k' && leKs ks ks'
  | _, _ => false
end
theorem isNo_of {k : TK} {l : Sl} (hk : k ≠ .ju) (h : Has k l) : isNo l = false := by
  cases k <;> unfold Has at h
  · exact absurd rfl hk
  · obtain ⟨d, rfl⟩ := h
    rfl
  · obtain ⟨p, xs, rfl⟩ := h
    rfl
  · exact h
  · obtain ⟨p, dx, ts, rfl, _⟩ := h
    rfl
  · obtain ⟨p, dx, ts, rfl, _⟩ := h
    rfl
  · obtain ⟨p, dx, ts, rfl, _⟩ := h
    rfl
  · obtain ⟨p, ts, rfl, _⟩ := h
    rfl
mutual
theorem le_has : ∀ (k k' : TK) (l : Sl), leK k k' = true → Has k l → Has k' l
  | .ju, k', l, h, q => by
    cases k' <;> first | (simp [leK] at h; done) | exact q
  | .pu, k', l, h, q => by
    cases k' <;> first | (simp [leK] at h; done) | exact q | (unfold Has; exact isNo_of (by simp) q)
  | .ow, k', l, h, q => by
    cases k' <;> first | (simp [leK] at h; done) | exact q | (unfold Has; exact isNo_of (by simp) q)
  | .ei, k', l, h, q => by
    cases k' <;> first | (simp [leK] at h; done) | exact q
  | .ins c ns ks, k', l, h, q => by
    cases k' <;> first | (simp [leK] at h; done) | (unfold Has; exact isNo_of (by simp) q) | skip
    rename_i c' ns' ks'
    simp only [leK, Bool.and_eq_true, decide_eq_true_eq] at h
    obtain ⟨⟨rfl, rfl⟩, h3⟩ := h
    unfold Has at q ⊢
    obtain ⟨p, dx, ts, rfl, h4⟩ := q
    exact ⟨p, dx, ts, rfl, le_hasA ks ks' ts h3 h4⟩
  | .dk k, k', l, h, q => by
    cases k' <;> first | (simp [leK] at h; done) | (unfold Has; exact isNo_of (by simp) q) | skip
    rename_i k2
    simp only [leK] at h
    unfold Has at q ⊢
    obtain ⟨p, ke, ts, rfl, h4⟩ := q
    exact ⟨p, ke, ts, rfl, fun t ht => le_has k k2 t h (h4 t ht)⟩
  | .dt k, k', l, h, q => by
    cases k' <;> first | (simp [leK] at h; done) | (unfold Has; exact isNo_of (by simp) q) | skip
    rename_i k2
    simp only [leK] at h
    unfold Has at q ⊢
    obtain ⟨p, ke, ts, rfl, h4⟩ := q
    exact ⟨p, ke, ts, rfl, fun t ht => le_has k k2 t h (h4 t ht)⟩
  | .ls k, k', l, h, q => by
    cases k' <;> first | (simp [leK] at h; done) | (unfold Has; exact isNo_of (by simp) q) | skip
    rename_i k2
    simp only [leK] at h
    unfold Has at q ⊢
    obtain ⟨p, ts, rfl, h4⟩ := q
    exact ⟨p, ts, rfl, fun t ht => le_has k k2 t h (h4 t ht)⟩
theorem le_hasA : ∀ (ks ks' : List TK) (ts : List Sl), leKs ks ks' = true → HasA ks ts → HasA ks' ts
  | [], [], ts, h, q => q
  | [], k' :: ks', ts, h, q => by simp [leKs] at h
  | k :: ks, [], ts, h, q => by simp [leKs] at h
  | k :: ks, k' :: ks', ts, h, q => by
    simp only [leKs, Bool.and_eq_true] at h
    unfold HasA at q ⊢
    obtain ⟨t, r, rfl, h1, h2⟩ := q
    exact ⟨t, r, rfl, le_has k k' t h.1 h1, le_hasA ks ks' r h.2 h2⟩
end
theorem le_ev {k k' : TK} {l : Sl} (h : leK k k' = true) : evS k l = evS k' l := by
  cases k <;> cases k' <;> simp [leK] at h <;> rfl
theorem leKs_len : ∀ {ks ks' : List TK}, leKs ks ks' = true → ks.length = ks'.length
  | [], [], _ => rfl
  | [], k' :: ks', h => by simp [leKs] at h
  | k :: ks, [], h => by simp [leKs] at h
  | k :: ks, k' :: ks', h => by
    simp only [leKs, Bool.and_eq_true] at h
    rw [List.length_cons, List.length_cons, leKs_len h.2]
theorem leKs_get : ∀ {ks ks' : List TK} {i : Nat} {k' : TK}, leKs ks ks' = true → ks'[i]? = some k' → ∃ k, ks[i]? = some k ∧ leK k k' = true
  | [], [], i, k', _, e => by simp at e
  | [], k' :: ks', i, _, h, _ => by simp [leKs] at h
  | k :: ks, [], i, _, h, _ => by simp [leKs] at h
  | k :: ks, k' :: ks', 0, k2, h, e => by
    simp only [leKs, Bool.and_eq_true] at h
    cases e
    exact ⟨k, rfl, h.1⟩
  | k :: ks, k' :: ks', i + 1, k2, h, e => by
    simp only [leKs, Bool.and_eq_true] at h
    exact leKs_get (i := i) h.2 (by simpa using e)
theorem Mt.wk {Ks Ks' : List TK} {s : Ss} {e : En} (m : Mt Ks s e) (h : leKs Ks Ks' = true) : Mt Ks' s e where
  l1 := by rw [m.l1, leKs_len h]
  l2 := by rw [m.l2, leKs_len h]
  at' := fun i k' q => by
    obtain ⟨k, g1, g2⟩ := leKs_get h q
    obtain ⟨l, h1, h2, h3⟩ := m.ix g1
    exact ⟨l, h1, le_has _ _ _ g2 h2, by rw [h3, le_ev g2]⟩
def fScr : List Nat → En → En
  | [], e => e
  | v :: vs, e => (fScr vs e).set v .non
def scrK : List Nat → List TK → List TK
  | [], e => e
  | v :: vs, e => (scrK vs e).set v .ju
theorem Mt.wipe {Ks : List TK} {s : Ss} {e : En} (m : Mt Ks s e) : ∀ vs : List Nat, Mt (scrK vs Ks) (wipeS s vs) (fScr vs e)
  | [] => m
  | v :: vs => (m.wipe vs).set (l := .no) (has_ju _)
theorem Mt.scr1 {Ks : List TK} {s : Ss} {e : En} (m : Mt Ks s e) (i : Nat) : Mt (Ks.set i .ju) s (e.set i .non) where
  l1 := by rw [List.length_set, m.l1]
  l2 := by rw [List.length_set, List.length_set, m.l2]
  at' := fun j k q => by
    rw [List.getElem?_set] at q
    by_cases hij : i = j
    · subst hij
      rw [if_pos rfl] at q
      split at q
      · rename_i hl
        cases q
        exact ⟨s[i]'(by rw [m.l1]; exact hl), List.getElem?_eq_getElem _, has_ju _, by rw [get_set (by rw [m.l2]; exact hl), if_pos rfl]; rfl⟩
      · cases q
    · rw [if_neg hij] at q
      obtain ⟨l2, g1, g2, g3⟩ := m.ix q
      exact ⟨l2, g1, g2, by rw [List.getElem?_set, if_neg hij]; exact g3⟩
theorem Mt.scr {Ks : List TK} {s : Ss} {e : En} (m : Mt Ks s e) : ∀ vs : List Nat, Mt (scrK vs Ks) s (fScr vs e)
  | [] => m
  | v :: vs => (m.scr vs).scr1 v
theorem un_wipe (s : Ss) : ∀ vs : List Nat, Un vs s (wipeS s vs)
  | [] => .refl s
  | v :: vs => by
    have h := un_wipe s vs
    refine ⟨fun j hj => ?_, fun j p q => ?_⟩
    · show ((wipeS s vs).set v .no)[j]? = _
      rw [List.getElem?_set, if_neg fun z => hj (by rw [z]; exact List.mem_cons_self)]
      exact h.t j fun z => hj (List.mem_cons_of_mem _ z)
    · have q : (((wipeS s vs).set v .no)[j]?).bind root = some p := q
      by_cases hv : v = j
      · subst hv
        rw [List.getElem?_set, if_pos rfl] at q
        split at q <;> cases q
      · rw [List.getElem?_set, if_neg hv] at q
        exact h.r j p q
theorem Un.mono {T U : List Nat} {s s' : Ss} (h : Un T s s') (hs : ∀ j, j ∈ T → j ∈ U) : Un U s s' := ⟨fun j hj => h.t j fun z => hj (hs j z), h.r⟩
section
variable {K K1 K2 K3 Kl Kt Ke Kg : List TK} {a b c : AE} {fa fb fc : FE} {ka kb kc k : TK} {T T1 T2 T3 : List Nat} {t u : AT} {ft fu : FT} {aa ar : AA} {faa far : FA} {ao al au : AO} {fo fl fu' : FO}
theorem se_neg (ha : SE K a fa ka K1 T1) : SE K (aNeg a) (fNeg fa) .pu K1 T1 := fun s e x e' m h P hP => by
  obtain ⟨⟨d1, e1⟩, h1, h⟩ := ex_bind h
  cases d1 <;> first | (cases h; done) | skip
  cases h
  refine ha s e _ e1 m h1 _ fun l1 s1 k1 q1 m1 u1 => ?_
  rw [q1]
  exact hP _ _ (has_pu _) (by rw [Sl.d]) m1 u1
theorem se_if (ht : ST K t ft K1 T) (ha : SE K1 a fa k K2 T1) (hb : SE K1 b fb k K2 T2) : SE K (aIf t a b) (fIf ft fa fb) k K2 (T ++ (T1 ++ T2)) := fun s e x e' m h P hP => by
  obtain ⟨⟨c, e1⟩, h1, h'⟩ := ex_bind h
  clear h
  refine ht s e _ e1 m h1 _ fun s1 m1 u1 => ?_
  have h : (if c = true then fa e1 else fb e1) = some (x, e') := h'
  show if c = true then a s1 P else b s1 P
  split
  · rename_i hc
    rw [if_pos hc] at h
    exact ha s1 e1 _ _ m1 h _ fun l2 s2 k2 q2 m2 u2 => hP l2 s2 k2 q2 m2 (u1.trans (u2.mono fun j hj => List.mem_append_left _ hj))
  · rename_i hc
    rw [if_neg hc] at h
    exact hb s1 e1 _ _ m1 h _ fun l2 s2 k2 q2 m2 u2 => hP l2 s2 k2 q2 m2 (u1.trans (u2.mono fun j hj => List.mem_append_right _ hj))
def fIsi (T : TyN) (a : FE) : FE := fun e => (a e).bind fun x => (isi T x.1).map fun b => (.bl b, x.2)
theorem se_isi {N : TyN} (ha : SE K a fa ka K1 T1) : SE K (aIsi N a) (fIsi N fa) .pu K1 T1 := fun s e x e' m h P hP => by
  obtain ⟨⟨d1, e1⟩, h1, h⟩ := ex_bind h
  obtain ⟨b, h2, h3⟩ := ex_map h
  cases h3
  refine ha s e _ e1 m h1 _ fun l1 s1 k1 q1 m1 u1 => ?_
  rw [q1]
  simp only at h2
  rw [h2]
  exact hP _ _ (has_pu _) (by rw [Sl.d]) m1 u1
def fNil : FA := fun e => some ([], e)
def fCons (a : FE) (r : FA) : FA := fun e => (a e).bind fun x => (r x.2).map fun y => (x.1 :: y.1, y.2)
theorem sa_nil : SA K aNil fNil K [] := fun s e x e' m h P hP => by
  cases h
  exact hP s m (.refl s)
theorem sa_cons (ha : SE K a fa ka K1 T1) (hr : SA K1 ar far K2 T2) : SA K (aCons a ar) (fCons fa far) K2 (T1 ++ T2) := fun s e x e' m h P hP => by
  obtain ⟨⟨d1, e1⟩, h1, h⟩ := ex_bind h
  obtain ⟨⟨ds, e2⟩, h2, h3⟩ := ex_map h
  cases h3
  refine ha s e _ e1 m h1 _ fun l1 s1 k1 q1 m1 u1 => ?_
  refine hr s1 e1 _ _ m1 h2 _ fun s2 m2 u2 => ?_
  rw [q1]
  exact hP s2 m2 (u1.trans u2)
def fStar (a : FE) (r : FA) : FA := fun e => (a e).bind fun x => (seqD x.1).bind fun xs => (r x.2).map fun y => (xs ++ y.1, y.2)
def fTup (a : FA) : FE := fun e => (a e).bind fun x => if x.1.length ≤ 100000 then some (.tup x.1, x.2) else none
def fLst (a : FA) : FE := fun e => (a e).bind fun x => if x.1.length ≤ 100000 then some (.lst x.1, x.2) else none
theorem se_tup (ha : SA K aa faa K1 T1) : SE K (aTup aa) (fTup faa) .pu K1 T1 := fun s e x e' m h P hP => by
  obtain ⟨⟨ds, e1⟩, h1, h'⟩ := ex_bind h
  clear h
  have h : (if ds.length ≤ 100000 then some (D.tup ds, e1) else none) = some (x, e') := h'
  split at h
  · rename_i hc
    cases h
    exact ha s e _ _ m h1 _ fun s1 m1 u1 => ⟨hc, hP _ _ (has_pu _) (by rw [Sl.d]) m1 u1⟩
  · cases h
theorem se_lst (ha : SA K aa faa K1 T1) : SE K (aLst aa) (fLst faa) .ow K1 T1 := fun s e x e' m h P hP => by
  obtain ⟨⟨ds, e1⟩, h1, h'⟩ := ex_bind h
  clear h
  have h : (if ds.length ≤ 100000 then some (D.lst ds, e1) else none) = some (x, e') := h'
  split at h
  · rename_i hc
    cases h
    exact ha s e _ _ m h1 _ fun s1 m1 u1 => ⟨hc, fun p => hP _ _ (has_ow p _) (by rw [Sl.d]) m1 u1⟩
  · cases h
def fCall (g : List D → Option D) (a : FA) : FE := fun e => (a e).bind fun x => (g x.1).map fun r => (r, x.2)
theorem se_call {r : ARC} {g : List D → Option D} (hr : VC r g k) (ha : SA K aa faa K1 T1) : SE K (aCall r aa) (fCall g faa) k K1 T1 := fun s e x e' m h P hP => by
  obtain ⟨⟨ds, e1⟩, h1, h⟩ := ex_bind h
  obtain ⟨y, h2, h3⟩ := ex_map h
  cases h3
  exact ha s e _ _ m h1 _ fun s1 m1 u1 => hr _ _ h2 _ fun l hk hd => hP l s1 hk hd m1 u1
def fNoP : FO := fun e => some (none, e)
def fPart (a : FE) : FO := fun e => (a e).bind fun x => match x.1 with
  | .int i => some (some i, x.2)
  | _ => none
theorem so_no : SO K aNoP fNoP K [] := fun s e x e' m h P hP => by
  cases h
  exact hP s m (.refl s)
theorem so_part (ha : SE K a fa ka K1 T1) : SO K (aPart a) (fPart fa) K1 T1 := fun s e x e' m h P hP => by
  obtain ⟨⟨d1, e1⟩, h1, h⟩ := ex_bind h
  cases d1 <;> first | (cases h; done) | skip
  cases h
  refine ha s e _ e1 m h1 _ fun l1 s1 k1 q1 m1 u1 => ?_
  rw [q1]
  exact hP _ m1 u1
def tupD : D → Option (List D)
  | .tup xs => some xs
  | _ => none
def fSlL (a : FE) (l u : FO) : FE := fun e => (a e).bind fun x => (l x.2).bind fun lo => (u lo.2).bind fun hi => (lstD x.1).map fun xs => (.lst (cutD xs lo.1 hi.1), hi.2)
def fSlT (a : FE) (l u : FO) : FE := fun e => (a e).bind fun x => (l x.2).bind fun lo => (u lo.2).bind fun hi => (tupD x.1).map fun xs => (.tup (cutD xs lo.1 hi.1), hi.2)
theorem se_slL (ha : SE K a fa ka K1 T1) (hl : SO K1 al fl K2 T2) (hu : SO K2 au fu' K3 T3) : SE K (aSlL a al au) (fSlL fa fl fu') .ow K3 (T1 ++ (T2 ++ T3)) := fun s e x e' m h P hP => by
  obtain ⟨⟨d1, e1⟩, h1, h⟩ := ex_bind h
  obtain ⟨⟨lo, e2⟩, h2, h⟩ := ex_bind h
  obtain ⟨⟨hi, e3⟩, h3, h⟩ := ex_bind h
  obtain ⟨xs, h4, h5⟩ := ex_map h
  cases h5
  refine ha s e _ e1 m h1 _ fun l1 s1 k1 q1 m1 u1 => ?_
  refine hl s1 e1 _ _ m1 h2 _ fun s2 m2 u2 => ?_
  refine hu s2 e2 _ _ m2 h3 _ fun s3 m3 u3 => ?_
  rw [q1]
  simp only at h4
  rw [h4]
  exact fun p => hP _ _ (has_ow p _) (by rw [Sl.d]) m3 (u1.trans (u2.trans u3))
theorem se_slT (ha : SE K a fa ka K1 T1) (hl : SO K1 al fl K2 T2) (hu : SO K2 au fu' K3 T3) : SE K (aSlT a al au) (fSlT fa fl fu') .pu K3 (T1 ++ (T2 ++ T3)) := fun s e x e' m h P hP => by
  obtain ⟨⟨d1, e1⟩, h1, h⟩ := ex_bind h
  obtain ⟨⟨lo, e2⟩, h2, h⟩ := ex_bind h
  obtain ⟨⟨hi, e3⟩, h3, h⟩ := ex_bind h
  obtain ⟨xs, h4, h5⟩ := ex_map h
  cases h5
  refine ha s e _ e1 m h1 _ fun l1 s1 k1 q1 m1 u1 => ?_
  refine hl s1 e1 _ _ m1 h2 _ fun s2 m2 u2 => ?_
  refine hu s2 e2 _ _ m2 h3 _ fun s3 m3 u3 => ?_
  rw [q1]
  cases d1 <;> first | (cases h4; done) | skip
  cases h4
  exact hP _ _ (has_pu _) (by rw [Sl.d]) m3 (u1.trans (u2.trans u3))
def fRevL (a : FE) : FE := fun e => (a e).bind fun x => (lstD x.1).map fun ds => (.lst ds.reverse, x.2)
def fM1 (g : Str → D → Option D) (a b : FE) : FE := fun e => (a e).bind fun x => (b x.2).bind fun y => match x.1 with
  | .str z => (g z y.1).map fun r => (r, y.2)
  | _ => none
def fIxO (i : Nat) (b : FE) : FE := fun e => (b e).bind fun x => (x.2[i]?).bind fun d => match d, x.1 with
  | .lst xs, .int k => (atI xs k).map fun r => (r, x.2)
  | _, _ => none
theorem se_ixO {i : Nat} (h0 : K[i]? = some .ow) (h1 : K1[i]? = some .ow) (hb : SE K b fb kb K1 T1) : SE K (aIxO i b) (fIxO i fb) .pu K1 T1 := fun s e x e' m h P hP => by
  obtain ⟨⟨d1, e1⟩, h2, h'⟩ := ex_bind h
  clear h
  obtain ⟨d2, h3, h⟩ := ex_bind h'
  clear h'
  obtain ⟨l0, g1, g2, _⟩ := m.ix h0
  obtain ⟨p0, xs0, rfl⟩ := of_ow g2
  unfold aIxO
  rw [g1]
  refine hb s e _ _ m h2 _ fun l1 s1 k1 q1 m1 u1 => ?_
  obtain ⟨l3, z1, z2, z3⟩ := m1.ix h1
  obtain ⟨p3, xs3, rfl⟩ := of_ow z2
  simp only at h3
  rw [z3] at h3
  cases h3
  rw [q1, z1]
  rw [ev_d (by simp), Sl.d] at h
  cases d1 <;> first | (cases h; done) | skip
  rename_i k
  obtain ⟨r, h4, h5⟩ := ex_map h
  cases h5
  simp only [h4]
  exact hP _ _ (has_pu _) (by rw [Sl.d]) m1 u1
def fBor (g : List D → Option D) (i : Nat) : FE := fun e => (e[i]?).bind fun d => (g [d]).bind fun r => if flatD r = true then some (r, e) else none
def fInB (neg : Bool) (a : FE) (i : Nat) : FE := fun e => (a e).bind fun x => (x.2[i]?).bind fun d => match d with
  | .lst xs => if flatD x.1 = true ∧ xs.all flatD = true then some (.bl (if neg then !inF x.1 xs else inF x.1 xs), x.2) else none
  | _ => none
def fPopAt (i : Nat) (a : FE) : FE := fun e => (a e).bind fun x => (x.2[i]?).bind fun d => match d, x.1 with
  | .lst xs, .int j => if 0 ≤ j ∧ j < xs.length ∧ xs.length ≤ 100000 then (xs[j.toNat]?).map fun r => (r, x.2.set i (.lst (xs.eraseIdx j.toNat))) else none
  | _, _ => none
def fListRange1 (a : FA) : FE := fun e => (a e).bind fun x => match x.1 with
  | [.int j] => if 0 ≤ j ∧ j ≤ 16777216 then some (.lst (rngD 0 j.toNat), x.2) else none
  | _ => none
theorem se_listRange1 (ha : SA K aa faa K1 T1) : SE K (aListRange1 aa) (fListRange1 faa) .ow K1 T1 := fun s e x e' m h P hP => by
  obtain ⟨⟨ds, e1⟩, h1, h'⟩ := ex_bind h
  clear h
  refine ha s e _ _ m h1 _ fun s1 m1 u1 => ?_
  simp only at h'
  split at h'
  · rename_i j
    split at h'
    · rename_i hc
      cases h'
      exact ⟨hc, fun p => hP _ _ (has_ow p _) (by rw [Sl.d]) m1 u1⟩
    · cases h'
  · cases h'
instance {i j : Int} : Decidable (RgOk i j) := by unfold RgOk; infer_instance
def fListRange2 (a : FA) : FE := fun e => (a e).bind fun x => match x.1 with
  | [.int i, .int j] => if RgOk i j then some (.lst (rngD i (j - i).toNat), x.2) else none
  | _ => none
/-- some unlike ones -/
def dedup : List Int → List Int
  | [] => []
  | x :: xs => if x ∈ dedup xs then dedup xs else x :: dedup xs
theorem dedup_dist : ∀ ns : List Int, Dist ns (dedup ns)
  | [] => ⟨List.nodup_nil, fun j => Iff.rfl⟩
  | x :: xs => by
    obtain ⟨h1, h2⟩ := dedup_dist xs
    unfold dedup
    split
    · rename_i hx
      refine ⟨h1, fun j => ?_⟩
      rw [h2, List.mem_cons]
      constructor
      · exact .inr
      · rintro (rfl | h)
        · exact (h2 j).mp hx
        · exact h
    · rename_i hx
      exact ⟨List.nodup_cons.mpr ⟨hx, h1⟩, fun j => by rw [List.mem_cons, List.mem_cons, h2]⟩
theorem dist_uniq {ns ks js : List Int} (a : Dist ns ks) (b : Dist ns js) : ks.length = js.length := ((List.perm_ext_iff_of_nodup a.1 b.1).mpr fun j => (a.2 j).trans (b.2 j).symm).length_eq
def fLenSetT (a : FE) : FE := fun e => (a e).bind fun x => match x.1 with
  | .tup ds => (intsD ds).bind fun ns => if ns.length ≤ 4000 then some (.int (dedup ns).length, x.2) else none
  | _ => none
def fLenSetL (a : FE) : FE := fun e => (a e).bind fun x => match x.1 with
  | .lst ds => (intsD ds).bind fun ns => if ns.length ≤ 4000 then some (.int (dedup ns).length, x.2) else none
  | _ => none
theorem se_lenSetL (ha : SE K a fa ka K1 T1) : SE K (aLenSetL a) (fLenSetL fa) .pu K1 T1 := fun s e x e' m h P hP => by
  obtain ⟨⟨d1, e1⟩, h1, h'⟩ := ex_bind h
  clear h
  cases d1 <;> first | (cases h'; done) | skip
  obtain ⟨ns, h2, h⟩ := ex_bind h'
  clear h'
  refine ha s e _ e1 m h1 _ fun l1 s1 k1 q1 m1 u1 => ?_
  rw [q1]
  split at h
  · rename_i hc
    cases h
    exact ⟨ns, h2, hc, fun ks hk => hP _ _ (has_pu _) (by rw [Sl.d, dist_uniq hk (dedup_dist ns)]) m1 u1⟩
  · cases h
end
end DL
namespace DL
variable [Tabl]
open PySem L2
def gI1 (f : Int → Int) : List D → Option D
  | [.int i] => some (.int (f i))
  | _ => none
def gI2 (f : Int → Int → Int) : List D → Option D
  | [.int i, .int j] => some (.int (f i j))
  | _ => none
def gInt : List D → Option D
  | [.int i] => some (.int i)
  | [.bl b] => some (.int (if b then 1 else 0))
  | _ => none
def gLen : List D → Option D
  | [d] => (seqD d).map fun xs => .int xs.length
  | _ => none
theorem vc_i1 {f : Int → Int} : VC (aI1 f) (gI1 f) .pu := fun ds x h P hP => by
  unfold gI1 at h
  split at h
  · cases h
    exact puP hP
  · cases h
theorem vc_i2 {f : Int → Int → Int} : VC (aI2 f) (gI2 f) .pu := fun ds x h P hP => by
  unfold gI2 at h
  split at h
  · cases h
    exact puP hP
  · cases h
theorem vc_int : VC aInt gInt .pu := fun ds x h P hP => by
  unfold gInt at h
  split at h
  · cases h
    exact puP hP
  · cases h
    exact puP hP
  · cases h
theorem vc_len : VC aLen gLen .pu := fun ds x h P hP => by
  unfold gLen at h
  split at h
  · obtain ⟨xs, h1, h2⟩ := ex_map h
    cases h2
    unfold aLen
    simp only [h1]
    exact puP hP
  · cases h
def maxL : Int → List Int → Int
  | x, [] => x
  | x, y :: ys => maxL (if x < y then y else x) ys
theorem maxL_ok : ∀ (xs : List Int) (x : Int), maxL x xs ∈ x :: xs ∧ ∀ y ∈ x :: xs, y ≤ maxL x xs
  | [], x => ⟨List.mem_cons_self, fun y hy => by rw [List.mem_singleton.mp hy]; exact Int.le_refl _⟩
  | z :: zs, x => by
    obtain ⟨h1, h2⟩ := maxL_ok zs (if x < z then z else x)
    unfold maxL
    refine ⟨?_, fun y hy => ?_⟩
    · rcases List.mem_cons.mp h1 with e | e
      · rw [e]
        split
        · exact List.mem_cons_of_mem _ List.mem_cons_self
        · exact List.mem_cons_self
      · exact List.mem_cons_of_mem _ (List.mem_cons_of_mem _ e)
    · have h3 := h2 _ List.mem_cons_self
      rcases List.mem_cons.mp hy with rfl | hy
      · split at h3 <;> split <;> omega
      · rcases List.mem_cons.mp hy with rfl | hy
        · split at h3 <;> split <;> omega
        · exact h2 y (List.mem_cons_of_mem _ hy)
def nSum : List Int → Option D := fun ns => some (.int ns.sum)
def nMax : List Int → Option D
  | [] => none
  | x :: xs => some (.int (maxL x xs))
def VN (f : List Int → (D → Prop) → Prop) (g : List Int → Option D) : Prop := ∀ ns x, g ns = some x → ∀ P : D → Prop, P x → f ns P
theorem vn_sum : VN fSum nSum := fun ns x h P hP => by
  cases h
  exact hP
theorem vn_max : VN fMax nMax := fun ns x h P hP => by
  cases ns with
  | nil => cases h
  | cons y ys =>
    cases h
    obtain ⟨h1, h2⟩ := maxL_ok ys y
    refine ⟨Nat.succ_pos _, fun m hm hy => ?_⟩
    have a1 := h2 m hm
    have a2 := hy _ h1
    rw [show m = maxL y ys by omega]
    exact hP
def gInts (g : List Int → Option D) : List D → Option D
  | [d] => ((lstD d).bind intsD).bind g
  | _ => none
def gIntsT (g : List Int → Option D) : List D → Option D
  | [.tup es] => (intsD es).bind g
  | _ => none
def gBls (f : List Bool → Bool) : List D → Option D
  | [d] => ((lstD d).bind blsD).map fun bs => .bl (f bs)
  | _ => none
theorem vc_ints {f : List Int → (D → Prop) → Prop} {g : List Int → Option D} (hn : VN f g) : VC (aInts f) (gInts g) .pu := fun ds x h P hP => by
  unfold gInts at h
  split at h
  · obtain ⟨ns, h1, h2⟩ := ex_bind h
    unfold aInts
    simp only [h1]
    exact hn _ _ h2 _ (puP hP)
  · cases h
theorem vc_bls {f : List Bool → Bool} : VC (aBls f) (gBls f) .pu := fun ds x h P hP => by
  unfold gBls at h
  split at h
  · obtain ⟨ns, h1, h2⟩ := ex_map h
    cases h2
    unfold aBls
    simp only [h1]
    exact puP hP
  · cases h
def gList : List D → Option D
  | [d] => (seqD d).map D.lst
  | _ => none
def gTupl : List D → Option D
  | [d] => (seqD d).map D.tup
  | _ => none
theorem vc_list : VC aList gList .ow := fun ds x h P hP => by
  unfold gList at h
  split at h
  · obtain ⟨xs, h1, h2⟩ := ex_map h
    cases h2
    unfold aList
    simp only [h1]
    exact fun p => owP hP p
  · cases h
mutual
def shB : Nat → D → Bool
  | _, .non => true
  | _, .bl _ => true
  | _, .int i => decide (-(10 ^ 60) < i) && decide (i < 10 ^ 60)
  | _, .str x => x.cps.toList.all (fun c => decide (c < 16 ^ 8))
  | k, .tup xs => decide (0 < k) && shBA (k - 1) xs
  | k, .lst xs => decide (0 < k) && shBA (k - 1) xs
  | k, .scr xs => decide (0 < k) && shBA (k - 1) xs
  | _, _ => false
def shBA : Nat → List D → Bool
  | _, [] => true
  | k, d :: ds => shB k d && shBA k ds
end
mutual
theorem shB_ok : ∀ (d : D) (k : Nat), shB k d = true → shD k d
  | .non, k, _ => by unfold shD; trivial
  | .bl _, k, _ => by unfold shD; trivial
  | .int i, k, h => by
    simp only [shB, Bool.and_eq_true, decide_eq_true_eq] at h
    unfold shD
    exact h
  | .str x, k, h => by
    simp only [shB] at h
    unfold shD
    exact h
  | .tup xs, k, h => by
    simp only [shB, Bool.and_eq_true, decide_eq_true_eq] at h
    unfold shD
    exact ⟨h.1, shBA_ok xs _ h.2⟩
  | .lst xs, k, h => by
    simp only [shB, Bool.and_eq_true, decide_eq_true_eq] at h
    unfold shD
    exact ⟨h.1, shBA_ok xs _ h.2⟩
  | .scr xs, k, h => by
    simp only [shB, Bool.and_eq_true, decide_eq_true_eq] at h
    unfold shD
    exact ⟨h.1, shBA_ok xs _ h.2⟩
  | .ob _, k, h => by simp [shB] at h
  | .ins _ _ _, k, h => by simp [shB] at h
  | .dk _ _, k, h => by simp [shB] at h
  | .dt _ _, k, h => by simp [shB] at h
theorem shBA_ok : ∀ (ds : List D) (k : Nat), shBA k ds = true → shA k ds
  | [], k, _ => by unfold shA; trivial
  | d :: ds, k, h => by
    simp only [shBA, Bool.and_eq_true] at h
    unfold shA
    exact ⟨shB_ok d k h.1, shBA_ok ds k h.2⟩
end
def gRepr : List D → Option D
  | [d] => if shB 40 d = true ∧ sizD d ≤ 200000 then some (.str (rpD d)) else none
  | _ => none
theorem vc_repr : VC aRepr gRepr .pu := fun ds x h P hP => by
  unfold gRepr at h
  split at h
  · split at h
    · rename_i hc
      cases h
      exact ⟨⟨shB_ok _ _ hc.1, hc.2⟩, puP hP⟩
    · cases h
  · cases h
def intS (l : List Int) : List Int := l.mergeSort fun a b => decide (a ≤ b)
def gSortI : List D → Option D
  | [d] => ((lstD d).bind intsD).map fun ns => lstI (intS ns)
  | _ => none
def gStrI : List D → Option D
  | [.int i] => if -(10 ^ 60) < i ∧ i < 10 ^ 60 then some (.str (sI i)) else none
  | _ => none
def lowD (k : TK) (F : List D → Option D) : ARC := fun ds P => ∃ r, F ds = some r ∧ ∀ l, Has k l → l.d = r → P l
def lowM (k : TK) (F : List D → Option (D × D)) : ARM := fun xs ds P => ∃ r d', F (.lst xs :: ds) = some (r, d') ∧ ∀ l ys, Has k l → l.d = r → d' = .lst ys → P l ys
def gFn (n : Nat) (F : List D → Option D) : List D → Option D := fun ds => if ds.length = n then F ds else none
theorem vc_fn {n : Nat} {k : TK} {F : List D → Option D} : VC (aFn n (lowD k F)) (gFn n F) k := fun ds x h P hP => by
  unfold gFn at h
  split at h
  · rename_i hc
    exact ⟨hc, x, h, hP⟩
  · cases h
section
variable {K K1 K2 K3 Kl Kt Ke Kg : List TK} {a b c : AE} {fa fb fc : FE} {ka kb kc k : TK} {T T1 T2 T3 : List Nat} {t u : AT} {ft fu : FT} {aa ar : AA} {faa far : FA}
def fCallK (n m : Nat) (ix : List Nat) (F : List D → Option D) (a : FA) : FE := fun e => (a e).bind fun x => if x.1.length = m then (gFn n F (ix.filterMap (fun i => x.1[i]?))).map fun r => (r, x.2) else none
theorem se_callK {n m : Nat} {ix : List Nat} {F : List D → Option D} (ha : SA K aa faa K1 T1) : SE K (aCallK n m ix (lowD k F) aa) (fCallK n m ix F faa) k K1 T1 := fun s e x e' m' h P hP => by
  obtain ⟨⟨ds, e1⟩, h1, h'⟩ := ex_bind h
  clear h
  refine ha s e _ _ m' h1 _ fun s1 m1 u1 => ?_
  simp only at h'
  split at h'
  · rename_i hc
    obtain ⟨y, h2, h3⟩ := ex_map h'
    cases h3
    exact ⟨hc, vc_fn _ _ h2 _ fun l hk hd => hP l s1 hk hd m1 u1⟩
  · cases h'
def fCallM (n j : Nat) (F : List D → Option (D × D)) (a : FA) : FE := fun e => (a e).bind fun x => (x.2[j]?).bind fun d => if x.1.length + 1 = n then (F (d :: x.1)).bind fun y => match y.2 with
  | .lst ys => some (y.1, x.2.set j (.lst ys))
  | _ => none
  else none
theorem se_callM {n j : Nat} {F : List D → Option (D × D)} (h0 : K[j]? = some .ow) (h1 : K1[j]? = some .ow) (ha : SA K aa faa K1 T1) : SE K (aCallM n j (lowM k F) aa) (fCallM n j F faa) k K1 (T1 ++ [j]) := fun s e x e' m h P hP => by
  obtain ⟨⟨ds, e1⟩, h2, h'⟩ := ex_bind h
  clear h
  obtain ⟨d2, h3, h⟩ := ex_bind h'
  clear h'
  obtain ⟨l0, g1, g2, _⟩ := m.ix h0
  obtain ⟨p0, xs0, rfl⟩ := of_ow g2
  unfold aCallM
  rw [g1]
  refine ha s e _ _ m h2 _ fun s1 m1 u1 => ?_
  obtain ⟨l3, z1, z2, z3⟩ := m1.ix h1
  obtain ⟨p3, xs3, rfl⟩ := of_ow z2
  simp only at h3
  rw [z3] at h3
  cases h3
  rw [z1]
  rw [ev_d (by simp), Sl.d] at h
  simp only at h
  split at h
  · rename_i hc
    obtain ⟨⟨r, d'⟩, h4, h5⟩ := ex_bind h
    cases d' <;> first | (cases h5; done) | skip
    rename_i ys
    cases h5
    have hp : p3 = p0 := by
      have := u1.r j p3 (by rw [z1]; rfl)
      rw [g1] at this
      cases this
      rfl
    refine ⟨hp, hc, r, _, h4, fun l ys' hk hd he => ?_⟩
    cases he
    have mm := m1.set (i := j) (has_ow p3 ys)
    rw [ev_d (by simp), Sl.d, set_self h1] at mm
    exact hP l _ hk hd mm (u1.trans (un_set z1 fun p q => q))
  · cases h
def fCallT (n : Nat) (F : List D → Option (D × D)) (a0 : FE) (a : FA) : FE := fun e => (a0 e).bind fun d => (a d.2).bind fun x => if x.1.length + 1 = n then (F (d.1 :: x.1)).bind fun y => match y.2 with
  | .lst _ => some (y.1, x.2)
  | _ => none
  else none
theorem se_callT {n : Nat} {F : List D → Option (D × D)} {a0 : AE} {f0 : FE} (h0 : SE K a0 f0 .ow K1 T1) (ha : SA K1 aa faa K2 T2) : SE K (aCallT n (lowM k F) a0 aa) (fCallT n F f0 faa) k K2 (T1 ++ T2) := fun s e x e' m h P hP => by
  obtain ⟨⟨d1, e1⟩, h1, h'⟩ := ex_bind h
  clear h
  obtain ⟨⟨ds, e2⟩, h2, h⟩ := ex_bind h'
  clear h'
  refine h0 s e _ _ m h1 _ fun l1 s1 k1 q1 m1 u1 => ?_
  obtain ⟨p, xs, rfl⟩ := of_ow k1
  rw [Sl.d] at q1
  subst q1
  refine ha s1 e1 _ _ m1 h2 _ fun s2 m2 u2 => ?_
  simp only at h
  split at h
  · rename_i hc
    obtain ⟨⟨r, d'⟩, h4, h5⟩ := ex_bind h
    cases d' <;> first | (cases h5; done) | skip
    rename_i ys
    cases h5
    exact ⟨hc, _, _, h4, fun l ys' hk hd he => hP l s2 hk hd m2 (u1.trans u2)⟩
  · cases h
def fItL (a : FE) : FA := fun e => (a e).bind fun x => match x.1 with
  | .lst ds => some (ds, x.2)
  | .scr ds => some (ds, x.2)
  | _ => none
def fItT (a : FE) : FA := fun e => (a e).bind fun x => match x.1 with
  | .tup ds => some (ds, x.2)
  | _ => none
theorem si_l (ha : SE K a fa ka K1 T1) : SA K (aItL a) (fItL fa) K1 T1 := fun s e x e' m h P hP => by
  obtain ⟨⟨d1, e1⟩, h1, h'⟩ := ex_bind h
  clear h
  refine ha s e _ e1 m h1 _ fun l1 s1 k1 q1 m1 u1 => ?_
  rw [q1]
  cases d1 <;> first | (cases h'; done) | skip
  all_goals
    cases h'
    exact hP s1 m1 u1
theorem si_t (ha : SE K a fa ka K1 T1) : SA K (aItT a) (fItT fa) K1 T1 := fun s e x e' m h P hP => by
  obtain ⟨⟨d1, e1⟩, h1, h'⟩ := ex_bind h
  clear h
  refine ha s e _ e1 m h1 _ fun l1 s1 k1 q1 m1 u1 => ?_
  rw [q1]
  cases d1 <;> first | (cases h'; done) | skip
  cases h'
  exact hP s1 m1 u1
def fItS (a : FE) : FA := fun e => (a e).bind fun x => match x.1 with
  | .str z => some (z.cps.toList.map fun c => D.str ⟨#[c]⟩, x.2)
  | _ => none
def fRng1 (a : FA) : FA := fun e => (a e).bind fun x => match x.1 with
  | [.int j] => if -(2 ^ 62) ≤ j ∧ j < 2 ^ 62 then some (rngD 0 j.toNat, x.2) else none
  | _ => none
def fRng2 (a : FA) : FA := fun e => (a e).bind fun x => match x.1 with
  | [.int i, .int j] => if -(2 ^ 62) ≤ i ∧ i < 2 ^ 62 ∧ -(2 ^ 62) ≤ j ∧ j < 2 ^ 62 then some (rngD i (j - i).toNat, x.2) else none
  | _ => none
theorem si_rng1 (ha : SA K aa faa K1 T1) : SA K (aRng1 aa) (fRng1 faa) K1 T1 := fun s e x e' m h P hP => by
  obtain ⟨⟨ds, e1⟩, h1, h'⟩ := ex_bind h
  clear h
  refine ha s e _ e1 m h1 _ fun s1 m1 u1 => ?_
  simp only at h'
  split at h'
  · split at h'
    · rename_i hc
      cases h'
      exact ⟨hc.1, hc.2, hP s1 m1 u1⟩
    · cases h'
  · cases h'
def fItEnT (a : FA) : FA := fun e => (a e).bind fun x => match x.1 with
  | [.tup es] => some (enumD es, x.2)
  | _ => none
def fItEnL (a : FA) : FA := fun e => (a e).bind fun x => match x.1 with
  | [d] => (lstD d).map fun es => (enumD es, x.2)
  | _ => none
theorem si_enT (ha : SA K aa faa K1 T1) : SA K (aItEnT aa) (fItEnT faa) K1 T1 := fun s e x e' m h P hP => by
  obtain ⟨⟨ds, e1⟩, h1, h'⟩ := ex_bind h
  clear h
  refine ha s e _ e1 m h1 _ fun s1 m1 u1 => ?_
  simp only at h'
  split at h'
  · cases h'
    exact hP s1 m1 u1
  · cases h'
theorem si_enL (ha : SA K aa faa K1 T1) : SA K (aItEnL aa) (fItEnL faa) K1 T1 := fun s e x e' m h P hP => by
  obtain ⟨⟨ds, e1⟩, h1, h'⟩ := ex_bind h
  clear h
  refine ha s e _ e1 m h1 _ fun s1 m1 u1 => ?_
  simp only at h'
  split at h'
  · obtain ⟨es, h2, h3⟩ := ex_map h'
    cases h3
    simp only [h2]
    exact hP s1 m1 u1
  · cases h'
def gZip : List D → Option (List D)
  | [.tup xs, .tup ys] => some (zipD xs ys)
  | [d, e] => (lstD d).bind fun xs => (lstD e).map fun ys => zipD xs ys
  | _ => none
def fItZip (a : FA) : FA := fun e => (a e).bind fun x => (gZip x.1).map fun r => (r, x.2)
theorem si_zip (ha : SA K aa faa K1 T1) : SA K (aItZip aa) (fItZip faa) K1 T1 := fun s e x e' m h P hP => by
  obtain ⟨⟨ds, e1⟩, h1, h'⟩ := ex_bind h
  clear h
  obtain ⟨y, h2, h3⟩ := ex_map h'
  cases h3
  refine ha s e _ e1 m h1 _ fun s1 m1 u1 => ?_
  simp only at h2
  unfold gZip at h2
  split at h2
  · cases h2
    exact hP s1 m1 u1
  · rename_i d f hne
    obtain ⟨xs, h4, h5⟩ := ex_bind h2
    obtain ⟨ys, h6, h7⟩ := ex_map h5
    cases h7
    cases d <;> first | (cases h4; done) | skip
    all_goals
      cases f <;> first | (cases h6; done) | skip
      all_goals
        cases h4
        cases h6
        exact hP s1 m1 u1
  · cases h2
def fItZipX (k1 k2 : Bool) (a : FA) : FA := fun e => (a e).bind fun x => match x.1 with
  | [d, f] => (sqD k1 d).bind fun xs => (sqD k2 f).map fun ys => (zipD xs ys, x.2)
  | _ => none
def SGu (L : List Nat) (K : List TK) (g : AG) (f : FG) (K' : List TK) : Prop := ∀ d s e e', Mt K s e → f d e = some e' → ∀ P, (∀ s', Mt K' s' e' → Un L s s' → P s') → g d s P
def SGsu (L : List Nat) (K : List TK) (g : AGs) (f : FGs) (K' : List TK) : Prop := ∀ d s e e', Mt K s e → f d e = some e' → ∀ P, (∀ s', Mt K' s' e' → Un L s s' → P s') → g d s P
def gName (i : Nat) : FG := fun d e => some (e.set i d)
def gNil : FGs := fun ds e => match ds with
  | [] => some e
  | _ => none
def gCons (g : FG) (r : FGs) : FGs := fun ds e => match ds with
  | d :: ds => (g d e).bind fun e1 => r ds e1
  | [] => none
def gTup (g : FGs) : FG := fun d e => match d with
  | .tup ds => g ds e
  | _ => none
theorem sg_name {i : Nat} {k0 : TK} (hi : K[i]? = some k0) : SGu [i] K (agName i) (gName i) (K.set i .pu) := fun d s e e' m h P hP => by
  cases h
  obtain ⟨l, g1, _, _⟩ := m.ix hi
  have mm := m.set (i := i) (has_pu d)
  rw [ev_d (by simp), Sl.d] at mm
  exact hP _ mm (un_set g1 fun p q => by cases q)
theorem sgs_nil : SGsu [] K agNil gNil K := fun ds s e e' m h P hP => by
  unfold gNil at h
  split at h
  · cases h
    exact ⟨rfl, hP s m (.refl s)⟩
  · cases h
theorem sgs_cons {L M : List Nat} {g : AG} {gs : AGs} {f : FG} {fs : FGs} (h1 : SGu L K g f K1) (h2 : SGsu M K1 gs fs K2) : SGsu (L ++ M) K (agCons g gs) (gCons f fs) K2 := fun ds s e e' m h P hP => by
  unfold gCons at h
  split at h
  · obtain ⟨e1, h3, h4⟩ := ex_bind h
    exact h1 _ s e e1 m h3 _ fun s1 m1 u1 => h2 _ s1 e1 e' m1 h4 _ fun s2 m2 u2 => hP s2 m2 (u1.trans u2)
  · cases h
theorem sg_tup {L : List Nat} {gs : AGs} {fs : FGs} (h1 : SGsu L K gs fs K1) : SGu L K (agTup gs) (gTup fs) K1 := fun d s e e' m h P hP => by
  unfold gTup at h
  split at h
  · exact h1 _ s e e' m h P hP
  · cases h
def fLcD (g : FG) (t : FT) (el : FE) (vs : List Nat) : List D → En → List D → Option (List D × En)
  | [], e, acc => some (acc, e)
  | d :: ds, e, acc => (g d e).bind fun e1 => (t e1).bind fun x => if x.1 = true then (el x.2).bind fun y => if acc.length < 100000 then fLcD g t el vs ds (fScr vs y.2) (acc ++ [y.1]) else none else fLcD g t el vs ds (fScr vs x.2) acc
def fLc (i : FA) (g : FG) (t : FT) (el : FE) (vs : List Nat) : FE := fun e => (i e).bind fun x => (fLcD g t el vs x.1 (fScr vs x.2) []).map fun y => (.lst y.1, y.2)
theorem lcD_ok {L vs : List Nat} {g : AG} {f : FG} {U : List Nat} (hg : SGu L Kl g f Kg) (ht : ST Kg t ft Kt T1) (he : SE Kt a fa ke Ke T2) (h1 : leKs (scrK vs Kt) Kl = true) (h2 : leKs (scrK vs Ke) Kl = true)
    (u1 : ∀ j, j ∈ L → j ∈ U) (u2 : ∀ j, j ∈ T1 → j ∈ U) (u3 : ∀ j, j ∈ T2 → j ∈ U) (u4 : ∀ j, j ∈ vs → j ∈ U) :
    ∀ (ds : List D) (s : Ss) (e : En) (acc : List D) (r : List D) (e' : En), Mt Kl s e → fLcD f ft fa vs ds e acc = some (r, e') → ∀ P : List D → Ss → Prop, (∀ s', Mt Kl s' e' → Un U s s' → P r s') → aLcD g t a vs ds s acc P
  | [], s, e, acc, r, e', m, h, P, hP => by
    cases h
    exact hP s m ⟨fun _ _ => rfl, .refl s⟩
  | d :: ds, s, e, acc, r, e', m, h, P, hP => by
    obtain ⟨e1, g1, h'⟩ := ex_bind h
    clear h
    obtain ⟨⟨b, e2⟩, g2, h⟩ := ex_bind h'
    clear h'
    have tr : ∀ {s1 s2 : Ss}, Un U s1 s2 → ∀ {s0 : Ss}, Un U s0 s1 → Un U s0 s2 := fun b s0 a => (a.trans b).mono fun j hj => by
      rcases List.mem_append.mp hj with z | z <;> exact z
    unfold aLcD
    refine hg d s e e1 m g1 _ fun s1 m1 v1 => ?_
    refine ht s1 e1 b e2 m1 g2 _ fun s2 m2 v2 => ?_
    have v12 : Un U s s2 := tr (v2.mono u2) (v1.mono u1)
    have h : (if b = true then (fa e2).bind fun y => if acc.length < 100000 then fLcD f ft fa vs ds (fScr vs y.2) (acc ++ [y.1]) else none else fLcD f ft fa vs ds (fScr vs e2) acc) = some (r, e') := h
    split
    · rename_i hb
      rw [if_pos hb] at h
      obtain ⟨⟨y, e3⟩, g3, h'⟩ := ex_bind h
      clear h
      simp only at h'
      split at h'
      · rename_i hc
        refine he s2 e2 y e3 m2 g3 _ fun l3 s3 k3 q3 m3 v3 => ⟨hc, ?_⟩
        rw [q3]
        exact lcD_ok hg ht he h1 h2 u1 u2 u3 u4 ds _ _ _ r e' ((m3.wipe vs).wk h2) h' P fun s' m' v' => hP s' m' (tr v' (tr ((un_wipe s3 vs).mono u4) (tr (v3.mono u3) v12)))
      · cases h'
    · rename_i hb
      rw [if_neg hb] at h
      exact lcD_ok hg ht he h1 h2 u1 u2 u3 u4 ds _ _ _ r e' ((m2.wipe vs).wk h1) h P fun s' m' v' => hP s' m' (tr v' (tr ((un_wipe s2 vs).mono u4) v12))
theorem se_lc {L vs : List Nat} {i : AI} {fi : FA} {g : AG} {f : FG} {ke : TK} (Kl : List TK) (hi : SA K i fi K1 T) (w : leKs (scrK vs K1) Kl = true) (hg : SGu L Kl g f Kg) (ht : ST Kg t ft Kt T1) (he : SE Kt a fa ke Ke T2) (h1 : leKs (scrK vs Kt) Kl = true) (h2 : leKs (scrK vs Ke) Kl = true) :
    SE K (aLc i g t a vs) (fLc fi f ft fa vs) .ow Kl (T ++ (vs ++ (L ++ (vs ++ (T1 ++ T2))))) := fun s e x e' m h P hP => by
  obtain ⟨⟨ds, e1⟩, g1, h'⟩ := ex_bind h
  clear h
  obtain ⟨⟨r, e2⟩, g2, g3⟩ := ex_map h'
  cases g3
  refine hi s e _ _ m g1 _ fun s1 m1 v1 p => ?_
  refine lcD_ok (U := L ++ (vs ++ (T1 ++ T2))) hg ht he h1 h2 (fun j hj => by simp [hj]) (fun j hj => by simp [hj]) (fun j hj => by simp [hj]) (fun j hj => by simp [hj]) ds _ _ _ r e2 ((m1.wipe vs).wk w) g2 _ fun s' m' v' => ?_
  exact hP _ _ (has_ow p r) (by rw [Sl.d]) m' (v1.trans ((un_wipe s1 vs).trans v'))
end
end DL
namespace DL
variable [Tabl]
open PySem L2
inductive Out where
  | er
  | nx (e : En)
  | rt (d : D) (e : En)
  | bk (e : En)
  | ct (e : En)
abbrev FS := En → Out
def R0 (s s' : Ss) : Prop := ∀ p : Addr, (s'[0]?).bind root = some p → (s[0]?).bind root = some p
theorem R0.refl (s : Ss) : R0 s s := fun _ h => h
theorem R0.trans {s s1 s2 : Ss} (a : R0 s s1) (b : R0 s1 s2) : R0 s s2 := fun p h => a p (b p h)
theorem Rk.r0 {s s' : Ss} (h : Rk s s') : R0 s s' := fun p q => h 0 p q
structure Cn (z : Bool) (s : Ss) (A : AEnds) (o : Out) (Kn Kb Kc : List TK) (kr k0 : TK) : Prop where
  ne : o ≠ .er
  nx : ∀ e' s', o = .nx e' → Mt Kn s' e' → (z = true → R0 s s') → A.nx s'
  rt : ∀ r e' l s', o = .rt r e' → Has kr l → l.d = r → (k0 = .ju ∨ ∃ l0, s'[0]? = some l0 ∧ Has k0 l0 ∧ e'[0]? = some l0.d) → (z = true → R0 s s') → A.rt l s'
  bk : ∀ e' s', o = .bk e' → Mt Kb s' e' → (z = true → R0 s s') → A.bk s'
  ct : ∀ e' s', o = .ct e' → Mt Kc s' e' → (z = true → R0 s s') → A.ct s'
def SS (z : Bool) (K : List TK) (a : AS) (f : FS) (Kn Kb Kc : List TK) (kr k0 : TK) : Prop := ∀ s e, Mt K s e → ∀ A : AEnds, Cn z s A (f e) Kn Kb Kc kr k0 → a A s
section
variable {z : Bool} {K K1 K2 K3 Kl Kn Kb Kc Kt Ke Kg : List TK} {kr k0 : TK} {a b c : AE} {fa fb fc : FE} {ka kb kc k : TK} {T T1 T2 T3 : List Nat} {t u : AT} {ft fu : FT} {aa ar : AA} {faa far : FA} {as au : AS} {fs fu' : FS} {s s1 : Ss} {A : AEnds} {o : Out}
theorem Cn.mov (h : Cn z s A o Kn Kb Kc kr k0) (r : z = true → R0 s s1) : Cn z s1 A o Kn Kb Kc kr k0 where
  ne := h.ne
  nx := fun e' s' q m g => h.nx e' s' q m fun z => (r z).trans (g z)
  rt := fun d e' l s' q h1 h2 h3 g => h.rt d e' l s' q h1 h2 h3 fun z => (r z).trans (g z)
  bk := fun e' s' q m g => h.bk e' s' q m fun z => (r z).trans (g z)
  ct := fun e' s' q m g => h.ct e' s' q m fun z => (r z).trans (g z)
theorem Cn.ofNx {e1 : En} (h : ∀ s', Mt Kn s' e1 → (z = true → R0 s s') → A.nx s') : Cn z s A (.nx e1) Kn Kb Kc kr k0 where
  ne := by simp
  nx := fun e' s' q m g => by
    cases q
    exact h s' m g
  rt := fun _ _ _ _ q => by cases q
  bk := fun _ _ q => by cases q
  ct := fun _ _ q => by cases q
theorem Cn.ofRt {d : D} {e1 : En} (h : ∀ l s', Has kr l → l.d = d → (k0 = .ju ∨ ∃ l0, s'[0]? = some l0 ∧ Has k0 l0 ∧ e1[0]? = some l0.d) → (z = true → R0 s s') → A.rt l s') : Cn z s A (.rt d e1) Kn Kb Kc kr k0 where
  ne := by simp
  nx := fun _ _ q => by cases q
  rt := fun r e' l s' q h1 h2 h3 h4 => by
    cases q
    exact h l s' h1 h2 h3 h4
  bk := fun _ _ q => by cases q
  ct := fun _ _ q => by cases q
theorem Cn.ofBk {e1 : En} (h : ∀ s', Mt Kb s' e1 → (z = true → R0 s s') → A.bk s') : Cn z s A (.bk e1) Kn Kb Kc kr k0 where
  ne := by simp
  nx := fun _ _ q => by cases q
  rt := fun _ _ _ _ q => by cases q
  bk := fun e' s' q m g => by
    cases q
    exact h s' m g
  ct := fun _ _ q => by cases q
theorem Cn.ofCt {e1 : En} (h : ∀ s', Mt Kc s' e1 → (z = true → R0 s s') → A.ct s') : Cn z s A (.ct e1) Kn Kb Kc kr k0 where
  ne := by simp
  nx := fun _ _ q => by cases q
  rt := fun _ _ _ _ q => by cases q
  bk := fun _ _ q => by cases q
  ct := fun e' s' q m g => by
    cases q
    exact h s' m g
theorem Cn.toRt {d : D} {e1 : En} {Kn2 Kb2 Kc2 : List TK} {A2 : AEnds} (q : Cn z s A (.rt d e1) Kn Kb Kc kr k0) (h : A2.rt = A.rt) : Cn z s A2 (.rt d e1) Kn2 Kb2 Kc2 kr k0 := .ofRt fun l s' h1 h2 h3 h4 => by
  rw [h]
  exact q.rt d e1 l s' rfl h1 h2 h3 h4
def fNext : FS := fun e => .nx e
def fNev : FS := fun _ => .er
def fBrk (J : List Nat) : FS := fun e => .bk (fScr J e)
def fCnt (J : List Nat) : FS := fun e => .ct (fScr J e)
def fSeq (a b : FS) : FS := fun e => match a e with
  | .nx e1 => b e1
  | o => o
theorem ss_next : SS z K aNext fNext K Kb Kc kr k0 := fun s e m A q => q.nx e s rfl m fun _ => .refl s
theorem ss_nev : SS z K aNev fNev Kn Kb Kc kr k0 := fun s e m A q => absurd rfl q.ne
theorem ss_seq (h1 : SS z K as fs K1 Kb Kc kr k0) (h2 : SS z K1 au fu' Kn Kb Kc kr k0) : SS z K (aSeq as au) (fSeq fs fu') Kn Kb Kc kr k0 := fun s e m A q => by
  refine h1 s e m { A with nx := au A } ?_
  unfold fSeq at q
  cases ho : fs e with
  | er =>
    rw [ho] at q
    exact absurd rfl q.ne
  | nx e1 =>
    rw [ho] at q
    exact .ofNx fun s' m' r => h2 s' e1 m' A (q.mov r)
  | rt d e1 =>
    rw [ho] at q
    exact q.toRt rfl
  | bk e1 =>
    rw [ho] at q
    exact .ofBk fun s' m' r => q.bk _ s' rfl m' r
  | ct e1 =>
    rw [ho] at q
    exact .ofCt fun s' m' r => q.ct _ s' rfl m' r
def fWk (J : List Nat) (f : FS) : FS := fun e => match f e with
  | .nx e1 => .nx (fScr J e1)
  | o => o
theorem ss_wk (J : List Nat) (h : SS z K as fs K1 Kb Kc kr k0) (w : leKs (scrK J K1) Kn = true) : SS z K as (fWk J fs) Kn Kb Kc kr k0 := fun s e m A q => by
  refine h s e m A ?_
  unfold fWk at q
  cases ho : fs e with
  | er =>
    rw [ho] at q
    exact absurd rfl q.ne
  | nx e1 =>
    rw [ho] at q
    exact .ofNx fun s' m' r => q.nx _ s' rfl ((m'.scr J).wk w) r
  | rt d e1 =>
    rw [ho] at q
    exact q.toRt rfl
  | bk e1 =>
    rw [ho] at q
    exact .ofBk fun s' m' r => q.bk _ s' rfl m' r
  | ct e1 =>
    rw [ho] at q
    exact .ofCt fun s' m' r => q.ct _ s' rfl m' r
/-- an expression, and what is done with what it gives -/
def fE (a : FE) (f : D → En → Out) : FS := fun e => match a e with
  | some x => f x.1 x.2
  | none => .er
theorem Cn.ex {f : D → En → Out} {e : En} (q : Cn z s A (fE fa f e) Kn Kb Kc kr k0) : ∃ r e1, fa e = some (r, e1) ∧ fE fa f e = f r e1 := by
  cases h : fa e with
  | none =>
    refine absurd ?_ q.ne
    unfold fE
    rw [h]
  | some x => exact ⟨x.1, x.2, rfl, by unfold fE; rw [h]⟩
def fDrop (a : FE) : FS := fE a fun _ e => .nx e
def fRet (a : FE) : FS := fE a fun d e => .rt d e
def fRetN : FS := fun e => .rt .non e
theorem ss_drop (ha : SE K a fa ka K1 T) : SS z K (aDrop a) (fDrop fa) K1 Kb Kc kr k0 := fun s e m A q => by
  obtain ⟨r, e1, h1, h2⟩ := q.ex
  refine ha s e r e1 m h1 _ fun l s' k1 q1 m1 u1 => ?_
  exact q.nx e1 s' (by unfold fDrop; rw [h2]) m1 fun _ => u1.r.r0
theorem ss_ret (ha : SE K a fa ka K1 T) (w : leK ka kr = true) (w0 : k0 = .ju ∨ ∃ k, K1[0]? = some k ∧ leK k k0 = true ∧ k ≠ .ju) : SS z K (aRet a) (fRet fa) Kn Kb Kc kr k0 := fun s e m A q => by
  obtain ⟨r, e1, h1, h2⟩ := q.ex
  refine ha s e r e1 m h1 _ fun l s' k1 q1 m1 u1 => ?_
  refine q.rt r e1 l s' (by unfold fRet; rw [h2]) (le_has _ _ _ w k1) q1 ?_ fun _ => u1.r.r0
  rcases w0 with rfl | ⟨k, g1, g2, g3⟩
  · exact .inl rfl
  · obtain ⟨l0, z1, z2, z3⟩ := m1.ix g1
    exact .inr ⟨l0, z1, le_has _ _ _ g2 z2, by rw [z3, ev_d g3]⟩
def fIfS (c : FT) (a b : FS) : FS := fun e => match c e with
  | some x => if x.1 = true then a x.2 else b x.2
  | none => .er
theorem ss_if (ht : ST K t ft K1 T) (h1 : SS z K1 as fs Kn Kb Kc kr k0) (h2 : SS z K1 au fu' Kn Kb Kc kr k0) : SS z K (aIfS t as au) (fIfS ft fs fu') Kn Kb Kc kr k0 := fun s e m A q => by
  unfold fIfS at q
  cases hc : ft e with
  | none =>
    rw [hc] at q
    exact absurd rfl q.ne
  | some x =>
    rw [hc] at q
    obtain ⟨b, e1⟩ := x
    refine ht s e b e1 m hc _ fun s' m1 u1 => ?_
    have q : Cn z s A (if b = true then fs e1 else fu' e1) Kn Kb Kc kr k0 := q
    split
    · rename_i hb
      rw [if_pos hb] at q
      exact h1 s' e1 m1 A (q.mov fun _ => u1.r.r0)
    · rename_i hb
      rw [if_neg hb] at q
      exact h2 s' e1 m1 A (q.mov fun _ => u1.r.r0)
def fSet (i : Nat) (a : FE) : FS := fE a fun d e => .nx (e.set i d)
theorem set_r0 {i : Nat} {l : Sl} {s' : Ss} (h : i ≠ 0) : R0 s' (s'.set i l) := fun p q => by
  rw [List.getElem?_set, if_neg h] at q
  exact q
theorem ss_set {i : Nat} (ha : SE K a fa ka K1 T) (hk : ka ≠ .ju) (hi : i ≠ 0 ∨ z = false) : SS z K (aSet i a) (fSet i fa) (K1.set i ka) Kb Kc kr k0 := fun s e m A q => by
  obtain ⟨r, e1, h1, h2⟩ := q.ex
  refine ha s e r e1 m h1 _ fun l s' k1 q1 m1 u1 => ?_
  have mm := m1.set (i := i) k1
  rw [ev_d hk, q1] at mm
  refine q.nx _ _ (by unfold fSet; rw [h2]) mm fun hz => ?_
  rcases hi with hi | hi
  · exact u1.r.r0.trans (set_r0 hi)
  · rw [hi] at hz
    cases hz
def fAsg (a : FE) (g : FG) : FS := fE a fun d e => match g d e with
  | some e1 => .nx e1
  | none => .er
theorem ss_asg {L : List Nat} {g : AG} {f : FG} (ha : SE K a fa ka K1 T) (hg : SGu L K1 g f Kn) : SS z K (aAsg a g) (fAsg fa f) Kn Kb Kc kr k0 := fun s e m A q => by
  obtain ⟨r, e1, h1, h2⟩ := q.ex
  unfold fAsg at q
  rw [h2] at q
  refine ha s e r e1 m h1 _ fun l s' k1 q1 m1 u1 => ?_
  cases hh : f r e1 with
  | none =>
    simp only [hh] at q
    exact absurd rfl q.ne
  | some e2 =>
    simp only [hh] at q
    rw [q1]
    exact hg r s' e1 e2 m1 hh _ fun s2 m2 u2 => q.nx e2 s2 rfl m2 fun _ => (u1.r.trans u2.r).r0
def fPar (i j : Nat) (a b : FE) : FS := fE a fun x e1 => fE b (fun y e2 => .nx ((e2.set i x).set j y)) e1
theorem ss_par {i j : Nat} (ha : SE K a fa ka K1 T1) (hb : SE K1 b fb kb K2 T2) (h1 : ka ≠ .ju) (h2 : kb ≠ .ju) (hi : (i ≠ 0 ∧ j ≠ 0) ∨ z = false) : SS z K (aPar i j a b) (fPar i j fa fb) ((K2.set i ka).set j kb) Kb Kc kr k0 := fun s e m A q => by
  obtain ⟨r, e1, g1, g2⟩ := q.ex
  unfold fPar at q
  rw [g2] at q
  obtain ⟨r2, e2, g3, g4⟩ := q.ex
  rw [g4] at q
  refine ha s e r e1 m g1 _ fun l s1 k1 q1 m1 u1 => ?_
  refine hb s1 e1 r2 e2 m1 g3 _ fun l2 s2 k2 q2 m2 u2 => ?_
  have mm := (m2.set (i := i) k1).set (i := j) k2
  rw [ev_d h1, ev_d h2, q1, q2] at mm
  refine q.nx _ _ rfl mm fun hz => ?_
  rcases hi with hi | hi
  · exact ((u1.r.trans u2.r).r0.trans (set_r0 hi.1)).trans (set_r0 hi.2)
  · rw [hi] at hz
    cases hz
def fPar3 (i j l0 : Nat) (a b c : FE) : FS := fE a fun x e1 => fE b (fun y e2 => fE c (fun w e3 => .nx (((e3.set i x).set j y).set l0 w)) e2) e1
def fAug (i : Nat) (f : Int → Int → Int) (a : FE) : FS := fun e => match e[i]? with
  | some (.int x) => fE a (fun d e1 => match d with
    | .int y => .nx (e1.set i (.int (f x y)))
    | _ => .er) e
  | _ => .er
def fApp (i : Nat) (a : FE) : FS := fE a fun d e1 => match e1[i]? with
  | some (.lst xs) => if xs.length < 100000 then .nx (e1.set i (.lst (xs ++ [d]))) else .er
  | _ => .er
theorem Mt.ow1 {e : En} {i : Nat} (m : Mt K s e) (h : K[i]? = some .ow) : ∃ p xs, s[i]? = some (.ow p xs) ∧ e[i]? = some (.lst xs) ∧ ∀ ys, Mt K (s.set i (.ow p ys)) (e.set i (.lst ys)) ∧ Un [i] s (s.set i (.ow p ys)) := by
  obtain ⟨l, g1, g2, g3⟩ := m.ix h
  obtain ⟨p, xs, rfl⟩ := of_ow g2
  rw [ev_d (by simp), Sl.d] at g3
  refine ⟨p, xs, g1, g3, fun ys => ⟨?_, un_set g1 fun p q => q⟩⟩
  have mm := m.set (i := i) (has_ow p ys)
  rw [ev_d (by simp), Sl.d, set_self h] at mm
  exact mm
theorem ss_app {i : Nat} (h0 : K[i]? = some .ow) (h1 : K1[i]? = some .ow) (ha : SE K a fa ka K1 T) : SS z K (aApp i a) (fApp i fa) K1 Kb Kc kr k0 := fun s e m A q => by
  obtain ⟨r, e1, g1, g2⟩ := q.ex
  unfold fApp at q
  rw [g2] at q
  obtain ⟨p0, xs0, z1, _, _⟩ := m.ow1 h0
  unfold aApp
  rw [z1]
  refine ha s e r e1 m g1 _ fun l s1 k1 q1 m1 u1 => ?_
  obtain ⟨p, xs, y1, y2, y3⟩ := m1.ow1 h1
  rw [y2] at q
  rw [y1]
  simp only at q
  split at q
  · rename_i hc
    obtain ⟨w1, w2⟩ := y3 (xs ++ [r])
    rw [q1]
    exact ⟨hc, q.nx _ _ rfl w1 fun _ => (u1.r.trans w2.r).r0⟩
  · exact absurd rfl q.ne
def fExt (i : Nat) (a : FE) : FS := fE a fun d e1 => match d, e1[i]? with
  | .lst ys, some (.lst xs) => if xs.length + ys.length < 100000 then .nx (e1.set i (.lst (xs ++ ys))) else .er
  | _, _ => .er
theorem ss_ext {i : Nat} (h0 : K[i]? = some .ow) (h1 : K1[i]? = some .ow) (ha : SE K a fa ka K1 T) : SS z K (aExt i a) (fExt i fa) K1 Kb Kc kr k0 := fun s e m A q => by
  obtain ⟨r, e1, g1, g2⟩ := q.ex
  unfold fExt at q
  rw [g2] at q
  obtain ⟨p0, xs0, z1, _, _⟩ := m.ow1 h0
  unfold aExt
  rw [z1]
  refine ha s e r e1 m g1 _ fun l s1 k1 q1 m1 u1 => ?_
  obtain ⟨p, xs, y1, y2, y3⟩ := m1.ow1 h1
  rw [y2] at q
  rw [y1, q1]
  cases r <;> first | exact absurd rfl q.ne | skip
  rename_i ys
  simp only at q
  split at q
  · rename_i hc
    obtain ⟨w1, w2⟩ := y3 (xs ++ ys)
    exact ⟨hc, q.nx _ _ rfl w1 fun _ => (u1.r.trans w2.r).r0⟩
  · exact absurd rfl q.ne
def fPut (i : Nat) (a b : FE) : FS := fE a fun d e1 => fE b (fun dk e2 => match dk, e2[i]? with
  | .int k, some (.lst xs) => match ixN xs.length k with
    | some j => .nx (e2.set i (.lst (xs.set j d)))
    | none => .er
  | _, _ => .er) e1
theorem ss_put {i : Nat} (h1 : K1[i]? = some .ow) (h2 : K2[i]? = some .ow) (ha : SE K a fa ka K1 T1) (hb : SE K1 b fb kb K2 T2) : SS z K (aPut i a b) (fPut i fa fb) K2 Kb Kc kr k0 := fun s e m A q => by
  obtain ⟨r, e1, g1, g2⟩ := q.ex
  unfold fPut at q
  rw [g2] at q
  obtain ⟨r2, e2, g3, g4⟩ := q.ex
  rw [g4] at q
  refine ha s e r e1 m g1 _ fun l s1 k1 q1 m1 u1 => ?_
  obtain ⟨p0, xs0, z1, _, _⟩ := m1.ow1 h1
  rw [z1]
  refine hb s1 e1 r2 e2 m1 g3 _ fun l2 s2 k2 q2 m2 u2 => ?_
  obtain ⟨p, xs, y1, y2, y3⟩ := m2.ow1 h2
  rw [y2] at q
  rw [q2, y1, q1]
  cases r2 <;> first | exact absurd rfl q.ne | skip
  rename_i k
  simp only at q ⊢
  cases hj : ixN xs.length k with
  | none =>
    rw [hj] at q
    exact absurd rfl q.ne
  | some j =>
    rw [hj] at q
    obtain ⟨w1, w2⟩ := y3 (xs.set j r)
    exact q.nx _ _ rfl w1 fun _ => ((u1.r.trans u2.r).trans w2.r).r0
def fForD (g : FG) (b : FS) : List D → En → Out
  | [], e => .nx e
  | d :: ds, e => match g d e with
    | none => .er
    | some e1 => match b e1 with
      | .nx e2 => fForD g b ds e2
      | .ct e2 => fForD g b ds e2
      | .bk e2 => .nx e2
      | .rt r e2 => .rt r e2
      | .er => .er
def fFor (i : FA) (J : List Nat) (g : FG) (b : FS) : FS := fun e => match i e with
  | some x => fForD g b x.1 (fScr J x.2)
  | none => .er
theorem forD_ok {L : List Nat} {g : AG} {f : FG} (hg : SGu L Kl g f Kg) (hb : SS z Kg as fs Kl Kl Kl kr k0) : ∀ (ds : List D) (s : Ss) (e : En), Mt Kl s e → ∀ A : AEnds, Cn z s A (fForD f fs ds e) Kl Kb Kc kr k0 → aForD g as A ds s
  | [], s, e, m, A, q => q.nx e s rfl m fun _ => .refl s
  | d :: ds, s, e, m, A, q => by
    unfold aForD
    unfold fForD at q
    cases h1 : f d e with
    | none =>
      rw [h1] at q
      exact absurd rfl q.ne
    | some e1 =>
      rw [h1] at q
      refine hg d s e e1 m h1 _ fun s1 m1 u1 => ?_
      have q1 := q.mov (s1 := s1) fun _ => u1.r.r0
      refine hb s1 e1 m1 _ ?_
      cases h2 : fs e1 with
      | er =>
        simp only [h2] at q1
        exact absurd rfl q1.ne
      | nx e2 =>
        simp only [h2] at q1
        exact .ofNx fun s' m' r => forD_ok hg hb ds s' e2 m' A (q1.mov r)
      | ct e2 =>
        simp only [h2] at q1
        exact .ofCt fun s' m' r => forD_ok hg hb ds s' e2 m' A (q1.mov r)
      | bk e2 =>
        simp only [h2] at q1
        exact .ofBk fun s' m' r => q1.nx e2 s' rfl m' r
      | rt d2 e2 =>
        simp only [h2] at q1
        exact q1.toRt rfl
theorem ss_for {L J : List Nat} {i : AI} {fi : FA} {g : AG} {f : FG} (Kl : List TK) (hi : SA K i fi K1 T) (w : leKs (scrK J K1) Kl = true) (hg : SGu L Kl g f Kg) (hb : SS z Kg as fs Kl Kl Kl kr k0) : SS z K (aFor i g as) (fFor fi J f fs) Kl Kb Kc kr k0 := fun s e m A q => by
  unfold fFor at q
  cases h1 : fi e with
  | none =>
    rw [h1] at q
    exact absurd rfl q.ne
  | some x =>
    rw [h1] at q
    refine hi s e x.1 x.2 m h1 _ fun s1 m1 u1 => ?_
    exact forD_ok hg hb x.1 s1 _ ((m1.scr J).wk w) A (q.mov fun _ => u1.r.r0)
end
def K0D (n N : Nat) : List TK := List.replicate n .pu ++ List.replicate (N - n) .ju
def K0M (k : TK) (n N : Nat) : List TK := k :: (List.replicate (n - 1) .pu ++ List.replicate (N - n) .ju)
/-- a def's body at its arguments -/
def runD (n N : Nat) (f : FS) : List D → Option D := fun ds => if ds.length = n then match f (ds ++ List.replicate (N - n) .non) with
  | .rt r _ => some r
  | .nx _ => some .non
  | _ => none
  else none
/-- the same, of a def that ends by a return -/
def runR (n N : Nat) (f : FS) : List D → Option D := fun ds => if ds.length = n then match f (ds ++ List.replicate (N - n) .non) with
  | .rt r _ => some r
  | _ => none
  else none
def runMR (n N : Nat) (f : FS) : List D → Option (D × D) := fun ds => if ds.length = n then match f (ds ++ List.replicate (N - n) .non) with
  | .rt r e => (e[0]?).map fun d => (r, d)
  | _ => none
  else none
theorem mt_pus : ∀ (ds : List D) (m : Nat), Mt (List.replicate ds.length .pu ++ List.replicate m .ju) (ds.map Sl.pu ++ List.replicate m .no) (ds ++ List.replicate m .non)
  | [], m => ⟨by simp, by simp, fun i k q => by
    rw [List.length_nil, List.replicate_zero, List.nil_append, List.getElem?_replicate] at q
    split at q
    · rename_i hi
      cases q
      exact ⟨.no, by simp [List.getElem?_replicate, hi], has_ju _, by simp [List.getElem?_replicate, hi, evS]⟩
    · cases q⟩
  | d :: ds, m => by
    have h := mt_pus ds m
    refine ⟨by simp; omega, by simp; omega, fun i k q => ?_⟩
    cases i with
    | zero =>
      rw [List.length_cons, List.replicate_succ, List.cons_append, List.getElem?_cons_zero] at q
      cases q
      exact ⟨.pu d, rfl, has_pu d, by rw [ev_d (by simp), Sl.d]; rfl⟩
    | succ i =>
      rw [List.length_cons, List.replicate_succ, List.cons_append, List.getElem?_cons_succ] at q
      obtain ⟨l, g1, g2, g3⟩ := h.ix q
      exact ⟨l, by simpa using g1, g2, by simpa using g3⟩
theorem mt_start {n N : Nat} {ds : List D} (hl : ds.length = n) : Mt (K0D n N) (startS N (ds.map .pu)) (ds ++ List.replicate (N - n) .non) := by
  subst hl
  unfold K0D startS
  rw [List.length_map]
  exact mt_pus ds _
theorem mt_cons {Ks : List TK} {s : Ss} {e : En} (m : Mt Ks s e) {k : TK} {l : Sl} (h : Has k l) : Mt (k :: Ks) (l :: s) (evS k l :: e) := ⟨by rw [List.length_cons, List.length_cons, m.l1], by rw [List.length_cons, List.length_cons, m.l2], fun i k2 q => by
  cases i with
  | zero =>
    cases q
    exact ⟨l, rfl, h, rfl⟩
  | succ i => exact m.ix (i := i) q⟩
theorem mt_startM {n N : Nat} {ds : List D} {l : Sl} {k : TK} (hk : Has k l) (kj : k ≠ .ju) (hl : ds.length + 1 = n) : Mt (K0M k n N) (startS N (l :: ds.map .pu)) (l.d :: ds ++ List.replicate (N - n) .non) := by
  subst hl
  unfold K0M startS
  have := mt_cons (mt_pus ds (N - (ds.length + 1))) hk
  rw [ev_d kj] at this
  rw [Nat.add_sub_cancel, List.length_cons, List.length_map]
  exact this
section
variable {N n : Nat} {A : AS} {f : FS} {Kn Kb Kc : List TK} {kr k0 : TK}
theorem lawD (h : SS false (K0D n N) A f Kn Kb Kc kr .ju) (hk : leK .pu kr = true) : ∀ ds Q, ds.length = n → lowD kr (runD n N f) ds Q → A (endsD Q) (startS N (ds.map .pu)) := fun ds Q hl q => by
  obtain ⟨r, h1, h2⟩ := q
  unfold runD at h1
  rw [if_pos hl] at h1
  refine h _ _ (mt_start hl) _ ?_
  cases ho : f (ds ++ List.replicate (N - n) .non) with
  | er =>
    rw [ho] at h1
    cases h1
  | nx e =>
    rw [ho] at h1
    cases h1
    exact .ofNx fun s' _ _ => h2 (.pu .non) (le_has _ _ _ hk (has_pu _)) (by rw [Sl.d])
  | rt d e =>
    rw [ho] at h1
    cases h1
    exact .ofRt fun l s' g1 g2 _ _ => h2 l g1 g2
  | bk e =>
    rw [ho] at h1
    cases h1
  | ct e =>
    rw [ho] at h1
    cases h1
theorem lawR (h : SS false (K0D n N) A f Kn Kb Kc kr .ju) : ∀ ds Q, ds.length = n → lowD kr (runR n N f) ds Q → A (endsD Q) (startS N (ds.map .pu)) := fun ds Q hl q => by
  obtain ⟨r, h1, h2⟩ := q
  unfold runR at h1
  rw [if_pos hl] at h1
  refine h _ _ (mt_start hl) _ ?_
  cases ho : f (ds ++ List.replicate (N - n) .non) with
  | er =>
    rw [ho] at h1
    cases h1
  | nx e =>
    rw [ho] at h1
    cases h1
  | rt d e =>
    rw [ho] at h1
    cases h1
    exact .ofRt fun l s' g1 g2 _ _ => h2 l g1 g2
  | bk e =>
    rw [ho] at h1
    cases h1
  | ct e =>
    rw [ho] at h1
    cases h1
theorem lawMR (h : SS true (K0M .ow n N) A f Kn Kb Kc kr .ow) : ∀ xs ds Q p, ds.length + 1 = n → lowM kr (runMR n N f) xs ds Q → A (endsM Q p) (startS N (.ow p xs :: ds.map .pu)) := fun xs ds Q p hl q => by
  obtain ⟨r, d', h1, h2⟩ := q
  unfold runMR at h1
  rw [if_pos (by rw [List.length_cons, hl])] at h1
  have m := mt_startM (N := N) (has_ow p xs) (by simp) hl
  rw [Sl.d] at m
  refine h _ _ m _ ?_
  have r00 : ((startS N (Sl.ow p xs :: ds.map .pu))[0]?).bind root = some p := by unfold startS; rfl
  have rr : ∀ (s' : Ss) (p' : Addr) (ys : List D), R0 (startS N (Sl.ow p xs :: ds.map .pu)) s' → s'[0]? = some (.ow p' ys) → p' = p := fun s' p' ys r e => by
    have := r p' (by rw [e]; rfl)
    rw [r00] at this
    cases this
    rfl
  cases ho : f (.lst xs :: ds ++ List.replicate (N - n) .non) with
  | er =>
    rw [ho] at h1
    cases h1
  | nx e =>
    rw [ho] at h1
    cases h1
  | rt d e =>
    rw [ho] at h1
    obtain ⟨d2, g1, g2⟩ := ex_map h1
    cases g2
    refine .ofRt fun l s' w1 w2 w3 rz => ?_
    rcases w3 with w3 | ⟨l0, y1, y2, y3⟩
    · cases w3
    · obtain ⟨p', ys, rfl⟩ := of_ow y2
      rw [g1, Sl.d] at y3
      cases y3
      cases rr s' p' ys (rz rfl) y1
      exact ⟨ys, y1, h2 l ys w1 w2 rfl⟩
  | bk e =>
    rw [ho] at h1
    cases h1
  | ct e =>
    rw [ho] at h1
    cases h1
end
end DL
namespace DL
variable [Tabl]
open PySem L2
def subD : D → Pth → Option D
  | d, [] => some d
  | .ins c ns ds, (c', f) :: r => if c' = c then (ixF ns f).bind fun k => (ds[k]?).bind fun d => subD d r else none
  | _, _ :: _ => none
def putD : D → Pth → D → D
  | _, [], t => t
  | .ins c ns ds, (_, f) :: r, t => match ixF ns f with
    | some k => match ds[k]? with
      | some u => .ins c ns (ds.set k (putD u r t))
      | none => .ins c ns ds
    | none => .ins c ns ds
  | l, _ :: _, _ => l
def subK : TK → Pth → Option TK
  | k, [] => some k
  | .ins c ns ks, (c', f) :: r => if c' = c then (ixF ns f).bind fun k => (ks[k]?).bind fun d => subK d r else none
  | _, _ :: _ => none
def putKd : TK → Pth → TK → TK
  | _, [], t => t
  | .ins c ns ks, (_, f) :: r, t => match ixF ns f with
    | some k => match ks[k]? with
      | some u => .ins c ns (ks.set k (putKd u r t))
      | none => .ins c ns ks
    | none => .ins c ns ks
  | l, _ :: _, _ => l
theorem hasA_get : ∀ {ks : List TK} {ts : List Sl} {i : Nat} {k : TK}, HasA ks ts → ks[i]? = some k → ∃ t, ts[i]? = some t ∧ Has k t
  | [], ts, i, k, h, e => by simp at e
  | k0 :: ks, ts, 0, k, h, e => by
    unfold HasA at h
    obtain ⟨t, r, rfl, h1, h2⟩ := h
    cases e
    exact ⟨t, rfl, h1⟩
  | k0 :: ks, ts, i + 1, k, h, e => by
    unfold HasA at h
    obtain ⟨t, r, rfl, h1, h2⟩ := h
    exact hasA_get (i := i) h2 (by simpa using e)
theorem hasA_set : ∀ {ks : List TK} {ts : List Sl} {i : Nat} {k : TK} {t : Sl}, HasA ks ts → Has k t → HasA (ks.set i k) (ts.set i t)
  | [], ts, i, k, t, h, q => by
    unfold HasA at h
    subst h
    simp [HasA]
  | k0 :: ks, ts, 0, k, t, h, q => by
    unfold HasA at h
    obtain ⟨t0, r, rfl, h1, h2⟩ := h
    rw [List.set_cons_zero, List.set_cons_zero, HasA]
    exact ⟨t, r, rfl, q, h2⟩
  | k0 :: ks, ts, i + 1, k, t, h, q => by
    unfold HasA at h
    obtain ⟨t0, r, rfl, h1, h2⟩ := h
    rw [List.set_cons_succ, List.set_cons_succ, HasA]
    exact ⟨t0, _, rfl, h1, hasA_set h2 q⟩
/-- the place of a kind -/
theorem sub_has : ∀ (path : Pth) (k k' : TK) (l : Sl), subK k path = some k' → Has k l → ∃ t, subT l path = some t ∧ Has k' t ∧ subD l.d path = some t.d
  | [], k, k', l, h, q => by
    unfold subK at h
    cases h
    exact ⟨l, by unfold subT; rfl, q, by unfold subD; rfl⟩
  | (c, f) :: r, k, k', l, h, q => by
    cases k <;> first | (simp [subK] at h; done) | skip
    rename_i c2 ns ks
    unfold subK at h
    split at h
    · rename_i hc
      obtain ⟨i, h1, h'⟩ := ex_bind h
      obtain ⟨k2, h2, h3⟩ := ex_bind h'
      unfold Has at q
      obtain ⟨p, dx, ts, rfl, q⟩ := q
      obtain ⟨t, g1, g2⟩ := hasA_get q h2
      obtain ⟨t', g3, g4, g5⟩ := sub_has r k2 k' t h3 g2
      refine ⟨t', ?_, g4, ?_⟩
      · unfold subT
        rw [if_pos hc, h1]
        simp only [Option.bind_some, g1]
        exact g3
      · rw [Sl.d]
        show subD (.ins c2 ns (dsA ts)) _ = _
        unfold subD
        rw [if_pos hc, h1]
        simp only [Option.bind_some, dsA_get, g1, Option.map_some]
        exact g5
    · cases h
theorem put_has : ∀ (path : Pth) (k k' k2 : TK) (l t : Sl), subK k path = some k' → Has k l → Has k2 t → Has (putKd k path k2) (putT l path t) ∧ (putT l path t).d = putD l.d path t.d ∧ (path ≠ [] → root (putT l path t) = root l)
  | [], k, k', k2, l, t, h, q, q2 => by
    unfold putKd putT putD
    exact ⟨q2, rfl, fun h => absurd rfl h⟩
  | (c, f) :: r, k, k', k2, l, t, h, q, q2 => by
    cases k <;> first | (simp [subK] at h; done) | skip
    rename_i c2 ns ks
    unfold subK at h
    split at h
    · rename_i hc
      obtain ⟨i, h1, h'⟩ := ex_bind h
      obtain ⟨k3, h2, h3⟩ := ex_bind h'
      unfold Has at q
      obtain ⟨p, dx, ts, rfl, q⟩ := q
      obtain ⟨t0, g1, g2⟩ := hasA_get q h2
      obtain ⟨w1, w2, _⟩ := put_has r k3 k' k2 t0 t h3 g2 q2
      have e1 : putT (.nd p (.ins c2 dx ns) ts) ((c, f) :: r) t = .nd p (.ins c2 dx ns) (ts.set i (putT t0 r t)) := by
        rw [putT, h1]
        simp only [g1]
      have e2 : putKd (.ins c2 ns ks) ((c, f) :: r) k2 = .ins c2 ns (ks.set i (putKd k3 r k2)) := by
        rw [putKd, h1]
        simp only [h2]
      rw [e1, e2]
      refine ⟨?_, ?_, fun _ => rfl⟩
      · unfold Has
        exact ⟨p, dx, _, rfl, hasA_set q w1⟩
      · rw [Sl.d, Sl.d]
        show D.ins c2 ns (dsA (ts.set i (putT t0 r t))) = putD (.ins c2 ns (dsA ts)) _ _
        rw [putD, h1]
        simp only [dsA_get, g1, Option.map_some, dsA_set, w2]
    · cases h
section
variable {z : Bool} {K K1 K2 K3 Kl Kn Kb Kc Kt Ke Kg : List TK} {kr k0 : TK} {a b c : AE} {fa fb fc : FE} {ka kb kc k k' : TK} {T T1 T2 T3 : List Nat} {aa ar : AA} {faa far : FA} {s s1 : Ss} {e : En}
/-- a place of the state: from its kinds -/
theorem Mt.plc (m : Mt K s e) {i : Nat} {path : Pth} (h : K[i]? = some k) (h2 : subK k path = some k') : ∃ l t, s[i]? = some l ∧ DL.plc s i path = some t ∧ Has k l ∧ Has k' t ∧ subT l path = some t ∧ e[i]? = some (evS k l) ∧ (k ≠ .ju → subD l.d path = some t.d) := by
  obtain ⟨l, g1, g2, g3⟩ := m.ix h
  obtain ⟨t, w1, w2, w3⟩ := sub_has path k k' l h2 g2
  exact ⟨l, t, g1, by unfold DL.plc; rw [g1]; exact w1, g2, w2, w1, g3, fun _ => w3⟩
theorem setP_eq {i : Nat} {path : Pth} {l t : Sl} (h : s[i]? = some l) : setP s i path t = s.set i (putT l path t) := by
  unfold setP
  rw [h]
def fGet (i : Nat) (path : Pth) : FE := fun e => (e[i]?).bind fun d => (subD d path).map fun r => (r, e)
def fFldD (c f : Str) (a : FE) : FE := fun e => (a e).bind fun x => match x.1 with
  | .ins c' ns ds => if c' = c then (ixF ns f).bind fun k => (ds[k]?).map fun d => (d, x.2) else none
  | _ => none
def fPropD (c : Str) (F : List D → Option D) (a : FE) : FE := fun e => (a e).bind fun x => match x.1 with
  | .ins c' ns ds => if c' = c then (F [.ins c' ns ds]).map fun r => (r, x.2) else none
  | _ => none
/-- a method that may change its object, which stands at a place of a slot -/
def fMethP (n i : Nat) (path : Pth) (F : List D → Option (D × D)) (ar : FA) : FE := fun e => (ar e).bind fun y => (y.2[i]?).bind fun d => (subD d path).bind fun t => if y.1.length + 1 = n then (F (t :: y.1)).map fun r => (r.1, y.2.set i (putD d path r.2)) else none
/-- an instance is made -/
def fMake (n : Nat) (c : Str) (F : List D → Option (D × D)) (ar : FA) : FE := fun e => (ar e).bind fun y => if y.1.length + 1 = n then (F (.ins c [] [] :: y.1)).bind fun r => match r.1 with
  | .non => some (r.2, y.2)
  | _ => none
  else none
abbrev FAS := En → Option (List D × En)
/-- a field is set -/
def fldD (d : D) (f : Str) (v : D) : D := match d with
  | .ins c ns ds => match ixF ns f with
    | some k => .ins c ns (ds.set k v)
    | none => .ins c (ns ++ [f]) (ds ++ [v])
  | d => d
def gFldF (i : Nat) (path : Pth) (f : Str) : FG := fun v e => (e[i]?).bind fun d => (subD d path).bind fun t => match t with
  | .ins c ns ds => some (e.set i (putD d path (fldD (.ins c ns ds) f v)))
  | _ => none
def fTo (a : FE) (g : FG) : FS := fE a fun d e => match g d e with
  | some e1 => .nx e1
  | none => .er
def fParG (n : Nat) (a : FAS) (g : FGs) : FS := fun e => match a e with
  | some x => if x.1.length = n then match g x.1 x.2 with
    | some e1 => .nx e1
    | none => .er
    else .er
  | none => .er
def fGetD (o k f : FE) : FE := fun e => (o e).bind fun x => match x.1 with
  | .dk ks ds => (k x.2).bind fun y => (f y.2).bind fun w => (keyD y.1).bind fun kk => match ixA ks kk with
    | some j => (ds[j]?).map fun d => (d, w.2)
    | none => some (w.1, w.2)
  | _ => none
def fIxK (o k : FE) : FE := fun e => (o e).bind fun x => match x.1 with
  | .dk ks ds => (k x.2).bind fun y => (keyD y.1).bind fun kk => (ixA ks kk).bind fun j => (ds[j]?).map fun d => (d, y.2)
  | _ => none
def fInK (neg : Bool) (k o : FE) : FE := fun e => (k e).bind fun x => (o x.2).bind fun y => match y.1 with
  | .dk ks _ => (keyD x.1).map fun kk => (.bl (if neg then !(ixA ks kk).isSome else (ixA ks kk).isSome), y.2)
  | _ => none
end
end DL
namespace DL
variable [Tabl]
open PySem L2
section
variable {z : Bool} {K K1 K2 K3 Kl Kn Kb Kc Kt Ke Kg : List TK} {kr k0 : TK} {a b c : AE} {fa fb fc : FE} {ka kb kc k k' : TK} {T T1 T2 T3 : List Nat} {aa ar : AA} {faa far : FA} {s s1 : Ss} {e : En}
theorem putKd_self : ∀ (path : Pth) (k t : TK), subK k path = some t → putKd k path t = k
  | [], d, t, h => by
    unfold subK at h
    cases h
    unfold putKd
    rfl
  | (c, f) :: r, d, t, h => by
    cases d <;> first | (simp [subK] at h; done) | skip
    rename_i c2 ns ds
    unfold subK at h
    split at h
    · obtain ⟨i, h1, h'⟩ := ex_bind h
      obtain ⟨u, h2, h3⟩ := ex_bind h'
      rw [putKd, h1]
      simp only [h2]
      rw [putKd_self r u t h3, set_self h2]
    · cases h
/-- a dict of a place is replaced by one of the same kind -/
theorem Mt.putP (m : Mt K s e) {i : Nat} {path : Pth} (h : K[i]? = some k) (h2 : subK k path = some k') (hk : k ≠ .ju) (hk' : k' ≠ .ju) {l t : Sl} (hs : s[i]? = some l) (hp : subT l path = some t) {t' : Sl} (q : Has k' t') (hr : root t' = root t) :
    Mt K (setP s i path t') (e.set i (putD l.d path t'.d)) ∧ Rk s (setP s i path t') ∧ (∀ j, j ∉ [i] → (setP s i path t')[j]? = s[j]?) := by
  obtain ⟨l0, t0, y1, y2, y3, y4, y5, y6, y7⟩ := m.plc h h2
  rw [y1] at hs
  cases hs
  rw [y5] at hp
  cases hp
  obtain ⟨w1, w2, w3⟩ := put_has path k k' k' l t' h2 y3 q
  rw [putKd_self path k k' h2] at w1
  have mm := m.set (i := i) w1
  rw [ev_d hk, w2, set_self h] at mm
  rw [setP_eq y1]
  have u : Un [i] s (s.set i (putT l path t')) := un_set y1 fun p hp => by
    cases path with
    | nil =>
      unfold putT at hp
      unfold subT at y5
      cases y5
      rw [hr] at hp
      exact hp
    | cons cf r =>
      rw [w3 (by simp)] at hp
      exact hp
  exact ⟨mm, u.r, u.t⟩
def fGetO (i : Nat) (path : Pth) (k f : FE) : FE := fun e => (k e).bind fun y => (f y.2).bind fun w => (w.2[i]?).bind fun d => (subD d path).bind fun t => match t with
  | .dk ks ds => (keyD y.1).bind fun kk => match ixA ks kk with
    | some j => (ds[j]?).map fun d => (d, w.2)
    | none => some (w.1, w.2)
  | _ => none
def putKey (ks : List Key) (ds : List D) (kk : Key) (d : D) : D := match ixA ks kk with
  | some j => .dk ks (ds.set j d)
  | none => .dk (ks ++ [kk]) (ds ++ [d])
def fPutO (i : Nat) (path : Pth) (a k : FE) : FS := fE a fun d e1 => fE k (fun dk e2 => match (e2[i]?).bind fun x => subD x path, e2[i]?, keyD dk with
  | some (.dk ks ds), some x, some kk => if ks.length < 100000 then .nx (e2.set i (putD x path (putKey ks ds kk d))) else .er
  | _, _, _ => .er) e1
end
end DL
namespace DL
variable [Tabl]
open PySem L2
instance (i j : Int) : Decidable (CMul i j) := by unfold CMul; infer_instance
instance (i j : Int) : Decidable (CMulW i j) := by unfold CMulW; infer_instance
instance (i j : Int) : Decidable (CPow i j) := by unfold CPow; infer_instance
instance (i j : Int) : Decidable (CDiv i j) := by unfold CDiv; infer_instance
instance (i j : Int) : Decidable (CDivW i j) := by unfold CDivW; infer_instance
instance (i j : Int) : Decidable (CPowW i j) := by unfold CPowW; infer_instance
abbrev gAdd : D → D → Option D := gI fun i j => i + j
abbrev gSub : D → D → Option D := gI fun i j => i - j
abbrev gMul : D → D → Option D := gIC CMul fun i j => i * j
abbrev gDiv : D → D → Option D := gIC CDiv fun i j => i / j
abbrev gDivW : D → D → Option D := gIC CDivW fun i j => i / j
abbrev gMod : D → D → Option D := gIC (fun _ j => 0 < j) fun i j => i % j
abbrev gPow : D → D → Option D := gIC CPow fun i j => i ^ j.toNat
abbrev gPowW : D → D → Option D := gIC CPowW fun i j => i ^ j.toNat
abbrev gLt : D → D → Option D := gB fun i j => decide (i < j)
abbrev gLe : D → D → Option D := gB fun i j => decide (i ≤ j)
abbrev gGt : D → D → Option D := gB fun i j => decide (j < i)
abbrev gGe : D → D → Option D := gB fun i j => decide (j ≤ i)
end DL
namespace DL
variable [Tabl]
open PySem L2
/-- an equation that simp takes as a proof, not by unfolding -/
theorem nr {α : Sort _} {a b : α} (h : a = b) : a = b := h
theorem ge_0 {α : Type} {a : α} {l : List α} : (a :: l)[0]? = some a := nr rfl
theorem ge_s {α : Type} {a : α} {l : List α} {n : Nat} : (a :: l)[n + 1]? = l[n]? := nr rfl
theorem sz_0 {α : Type} {a b : α} {l : List α} : (a :: l).set 0 b = b :: l := nr rfl
theorem sz_s {α : Type} {a b : α} {l : List α} {n : Nat} : (a :: l).set (n + 1) b = a :: l.set n b := nr rfl
theorem ap_c {α : Type} {a : α} {l m : List α} : (a :: l) ++ m = a :: (l ++ m) := nr rfl
theorem ap_n {α : Type} {m : List α} : ([] : List α) ++ m = m := nr rfl
section
variable {α γ : Type} {a b c : FE} {ft fu : FT} {fa fr : FA} {fo fl fh : FO} {e e1 : En} {fs fu' fb : FS} {i j l n m : Nat} {d x y : D} {ds xs ys : List D} {g g' : D → D → Option D}
def u1 (h : α → Option γ) : Option (α × En) → Option (γ × En)
  | some (x, e) => match h x with
    | some r => some (r, e)
    | none => none
  | none => none
def pr : Option γ → En → Option (γ × En)
  | some r, e => some (r, e)
  | none, _ => none
theorem u1_some {h : α → Option γ} {x : α} : u1 h (some (x, e)) = pr (h x) e := by
  unfold u1 pr
  try simp only [Option.bind_some]
  cases h x <;> rfl
theorem pr_some {r : γ} : pr (some r) e = some (r, e) := nr rfl
theorem pr_ite {p : Prop} [Decidable p] {r s : Option γ} : pr (if p then r else s) e = if p then pr r e else pr s e := by split <;> rfl
theorem w_var : fVar i e = pr e[i]? e := by
  unfold fVar pr
  try simp only [Option.bind_some]
  cases e[i]? <;> rfl
theorem w_c : fC d e = some (d, e) := nr rfl
def mv1 (i : Nat) : Option (D × En) → Option (D × En)
  | some (x, e) => some (x, e.set i .non)
  | none => none
theorem mv1_some : mv1 i (some (d, e)) = some (d, e.set i .non) := nr rfl
theorem w_mov : fMov i e = mv1 i (pr e[i]? e) := by
  unfold fMov pr mv1
  try simp only [Option.bind_some]
  cases e[i]? <;> rfl
def op1 (g : D → D → Option D) (b : FE) : Option (D × En) → Option (D × En)
  | some (x, e) => match b e with
    | some (y, e2) => pr (g x y) e2
    | none => none
  | none => none
def op2 (g : D → D → Option D) (x : D) : Option (D × En) → Option (D × En)
  | some (y, e) => pr (g x y) e
  | none => none
theorem op1_some : op1 g b (some (x, e)) = op2 g x (b e) := by
  unfold op1 op2
  try simp only [Option.bind_some]
  all_goals (cases b e <;> rfl)
theorem op2_some : op2 g x (some (y, e)) = pr (g x y) e := nr rfl
theorem op2_ite {p : Prop} [Decidable p] {r s : Option (D × En)} : op2 g x (if p then r else s) = if p then op2 g x r else op2 g x s := by split <;> rfl
theorem op1_ite {p : Prop} [Decidable p] {r s : Option (D × En)} : op1 g b (if p then r else s) = if p then op1 g b r else op1 g b s := by split <;> rfl
theorem w_op : fOp g a b e = op1 g b (a e) := by
  unfold fOp op1 pr
  try simp only [Option.bind_some]
  cases a e with
  | none => rfl
  | some z =>
    simp only [Option.bind_some]
    try simp only [Option.bind_some]
    cases b z.2 with
    | none => rfl
    | some w =>
      simp only [Option.bind_some]
      try simp only [Option.bind_some]
      cases g z.1 w.1 <;> rfl
def hNeg : D → Option D
  | .int i => some (.int (-i))
  | _ => none
def hNot : D → Option D
  | .bl b => some (.bl (!b))
  | _ => none
theorem hNeg_int (i : Int) : hNeg (.int i) = some (.int (-i)) := nr rfl
theorem hNot_bl (b : Bool) : hNot (.bl b) = some (.bl (!b)) := nr rfl
theorem w_neg : fNeg a e = u1 hNeg (a e) := by
  unfold fNeg u1
  try simp only [Option.bind_some]
  cases a e with
  | none => rfl
  | some z =>
    obtain ⟨z1, z2⟩ := z
    cases z1 <;> rfl
theorem w_notV : fNotV a e = u1 hNot (a e) := by
  unfold fNotV u1
  try simp only [Option.bind_some]
  cases a e with
  | none => rfl
  | some z =>
    obtain ⟨z1, z2⟩ := z
    cases z1 <;> rfl
def an1 (b : FE) : Option (D × En) → Option (D × En)
  | some (.bl c, e) => if c = true then b e else some (.bl false, e)
  | _ => none
def or1 (b : FE) : Option (D × En) → Option (D × En)
  | some (.bl c, e) => if c = true then some (.bl true, e) else b e
  | _ => none
theorem an1_bl {c : Bool} : an1 b (some (.bl c, e)) = if c = true then b e else some (.bl false, e) := nr rfl
theorem or1_bl {c : Bool} : or1 b (some (.bl c, e)) = if c = true then some (.bl true, e) else b e := nr rfl
theorem w_andV : fAndV a b e = an1 b (a e) := by
  unfold fAndV an1
  try simp only [Option.bind_some]
  cases a e with
  | none => rfl
  | some z =>
    obtain ⟨z1, z2⟩ := z
    cases z1 <;> rfl
theorem w_orV : fOrV a b e = or1 b (a e) := by
  unfold fOrV or1
  try simp only [Option.bind_some]
  cases a e with
  | none => rfl
  | some z =>
    obtain ⟨z1, z2⟩ := z
    cases z1 <;> rfl
theorem an1_ite {p : Prop} [Decidable p] {r s : Option (D × En)} : an1 b (if p then r else s) = if p then an1 b r else an1 b s := by split <;> rfl
theorem or1_ite {p : Prop} [Decidable p] {r s : Option (D × En)} : or1 b (if p then r else s) = if p then or1 b r else or1 b s := by split <;> rfl
def ch1 (g g' : D → D → Option D) (b c : FE) : Option (D × En) → Option (D × En)
  | some (x, e) => match b e with
    | some (y, e2) => match g x y with
      | some (.bl t) => if t = true then op2 g' y (c e2) else some (.bl false, e2)
      | _ => none
    | none => none
  | none => none
def ch2 (g g' : D → D → Option D) (c : FE) (x : D) : Option (D × En) → Option (D × En)
  | some (y, e2) => match g x y with
      | some (.bl t) => if t = true then op2 g' y (c e2) else some (.bl false, e2)
      | _ => none
  | none => none
def ch3 (g' : D → D → Option D) (c : FE) (y : D) (e2 : En) : Option D → Option (D × En)
  | some (.bl t) => if t = true then op2 g' y (c e2) else some (.bl false, e2)
  | _ => none
theorem ch1_some : ch1 g g' b c (some (x, e)) = ch2 g g' c x (b e) := by
  unfold ch1 ch2
  try simp only [Option.bind_some]
  all_goals (cases b e <;> rfl)
theorem ch2_some : ch2 g g' c x (some (y, e)) = ch3 g' c y e (g x y) := by
  unfold ch2 ch3
  rfl
theorem ch3_bl {t : Bool} : ch3 g' c y e (some (.bl t)) = if t = true then op2 g' y (c e) else some (.bl false, e) := nr rfl
theorem w_chain : fChain g g' a b c e = ch1 g g' b c (a e) := by
  unfold fChain ch1 op2 pr
  try simp only [Option.bind_some]
  cases a e with
  | none => rfl
  | some z =>
    simp only [Option.bind_some]
    try simp only [Option.bind_some]
    cases b z.2 with
    | none => rfl
    | some w =>
      simp only [Option.bind_some]
      try simp only [Option.bind_some]
      cases g z.1 w.1 with
      | none => rfl
      | some u =>
        try simp only [Option.bind_some]
        cases u <;> first | rfl | skip
        rename_i t
        try simp only [Option.bind_some]
        cases t
        · rfl
        · simp only [Option.bind_some, if_true]
          try simp only [Option.bind_some]
          cases c w.2 with
          | none => rfl
          | some v =>
            simp only [Option.bind_some]
            try simp only [Option.bind_some]
            cases g' w.1 v.1 <;> rfl
def hTest : D → Option Bool
  | .bl b => some b
  | _ => none
theorem hTest_bl (b : Bool) : hTest (.bl b) = some b := nr rfl
theorem w_test : fTest a e = u1 hTest (a e) := by
  unfold fTest u1
  try simp only [Option.bind_some]
  cases a e with
  | none => rfl
  | some z =>
    obtain ⟨z1, z2⟩ := z
    cases z1 <;> rfl
theorem u1_ite {h : α → Option γ} {p : Prop} [Decidable p] {r s : Option (α × En)} : u1 h (if p then r else s) = if p then u1 h r else u1 h s := by split <;> rfl
def ta1 (b : FT) : Option (Bool × En) → Option (Bool × En)
  | some (c, e) => if c = true then b e else some (false, e)
  | none => none
def to1 (b : FT) : Option (Bool × En) → Option (Bool × En)
  | some (c, e) => if c = true then some (true, e) else b e
  | none => none
theorem ta1_some {t : Bool} : ta1 fu (some (t, e)) = if t = true then fu e else some (false, e) := nr rfl
theorem to1_some {t : Bool} : to1 fu (some (t, e)) = if t = true then some (true, e) else fu e := nr rfl
theorem ta1_ite {p : Prop} [Decidable p] {r s : Option (Bool × En)} : ta1 fu (if p then r else s) = if p then ta1 fu r else ta1 fu s := by split <;> rfl
theorem to1_ite {p : Prop} [Decidable p] {r s : Option (Bool × En)} : to1 fu (if p then r else s) = if p then to1 fu r else to1 fu s := by split <;> rfl
theorem w_tand : fAnd ft fu e = ta1 fu (ft e) := by
  unfold fAnd ta1
  try simp only [Option.bind_some]
  cases ft e <;> rfl
theorem w_tor : fOr ft fu e = to1 fu (ft e) := by
  unfold fOr to1
  try simp only [Option.bind_some]
  cases ft e <;> rfl
def hNotB : Bool → Option Bool := fun b => some (!b)
theorem hNotB_eq (b : Bool) : hNotB b = some (!b) := nr rfl
theorem w_not : fNot ft e = u1 hNotB (ft e) := by
  unfold fNot u1 hNotB
  try simp only [Option.bind_some]
  cases ft e <;> rfl
theorem w_yes : fYes e = some (true, e) := nr rfl
def if0 (a b : FE) : Option (Bool × En) → Option (D × En)
  | some (c, e) => if c = true then a e else b e
  | none => none
theorem if0_some {t : Bool} : if0 a b (some (t, e)) = if t = true then a e else b e := nr rfl
theorem if0_ite {p : Prop} [Decidable p] {r s : Option (Bool × En)} : if0 a b (if p then r else s) = if p then if0 a b r else if0 a b s := by split <;> rfl
theorem w_if : fIf ft a b e = if0 a b (ft e) := by
  unfold fIf if0
  try simp only [Option.bind_some]
  cases ft e <;> rfl
def hIsi (T : TyN) : D → Option D := fun d => match isi T d with
  | some b => some (.bl b)
  | none => none
theorem w_isi {T : TyN} : fIsi T a e = u1 (hIsi T) (a e) := by
  unfold fIsi u1 hIsi
  try simp only [Option.bind_some]
  cases a e with
  | none => rfl
  | some z =>
    simp only [Option.bind_some]
    try simp only [Option.bind_some]
    cases isi T z.1 <;> rfl
theorem w_nil : fNil e = some ([], e) := nr rfl
def co1 (r : FA) : Option (D × En) → Option (List D × En)
  | some (x, e) => match r e with
    | some (xs, e2) => some (x :: xs, e2)
    | none => none
  | none => none
def co2 (x : D) : Option (List D × En) → Option (List D × En)
  | some (xs, e) => some (x :: xs, e)
  | none => none
theorem co1_some : co1 fr (some (x, e)) = co2 x (fr e) := by
  unfold co1 co2
  try simp only [Option.bind_some]
  all_goals (cases fr e <;> rfl)
theorem co2_some : co2 x (some (xs, e)) = some (x :: xs, e) := nr rfl
theorem co1_ite {p : Prop} [Decidable p] {r s : Option (D × En)} : co1 fr (if p then r else s) = if p then co1 fr r else co1 fr s := by split <;> rfl
theorem co2_ite {p : Prop} [Decidable p] {r s : Option (List D × En)} : co2 x (if p then r else s) = if p then co2 x r else co2 x s := by split <;> rfl
theorem w_cons : fCons a fr e = co1 fr (a e) := by
  unfold fCons co1
  try simp only [Option.bind_some]
  cases a e with
  | none => rfl
  | some z =>
    simp only [Option.bind_some]
    try simp only [Option.bind_some]
    cases fr z.2 <;> rfl
def sr1 (r : FA) : Option (D × En) → Option (List D × En)
  | some (x, e) => match seqD x with
    | some xs => match r e with
      | some (ys, e2) => some (xs ++ ys, e2)
      | none => none
    | none => none
  | none => none
def sr2 (xs : List D) : Option (List D × En) → Option (List D × En)
  | some (ys, e) => some (xs ++ ys, e)
  | none => none
theorem sr2_some : sr2 xs (some (ys, e)) = some (xs ++ ys, e) := nr rfl
theorem sr1_t : sr1 fr (some (.tup xs, e)) = sr2 xs (fr e) := by
  unfold sr1 sr2
  simp only [sq_t]
  try simp only [Option.bind_some]
  all_goals (cases fr e <;> rfl)
theorem sr1_l : sr1 fr (some (.lst xs, e)) = sr2 xs (fr e) := by
  unfold sr1 sr2
  simp only [sq_l]
  try simp only [Option.bind_some]
  all_goals (cases fr e <;> rfl)
theorem w_star : fStar a fr e = sr1 fr (a e) := by
  unfold fStar sr1
  try simp only [Option.bind_some]
  cases a e with
  | none => rfl
  | some z =>
    simp only [Option.bind_some]
    try simp only [Option.bind_some]
    cases seqD z.1 with
    | none => rfl
    | some xs =>
      simp only [Option.bind_some]
      try simp only [Option.bind_some]
      cases fr z.2 <;> rfl
def hTup : List D → Option D := fun xs => if xs.length ≤ 100000 then some (.tup xs) else none
def hLst : List D → Option D := fun xs => if xs.length ≤ 100000 then some (.lst xs) else none
theorem hTup_eq (h : xs.length ≤ 100000) : hTup xs = some (.tup xs) := if_pos h
theorem hLst_eq (h : xs.length ≤ 100000) : hLst xs = some (.lst xs) := if_pos h
theorem hTup_nil : hTup [] = some (.tup []) := nr rfl
theorem hLst_nil : hLst [] = some (.lst []) := nr rfl
theorem hTup_1 (a : D) : hTup [a] = some (.tup [a]) := nr rfl
theorem hTup_2 (a b : D) : hTup [a, b] = some (.tup [a, b]) := nr rfl
theorem hTup_3 (a b c : D) : hTup [a, b, c] = some (.tup [a, b, c]) := nr rfl
theorem hTup_4 (a b c d : D) : hTup [a, b, c, d] = some (.tup [a, b, c, d]) := nr rfl
theorem hTup_5 (a b c d f : D) : hTup [a, b, c, d, f] = some (.tup [a, b, c, d, f]) := nr rfl
theorem hLst_1 (a : D) : hLst [a] = some (.lst [a]) := nr rfl
theorem hLst_2 (a b : D) : hLst [a, b] = some (.lst [a, b]) := nr rfl
theorem hLst_3 (a b c : D) : hLst [a, b, c] = some (.lst [a, b, c]) := nr rfl
theorem hLst_4 (a b c d : D) : hLst [a, b, c, d] = some (.lst [a, b, c, d]) := nr rfl
theorem hLst_5 (a b c d f : D) : hLst [a, b, c, d, f] = some (.lst [a, b, c, d, f]) := nr rfl
theorem hLst_6 (a b c d f g : D) : hLst [a, b, c, d, f, g] = some (.lst [a, b, c, d, f, g]) := nr rfl
theorem w_tup : fTup fa e = u1 hTup (fa e) := by
  unfold fTup u1 hTup
  try simp only [Option.bind_some]
  cases fa e with
  | none => rfl
  | some z =>
    simp only [Option.bind_some]
    split <;> rfl
theorem w_lst : fLst fa e = u1 hLst (fa e) := by
  unfold fLst u1 hLst
  try simp only [Option.bind_some]
  cases fa e with
  | none => rfl
  | some z =>
    simp only [Option.bind_some]
    split <;> rfl
theorem w_call {f : List D → Option D} : fCall f fa e = u1 f (fa e) := by
  unfold fCall u1
  try simp only [Option.bind_some]
  cases fa e with
  | none => rfl
  | some z =>
    simp only [Option.bind_some]
    try simp only [Option.bind_some]
    cases f z.1 <;> rfl
theorem w_noP : fNoP e = some (none, e) := nr rfl
def hPart : D → Option (Option Int)
  | .int i => some (some i)
  | _ => none
theorem hPart_int (i : Int) : hPart (.int i) = some (some i) := nr rfl
theorem w_part : fPart a e = u1 hPart (a e) := by
  unfold fPart u1
  try simp only [Option.bind_some]
  cases a e with
  | none => rfl
  | some z =>
    obtain ⟨z1, z2⟩ := z
    cases z1 <;> rfl
def sl1 (h : D → Option Int → Option Int → Option D) (l u : FO) : Option (D × En) → Option (D × En)
  | some (x, e) => match l e with
    | some (lo, e2) => match u e2 with
      | some (hi, e3) => pr (h x lo hi) e3
      | none => none
    | none => none
  | none => none
def sl2 (h : D → Option Int → Option Int → Option D) (u : FO) (x : D) : Option (Option Int × En) → Option (D × En)
  | some (lo, e2) => match u e2 with
      | some (hi, e3) => pr (h x lo hi) e3
      | none => none
  | none => none
def sl3 (h : D → Option Int → Option Int → Option D) (x : D) (lo : Option Int) : Option (Option Int × En) → Option (D × En)
  | some (hi, e3) => pr (h x lo hi) e3
  | none => none
theorem sl1_some {h : D → Option Int → Option Int → Option D} : sl1 h fl fh (some (x, e)) = sl2 h fh x (fl e) := by
  unfold sl1 sl2
  try simp only [Option.bind_some]
  all_goals (cases fl e <;> rfl)
theorem sl2_some {h : D → Option Int → Option Int → Option D} {lo : Option Int} : sl2 h fh x (some (lo, e)) = sl3 h x lo (fh e) := by
  unfold sl2 sl3
  try simp only [Option.bind_some]
  all_goals (cases fh e <;> rfl)
theorem sl3_some {h : D → Option Int → Option Int → Option D} {lo hi : Option Int} : sl3 h x lo (some (hi, e)) = pr (h x lo hi) e := nr rfl
def hSlL : D → Option Int → Option Int → Option D := fun x lo hi => match lstD x with
  | some xs => some (.lst (cutD xs lo hi))
  | none => none
def hSlT : D → Option Int → Option Int → Option D := fun x lo hi => match tupD x with
  | some xs => some (.tup (cutD xs lo hi))
  | none => none
theorem hSlL_l {lo hi : Option Int} : hSlL (.lst xs) lo hi = some (.lst (cutD xs lo hi)) := nr rfl
theorem hSlL_s {lo hi : Option Int} : hSlL (.scr xs) lo hi = some (.lst (cutD xs lo hi)) := nr rfl
theorem hSlT_t {lo hi : Option Int} : hSlT (.tup xs) lo hi = some (.tup (cutD xs lo hi)) := nr rfl
theorem w_slL : fSlL a fl fh e = sl1 hSlL fl fh (a e) := by
  unfold fSlL sl1 hSlL pr
  try simp only [Option.bind_some]
  cases a e with
  | none => rfl
  | some z =>
    simp only [Option.bind_some]
    try simp only [Option.bind_some]
    cases fl z.2 with
    | none => rfl
    | some w =>
      simp only [Option.bind_some]
      try simp only [Option.bind_some]
      cases fh w.2 with
      | none => rfl
      | some v =>
        simp only [Option.bind_some]
        try simp only [Option.bind_some]
        cases lstD z.1 <;> rfl
theorem w_slT : fSlT a fl fh e = sl1 hSlT fl fh (a e) := by
  unfold fSlT sl1 hSlT pr
  try simp only [Option.bind_some]
  cases a e with
  | none => rfl
  | some z =>
    simp only [Option.bind_some]
    try simp only [Option.bind_some]
    cases fl z.2 with
    | none => rfl
    | some w =>
      simp only [Option.bind_some]
      try simp only [Option.bind_some]
      cases fh w.2 with
      | none => rfl
      | some v =>
        simp only [Option.bind_some]
        try simp only [Option.bind_some]
        cases tupD z.1 <;> rfl
def hRevL : D → Option D := fun x => match lstD x with
  | some xs => some (.lst xs.reverse)
  | none => none
theorem hRevL_l : hRevL (.lst xs) = some (.lst xs.reverse) := nr rfl
theorem w_revL : fRevL a e = u1 hRevL (a e) := by
  unfold fRevL u1 hRevL
  try simp only [Option.bind_some]
  cases a e with
  | none => rfl
  | some z =>
    simp only [Option.bind_some]
    try simp only [Option.bind_some]
    cases lstD z.1 <;> rfl
def m11 (h : Str → D → Option D) (b : FE) : Option (D × En) → Option (D × En)
  | some (x, e) => match b e with
    | some (y, e2) => match x with
      | .str z => pr (h z y) e2
      | _ => none
    | none => none
  | none => none
def m12 (h : Str → D → Option D) (z : Str) : Option (D × En) → Option (D × En)
  | some (y, e2) => pr (h z y) e2
  | none => none
theorem m11_str {h : Str → D → Option D} {z : Str} : m11 h b (some (.str z, e)) = m12 h z (b e) := by
  unfold m11 m12
  try simp only [Option.bind_some]
  all_goals (cases b e <;> rfl)
theorem m12_some {h : Str → D → Option D} {z : Str} : m12 h z (some (y, e)) = pr (h z y) e := nr rfl
theorem w_m1 {h : Str → D → Option D} : fM1 h a b e = m11 h b (a e) := by
  unfold fM1 m11 pr
  rcases a e with _ | ⟨z1, z2⟩
  · rfl
  · simp only [Option.bind_some]
    rcases hb : b z2 with _ | ⟨w1, w2⟩
    · rfl
    · cases z1 <;> first | rfl | skip
      rename_i z
      simp only [Option.bind_some]
      try simp only [Option.bind_some]
      cases h z w1 <;> rfl
def io1 (i : Nat) : Option (D × En) → Option (D × En)
  | some (.int k, e) => match e[i]? with
    | some (.lst xs) => pr (atI xs k) e
    | _ => none
  | _ => none
def io2 (k : Int) (e : En) : Option D → Option (D × En)
  | some (.lst xs) => pr (atI xs k) e
  | _ => none
theorem io1_int {k : Int} : io1 i (some (.int k, e)) = io2 k e e[i]? := by
  unfold io1 io2
  rfl
theorem io2_lst {k : Int} : io2 k e (some (.lst xs)) = pr (atI xs k) e := nr rfl
theorem w_ixO : fIxO i b e = io1 i (b e) := by
  unfold fIxO io1 pr
  rcases b e with _ | ⟨z1, z2⟩
  · rfl
  · simp only [Option.bind_some]
    cases z1 <;> simp only <;> generalize z2[i]? = o <;> rcases o with _ | w <;> first | rfl | skip
    all_goals
      cases w <;> first | rfl | skip
      simp only [Option.bind_some]
      rename_i k xs
      try simp only [Option.bind_some]
      cases atI xs k <;> rfl
def bo1 (f : List D → Option D) (e : En) : Option D → Option (D × En)
  | some d => match f [d] with
    | some r => if flatD r = true then some (r, e) else none
    | none => none
  | none => none
def bo2 (e : En) : Option D → Option (D × En)
  | some r => if flatD r = true then some (r, e) else none
  | none => none
theorem bo1_some {f : List D → Option D} : bo1 f e (some d) = bo2 e (f [d]) := by
  unfold bo1 bo2
  rfl
theorem bo2_int {k : Int} : bo2 e (some (.int k)) = some (.int k, e) := nr rfl
theorem bo2_bl {k : Bool} : bo2 e (some (.bl k)) = some (.bl k, e) := nr rfl
theorem w_bor {f : List D → Option D} : fBor f i e = bo1 f e e[i]? := by
  unfold fBor bo1
  try simp only [Option.bind_some]
  cases e[i]? with
  | none => rfl
  | some z =>
    simp only [Option.bind_some]
    try simp only [Option.bind_some]
    cases f [z] <;> rfl
def ib1 (neg : Bool) (i : Nat) : Option (D × En) → Option (D × En)
  | some (x, e) => match e[i]? with
    | some (.lst xs) => if flatD x = true ∧ xs.all flatD = true then some (.bl (if neg then !inF x xs else inF x xs), e) else none
    | _ => none
  | none => none
def ib2 (neg : Bool) (x : D) (e : En) : Option D → Option (D × En)
  | some (.lst xs) => if flatD x = true ∧ xs.all flatD = true then some (.bl (if neg then !inF x xs else inF x xs), e) else none
  | _ => none
theorem ib1_some {neg : Bool} : ib1 neg i (some (x, e)) = ib2 neg x e e[i]? := by
  unfold ib1 ib2
  rfl
theorem w_inB {neg : Bool} : fInB neg a i e = ib1 neg i (a e) := by
  unfold fInB ib1
  try simp only [Option.bind_some]
  cases a e with
  | none => rfl
  | some z =>
    simp only [Option.bind_some]
    try simp only [Option.bind_some]
    cases z.2[i]? with
    | none => rfl
    | some w => cases w <;> rfl
def po1 (i : Nat) : Option (D × En) → Option (D × En)
  | some (.int j, e) => match e[i]? with
    | some (.lst xs) => if 0 ≤ j ∧ j < xs.length ∧ xs.length ≤ 100000 then (xs[j.toNat]?).map fun r => (r, e.set i (.lst (xs.eraseIdx j.toNat))) else none
    | _ => none
  | _ => none
theorem w_popAt : fPopAt i a e = po1 i (a e) := by
  unfold fPopAt po1
  rcases a e with _ | ⟨z1, z2⟩
  · rfl
  · simp only [Option.bind_some]
    cases z1 <;> simp only <;> generalize z2[i]? = o <;> rcases o with _ | w <;> first | rfl | skip
    all_goals
      cases w <;> rfl
def hLr1 : List D → Option D := fun ds => match ds with
  | [.int j] => if 0 ≤ j ∧ j ≤ 16777216 then some (.lst (rngD 0 j.toNat)) else none
  | _ => none
def hLr2 : List D → Option D := fun ds => match ds with
  | [.int i, .int j] => if RgOk i j then some (.lst (rngD i (j - i).toNat)) else none
  | _ => none
theorem hLr1_eq {j : Int} (h0 : 0 ≤ j) (h1 : j ≤ 16777216) : hLr1 [.int j] = some (.lst (rngD 0 j.toNat)) := if_pos ⟨h0, h1⟩
theorem w_lr1 : fListRange1 fa e = u1 hLr1 (fa e) := by
  unfold fListRange1 u1 hLr1
  rcases fa e with _ | ⟨z1, z2⟩
  · rfl
  · simp only [Option.bind_some]
    rcases z1 with _ | ⟨d, _ | ⟨d2, r⟩⟩ <;> (try rfl) <;> cases d <;> (try rfl)
    all_goals
      simp only
      split <;> rfl
theorem w_lr2 : fListRange2 fa e = u1 hLr2 (fa e) := by
  unfold fListRange2 u1 hLr2
  rcases fa e with _ | ⟨z1, z2⟩
  · rfl
  · simp only [Option.bind_some]
    rcases z1 with _ | ⟨d, _ | ⟨d2, _ | ⟨d3, r⟩⟩⟩ <;> (try rfl) <;> cases d <;> (try rfl) <;> cases d2 <;> (try rfl)
    all_goals
      simp only
      split <;> rfl
def hLsT : D → Option D := fun d => match d with
  | .tup ds => (intsD ds).bind fun ns => if ns.length ≤ 4000 then some (.int (dedup ns).length) else none
  | _ => none
def hLsL : D → Option D := fun d => match d with
  | .lst ds => (intsD ds).bind fun ns => if ns.length ≤ 4000 then some (.int (dedup ns).length) else none
  | _ => none
theorem hLsT_eq {ns : List Int} (h : ns.length ≤ 4000) : hLsT (tupI ns) = some (.int (dedup ns).length) := by
  unfold hLsT
  simp only [intsD_map, Option.bind_some]
  rw [if_pos h]
theorem hLsL_eq {ns : List Int} (h : ns.length ≤ 4000) : hLsL (lstI ns) = some (.int (dedup ns).length) := by
  unfold hLsL
  simp only [intsD_map, Option.bind_some]
  rw [if_pos h]
theorem w_lsT : fLenSetT a e = u1 hLsT (a e) := by
  unfold fLenSetT u1 hLsT
  try simp only [Option.bind_some]
  cases a e with
  | none => rfl
  | some z =>
    obtain ⟨z1, z2⟩ := z
    cases z1 <;> first | rfl | skip
    simp only [Option.bind_some]
    try simp only [Option.bind_some]
    cases intsD _ with
    | none => rfl
    | some ns =>
      simp only [Option.bind_some]
      split <;> rfl
theorem w_lsL : fLenSetL a e = u1 hLsL (a e) := by
  unfold fLenSetL u1 hLsL
  try simp only [Option.bind_some]
  cases a e with
  | none => rfl
  | some z =>
    obtain ⟨z1, z2⟩ := z
    cases z1 <;> first | rfl | skip
    simp only [Option.bind_some]
    try simp only [Option.bind_some]
    cases intsD _ with
    | none => rfl
    | some ns =>
      simp only [Option.bind_some]
      split <;> rfl
def cm1 (n j : Nat) (F : List D → Option (D × D)) : Option (List D × En) → Option (D × En)
  | some (ds, e) => match e[j]? with
    | some d => if ds.length + 1 = n then (F (d :: ds)).bind fun y => match y.2 with
      | .lst ys => some (y.1, e.set j (.lst ys))
      | _ => none
      else none
    | none => none
  | none => none
def cm2 (j : Nat) (e : En) : Option (D × D) → Option (D × En)
  | some (r, .lst ys) => some (r, e.set j (.lst ys))
  | _ => none
theorem cm2_some {r : D} : cm2 j e (some (r, .lst ys)) = some (r, e.set j (.lst ys)) := nr rfl
def cm3 (n j : Nat) (F : List D → Option (D × D)) (ds : List D) (e : En) : Option D → Option (D × En)
  | some d => if ds.length + 1 = n then cm2 j e (F (d :: ds)) else none
  | none => none
theorem cm1_some {F : List D → Option (D × D)} : cm1 n j F (some (ds, e)) = cm3 n j F ds e e[j]? := by
  unfold cm1 cm3 cm2
  simp only
  cases e[j]? with
  | none => rfl
  | some d =>
    simp only
    split
    · rcases F (d :: ds) with _ | ⟨z1, z2⟩
      · rfl
      · cases z2 <;> rfl
    · rfl
theorem cm3_1 {F : List D → Option (D × D)} : cm3 1 j F [] e (some d) = cm2 j e (F [d]) := nr rfl
theorem cm3_2 {F : List D → Option (D × D)} : cm3 2 j F [x] e (some d) = cm2 j e (F [d, x]) := nr rfl
theorem cm3_3 {F : List D → Option (D × D)} : cm3 3 j F [x, y] e (some d) = cm2 j e (F [d, x, y]) := nr rfl
theorem cm3_4 {F : List D → Option (D × D)} {z : D} : cm3 4 j F [x, y, z] e (some d) = cm2 j e (F [d, x, y, z]) := nr rfl
theorem cm3_5 {F : List D → Option (D × D)} {z w : D} : cm3 5 j F [x, y, z, w] e (some d) = cm2 j e (F [d, x, y, z, w]) := nr rfl
theorem w_callM {F : List D → Option (D × D)} : fCallM n j F fa e = cm1 n j F (fa e) := by
  unfold fCallM cm1
  try simp only [Option.bind_some]
  cases fa e with
  | none => rfl
  | some z =>
    simp only [Option.bind_some]
    try simp only [Option.bind_some]
    cases z.2[j]? <;> rfl
def ct1 (n : Nat) (F : List D → Option (D × D)) (x : D) : Option (List D × En) → Option (D × En)
  | some (ds, e) => if ds.length + 1 = n then match F (x :: ds) with
    | some (r, .lst _) => some (r, e)
    | _ => none
    else none
  | none => none
def ct0 (n : Nat) (F : List D → Option (D × D)) (r : FA) : Option (D × En) → Option (D × En)
  | some (x, e) => ct1 n F x (r e)
  | none => none
def ct2 (e : En) : Option (D × D) → Option (D × En)
  | some (r, .lst _) => some (r, e)
  | _ => none
theorem ct2_some {r : D} : ct2 e (some (r, .lst ys)) = some (r, e) := nr rfl
theorem ct0_some {F : List D → Option (D × D)} : ct0 n F fr (some (x, e)) = ct1 n F x (fr e) := nr rfl
theorem ct1_1 {F : List D → Option (D × D)} : ct1 1 F x (some ([], e)) = ct2 e (F [x]) := nr rfl
theorem ct1_2 {F : List D → Option (D × D)} : ct1 2 F x (some ([d], e)) = ct2 e (F [x, d]) := nr rfl
theorem ct1_3 {F : List D → Option (D × D)} : ct1 3 F x (some ([d, y], e)) = ct2 e (F [x, d, y]) := nr rfl
theorem w_callT {F : List D → Option (D × D)} : fCallT n F a fr e = ct0 n F fr (a e) := by
  unfold fCallT ct0 ct1
  rcases a e with _ | ⟨z1, z2⟩
  · rfl
  · simp only [Option.bind_some]
    rcases fr z2 with _ | ⟨w1, w2⟩
    · rfl
    · simp only [Option.bind_some]
      split
      · rcases F (z1 :: w1) with _ | ⟨v1, v2⟩
        · rfl
        · cases v2 <;> rfl
      · rfl
theorem gFn_1 {F : List D → Option D} : gFn 1 F [x] = F [x] := nr rfl
theorem gFn_2 {F : List D → Option D} : gFn 2 F [x, y] = F [x, y] := nr rfl
theorem gFn_3 {F : List D → Option D} {z : D} : gFn 3 F [x, y, z] = F [x, y, z] := nr rfl
theorem gFn_4 {F : List D → Option D} {z w : D} : gFn 4 F [x, y, z, w] = F [x, y, z, w] := nr rfl
theorem gFn_5 {F : List D → Option D} {z w v : D} : gFn 5 F [x, y, z, w, v] = F [x, y, z, w, v] := nr rfl
theorem gFn_6 {F : List D → Option D} {z w v u : D} : gFn 6 F [x, y, z, w, v, u] = F [x, y, z, w, v, u] := nr rfl
def ck1 (n m : Nat) (ix : List Nat) (F : List D → Option D) : List D → Option D := fun ds => if ds.length = m then gFn n F (ix.filterMap (fun i => ds[i]?)) else none
theorem w_callK {ix : List Nat} {F : List D → Option D} : fCallK n m ix F fa e = u1 (ck1 n m ix F) (fa e) := by
  unfold fCallK u1 ck1
  try simp only [Option.bind_some]
  cases fa e with
  | none => rfl
  | some z =>
    simp only [Option.bind_some]
    split
    · cases gFn n F _ <;> rfl
    · rfl
theorem ck1_1 {F : List D → Option D} : ck1 1 1 [0] F [x] = F [x] := nr rfl
theorem ck1_2 {F : List D → Option D} : ck1 2 2 [1, 0] F [x, y] = F [y, x] := nr rfl
theorem ck1_2' {F : List D → Option D} : ck1 2 2 [0, 1] F [x, y] = F [x, y] := nr rfl
def hItL : D → Option (List D)
  | .lst ds => some ds
  | .scr ds => some ds
  | _ => none
def hItT : D → Option (List D)
  | .tup ds => some ds
  | _ => none
def hItS : D → Option (List D)
  | .str z => some (z.cps.toList.map fun c => D.str ⟨#[c]⟩)
  | _ => none
theorem hItL_l : hItL (.lst ds) = some ds := nr rfl
theorem hItL_s : hItL (.scr ds) = some ds := nr rfl
theorem hItT_t : hItT (.tup ds) = some ds := nr rfl
theorem hItS_s {z : Str} : hItS (.str z) = some (z.cps.toList.map fun c => D.str ⟨#[c]⟩) := nr rfl
theorem w_itL : fItL a e = u1 hItL (a e) := by
  unfold fItL u1
  try simp only [Option.bind_some]
  cases a e with
  | none => rfl
  | some z =>
    obtain ⟨z1, z2⟩ := z
    cases z1 <;> rfl
theorem w_itT : fItT a e = u1 hItT (a e) := by
  unfold fItT u1
  try simp only [Option.bind_some]
  cases a e with
  | none => rfl
  | some z =>
    obtain ⟨z1, z2⟩ := z
    cases z1 <;> rfl
theorem w_itS : fItS a e = u1 hItS (a e) := by
  unfold fItS u1
  try simp only [Option.bind_some]
  cases a e with
  | none => rfl
  | some z =>
    obtain ⟨z1, z2⟩ := z
    cases z1 <;> rfl
def hRng1 : List D → Option (List D) := fun ds => match ds with
  | [.int j] => if -(2 ^ 62) ≤ j ∧ j < 2 ^ 62 then some (rngD 0 j.toNat) else none
  | _ => none
def hRng2 : List D → Option (List D) := fun ds => match ds with
  | [.int i, .int j] => if -(2 ^ 62) ≤ i ∧ i < 2 ^ 62 ∧ -(2 ^ 62) ≤ j ∧ j < 2 ^ 62 then some (rngD i (j - i).toNat) else none
  | _ => none
theorem hRng1_eq {j : Int} (h0 : -4611686018427387904 ≤ j) (h1 : j < 4611686018427387904) : hRng1 [.int j] = some (rngD 0 j.toNat) := by
  unfold hRng1
  exact if_pos ⟨by omega, by omega⟩
theorem hRng1_nat {j : Nat} (h1 : j < 4611686018427387904) : hRng1 [.int (j : Int)] = some (rngD 0 j) := by
  unfold hRng1
  exact if_pos ⟨by omega, by omega⟩
theorem hRng2_eq {i j : Int} (h0 : -4611686018427387904 ≤ i) (h1 : i < 4611686018427387904) (h2 : -4611686018427387904 ≤ j) (h3 : j < 4611686018427387904) : hRng2 [.int i, .int j] = some (rngD i (j - i).toNat) := by
  unfold hRng2
  exact if_pos ⟨by omega, by omega, by omega, by omega⟩
theorem w_rng1 : fRng1 fa e = u1 hRng1 (fa e) := by
  unfold fRng1 u1 hRng1
  rcases fa e with _ | ⟨z1, z2⟩
  · rfl
  · simp only [Option.bind_some]
    rcases z1 with _ | ⟨d, _ | ⟨d2, r⟩⟩ <;> (try rfl) <;> cases d <;> (try rfl)
    all_goals
      simp only
      split <;> rfl
theorem w_rng2 : fRng2 fa e = u1 hRng2 (fa e) := by
  unfold fRng2 u1 hRng2
  rcases fa e with _ | ⟨z1, z2⟩
  · rfl
  · simp only [Option.bind_some]
    rcases z1 with _ | ⟨d, _ | ⟨d2, _ | ⟨d3, r⟩⟩⟩ <;> (try rfl) <;> cases d <;> (try rfl) <;> cases d2 <;> (try rfl)
    all_goals
      simp only
      split <;> rfl
def hEnT : List D → Option (List D)
  | [.tup es] => some (enumD es)
  | _ => none
def hEnL : List D → Option (List D) := fun ds => match ds with
  | [d] => match lstD d with
    | some es => some (enumD es)
    | none => none
  | _ => none
theorem hEnT_t : hEnT [.tup ds] = some (enumD ds) := nr rfl
theorem hEnL_l : hEnL [.lst ds] = some (enumD ds) := nr rfl
theorem w_enT : fItEnT fa e = u1 hEnT (fa e) := by
  unfold fItEnT u1 hEnT
  rcases fa e with _ | ⟨z1, z2⟩
  · rfl
  · simp only [Option.bind_some]
    rcases z1 with _ | ⟨d, _ | ⟨d2, r⟩⟩ <;> (try rfl) <;> cases d <;> rfl
theorem w_enL : fItEnL fa e = u1 hEnL (fa e) := by
  unfold fItEnL u1 hEnL
  rcases fa e with _ | ⟨z1, z2⟩
  · rfl
  · simp only [Option.bind_some]
    rcases z1 with _ | ⟨d, _ | ⟨d2, r⟩⟩ <;> try rfl
    simp only
    cases lstD d <;> rfl
theorem gZip_tt : gZip [.tup xs, .tup ys] = some (zipD xs ys) := nr rfl
theorem gZip_ll : gZip [.lst xs, .lst ys] = some (zipD xs ys) := nr rfl
theorem w_zip : fItZip fa e = u1 gZip (fa e) := by
  unfold fItZip u1
  try simp only [Option.bind_some]
  cases fa e with
  | none => rfl
  | some z =>
    simp only [Option.bind_some]
    try simp only [Option.bind_some]
    cases gZip z.1 <;> rfl
def hZipX (k1 k2 : Bool) : List D → Option (List D) := fun ds => match ds with
  | [d, f] => (sqD k1 d).bind fun xs => (sqD k2 f).map fun ys => zipD xs ys
  | _ => none
theorem hZipX_tl : hZipX true false [.tup xs, .lst ys] = some (zipD xs ys) := nr rfl
theorem hZipX_lt : hZipX false true [.lst xs, .tup ys] = some (zipD xs ys) := nr rfl
theorem w_zipX {k1 k2 : Bool} : fItZipX k1 k2 fa e = u1 (hZipX k1 k2) (fa e) := by
  unfold fItZipX u1 hZipX
  rcases fa e with _ | ⟨z1, z2⟩
  · rfl
  · simp only [Option.bind_some]
    rcases z1 with _ | ⟨d, _ | ⟨d2, _ | ⟨d3, r⟩⟩⟩ <;> try rfl
    simp only
    cases sqD k1 d with
    | none => rfl
    | some xs =>
      simp only [Option.bind_some]
      cases sqD k2 d2 <;> rfl
variable {tg : FG} {tgs : FGs}
theorem w_name : gName i d e = some (e.set i d) := nr rfl
theorem w_gnil : gNil [] e = some e := nr rfl
def gc1 (r : FGs) (ds : List D) : Option En → Option En
  | some e => r ds e
  | none => none
theorem gc1_some : gc1 tgs ds (some e) = tgs ds e := nr rfl
theorem w_gcons : gCons tg tgs (d :: ds) e = gc1 tgs ds (tg d e) := by
  unfold gCons gc1
  simp only
  try simp only [Option.bind_some]
  cases tg d e <;> rfl
theorem w_gtup : gTup tgs (.tup ds) e = tgs ds e := nr rfl
def lc1 (g : FG) (t : FT) (el : FE) (vs : List Nat) : Option (List D × En) → Option (D × En)
  | some (ds, e) => match fLcD g t el vs ds (fScr vs e) [] with
    | some (acc, e2) => some (.lst acc, e2)
    | none => none
  | none => none
def lc2 : Option (List D × En) → Option (D × En)
  | some (acc, e2) => some (.lst acc, e2)
  | none => none
theorem lc2_some : lc2 (some (xs, e)) = some (.lst xs, e) := nr rfl
theorem lc1_some {vs : List Nat} : lc1 tg ft a vs (some (ds, e)) = lc2 (fLcD tg ft a vs ds (fScr vs e) []) := by
  unfold lc1 lc2
  rfl
theorem w_lc {vs : List Nat} : fLc fa tg ft a vs e = lc1 tg ft a vs (fa e) := by
  unfold fLc lc1
  try simp only [Option.bind_some]
  cases fa e with
  | none => rfl
  | some z =>
    simp only [Option.bind_some]
    try simp only [Option.bind_some]
    cases fLcD tg ft a vs z.1 (fScr vs z.2) [] <;> rfl
theorem scr_nil : fScr [] e = e := nr rfl
theorem scr_cons {v : Nat} {vs : List Nat} : fScr (v :: vs) e = (fScr vs e).set v .non := nr rfl
def sq (b : FS) : Out → Out
  | .nx e => b e
  | o => o
theorem sq_nx : sq fb (.nx e) = fb e := nr rfl
theorem sq_rt : sq fb (.rt d e) = .rt d e := nr rfl
theorem sq_bk : sq fb (.bk e) = .bk e := nr rfl
theorem sq_ct : sq fb (.ct e) = .ct e := nr rfl
theorem sq_er : sq fb .er = .er := nr rfl
theorem sq_ite {p : Prop} [Decidable p] {r s : Out} : sq fb (if p then r else s) = if p then sq fb r else sq fb s := by split <;> rfl
theorem w_seq : fSeq fs fb e = sq fb (fs e) := by
  unfold fSeq sq
  rfl
def wk1 (J : List Nat) : Out → Out
  | .nx e => .nx (fScr J e)
  | o => o
theorem wk1_nx {J : List Nat} : wk1 J (.nx e) = .nx (fScr J e) := nr rfl
theorem wk1_rt {J : List Nat} : wk1 J (.rt d e) = .rt d e := nr rfl
theorem wk1_bk {J : List Nat} : wk1 J (.bk e) = .bk e := nr rfl
theorem wk1_ct {J : List Nat} : wk1 J (.ct e) = .ct e := nr rfl
theorem wk1_er {J : List Nat} : wk1 J .er = .er := nr rfl
theorem wk1_ite {J : List Nat} {p : Prop} [Decidable p] {r s : Out} : wk1 J (if p then r else s) = if p then wk1 J r else wk1 J s := by split <;> rfl
theorem w_wk {J : List Nat} : fWk J fs e = wk1 J (fs e) := by
  unfold fWk wk1
  rfl
theorem w_next : fNext e = .nx e := nr rfl
theorem w_nev : fNev e = .er := nr rfl
theorem w_brk {J : List Nat} : fBrk J e = .bk (fScr J e) := nr rfl
theorem w_cnt {J : List Nat} : fCnt J e = .ct (fScr J e) := nr rfl
theorem w_retN : fRetN e = .rt .non e := nr rfl
def rt1 : Option (D × En) → Out
  | some (d, e) => .rt d e
  | none => .er
def dr1 : Option (D × En) → Out
  | some (_, e) => .nx e
  | none => .er
def se1 (i : Nat) : Option (D × En) → Out
  | some (d, e) => .nx (e.set i d)
  | none => .er
theorem rt1_some : rt1 (some (d, e)) = .rt d e := nr rfl
theorem dr1_some : dr1 (some (d, e)) = .nx e := nr rfl
theorem se1_some : se1 i (some (d, e)) = .nx (e.set i d) := nr rfl
theorem rt1_ite {p : Prop} [Decidable p] {r s : Option (D × En)} : rt1 (if p then r else s) = if p then rt1 r else rt1 s := by split <;> rfl
theorem se1_ite {p : Prop} [Decidable p] {r s : Option (D × En)} : se1 i (if p then r else s) = if p then se1 i r else se1 i s := by split <;> rfl
theorem w_ret : fRet a e = rt1 (a e) := by
  unfold fRet fE rt1
  try simp only [Option.bind_some]
  cases a e <;> rfl
theorem w_drop : fDrop a e = dr1 (a e) := by
  unfold fDrop fE dr1
  try simp only [Option.bind_some]
  cases a e <;> rfl
theorem w_set : fSet i a e = se1 i (a e) := by
  unfold fSet fE se1
  try simp only [Option.bind_some]
  cases a e <;> rfl
def if1 (a b : FS) : Option (Bool × En) → Out
  | some (t, e) => if t = true then a e else b e
  | none => .er
theorem if1_some {t : Bool} : if1 fs fb (some (t, e)) = if t = true then fs e else fb e := nr rfl
theorem if1_ite {p : Prop} [Decidable p] {r s : Option (Bool × En)} : if1 fs fb (if p then r else s) = if p then if1 fs fb r else if1 fs fb s := by split <;> rfl
theorem w_ifS : fIfS ft fs fb e = if1 fs fb (ft e) := by
  unfold fIfS if1
  try simp only [Option.bind_some]
  cases ft e <;> rfl
def nx1 : Option En → Out
  | some e => .nx e
  | none => .er
def as1 (g : FG) : Option (D × En) → Out
  | some (d, e) => nx1 (g d e)
  | none => .er
theorem nx1_some : nx1 (some e) = .nx e := nr rfl
theorem as1_some : as1 tg (some (d, e)) = nx1 (tg d e) := nr rfl
theorem w_asg : fAsg a tg e = as1 tg (a e) := by
  unfold fAsg fE as1 nx1
  try simp only [Option.bind_some]
  cases a e with
  | none => rfl
  | some z =>
    simp only
    try simp only [Option.bind_some]
    all_goals (cases tg z.1 z.2 <;> rfl)
theorem w_to : fTo a tg e = as1 tg (a e) := by
  unfold fTo fE as1 nx1
  try simp only [Option.bind_some]
  cases a e with
  | none => rfl
  | some z =>
    simp only
    try simp only [Option.bind_some]
    all_goals (cases tg z.1 z.2 <;> rfl)
def pa2 (i j : Nat) (x : D) : Option (D × En) → Out
  | some (y, e) => .nx ((e.set i x).set j y)
  | none => .er
def pa1 (i j : Nat) (b : FE) : Option (D × En) → Out
  | some (x, e) => pa2 i j x (b e)
  | none => .er
theorem pa1_some : pa1 i j b (some (x, e)) = pa2 i j x (b e) := nr rfl
theorem pa2_some : pa2 i j x (some (y, e)) = .nx ((e.set i x).set j y) := nr rfl
theorem w_par : fPar i j a b e = pa1 i j b (a e) := by
  unfold fPar fE pa1 pa2
  try simp only [Option.bind_some]
  cases a e with
  | none => rfl
  | some z =>
    simp only
    try simp only [Option.bind_some]
    cases b z.2 <;> rfl
def pb3 (i j l : Nat) (x y : D) : Option (D × En) → Out
  | some (w, e) => .nx (((e.set i x).set j y).set l w)
  | none => .er
def pb2 (i j l : Nat) (c : FE) (x : D) : Option (D × En) → Out
  | some (y, e) => pb3 i j l x y (c e)
  | none => .er
def pb1 (i j l : Nat) (b c : FE) : Option (D × En) → Out
  | some (x, e) => pb2 i j l c x (b e)
  | none => .er
theorem pb1_some : pb1 i j l b c (some (x, e)) = pb2 i j l c x (b e) := nr rfl
theorem pb2_some : pb2 i j l c x (some (y, e)) = pb3 i j l x y (c e) := nr rfl
theorem pb3_some {w : D} : pb3 i j l x y (some (w, e)) = .nx (((e.set i x).set j y).set l w) := nr rfl
theorem w_par3 : fPar3 i j l a b c e = pb1 i j l b c (a e) := by
  unfold fPar3 fE pb1 pb2 pb3
  try simp only [Option.bind_some]
  cases a e with
  | none => rfl
  | some z =>
    simp only
    try simp only [Option.bind_some]
    cases b z.2 with
    | none => rfl
    | some w =>
      simp only
      try simp only [Option.bind_some]
      cases c w.2 <;> rfl
def ag1 (i : Nat) (f : Int → Int → Int) (a : FE) (e : En) : Option D → Out
  | some (.int x) => match a e with
    | some (.int y, e1) => .nx (e1.set i (.int (f x y)))
    | _ => .er
  | _ => .er
def ag2 (i : Nat) (f : Int → Int → Int) (x : Int) : Option (D × En) → Out
  | some (.int y, e1) => .nx (e1.set i (.int (f x y)))
  | _ => .er
theorem ag1_some {f : Int → Int → Int} {x : Int} : ag1 i f a e (some (.int x)) = ag2 i f x (a e) := by
  unfold ag1 ag2
  rfl
theorem ag2_some {f : Int → Int → Int} {x y : Int} : ag2 i f x (some (.int y, e)) = .nx (e.set i (.int (f x y))) := nr rfl
theorem w_aug {f : Int → Int → Int} : fAug i f a e = ag1 i f a e e[i]? := by
  unfold fAug fE ag1
  try simp only [Option.bind_some]
  cases e[i]? with
  | none => rfl
  | some z =>
    cases z <;> first | rfl | skip
    simp only
    try simp only [Option.bind_some]
    cases a e with
    | none => rfl
    | some w =>
      obtain ⟨w1, w2⟩ := w
      cases w1 <;> rfl
def ap2 (i : Nat) (d : D) (e : En) : Option D → Out
  | some (.lst xs) => if xs.length < 100000 then .nx (e.set i (.lst (xs ++ [d]))) else .er
  | _ => .er
def ap1 (i : Nat) : Option (D × En) → Out
  | some (d, e) => ap2 i d e e[i]?
  | none => .er
theorem ap1_some : ap1 i (some (d, e)) = ap2 i d e e[i]? := nr rfl
theorem ap2_lst (h : xs.length < 100000) : ap2 i d e (some (.lst xs)) = .nx (e.set i (.lst (xs ++ [d]))) := if_pos h
theorem w_app : fApp i a e = ap1 i (a e) := by
  unfold fApp fE ap1 ap2
  try simp only [Option.bind_some]
  cases a e with
  | none => rfl
  | some z =>
    simp only
    try simp only [Option.bind_some]
    all_goals (cases z.2[i]? with
    | none => rfl
    | some w => cases w <;> rfl)
def et2 (i : Nat) (ys : List D) (e : En) : Option D → Out
  | some (.lst xs) => if xs.length + ys.length < 100000 then .nx (e.set i (.lst (xs ++ ys))) else .er
  | _ => .er
def et1 (i : Nat) : Option (D × En) → Out
  | some (.lst ys, e) => et2 i ys e e[i]?
  | _ => .er
theorem et1_lst : et1 i (some (.lst ys, e)) = et2 i ys e e[i]? := nr rfl
theorem et2_lst (h : xs.length + ys.length < 100000) : et2 i ys e (some (.lst xs)) = .nx (e.set i (.lst (xs ++ ys))) := if_pos h
theorem w_ext : fExt i a e = et1 i (a e) := by
  unfold fExt fE et1 et2
  rcases a e with _ | ⟨z1, z2⟩
  · rfl
  · simp only
    cases z1 <;> simp only <;> generalize z2[i]? = o <;> rcases o with _ | w <;> first | rfl | skip
    all_goals
      cases w <;> rfl
def pt3 (i : Nat) (d : D) (k : Int) (e : En) : Option D → Out
  | some (.lst xs) => match ixN xs.length k with
    | some j => .nx (e.set i (.lst (xs.set j d)))
    | none => .er
  | _ => .er
def pt2 (i : Nat) (d : D) : Option (D × En) → Out
  | some (.int k, e) => pt3 i d k e e[i]?
  | _ => .er
def pt1 (i : Nat) (b : FE) : Option (D × En) → Out
  | some (d, e) => pt2 i d (b e)
  | none => .er
theorem pt1_some : pt1 i b (some (d, e)) = pt2 i d (b e) := nr rfl
theorem pt2_int {k : Int} : pt2 i d (some (.int k, e)) = pt3 i d k e e[i]? := nr rfl
theorem w_put : fPut i a b e = pt1 i b (a e) := by
  unfold fPut fE pt1 pt2 pt3
  rcases a e with _ | ⟨z1, z2⟩
  · rfl
  · simp only
    rcases b z2 with _ | ⟨w1, w2⟩
    · rfl
    · cases w1 <;> simp only <;> generalize w2[i]? = o <;> rcases o with _ | v <;> first | rfl | skip
      all_goals
        cases v <;> rfl
def fo1 (J : List Nat) (g : FG) (b : FS) : Option (List D × En) → Out
  | some (ds, e) => fForD g b ds (fScr J e)
  | none => .er
theorem fo1_some {J : List Nat} : fo1 J tg fb (some (ds, e)) = fForD tg fb ds (fScr J e) := nr rfl
theorem w_for {J : List Nat} : fFor fa J tg fb e = fo1 J tg fb (fa e) := by
  unfold fFor fo1
  try simp only [Option.bind_some]
  cases fa e <;> rfl
theorem forD_nil : fForD tg fb [] e = .nx e := nr rfl
def rd1 : Out → Option D
  | .rt r _ => some r
  | .nx _ => some .non
  | _ => none
theorem rd1_rt : rd1 (.rt d e) = some d := nr rfl
theorem rd1_nx : rd1 (.nx e) = some .non := nr rfl
theorem rd1_ite {p : Prop} [Decidable p] {r s : Out} : rd1 (if p then r else s) = if p then rd1 r else rd1 s := by split <;> rfl
theorem runR_eq {f : FS} {N : Nat} (h : ds.length = n) (h2 : f (ds ++ List.replicate (N - n) .non) = .rt d e) : runR n N f ds = some d := by
  unfold runR
  rw [if_pos h, h2]
theorem runD_rt {f : FS} {N : Nat} (h : ds.length = n) (h2 : f (ds ++ List.replicate (N - n) .non) = .rt d e) : runD n N f ds = some d := by
  unfold runD
  rw [if_pos h, h2]
theorem runD_nx {f : FS} {N : Nat} (h : ds.length = n) (h2 : f (ds ++ List.replicate (N - n) .non) = .nx e) : runD n N f ds = some .non := by
  unfold runD
  rw [if_pos h, h2]
theorem runMR_rt {f : FS} {N : Nat} (h : ds.length = n) (h2 : f (ds ++ List.replicate (N - n) .non) = .rt d e) (h3 : e[0]? = some x) : runMR n N f ds = some (d, x) := by
  unfold runMR
  rw [if_pos h, h2]
  simp only [h3, Option.map_some]
end
end DL
namespace DL
variable [Tabl]
open PySem L2
section
variable {α β τ : Type} {tg : FG} {fb : FS} {ft : FT} {a : FE} {vs : List Nat} {d x y : D} {ds xs ys acc : List D} {e e1 e2 : En}
def tn2 : Out → Out
  | .ct e => .nx e
  | o => o
def tn1 (fb : FS) : Option En → Out
  | some e => tn2 (fb e)
  | none => .er
/-- one turn of a for -/
def tn (tg : FG) (fb : FS) (d : D) (e : En) : Out := tn1 fb (tg d e)
theorem w_tn : tn tg fb d e = tn1 fb (tg d e) := nr rfl
theorem tn1_some : tn1 fb (some e) = tn2 (fb e) := nr rfl
theorem tn2_nx : tn2 (.nx e) = .nx e := nr rfl
theorem tn2_ct : tn2 (.ct e) = .nx e := nr rfl
theorem tn2_bk : tn2 (.bk e) = .bk e := nr rfl
theorem tn2_rt : tn2 (.rt d e) = .rt d e := nr rfl
theorem tn2_ite {p : Prop} [Decidable p] {r s : Out} : tn2 (if p then r else s) = if p then tn2 r else tn2 s := by split <;> rfl
theorem tn_cases {o : Out} (h : tn tg fb d e = o) : (∃ e1, tg d e = some e1 ∧ tn2 (fb e1) = o) ∨ (tg d e = none ∧ o = .er) := by
  unfold tn tn1 at h
  cases q : tg d e with
  | none =>
    rw [q] at h
    exact .inr ⟨rfl, h.symm⟩
  | some e1 =>
    rw [q] at h
    exact .inl ⟨e1, rfl, h⟩
theorem forD_nx (h : tn tg fb d e = .nx e2) : fForD tg fb (d :: ds) e = fForD tg fb ds e2 := by
  rw [fForD]
  rcases tn_cases h with ⟨e1, h1, h2⟩ | ⟨_, h2⟩
  · rw [h1]
    simp only
    cases q : fb e1 <;> rw [q] at h2 <;> cases h2 <;> rfl
  · cases h2
/-- a loop with an invariant -/
theorem forD_inv (I : List D → En → Prop) (step : ∀ d ds e, I (d :: ds) e → ∃ e2, tn tg fb d e = .nx e2 ∧ I ds e2) : ∀ (ds : List D) (e : En), I ds e → ∃ e', fForD tg fb ds e = .nx e' ∧ I [] e'
  | [], e, h => ⟨e, rfl, h⟩
  | d :: ds, e, h => by
    obtain ⟨e2, h1, h2⟩ := step d ds e h
    rw [forD_nx h1]
    exact forD_inv I step ds e2 h2
/-- a loop that gathers -/
theorem forD_acc (enc : α → D) (st : List β → En) (f : α → List β) (m B : Nat) : ∀ (zs : List α) (acc : List β), (∀ z ∈ zs, (f z).length ≤ m) → acc.length + m * zs.length ≤ B →
    (∀ acc z, z ∈ zs → acc.length + m ≤ B → tn tg fb (enc z) (st acc) = .nx (st (acc ++ f z))) → fForD tg fb (zs.map enc) (st acc) = .nx (st (acc ++ zs.flatMap f))
  | [], acc, hm, hB, h => by rw [List.map_nil, List.flatMap_nil, List.append_nil]; rfl
  | z :: zs, acc, hm, hB, h => by
    have h1 := hm z List.mem_cons_self
    rw [List.length_cons, Nat.mul_succ] at hB
    rw [List.map_cons, forD_nx (h acc z List.mem_cons_self (by omega)), forD_acc enc st f m B zs _ (fun y hy => hm y (List.mem_cons_of_mem _ hy)) (by rw [List.length_append]; omega) (fun acc y hy => h acc y (List.mem_cons_of_mem _ hy)), List.append_assoc, List.flatMap_cons]
theorem rngD_zero (n : Nat) : rngD 0 n = (List.range n).map fun (i : Nat) => D.int (i : Int) := by
  unfold rngD
  congr 1
  funext i
  rw [Int.zero_add]
theorem flatMap_le {f : α → List β} {m : Nat} : ∀ (zs : List α), (∀ z ∈ zs, (f z).length ≤ m) → (zs.flatMap f).length ≤ m * zs.length
  | [], h => by simp
  | z :: zs, h => by
    have h1 := h z List.mem_cons_self
    have h2 := flatMap_le zs fun y hy => h y (List.mem_cons_of_mem _ hy)
    rw [List.flatMap_cons, List.length_append, List.length_cons, Nat.mul_succ]
    omega
/-- one turn of a comprehension: what it gives, if anything -/
def lt3 (vs : List Nat) : Option (D × En) → Option (Option D × En)
  | some (y, e) => some (some y, fScr vs e)
  | none => none
def lt2 (a : FE) (vs : List Nat) : Option (Bool × En) → Option (Option D × En)
  | some (b, e) => if b = true then lt3 vs (a e) else some (none, fScr vs e)
  | none => none
def lt1 (ft : FT) (a : FE) (vs : List Nat) : Option En → Option (Option D × En)
  | some e => lt2 a vs (ft e)
  | none => none
def ltn (tg : FG) (ft : FT) (a : FE) (vs : List Nat) (d : D) (e : En) : Option (Option D × En) := lt1 ft a vs (tg d e)
theorem w_ltn : ltn tg ft a vs d e = lt1 ft a vs (tg d e) := nr rfl
theorem lt1_some : lt1 ft a vs (some e) = lt2 a vs (ft e) := nr rfl
theorem lt2_some {b : Bool} : lt2 a vs (some (b, e)) = if b = true then lt3 vs (a e) else some (none, fScr vs e) := nr rfl
theorem lt2_ite {p : Prop} [Decidable p] {r s : Option (Bool × En)} : lt2 a vs (if p then r else s) = if p then lt2 a vs r else lt2 a vs s := by split <;> rfl
theorem lt3_some : lt3 vs (some (d, e)) = some (some d, fScr vs e) := nr rfl
theorem lt3_ite {p : Prop} [Decidable p] {r s : Option (D × En)} : lt3 vs (if p then r else s) = if p then lt3 vs r else lt3 vs s := by split <;> rfl
def lcGo (tg : FG) (ft : FT) (a : FE) (vs : List Nat) (ds : List D) (e : En) (acc : List D) : Option D → Option (List D × En)
  | some r => if acc.length < 100000 then fLcD tg ft a vs ds e (acc ++ [r]) else none
  | none => fLcD tg ft a vs ds e acc
theorem lcD_cons {o : Option D} (h : ltn tg ft a vs d e = some (o, e2)) : fLcD tg ft a vs (d :: ds) e acc = lcGo tg ft a vs ds e2 acc o := by
  rw [fLcD]
  unfold ltn lt1 at h
  cases h1 : tg d e with
  | none =>
    rw [h1] at h
    cases h
  | some e1 =>
    rw [h1] at h
    simp only [Option.bind_some] at h ⊢
    unfold lt2 at h
    cases h2 : ft e1 with
    | none =>
      rw [h2] at h
      cases h
    | some z =>
      obtain ⟨b, e3⟩ := z
      rw [h2] at h
      simp only [Option.bind_some] at h ⊢
      cases b with
      | false =>
        cases h
        rfl
      | true =>
        simp only [if_true] at h ⊢
        unfold lt3 at h
        cases h3 : a e3 with
        | none =>
          rw [h3] at h
          cases h
        | some w =>
          obtain ⟨w1, w2⟩ := w
          rw [h3] at h
          cases h
          rfl
theorem lcD_nil : fLcD tg ft a vs [] e acc = some (acc, e) := nr rfl
theorem lcD_map (enc dout : α → D) : ∀ (zs : List α) (acc : List D), (∀ z, z ∈ zs → ltn tg ft a vs (enc z) e = some (some (dout z), e)) → acc.length + zs.length ≤ 100000 → fLcD tg ft a vs (zs.map enc) e acc = some (acc ++ zs.map dout, e)
  | [], acc, h, hl => by rw [List.map_nil, List.map_nil, List.append_nil]; rfl
  | z :: zs, acc, h, hl => by
    rw [List.length_cons] at hl
    rw [List.map_cons, lcD_cons (h z List.mem_cons_self)]
    unfold lcGo
    simp only
    rw [if_pos (by omega), lcD_map enc dout zs _ (fun y hy => h y (List.mem_cons_of_mem _ hy)) (by rw [List.length_append, List.length_singleton]; omega), List.append_assoc, List.map_cons]
    rfl
theorem lcD_fmap (enc : α → D) (dout : α → Option D) : ∀ (zs : List α) (acc : List D), (∀ z, z ∈ zs → ltn tg ft a vs (enc z) e = some (dout z, e)) → acc.length + zs.length ≤ 100000 → fLcD tg ft a vs (zs.map enc) e acc = some (acc ++ zs.filterMap dout, e)
  | [], acc, h, hl => by rw [List.map_nil, List.filterMap_nil, List.append_nil]; rfl
  | z :: zs, acc, h, hl => by
    rw [List.length_cons] at hl
    rw [List.map_cons, lcD_cons (h z List.mem_cons_self)]
    unfold lcGo
    cases hd : dout z with
    | none =>
      simp only
      rw [lcD_fmap enc dout zs acc (fun y hy => h y (List.mem_cons_of_mem _ hy)) (by omega), List.filterMap_cons_none hd]
    | some r =>
      simp only
      rw [if_pos (by omega), lcD_fmap enc dout zs _ (fun y hy => h y (List.mem_cons_of_mem _ hy)) (by rw [List.length_append, List.length_singleton]; omega), List.filterMap_cons_some hd, List.append_assoc]
      rfl
theorem gI_ii {f : Int → Int → Int} {i j : Int} : gI f (.int i) (.int j) = some (.int (f i j)) := nr rfl
theorem gB_ii {f : Int → Int → Bool} {i j : Int} : gB f (.int i) (.int j) = some (.bl (f i j)) := nr rfl
theorem gIC_ii {C : Int → Int → Prop} [∀ i j, Decidable (C i j)] {f : Int → Int → Int} {i j : Int} (h : C i j) : gIC C f (.int i) (.int j) = some (.int (f i j)) := if_pos h
theorem gMul_l {f : Int → Int → Int} {i j : Int} (h0 : 0 ≤ i) (h1 : i < 18446744073709551616) : gIC CMul f (.int i) (.int j) = some (.int (f i j)) := if_pos (cmul_l h0 h1)
theorem gMul_r {f : Int → Int → Int} {i j : Int} (h0 : 0 ≤ j) (h1 : j < 18446744073709551616) : gIC CMul f (.int i) (.int j) = some (.int (f i j)) := if_pos (cmul_r h0 h1)
theorem gMul_n {f : Int → Int → Int} {i j : Int} (h0 : -1000000000 < i) (h1 : i < 1000000000) : gIC CMul f (.int i) (.int j) = some (.int (f i j)) := if_pos (.inl ⟨by omega, by omega⟩)
theorem gDiv_p {f : Int → Int → Int} {i j : Int} (h0 : 0 < j) (h1 : j < 1073741824) : gIC CDiv f (.int i) (.int j) = some (.int (f i j)) := if_pos (cdiv h0 h1)
theorem gDivW_p {f : Int → Int → Int} {i j : Int} (h0 : 0 < j) (h1 : j < 1267650600228229401496703205376) : gIC CDivW f (.int i) (.int j) = some (.int (f i j)) := if_pos (cdivW h0 h1)
theorem gMod_p {f : Int → Int → Int} {i j : Int} (h0 : 0 < j) : gIC (fun _ j => 0 < j) f (.int i) (.int j) = some (.int (f i j)) := if_pos h0
theorem gEq_ii {b : Bool} {i j : Int} : gEq b (.int i) (.int j) = some (.bl (if b then !decide (i = j) else decide (i = j))) := nr rfl
theorem gEq_ss {b : Bool} {i j : Str} : gEq b (.str i) (.str j) = some (.bl (if b then !decide (i = j) else decide (i = j))) := nr rfl
theorem gEq_bb {b : Bool} {i j : Bool} : gEq b (.bl i) (.bl j) = some (.bl (if b then !decide (i = j) else decide (i = j))) := nr rfl
theorem gIsN_non {b : Bool} : gIsN b .non .non = some (.bl (if b then !true else true)) := nr rfl
theorem gIsN_int {b : Bool} {i : Int} : gIsN b (.int i) .non = some (.bl (if b then !false else false)) := nr rfl
theorem gIsN_tup {b : Bool} : gIsN b (.tup xs) .non = some (.bl (if b then !false else false)) := nr rfl
theorem gIsN_lst {b : Bool} : gIsN b (.lst xs) .non = some (.bl (if b then !false else false)) := nr rfl
theorem gIsN_str {b : Bool} {i : Str} : gIsN b (.str i) .non = some (.bl (if b then !false else false)) := nr rfl
theorem gIsN_bl {b : Bool} {i : Bool} : gIsN b (.bl i) .non = some (.bl (if b then !false else false)) := nr rfl
theorem gIx_t {k : Int} : gIx (.tup xs) (.int k) = atI xs k := nr rfl
theorem gIx_l {k : Int} : gIx (.lst xs) (.int k) = atI xs k := nr rfl
theorem gIx_s {k : Int} : gIx (.scr xs) (.int k) = atI xs k := nr rfl
theorem gCatL_ll (h : xs.length + ys.length ≤ 200000) : gCatL (.lst xs) (.lst ys) = some (.lst (xs ++ ys)) := if_pos h
theorem gCatT_tt (h : xs.length + ys.length ≤ 200000) : gCatT (.tup xs) (.tup ys) = some (.tup (xs ++ ys)) := if_pos h
theorem gMulT_ti {k : Int} (h : xs ≠ []) (h1 : xs.length ≤ 900) (h2 : 0 ≤ k) (h3 : k ≤ 1100) : gMulT (.tup xs) (.int k) = some (.tup (List.replicate k.toNat xs).flatten) := by
  unfold gMulT
  simp only
  rw [if_pos ⟨h, h1, h2, h3⟩]
theorem gIsB_bb {b p q : Bool} : gIsB b (.bl p) (.bl q) = some (.bl (if b then !decide (p = q) else decide (p = q))) := nr rfl
theorem gI1_i {f : Int → Int} {i : Int} : gI1 f [.int i] = some (.int (f i)) := nr rfl
theorem gI2_ii {f : Int → Int → Int} {i j : Int} : gI2 f [.int i, .int j] = some (.int (f i j)) := nr rfl
theorem gInt_i {i : Int} : gInt [.int i] = some (.int i) := nr rfl
theorem gInt_b {b : Bool} : gInt [.bl b] = some (.int (if b then 1 else 0)) := nr rfl
theorem gLen_t : gLen [.tup xs] = some (.int xs.length) := nr rfl
theorem gLen_l : gLen [.lst xs] = some (.int xs.length) := nr rfl
theorem gLen_s : gLen [.scr xs] = some (.int xs.length) := nr rfl
theorem gList_t : gList [.tup xs] = some (.lst xs) := nr rfl
theorem gList_l : gList [.lst xs] = some (.lst xs) := nr rfl
theorem gTupl_t : gTupl [.tup xs] = some (.tup xs) := nr rfl
theorem gTupl_l : gTupl [.lst xs] = some (.tup xs) := nr rfl
theorem gBls_l {f : List Bool → Bool} {bs : List Bool} : gBls f [.lst (bs.map D.bl)] = some (.bl (f bs)) := by
  unfold gBls lstD
  simp only [Option.bind_some, blsD_map, Option.map_some]
theorem gInts_l {g : List Int → Option D} {ns : List Int} : gInts g [.lst (ns.map D.int)] = g ns := by
  unfold gInts lstD
  simp only [Option.bind_some, intsD_map]
theorem gIntsT_t {g : List Int → Option D} {ns : List Int} : gIntsT g [.tup (ns.map D.int)] = g ns := by
  unfold gIntsT
  simp only [intsD_map, Option.bind_some]
theorem nSum_eq {ns : List Int} : nSum ns = some (.int ns.sum) := nr rfl
theorem gRepr_eq (h : shB 40 d = true) (h2 : sizD d ≤ 200000) : gRepr [d] = some (.str (rpD d)) := by
  unfold gRepr
  exact if_pos ⟨h, h2⟩
theorem gSortI_l {ns : List Int} : gSortI [.lst (ns.map D.int)] = some (lstI (intS ns)) := by
  unfold gSortI lstD
  simp only [Option.bind_some, intsD_map, Option.map_some]
theorem gStrI_i {i : Int} (h : -1000000000000000000000000000000000000000000000000000000000000 < i) (h2 : i < 1000000000000000000000000000000000000000000000000000000000000) : gStrI [.int i] = some (.str (sI i)) := by
  unfold gStrI
  exact if_pos ⟨by omega, by omega⟩
theorem hIsi_int_int {i : Int} : hIsi .int (.int i) = some (.bl true) := nr rfl
theorem hIsi_bool_int {i : Int} : hIsi .bool (.int i) = some (.bl false) := nr rfl
theorem hIsi_int_bl {i : Bool} : hIsi .int (.bl i) = some (.bl true) := nr rfl
theorem hIsi_bool_bl {i : Bool} : hIsi .bool (.bl i) = some (.bl true) := nr rfl
theorem hIsi_tup_tup : hIsi .tuple (.tup xs) = some (.bl true) := nr rfl
theorem hIsi_str_str {i : Str} : hIsi .str (.str i) = some (.bl true) := nr rfl
theorem hIsi_lst_lst : hIsi .list (.lst xs) = some (.bl true) := nr rfl
theorem gIn_t {neg : Bool} (h : flatD d = true) (h2 : xs.all flatD = true) : gIn neg d (.tup xs) = some (.bl (if neg then !inF d xs else inF d xs)) := by
  unfold gIn
  simp only [sq_t, Option.bind_some]
  rw [if_pos ⟨h, h2⟩]
theorem ci_0 : ((0 : Nat) : Int) = 0 := nr rfl
theorem ci_1 : ((1 : Nat) : Int) = 1 := nr rfl
theorem ci_2 : ((2 : Nat) : Int) = 2 := nr rfl
theorem ci_3 : ((3 : Nat) : Int) = 3 := nr rfl
theorem ci_4 : ((4 : Nat) : Int) = 4 := nr rfl
theorem ci_5 : ((5 : Nat) : Int) = 5 := nr rfl
theorem ci_6 : ((6 : Nat) : Int) = 6 := nr rfl
theorem ci_7 : ((7 : Nat) : Int) = 7 := nr rfl
theorem ci_8 : ((8 : Nat) : Int) = 8 := nr rfl
theorem if_tt {γ : Type} {p q : γ} : (if true = true then p else q) = p := if_pos rfl
theorem if_ff {γ : Type} {p q : γ} : (if false = true then p else q) = q := if_neg (by decide)
theorem not_tt : (!true) = false := nr rfl
theorem not_ff : (!false) = true := nr rfl
theorem if_not {γ : Type} {b : Bool} {p q : γ} : (if (!b) = true then p else q) = if b = true then q else p := by cases b <;> rfl
end
end DL
namespace DL
variable [Tabl]
open PySem L2
mutual
def eqTK : TK → TK → Bool
  | .ju, .ju => true
  | .pu, .pu => true
  | .ow, .ow => true
  | .ei, .ei => true
  | .ins c ns ks, .ins c' ns' ks' => decide (c = c') && (decide (ns = ns') && eqTKs ks ks')
  | .dk k, .dk k' => eqTK k k'
  | .dt k, .dt k' => eqTK k k'
  | .ls k, .ls k' => eqTK k k'
  | _, _ => false
def eqTKs : List TK → List TK → Bool
  | [], [] => true
  | k :: ks, k' :: ks' => eqTK k k' && eqTKs ks ks'
  | _, _ => false
end
mutual
theorem eqTK_sound : ∀ (a b : TK), eqTK a b = true → a = b := fun a b h => by
  cases a <;> cases b <;> first | rfl | (unfold eqTK at h; cases h; done) | skip
  · unfold eqTK at h
    rw [Bool.and_eq_true, Bool.and_eq_true, decide_eq_true_eq, decide_eq_true_eq] at h
    obtain ⟨rfl, rfl, h⟩ := h
    rw [eqTKs_sound _ _ h]
  · unfold eqTK at h
    rw [eqTK_sound _ _ h]
  · unfold eqTK at h
    rw [eqTK_sound _ _ h]
  · unfold eqTK at h
    rw [eqTK_sound _ _ h]
theorem eqTKs_sound : ∀ (a b : List TK), eqTKs a b = true → a = b := fun a b h => by
  cases a <;> cases b <;> first | rfl | (unfold eqTKs at h; cases h; done) | skip
  unfold eqTKs at h
  rw [Bool.and_eq_true] at h
  rw [eqTK_sound _ _ h.1, eqTKs_sound _ _ h.2]
end
mutual
theorem eqTK_refl : ∀ (a : TK), eqTK a a = true := fun a => by
  cases a <;> first | (unfold eqTK; rfl) | skip
  · unfold eqTK
    rw [eqTKs_refl, decide_eq_true rfl, decide_eq_true rfl]
    rfl
  · unfold eqTK
    exact eqTK_refl _
  · unfold eqTK
    exact eqTK_refl _
  · unfold eqTK
    exact eqTK_refl _
theorem eqTKs_refl : ∀ (a : List TK), eqTKs a a = true := fun a => by
  cases a
  · unfold eqTKs
    rfl
  · unfold eqTKs
    rw [eqTK_refl, eqTKs_refl]
    rfl
end
instance : DecidableEq TK := fun a b => if h : eqTK a b = true then .isTrue (eqTK_sound a b h) else .isFalse fun q => h (by subst q; exact eqTK_refl a)
section
variable {α β τ γ : Type} {a b c : FE} {fa fr : FA} {e e1 e2 : En} {fs fb : FS} {i j l n m : Nat} {d x y z : D} {ds xs ys : List D} {path : Pth} {tg : FG} {tgs : FGs}
def gt1 (path : Pth) (e : En) : Option D → Option (D × En)
  | some d => pr (subD d path) e
  | none => none
theorem gt1_some : gt1 path e (some d) = pr (subD d path) e := nr rfl
theorem w_get : fGet i path e = gt1 path e e[i]? := by
  unfold fGet gt1 pr
  cases e[i]? with
  | none => rfl
  | some d =>
    simp only [Option.bind_some]
    cases subD d path <;> rfl
def hFld (c f : Str) : D → Option D := fun d => match d with
  | .ins c' ns ds => if c' = c then (ixF ns f).bind fun k => ds[k]? else none
  | _ => none
theorem w_fldD {c f : Str} : fFldD c f a e = u1 (hFld c f) (a e) := by
  unfold fFldD u1 hFld
  rcases a e with _ | ⟨z1, z2⟩
  · rfl
  · simp only [Option.bind_some]
    cases z1 <;> try rfl
    rename_i c' ns ds
    simp only
    split
    · cases ixF ns f with
      | none => rfl
      | some k =>
        try simp only [Option.bind_some]
        cases ds[k]? <;> rfl
    · rfl
def hProp (c : Str) (F : List D → Option D) : D → Option D := fun d => match d with
  | .ins c' ns ds => if c' = c then F [.ins c' ns ds] else none
  | _ => none
theorem hProp_eq {c : Str} {F : List D → Option D} {ns : List Str} : hProp c F (.ins c ns ds) = F [.ins c ns ds] := if_pos rfl
theorem w_propD {c : Str} {F : List D → Option D} : fPropD c F a e = u1 (hProp c F) (a e) := by
  unfold fPropD u1 hProp
  rcases a e with _ | ⟨z1, z2⟩
  · rfl
  · simp only [Option.bind_some]
    cases z1 <;> try rfl
    simp only
    split
    · cases F _ <;> rfl
    · rfl
def mk2 (e : En) : Option (D × D) → Option (D × En)
  | some (.non, d) => some (d, e)
  | _ => none
def mk1 (n : Nat) (c : Str) (F : List D → Option (D × D)) : Option (List D × En) → Option (D × En)
  | some (ds, e) => if ds.length + 1 = n then mk2 e (F (.ins c [] [] :: ds)) else none
  | none => none
theorem mk2_some : mk2 e (some (.non, d)) = some (d, e) := nr rfl
theorem mk1_0 {c : Str} {F : List D → Option (D × D)} : mk1 1 c F (some ([], e)) = mk2 e (F [.ins c [] []]) := nr rfl
theorem mk1_1 {c : Str} {F : List D → Option (D × D)} : mk1 2 c F (some ([x], e)) = mk2 e (F [.ins c [] [], x]) := nr rfl
theorem mk1_2 {c : Str} {F : List D → Option (D × D)} : mk1 3 c F (some ([x, y], e)) = mk2 e (F [.ins c [] [], x, y]) := nr rfl
theorem mk1_3 {c : Str} {F : List D → Option (D × D)} : mk1 4 c F (some ([x, y, z], e)) = mk2 e (F [.ins c [] [], x, y, z]) := nr rfl
theorem w_make {c : Str} {F : List D → Option (D × D)} : fMake n c F fa e = mk1 n c F (fa e) := by
  unfold fMake mk1 mk2
  rcases fa e with _ | ⟨z1, z2⟩
  · rfl
  · simp only [Option.bind_some]
    split
    · rcases F _ with _ | ⟨v1, v2⟩
      · rfl
      · cases v1 <;> rfl
    · rfl
def gd1 (k f : FE) : Option (D × En) → Option (D × En)
  | some (.dk ks ds, e) => match k e with
    | some (kk, e2) => match f e2 with
      | some (dv, e3) => match keyD kk with
        | some kx => match ixA ks kx with
          | some j => pr ds[j]? e3
          | none => some (dv, e3)
        | none => none
      | none => none
    | none => none
  | _ => none
def gd2 (ks : List Key) (ds : List D) (f : FE) : Option (D × En) → Option (D × En)
  | some (kk, e2) => match f e2 with
      | some (dv, e3) => match keyD kk with
        | some kx => match ixA ks kx with
          | some j => pr ds[j]? e3
          | none => some (dv, e3)
        | none => none
      | none => none
  | none => none
def gd4 (ks : List Key) (ds : List D) (kk : D) : Option (D × En) → Option (D × En)
  | some (dv, e3) => match keyD kk with
        | some kx => match ixA ks kx with
          | some j => pr ds[j]? e3
          | none => some (dv, e3)
        | none => none
  | none => none
def gd5 (ds : List D) (dv : D) (e3 : En) : Option Nat → Option (D × En)
  | some j => pr ds[j]? e3
  | none => some (dv, e3)
theorem gd1_some {ks : List Key} : gd1 b c (some (.dk ks ds, e)) = gd2 ks ds c (b e) := by
  unfold gd1 gd2
  rfl
theorem gd2_some {ks : List Key} : gd2 ks ds c (some (x, e)) = gd4 ks ds x (c e) := by
  unfold gd2 gd4
  rfl
theorem gd4_int {ks : List Key} {k : Int} : gd4 ks ds (.int k) (some (y, e)) = gd5 ds y e (ixA ks (.inl k)) := by
  unfold gd4 gd5 keyD
  rfl
theorem gd5_none : gd5 ds y e none = some (y, e) := nr rfl
theorem gd5_some : gd5 ds y e (some j) = pr ds[j]? e := nr rfl
theorem w_getD : fGetD a b c e = gd1 b c (a e) := by
  unfold fGetD gd1 pr
  rcases a e with _ | ⟨z1, z2⟩
  · rfl
  · simp only [Option.bind_some]
    cases z1 <;> try rfl
    rename_i ks ds
    simp only
    rcases b z2 with _ | ⟨w1, w2⟩
    · rfl
    · simp only [Option.bind_some]
      rcases c w2 with _ | ⟨v1, v2⟩
      · rfl
      · simp only [Option.bind_some]
        cases keyD w1 with
        | none => rfl
        | some kx =>
          simp only [Option.bind_some]
          cases ixA ks kx with
          | none => rfl
          | some j =>
            simp only
            cases ds[j]? <;> rfl
def ik2 (ks : List Key) (ds : List D) : Option (D × En) → Option (D × En)
  | some (kk, e) => match keyD kk with
    | some kx => match ixA ks kx with
      | some j => pr ds[j]? e
      | none => none
    | none => none
  | none => none
def ik1 (k : FE) : Option (D × En) → Option (D × En)
  | some (.dk ks ds, e) => ik2 ks ds (k e)
  | _ => none
def ik3 (ds : List D) (e : En) : Option Nat → Option (D × En)
  | some j => pr ds[j]? e
  | none => none
theorem ik1_dk {ks : List Key} : ik1 b (some (.dk ks ds, e)) = ik2 ks ds (b e) := nr rfl
theorem ik2_int {ks : List Key} {k : Int} : ik2 ks ds (some (.int k, e)) = ik3 ds e (ixA ks (.inl k)) := by
  unfold ik2 ik3 keyD
  rfl
theorem ik3_some : ik3 ds e (some j) = pr ds[j]? e := nr rfl
theorem w_ixK : fIxK a b e = ik1 b (a e) := by
  unfold fIxK ik1 ik2 pr
  rcases a e with _ | ⟨z1, z2⟩
  · rfl
  · simp only [Option.bind_some]
    cases z1 <;> try rfl
    rename_i ks ds
    simp only
    rcases b z2 with _ | ⟨w1, w2⟩
    · rfl
    · simp only [Option.bind_some]
      cases keyD w1 with
      | none => rfl
      | some kx =>
        simp only [Option.bind_some]
        cases ixA ks kx with
        | none => rfl
        | some j =>
          simp only [Option.bind_some]
          cases ds[j]? <;> rfl
def nk2 (neg : Bool) (x : D) : Option (D × En) → Option (D × En)
  | some (.dk ks _, e) => match keyD x with
    | some kx => some (.bl (if neg then !(ixA ks kx).isSome else (ixA ks kx).isSome), e)
    | none => none
  | _ => none
def nk1 (neg : Bool) (o : FE) : Option (D × En) → Option (D × En)
  | some (x, e) => nk2 neg x (o e)
  | none => none
theorem nk1_some {neg : Bool} : nk1 neg b (some (x, e)) = nk2 neg x (b e) := nr rfl
theorem nk2_int {neg : Bool} {ks : List Key} {k : Int} : nk2 neg (.int k) (some (.dk ks ds, e)) = some (.bl (if neg then !(ixA ks (.inl k)).isSome else (ixA ks (.inl k)).isSome), e) := nr rfl
theorem w_inK {neg : Bool} : fInK neg a b e = nk1 neg b (a e) := by
  unfold fInK nk1 nk2
  rcases a e with _ | ⟨z1, z2⟩
  · rfl
  · simp only [Option.bind_some]
    rcases b z2 with _ | ⟨w1, w2⟩
    · rfl
    · simp only [Option.bind_some]
      cases w1 <;> try rfl
      simp only
      cases keyD z1 <;> rfl
def go3 (i : Nat) (path : Pth) (kk dv : D) (e : En) : Option D → Option (D × En)
  | some d => match subD d path with
    | some (.dk ks ds) => match keyD kk with
      | some kx => gd5 ds dv e (ixA ks kx)
      | none => none
    | _ => none
  | none => none
def go2 (i : Nat) (path : Pth) (kk : D) : Option (D × En) → Option (D × En)
  | some (dv, e) => go3 i path kk dv e e[i]?
  | none => none
def go1 (i : Nat) (path : Pth) (f : FE) : Option (D × En) → Option (D × En)
  | some (kk, e) => go2 i path kk (f e)
  | none => none
theorem go1_some : go1 i path b (some (x, e)) = go2 i path x (b e) := nr rfl
theorem go2_some : go2 i path x (some (y, e)) = go3 i path x y e e[i]? := nr rfl
theorem go3_nil {ks : List Key} {k : Int} : go3 i [] (.int k) y e (some (.dk ks ds)) = gd5 ds y e (ixA ks (.inl k)) := by
  unfold go3
  simp only [subD, keyD]
theorem w_getO : fGetO i path a b e = go1 i path b (a e) := by
  unfold fGetO go1 go2 go3 gd5 pr
  rcases a e with _ | ⟨z1, z2⟩
  · rfl
  · simp only [Option.bind_some]
    rcases b z2 with _ | ⟨w1, w2⟩
    · rfl
    · simp only [Option.bind_some]
      generalize w2[i]? = o
      rcases o with _ | d
      · rfl
      · simp only [Option.bind_some]
        generalize subD d path = o
        rcases o with _ | t
        · rfl
        · simp only [Option.bind_some]
          cases t <;> try rfl
          rename_i ks ds
          simp only
          cases keyD z1 with
          | none => rfl
          | some kx =>
            simp only [Option.bind_some]
            cases ixA ks kx with
            | none => rfl
            | some j =>
              simp only
              cases ds[j]? <;> rfl
def pk3 (i : Nat) (path : Pth) (v kk : D) (e : En) : Option D → Out
  | some x => match subD x path with
    | some (.dk ks ds) => match keyD kk with
      | some kx => if ks.length < 100000 then .nx (e.set i (putD x path (putKey ks ds kx v))) else .er
      | none => .er
    | _ => .er
  | none => .er
def pk2 (i : Nat) (path : Pth) (v : D) : Option (D × En) → Out
  | some (kk, e) => pk3 i path v kk e e[i]?
  | none => .er
def pk1 (i : Nat) (path : Pth) (k : FE) : Option (D × En) → Out
  | some (v, e) => pk2 i path v (k e)
  | none => .er
theorem pk1_some : pk1 i path b (some (x, e)) = pk2 i path x (b e) := nr rfl
theorem pk2_some : pk2 i path x (some (y, e)) = pk3 i path x y e e[i]? := nr rfl
theorem pk3_nil {ks : List Key} {k : Int} (h : ks.length < 100000) : pk3 i [] x (.int k) e (some (.dk ks ds)) = .nx (e.set i (putKey ks ds (.inl k) x)) := by
  unfold pk3
  simp only [subD, keyD, putD]
  rw [if_pos h]
theorem w_putO : fPutO i path a b e = pk1 i path b (a e) := by
  unfold fPutO fE pk1 pk2 pk3
  rcases a e with _ | ⟨z1, z2⟩
  · rfl
  · simp only
    rcases b z2 with _ | ⟨w1, w2⟩
    · rfl
    · simp only
      generalize w2[i]? = o
      rcases o with _ | d
      · rfl
      · simp only [Option.bind_some]
        generalize subD d path = o
        rcases o with _ | t
        · rfl
        · cases t <;> try rfl
          simp only
          cases keyD w1 <;> rfl
def fl2 (i : Nat) (path : Pth) (f : Str) (v : D) (e : En) (d : D) : Option D → Option En
  | some (.ins c ns ds) => some (e.set i (putD d path (fldD (.ins c ns ds) f v)))
  | _ => none
def fl1 (i : Nat) (path : Pth) (f : Str) (v : D) (e : En) : Option D → Option En
  | some d => fl2 i path f v e d (subD d path)
  | none => none
theorem fl1_some {f : Str} : fl1 i path f x e (some d) = fl2 i path f x e d (subD d path) := nr rfl
theorem fl2_ins {f c : Str} {ns : List Str} : fl2 i path f x e d (some (.ins c ns ds)) = some (e.set i (putD d path (fldD (.ins c ns ds) f x))) := nr rfl
theorem w_fld {f : Str} : gFldF i path f x e = fl1 i path f x e e[i]? := by
  unfold gFldF fl1 fl2
  cases e[i]? with
  | none => rfl
  | some d =>
    simp only [Option.bind_some]
    cases subD d path with
    | none => rfl
    | some t => cases t <;> rfl
theorem subD_nil : subD d [] = some d := by unfold subD; rfl
theorem putD_nil : putD d [] x = x := by unfold putD; rfl
def pg1 (n : Nat) (g : FGs) : Option (List D × En) → Out
  | some (xs, e) => if xs.length = n then nx1 (g xs e) else .er
  | none => .er
theorem pg1_2 : pg1 2 tgs (some ([x, y], e)) = nx1 (tgs [x, y] e) := nr rfl
theorem pg1_3 : pg1 3 tgs (some ([x, y, z], e)) = nx1 (tgs [x, y, z] e) := nr rfl
theorem pg1_4 {w : D} : pg1 4 tgs (some ([x, y, z, w], e)) = nx1 (tgs [x, y, z, w] e) := nr rfl
theorem w_parG : fParG n fa tgs e = pg1 n tgs (fa e) := by
  unfold fParG pg1 nx1
  rcases fa e with _ | ⟨z1, z2⟩
  · rfl
  · simp only
    all_goals
      split
      · cases tgs z1 z2 <;> rfl
      · rfl
def gSortTI : List D → Option D
  | [.tup es] => (intsD es).map fun ns => lstI (intS ns)
  | _ => none
theorem gSortTI_t {ns : List Int} : gSortTI [.tup (ns.map D.int)] = some (lstI (intS ns)) := by
  unfold gSortTI
  simp only [intsD_map, Option.map_some]
def fItEnZip (k1 k2 : Bool) (a : FA) : FA := fun e => (a e).bind fun x => match x.1 with
  | [d, f] => (sqD k1 d).bind fun xs => (sqD k2 f).map fun ys => (enumD (zipD xs ys), x.2)
  | _ => none
def hEnZip (k1 k2 : Bool) : List D → Option (List D) := fun ds => match ds with
  | [d, f] => (sqD k1 d).bind fun xs => (sqD k2 f).map fun ys => enumD (zipD xs ys)
  | _ => none
theorem hEnZip_tl : hEnZip true false [.tup xs, .lst ys] = some (enumD (zipD xs ys)) := nr rfl
theorem hEnZip_lt : hEnZip false true [.lst xs, .tup ys] = some (enumD (zipD xs ys)) := nr rfl
theorem hEnZip_tt : hEnZip true true [.tup xs, .tup ys] = some (enumD (zipD xs ys)) := nr rfl
theorem hEnZip_ll : hEnZip false false [.lst xs, .lst ys] = some (enumD (zipD xs ys)) := nr rfl
theorem w_enZip {k1 k2 : Bool} : fItEnZip k1 k2 fa e = u1 (hEnZip k1 k2) (fa e) := by
  unfold fItEnZip u1 hEnZip
  rcases fa e with _ | ⟨z1, z2⟩
  · rfl
  · simp only [Option.bind_some]
    rcases z1 with _ | ⟨d, _ | ⟨d2, _ | ⟨d3, r⟩⟩⟩ <;> try rfl
    simp only
    cases sqD k1 d with
    | none => rfl
    | some xs =>
      try simp only [Option.bind_some]
      cases sqD k2 d2 <;> rfl
end
end DL
namespace DL
variable [Tabl]
open PySem L2
section
variable {z : Bool} {K K1 K2 K3 Kb Kc : List TK} {k kr k0 ka kb kc : TK} {T1 T2 T3 : List Nat} {a b c : AE} {fa fb fc : FE} {aa : AA} {faa : FA} {e e1 e2 : En} {x y : D} {ds : List D} {i j : Nat} {path : Pth}
theorem se_dicT {k : TK} : SE K aDicT (fC (.dt [] [])) (.dt k) K [] := fun s e x e' m h P hP => by
  cases h
  intro p
  refine hP _ s ?_ ?_ m (.refl s)
  · unfold Has
    exact ⟨p, [], [], rfl, fun t ht => by cases ht⟩
  · rw [Sl.d, dsA]
    rfl
def putKeyT (ks : List (List Key)) (ds : List D) (kk : List Key) (d : D) : D := match ixA ks kk with
  | some j => .dt ks (ds.set j d)
  | none => .dt (ks ++ [kk]) (ds ++ [d])
def fPutT (i : Nat) (path : Pth) (a : FE) (k : FA) : FS := fE a fun d e1 => match k e1 with
  | some (dk, e2) => if dk.length ≤ 100 then match (e2[i]?).bind fun x => subD x path, e2[i]?, keysD dk with
    | some (.dt ks ds), some x, some kk => if ks.length < 100000 then .nx (e2.set i (putD x path (putKeyT ks ds kk d))) else .er
    | _, _, _ => .er
    else .er
  | none => .er
theorem ss_putT {i : Nat} {path : Pth} {kk : TK} (h : K1[i]? = some k) (h2 : subK k path = some (.dt kk)) (hk : k ≠ .ju) (hkk : leK .pu kk = true) (ha : SE K a fa ka K1 T1) (hb : SA K1 aa faa K2 T2) (h3 : K2[i]? = some k) (n2 : i ∉ T2) : SS z K (aPutT i path a aa) (fPutT i path fa faa) K2 Kb Kc kr k0 := fun s e m A q => by
  obtain ⟨r, e1, g1, g2⟩ := q.ex
  unfold fPutT at q
  rw [g2] at q
  cases g3 : faa e1 with
  | none =>
    simp only [g3] at q
    exact absurd rfl q.ne
  | some zz =>
  obtain ⟨r2, e2⟩ := zz
  simp only [g3] at q
  split at q
  case isFalse => exact absurd rfl q.ne
  rename_i hlen
  refine ha s e r e1 m g1 _ fun l1 s1 k1 q1 m1 u1 => ?_
  obtain ⟨l, t, y1, y2, y3, y4, y5, y6, y7⟩ := m1.plc h h2
  rw [y2]
  have y4' := y4
  unfold Has at y4
  obtain ⟨p, ke, ts, rfl, y8⟩ := y4
  simp only
  refine hb s1 e1 r2 e2 m1 g3 _ fun s2 m2 u2 => ?_
  have es : s2[i]? = some l := by rw [u2.t i n2]; exact y1
  have ep : DL.plc s2 i path = some (.nd p (.dt ke) ts) := by
    unfold DL.plc
    rw [es]
    exact y5
  obtain ⟨l3, z1, z2, z3⟩ := m2.ix h3
  rw [es] at z1
  cases z1
  rw [ev_d hk] at z3
  simp only [z3, Option.bind_some, y7 hk] at q
  rw [Sl.d] at q
  cases hkey : keysD r2 with
  | none =>
    rw [hkey] at q
    exact absurd rfl q.ne
  | some kv =>
    rw [hkey] at q
    have q : Cn z s A (if ke.length < 100000 then .nx (e2.set i (putD l.d path (putKeyT ke (dsA ts) kv r))) else .er) K2 Kb Kc kr k0 := q
    refine ⟨hlen, kv, by first | exact hkey | rfl, ?_⟩
    rw [ep]
    split at q
    · rename_i hl
      refine ⟨rfl, hl, ?_⟩
      have key : ∀ t' : Sl, Has (.dt kk) t' → root t' = some p → t'.d = putKeyT ke (dsA ts) kv r → A.nx (setP s2 i path t') := fun t' w1 w2 w3 => by
        obtain ⟨v1, v2, _⟩ := m2.putP h3 h2 hk (by simp) es y5 w1 (by rw [w2]; rfl)
        rw [w3] at v1
        exact q.nx _ _ rfl v1 fun _ => ((u1.r.trans u2.r).trans v2).r0
      cases hj : ixA ke kv with
      | some j =>
        refine key _ ?_ rfl ?_
        · unfold Has
          refine ⟨p, ke, _, rfl, fun t' ht => ?_⟩
          rcases List.mem_or_eq_of_mem_set ht with z | rfl
          · exact y8 t' z
          · exact le_has _ _ _ hkk (has_pu _)
        · unfold putKeyT
          rw [hj, Sl.d, dsA_set, Sl.d, q1]
          rfl
      | none =>
        refine key _ ?_ rfl ?_
        · unfold Has
          refine ⟨p, _, _, rfl, fun t' ht => ?_⟩
          rcases List.mem_append.mp ht with z | z
          · exact y8 t' z
          · rw [List.mem_singleton.mp z]
            exact le_has _ _ _ hkk (has_pu _)
        · unfold putKeyT
          rw [hj, Sl.d, dsA_app, q1]
          show D.dt (ke ++ [kv]) (dsA ts ++ dsA [.pu r]) = _
          simp [dsA, Sl.d]
    · exact absurd rfl q.ne
theorem w_putT_nil {dk : List D} {kk : List Key} {ks : List (List Key)} (h1 : fa e = some (x, e1)) (h2 : faa e1 = some (dk, e2)) (h3 : dk.length ≤ 100) (h4 : e2[i]? = some (.dt ks ds)) (h5 : keysD dk = some kk) (h6 : ks.length < 100000) : fPutT i [] fa faa e = .nx (e2.set i (putKeyT ks ds kk x)) := by
  unfold fPutT fE
  simp only [h1, h2]
  rw [if_pos h3]
  simp only [h4, Option.bind_some, subD, h5, putD]
  rw [if_pos h6]
end
end DL
namespace DL
variable [Tabl]
open PySem L2
section
variable {X : Cx} {Ki Kp Kb : List TK} {ai : AI} {ap ab : AE} {fi : FA} {fp fb : FE} {j1 i j3 N : Nat} {Tp Tb : List Nat}
end
end DL
namespace DL
variable [Tabl]
open PySem L2
section
variable {K K1 : List TK} {a : AE} {fa : FE} {ka : TK} {T1 : List Nat} {e : En}
end
end DL
namespace DL
variable [Tabl]
open PySem L2
section
variable {z : Bool} {K Kb Kc : List TK} {k kr k0 ka : TK} {a : AE} {fa : FE} {T1 : List Nat}
def fAppP (i : Nat) (path : Pth) (a : FE) : FS := fE a fun v e1 => match (e1[i]?).bind fun x => subD x path, e1[i]? with
  | some (.lst xs), some d => if xs.length < 100000 then .nx (e1.set i (putD d path (.lst (xs ++ [v])))) else .er
  | _, _ => .er
def fAugP (i : Nat) (path : Pth) (f : Str) (g : Int → Int → Int) (a : FE) : FS := fun e => match (e[i]?).bind fun d => subD d path with
  | some (.ins _ ns ds) => match (ixF ns f).bind fun j => ds[j]? with
    | some (.int x) => fE a (fun v e1 => match v with
      | .int y => match gFldF i path f (.int (g x y)) e1 with
        | some e2 => .nx e2
        | none => .er
      | _ => .er) e
    | _ => .er
  | _ => .er
end
end DL
namespace DL
variable [Tabl]
open PySem L2
section
variable {z : Bool} {K K1 Kb Kc : List TK} {k kr k0 ka kb : TK} {a ab : AE} {fa fb : FE} {T1 : List Nat}
def fOpB (g : D → D → Option D) (i : Nat) (b : FE) : FE := fun e => (b e).bind fun x => (x.2[i]?).bind fun d => (g d x.1).bind fun r => if flatD r = true then some (r, x.2) else none
def fBorP (g : List D → Option D) (i : Nat) (path : Pth) : FE := fun e => (e[i]?).bind fun d => (subD d path).bind fun x => (g [x]).bind fun r => if flatD r = true then some (r, e) else none
def fInKP (neg : Bool) (i : Nat) (path : Pth) (k : FE) : FE := fun e => (k e).bind fun x => (x.2[i]?).bind fun d => (subD d path).bind fun y => match y with
  | .dk ks _ => (keyD x.1).map fun kk => (.bl (if neg then !(ixA ks kk).isSome else (ixA ks kk).isSome), x.2)
  | _ => none
abbrev FAB := En → Option ((List D × List D) × En)
def fbHere (fb : FA) : FAB := fun e => (fb e).map fun x => (([], x.1), x.2)
def fbCons (a : FE) (r : FAB) : FAB := fun e => (a e).bind fun x => (r x.2).map fun y => ((x.1 :: y.1.1, y.1.2), y.2)
def SAB (K : List TK) (a : AAB) (f : FAB) (K' : List TK) (T : List Nat) : Prop := ∀ s e r e', Mt K s e → f e = some (r, e') → ∀ P, (∀ s', Mt K' s' e' → Un T s s' → P r.1 r.2 s') → a s P
theorem sab_here {i : Nat} {ar : AA} {fb : FA} (h0 : K[i]? = some .ow) (hb : SA K ar fb K1 T1) (n1 : i ∉ T1) : SAB K (abHere i ar) (fbHere fb) K1 T1 := fun s e r e' m h P hP => by
  obtain ⟨⟨es, e1⟩, h1, h2⟩ := ex_map h
  cases h2
  obtain ⟨l0, g1, g2, g3⟩ := m.ix h0
  obtain ⟨p0, xs0, rfl⟩ := of_ow g2
  unfold abHere
  rw [g1]
  exact hb s e _ _ m h1 _ fun s1 m1 u1 => ⟨⟨xs0, by rw [u1.t i n1]; exact g1⟩, hP s1 m1 u1⟩
theorem sab_cons {T2 : List Nat} {K2 : List TK} {r : AAB} {fr : FAB} (ha : SE K a fa ka K1 T1) (hr : SAB K1 r fr K2 T2) : SAB K (abCons a r) (fbCons fa fr) K2 (T1 ++ T2) := fun s e x e' m h P hP => by
  obtain ⟨⟨d1, e1⟩, h1, h'⟩ := ex_bind h
  clear h
  obtain ⟨⟨⟨ds, es⟩, e2⟩, h2, h3⟩ := ex_map h'
  cases h3
  refine ha s e _ e1 m h1 _ fun l1 s1 k1 q1 m1 u1 => ?_
  refine hr s1 e1 _ _ m1 h2 _ fun s2 m2 u2 => ?_
  subst q1
  exact hP s2 m2 (u1.trans u2)
def flatR : D → Bool
  | .lst xs => xs.all flatD
  | d => flatD d
def fCallBo (o : Bool) (g : List D → Option D) (i : Nat) (a : FAB) : FE := fun e => (a e).bind fun x => (x.2[i]?).bind fun d => (g (x.1.1 ++ d :: x.1.2)).bind fun r => if (if o then flatR r else flatD r) = true then some (r, x.2) else none
theorem se_callBo {r : ARC} {g : List D → Option D} {i : Nat} {a : AAB} {fa : FAB} {o : Bool} (hr : VC r g k) (hk : k = if o then .ow else .pu) (ha : SAB K a fa K1 T1) (h1 : K1[i]? = some .ow) : SE K (aCallBo r i a) (fCallBo o g i fa) k K1 T1 := fun s e x e' m h P hP => by
  obtain ⟨⟨⟨ds, es⟩, e1⟩, g1, h'⟩ := ex_bind h
  clear h
  obtain ⟨d, g2, h⟩ := ex_bind h'
  clear h'
  obtain ⟨y, g3, h'⟩ := ex_bind h
  clear h
  refine ha s e _ e1 m g1 _ fun s1 m1 u1 => ?_
  obtain ⟨l0, z1, z2, z3⟩ := m1.ix h1
  obtain ⟨p0, xs0, rfl⟩ := of_ow z2
  simp only at g2 g3 h'
  rw [z3, ev_d (by simp), Sl.d] at g2
  cases g2
  have hc : (if o then flatR y else flatD y) = true ∧ x = y ∧ e' = e1 := by
    cases hb : (if o then flatR y else flatD y) with
    | false =>
      rw [hb] at h'
      cases h'
    | true =>
      rw [hb] at h'
      cases h'
      exact ⟨rfl, rfl, rfl⟩
  obtain ⟨hc, rfl, rfl⟩ := hc
  refine ⟨p0, xs0, z1, hr _ _ g3 _ fun l hl hd => ⟨?_, hP _ _ hl hd m1 u1⟩⟩
  subst hd
  cases o with
  | true =>
    rw [if_pos rfl] at hk hc
    subst hk
    obtain ⟨p, xs, rfl⟩ := of_ow hl
    rw [Sl.d] at hc
    exact hc
  | false =>
    rw [if_neg (by simp)] at hk hc
    subst hk
    have e := of_pu hl
    rw [e] at hc ⊢
    rw [Sl.d] at hc
    exact hc
end
section
variable {K Kn Kb Kc : List TK} {kr k0 k1 : TK} {A : AS} {f : FS} {n N : Nat}
end
section
variable {a b c : FE} {fa fr : FA} {e e1 e2 : En} {i j n m : Nat} {d x y v t r : D} {ds xs ys : List D} {path : Pth} {f : Str}
def xp3 (i : Nat) (path : Pth) (v : D) (e : En) (d : D) : Option D → Out
  | some (.lst xs) => if xs.length < 100000 then .nx (e.set i (putD d path (.lst (xs ++ [v])))) else .er
  | _ => .er
def xp2 (i : Nat) (path : Pth) (v : D) (e : En) : Option D → Out
  | some d => xp3 i path v e d (subD d path)
  | none => .er
def xp1 (i : Nat) (path : Pth) : Option (D × En) → Out
  | some (v, e) => xp2 i path v e e[i]?
  | none => .er
theorem xp1_some : xp1 i path (some (v, e)) = xp2 i path v e e[i]? := nr rfl
theorem xp2_some : xp2 i path v e (some d) = xp3 i path v e d (subD d path) := nr rfl
theorem xp3_lst (h : xs.length < 100000) : xp3 i path v e d (some (.lst xs)) = .nx (e.set i (putD d path (.lst (xs ++ [v])))) := if_pos h
theorem w_appP : fAppP i path a e = xp1 i path (a e) := by
  unfold fAppP fE xp1
  rcases a e with _ | ⟨z1, z2⟩
  · rfl
  · simp only
    unfold xp2
    rcases z2[i]? with _ | w
    · rfl
    · simp only [Option.bind_some]
      unfold xp3
      rcases subD w path with _ | t
      · rfl
      · cases t <;> rfl
def up4 (i : Nat) (path : Pth) (f : Str) (g : Int → Int → Int) (x : Int) : Option (D × En) → Out
  | some (.int y, e1) => nx1 (gFldF i path f (.int (g x y)) e1)
  | _ => .er
def up3 (i : Nat) (path : Pth) (f : Str) (g : Int → Int → Int) (a : FE) (e : En) : Option D → Out
  | some (.int x) => up4 i path f g x (a e)
  | _ => .er
def up2 (i : Nat) (path : Pth) (f : Str) (g : Int → Int → Int) (a : FE) (e : En) : Option D → Out
  | some (.ins _ ns ds) => up3 i path f g a e ((ixF ns f).bind fun j => ds[j]?)
  | _ => .er
def up1 (i : Nat) (path : Pth) (f : Str) (g : Int → Int → Int) (a : FE) (e : En) : Option D → Out
  | some d => up2 i path f g a e (subD d path)
  | _ => .er
theorem up1_some {g : Int → Int → Int} : up1 i path f g a e (some d) = up2 i path f g a e (subD d path) := nr rfl
theorem up3_int {g : Int → Int → Int} {k : Int} : up3 i path f g a e (some (.int k)) = up4 i path f g k (a e) := nr rfl
theorem up4_int {g : Int → Int → Int} {k l : Int} : up4 i path f g k (some (.int l, e1)) = nx1 (gFldF i path f (.int (g k l)) e1) := nr rfl
theorem w_augP {g : Int → Int → Int} : fAugP i path f g a e = up1 i path f g a e e[i]? := by
  unfold fAugP up1
  rcases e[i]? with _ | w
  · rfl
  · simp only [Option.bind_some]
    unfold up2
    rcases subD w path with _ | t
    · rfl
    · cases t <;> try rfl
      rename_i c ns ds
      simp only
      unfold up3
      generalize ((ixF ns f).bind fun j => ds[j]?) = o
      rcases o with _ | t2
      · rfl
      · cases t2 <;> try rfl
        rename_i k
        try simp only
        unfold fE up4
        rcases a e with _ | ⟨z1, z2⟩
        · rfl
        · cases z1 <;> rfl
def pk4 (i : Nat) (path : Pth) (v kk : D) (e : En) (x : D) : Option D → Out
  | some (.dk ks ds) => match keyD kk with
    | some kx => if ks.length < 100000 then .nx (e.set i (putD x path (putKey ks ds kx v))) else .er
    | none => .er
  | _ => .er
theorem pk3_p : pk3 i path v y e (some x) = pk4 i path v y e x (subD x path) := by
  unfold pk3 pk4
  rfl
theorem pk4_int {ks : List Key} {k : Int} (h : ks.length < 100000) : pk4 i path v (.int k) e x (some (.dk ks ds)) = .nx (e.set i (putD x path (putKey ks ds (.inl k) v))) := by
  unfold pk4
  simp only [keyD]
  rw [if_pos h]
def qb2 (g : List D → Option D) (e : En) : Option D → Option (D × En)
  | some x => bo2 e (g [x])
  | none => none
def qb1 (g : List D → Option D) (path : Pth) (e : En) : Option D → Option (D × En)
  | some d => qb2 g e (subD d path)
  | none => none
theorem qb1_some {g : List D → Option D} : qb1 g path e (some d) = qb2 g e (subD d path) := nr rfl
theorem qb2_some {g : List D → Option D} : qb2 g e (some d) = bo2 e (g [d]) := nr rfl
theorem w_borP {g : List D → Option D} : fBorP g i path e = qb1 g path e e[i]? := by
  unfold fBorP qb1
  rcases e[i]? with _ | w
  · rfl
  · simp only [Option.bind_some]
    unfold qb2
    rcases subD w path with _ | t
    · rfl
    · simp only [Option.bind_some]
      unfold bo2
      cases g [t] <;> rfl
def qk3 (neg : Bool) (x : D) (e : En) : Option D → Option (D × En)
  | some d => nk2 neg x (some (d, e))
  | none => none
def qk2 (neg : Bool) (path : Pth) (x : D) (e : En) : Option D → Option (D × En)
  | some d => qk3 neg x e (subD d path)
  | none => none
def qk1 (neg : Bool) (i : Nat) (path : Pth) : Option (D × En) → Option (D × En)
  | some (x, e) => qk2 neg path x e e[i]?
  | none => none
theorem qk1_some {neg : Bool} : qk1 neg i path (some (x, e)) = qk2 neg path x e e[i]? := nr rfl
theorem qk2_some {neg : Bool} : qk2 neg path x e (some d) = qk3 neg x e (subD d path) := nr rfl
theorem qk3_some {neg : Bool} : qk3 neg x e (some d) = nk2 neg x (some (d, e)) := nr rfl
theorem w_inKP {neg : Bool} : fInKP neg i path a e = qk1 neg i path (a e) := by
  unfold fInKP qk1
  rcases a e with _ | ⟨z1, z2⟩
  · rfl
  · simp only [Option.bind_some]
    unfold qk2
    rcases z2[i]? with _ | w
    · rfl
    · simp only [Option.bind_some]
      unfold qk3
      rcases subD w path with _ | t
      · rfl
      · simp only [Option.bind_some]
        unfold nk2
        cases t <;> try rfl
        simp only
        cases keyD z1 <;> rfl
def qo2 (g : D → D → Option D) (y : D) (e : En) : Option D → Option (D × En)
  | some d => bo2 e (g d y)
  | none => none
def qo1 (g : D → D → Option D) (i : Nat) : Option (D × En) → Option (D × En)
  | some (y, e) => qo2 g y e e[i]?
  | none => none
theorem qo1_some {g : D → D → Option D} : qo1 g i (some (y, e)) = qo2 g y e e[i]? := nr rfl
theorem qo2_some {g : D → D → Option D} : qo2 g y e (some d) = bo2 e (g d y) := nr rfl
theorem w_opB {g : D → D → Option D} : fOpB g i a e = qo1 g i (a e) := by
  unfold fOpB qo1
  rcases a e with _ | ⟨z1, z2⟩
  · rfl
  · simp only [Option.bind_some]
    unfold qo2
    rcases z2[i]? with _ | w
    · rfl
    · simp only [Option.bind_some]
      unfold bo2
      cases g w z1 <;> rfl
def fb1 : Option (List D × En) → Option ((List D × List D) × En)
  | some (es, e) => some (([], es), e)
  | none => none
theorem fb1_some : fb1 (some (ds, e)) = some (([], ds), e) := nr rfl
theorem w_bHere : fbHere fa e = fb1 (fa e) := by
  unfold fbHere fb1
  rcases fa e with _ | ⟨z1, z2⟩ <;> rfl
def fb3 (x : D) : Option ((List D × List D) × En) → Option ((List D × List D) × En)
  | some ((ds, es), e) => some ((x :: ds, es), e)
  | none => none
def fb2 (r : FAB) : Option (D × En) → Option ((List D × List D) × En)
  | some (x, e) => fb3 x (r e)
  | none => none
theorem fb2_some {r : FAB} : fb2 r (some (x, e)) = fb3 x (r e) := nr rfl
theorem fb3_some : fb3 x (some ((ds, xs), e)) = some ((x :: ds, xs), e) := nr rfl
theorem w_bCons {r : FAB} : fbCons a r e = fb2 r (a e) := by
  unfold fbCons fb2
  rcases a e with _ | ⟨z1, z2⟩
  · rfl
  · simp only [Option.bind_some]
    unfold fb3
    rcases r z2 with _ | ⟨⟨w1, w2⟩, w3⟩ <;> rfl
def qc3 (o : Bool) (e : En) : Option D → Option (D × En)
  | some r => if (if o then flatR r else flatD r) = true then some (r, e) else none
  | none => none
def qc2 (o : Bool) (g : List D → Option D) (ds es : List D) (e : En) : Option D → Option (D × En)
  | some d => qc3 o e (g (ds ++ d :: es))
  | none => none
def qc1 (o : Bool) (g : List D → Option D) (i : Nat) : Option ((List D × List D) × En) → Option (D × En)
  | some ((ds, es), e) => qc2 o g ds es e e[i]?
  | none => none
theorem qc1_some {o : Bool} {g : List D → Option D} : qc1 o g i (some ((ds, xs), e)) = qc2 o g ds xs e e[i]? := nr rfl
theorem qc2_some {o : Bool} {g : List D → Option D} : qc2 o g ds xs e (some d) = qc3 o e (g (ds ++ d :: xs)) := nr rfl
theorem qc3_ow (h : flatR r = true) : qc3 true e (some r) = some (r, e) := if_pos h
theorem w_callBo {o : Bool} {g : List D → Option D} {ab : FAB} : fCallBo o g i ab e = qc1 o g i (ab e) := by
  unfold fCallBo qc1
  rcases ab e with _ | ⟨⟨z1, z2⟩, z3⟩
  · rfl
  · simp only [Option.bind_some]
    unfold qc2
    rcases z3[i]? with _ | w
    · rfl
    · simp only [Option.bind_some]
      unfold qc3
      rcases g (z1 ++ w :: z2) with _ | t <;> rfl
def mp4 (i : Nat) (path : Pth) (d : D) (e : En) : Option (D × D) → Option (D × En)
  | some (r, t) => some (r, e.set i (putD d path t))
  | none => none
def mp3 (n i : Nat) (path : Pth) (F : List D → Option (D × D)) (xs : List D) (e : En) (d : D) : Option D → Option (D × En)
  | some t => if xs.length + 1 = n then mp4 i path d e (F (t :: xs)) else none
  | none => none
def mp2 (n i : Nat) (path : Pth) (F : List D → Option (D × D)) (xs : List D) (e : En) : Option D → Option (D × En)
  | some d => mp3 n i path F xs e d (subD d path)
  | none => none
def mp1 (n i : Nat) (path : Pth) (F : List D → Option (D × D)) : Option (List D × En) → Option (D × En)
  | some (xs, e) => mp2 n i path F xs e e[i]?
  | none => none
theorem mp1_some {F : List D → Option (D × D)} : mp1 n i path F (some (xs, e)) = mp2 n i path F xs e e[i]? := nr rfl
theorem mp2_some {F : List D → Option (D × D)} : mp2 n i path F xs e (some d) = mp3 n i path F xs e d (subD d path) := nr rfl
theorem mp3_0 {F : List D → Option (D × D)} : mp3 1 i path F [] e d (some t) = mp4 i path d e (F [t]) := nr rfl
theorem mp3_1 {F : List D → Option (D × D)} : mp3 2 i path F [x] e d (some t) = mp4 i path d e (F [t, x]) := nr rfl
theorem mp3_2 {F : List D → Option (D × D)} : mp3 3 i path F [x, y] e d (some t) = mp4 i path d e (F [t, x, y]) := nr rfl
theorem mp4_some : mp4 i path d e (some (r, t)) = some (r, e.set i (putD d path t)) := nr rfl
theorem w_methP {F : List D → Option (D × D)} : fMethP n i path F fa e = mp1 n i path F (fa e) := by
  unfold fMethP mp1
  rcases fa e with _ | ⟨z1, z2⟩
  · rfl
  · simp only [Option.bind_some]
    unfold mp2
    rcases z2[i]? with _ | w
    · rfl
    · simp only [Option.bind_some]
      unfold mp3
      rcases subD w path with _ | t
      · rfl
      · simp only [Option.bind_some]
        unfold mp4
        split
        · cases F (t :: z1) <;> rfl
        · rfl
end
end DL
namespace DL
variable [Tabl]
open PySem L2
section
variable {K K1 Kl Kg Ke K5 Kb Kc : List TK} {kr k0 ke kn : TK} {T1 T2 T3 L vs : List Nat} {ak : AA} {fak : FA} {g : AG} {tg : FG} {a an : AE} {fa fan : FE} {i h f : Nat}
end
end DL
namespace DL
variable [Tabl]
open PySem L2
section
variable {z : Bool} {K K1 Kl Kg Kt Ke Kb Kc : List TK} {k kr k0 ka ke : TK} {a : AE} {fa : FE} {t : AT} {ft : FT} {T T1 T2 : List Nat}
end
end DL
namespace DL
open PySem L2
end DL
namespace DL
open PySem L2
end DL
namespace DL
variable [Tabl]
open PySem L2
section
variable {z : Bool} {K K1 K2 Kb Kc : List TK} {k kr k0 ka kb : TK} {a ab : AE} {fa fb : FE} {T1 T2 : List Nat} {i : Nat} {path : Pth}
def fPropP (i : Nat) (path : Pth) (F : List D → Option (D × D)) : FE := fMethP 1 i path F fNil
end
end DL
namespace DL
variable [Tabl]
open PySem L2
section
variable {K K1 : List TK} {aa : AA} {faa : FA} {T1 : List Nat}
def pm1 (m : Nat) (ix : List Nat) : Option (List D × En) → Option (List D × En)
  | some (ds, e) => if ds.length = m then some (pickL ix ds, e) else none
  | none => none
def fPerm (m : Nat) (ix : List Nat) (a : FA) : FA := fun e => pm1 m ix (a e)
variable {m : Nat} {ix : List Nat} {a : FA} {e : En} {x y z w : D}
theorem w_perm : fPerm m ix a e = pm1 m ix (a e) := nr rfl
theorem pm1_1 : pm1 1 [0] (some ([x], e)) = some ([x], e) := nr rfl
theorem pm1_2 : pm1 2 [0, 1] (some ([x, y], e)) = some ([x, y], e) := nr rfl
theorem pm1_3 : pm1 3 [0, 1, 2] (some ([x, y, z], e)) = some ([x, y, z], e) := nr rfl
theorem pm1_4 : pm1 4 [0, 1, 2, 3] (some ([x, y, z, w], e)) = some ([x, y, z, w], e) := nr rfl
end
end DL
namespace DL
open PySem L2
section
variable {i : Nat} {path : Pth} {e : En}
theorem w_propP {F : List D → Option (D × D)} : fPropP i path F e = fMethP 1 i path F fNil e := nr rfl
end
end DL
namespace DL
variable [Tabl]
open PySem L2
end DL
namespace DL
variable [Tabl]
open PySem L2
section
variable {K K1 Kb Kc : List TK} {aa : AA} {faa fa : FA} {T1 : List Nat} {b : AE} {fb : FE} {kb k0 : TK} {e e1 : En} {z : Bool} {kr : TK}
end
end DL
namespace DL
variable [Tabl]
open PySem L2
section
variable {K K1 : List TK} {a : AE} {fa : FE} {ka : TK} {T1 : List Nat} {e : En}
end
end DL
open PySem L2 DL TL
local macro_rules
  | `(tactic| walk_at $s:str) => do
    let hs := ((s.getString.splitOn " ").filter fun x => x != "")
    let us := hs.filter fun x => x.front != '@'
    let ls ← us.toArray.mapM fun h => `(Lean.Parser.Tactic.simpLemma| $(Lean.mkIdent h.toName):term)
    `(tactic| simp (config := { maxSteps := 1000000 }) (disch := first | assumption | omega | (simp only [List.length_map, List.length_append, List.length_cons, List.length_nil, List.length_replicate]; omega)) only [u1_some, pr_some, pr_ite, w_var, w_c, mv1_some, w_mov, op1_some, op2_some, op1_ite, op2_ite, w_op, hNeg_int, hNot_bl, w_neg, w_notV, an1_bl, or1_bl, w_andV, w_orV, an1_ite, or1_ite, ch1_some, ch2_some, ch3_bl, w_chain, hTest_bl, w_test, u1_ite, ta1_some, to1_some, ta1_ite, to1_ite, w_tand, w_tor, hNotB_eq, w_not, w_yes, if0_some, if0_ite, w_if, w_isi, w_nil, co1_some, co2_some, co1_ite, co2_ite, w_cons, sr2_some, sr1_t, sr1_l, w_star, hTup_nil, hTup_1, hTup_2, hTup_3, hTup_4, hTup_5, hLst_nil, hLst_1, hLst_2, hLst_3, hLst_4, hLst_5, hLst_6, hTup_eq, hLst_eq, w_tup, w_lst, w_call, w_noP, hPart_int, w_part, sl1_some, sl2_some, sl3_some, hSlL_l, hSlL_s, hSlT_t, w_slL, w_slT, hRevL_l, w_revL, m11_str, m12_some, w_m1, io1_int, io2_lst, w_ixO, bo1_some, bo2_int, bo2_bl, w_bor, ib1_some, w_inB, w_popAt, w_lr1, w_lr2, hLr1_eq, hLsT_eq, hLsL_eq, w_lsT, w_lsL, cm2_some, w_callM, ct2_some, ct0_some, w_callT, gFn_1, gFn_2, gFn_3, gFn_4, gFn_5, gFn_6, w_callK, ck1_1, ck1_2, ck1_2', hItL_l, hItL_s, hItT_t, hItS_s, w_itL, w_itT, w_itS, hRng1_nat, hRng1_eq, hRng2_eq, w_rng1, w_rng2, hEnT_t, hEnL_l, w_enT, w_enL, gZip_tt, gZip_ll, w_zip, hZipX_tl, hZipX_lt, w_zipX, w_name, w_gnil, gc1_some, w_gcons, w_gtup, lc2_some, lc1_some, w_lc, scr_nil, scr_cons, sq_nx, sq_rt, sq_bk, sq_ct, sq_er, sq_ite, w_seq, wk1_nx, wk1_rt, wk1_bk, wk1_ct, wk1_er, wk1_ite, w_wk, w_next, w_nev, w_brk, w_cnt, w_retN, rt1_some, dr1_some, se1_some, rt1_ite, se1_ite, w_ret, w_drop, w_set, if1_some, if1_ite, w_ifS, nx1_some, as1_some, w_asg, w_to, pa1_some, pa2_some, w_par, pb1_some, pb2_some, pb3_some, w_par3, ag1_some, ag2_some, w_aug, ap1_some, ap2_lst, w_app, et1_lst, et2_lst, w_ext, pt1_some, pt2_int, w_put, fo1_some, w_for, forD_nil, rd1_rt, rd1_nx, rd1_ite, w_tn, tn1_some, tn2_nx, tn2_ct, tn2_bk, tn2_rt, tn2_ite, w_ltn, lt1_some, lt2_some, lt2_ite, lt3_some, lt3_ite, lcD_nil, gI_ii, gB_ii, gMul_l, gMul_r, gMul_n, gDiv_p, gDivW_p, gMod_p, gEq_ii, gEq_ss, gEq_bb, gIsN_non, gIsN_int, gIsN_tup, gIsN_lst, gIsN_str, gIsN_bl, gIx_t, gIx_l, gIx_s, gCatL_ll, gCatT_tt, gMulT_ti, gIsB_bb, gI1_i, gI2_ii, gInt_i, gInt_b, gLen_t, gLen_l, gLen_s, gList_t, gList_l, gTupl_t, gTupl_l, gBls_l, gInts_l, gIntsT_t, nSum_eq, gSortI_l, gSortTI_t, gStrI_i, hIsi_int_int, hIsi_bool_int, hIsi_int_bl, hIsi_bool_bl, hIsi_tup_tup, hIsi_str_str, hIsi_lst_lst,
      w_enZip, hEnZip_tl, hEnZip_lt, hEnZip_tt, hEnZip_ll, gt1_some, w_get, w_fldD, w_propD, hProp_eq, mk2_some, mk1_0, mk1_1, mk1_2, mk1_3, w_make, gd1_some, gd2_some, gd4_int, gd5_none, gd5_some, w_getD, ik1_dk, ik2_int, ik3_some, w_ixK, nk1_some, nk2_int, w_inK, go1_some, go2_some, go3_nil, w_getO, pk1_some, pk2_some, pk3_nil, w_putO, fl1_some, fl2_ins, w_fld, subD_nil, putD_nil, pg1_2, pg1_3, pg1_4, w_parG, cm1_some, cm3_1, cm3_2, cm3_3, cm3_4, cm3_5, ct1_1, ct1_2, ct1_3, ge_0, ge_s, sz_0, sz_s, ap_c, ap_n, List.append_nil, List.replicate, Nat.reduceSub, Nat.reduceAdd, Nat.zero_add, at2_0, at2_1, at3_0, at3_1, at3_2, List.length_cons, List.length_nil, List.length_map, List.length_replicate, if_tt, if_ff, if_not, not_tt, not_ff, dec_t, if_true, if_false, ite_true, ite_false, reduceIte, Bool.false_eq_true, true_and, and_true, Bool.not_true, Bool.not_false, ci_0, ci_1, ci_2, ci_3, ci_4, ci_5, ci_6, ci_7, ci_8, eq_self, Int.reduceLT, Int.reduceLE, Int.reduceEq, Int.toNat_natCast, decide_true, decide_false, not_true_eq_false, not_false_eq_true, $ls,*])
namespace FB
open PySem L2 DL
abbrev A_is_integer : AS := (aRet (aAndV (aIsi .int (aVar 0)) (aNotV (aIsi .bool (aVar 0)))))
abbrev B_is_integer : FS := (fRet (fAndV (fIsi .int (fVar 0)) (fNotV (fIsi .bool (fVar 0)))))
theorem ss_is_integer : SS false (K0D 1 1) A_is_integer B_is_integer [] [] [] .pu .ju :=
  (ss_ret (se_andV (se_isi (se_var rfl)) (se_notV (se_isi (se_var rfl)))) rfl (.inl rfl))
def F_is_integer : List D → Option D := runD 1 1 B_is_integer
abbrev S_is_integer : ARC := lowD .pu F_is_integer
theorem law_is_integer : ∀ ds Q, ds.length = 1 → S_is_integer ds Q → A_is_integer (endsD Q) (startS 1 (ds.map .pu)) := lawD ss_is_integer rfl
abbrev A_is_within : AS := (aRet (aAndV (aCall (aFn 1 S_is_integer) (aCons (aVar 0) aNil)) (aChain aLe aLe (aVar 1) (aVar 0) (aVar 2))))
abbrev B_is_within : FS := (fRet (fAndV (fCall (gFn 1 F_is_integer) (fCons (fVar 0) fNil)) (fChain gLe gLe (fVar 1) (fVar 0) (fVar 2))))
theorem ss_is_within : SS false (K0D 3 3) A_is_within B_is_within [] [] [] .pu .ju :=
  (ss_ret (se_andV (se_call vc_fn (sa_cons (se_var rfl) sa_nil)) (se_chain v_b v_b (se_var rfl) (se_var rfl) (se_var rfl))) rfl (.inl rfl))
def F_is_within : List D → Option D := runD 3 3 B_is_within
abbrev S_is_within : ARC := lowD .pu F_is_within
theorem law_is_within : ∀ ds Q, ds.length = 3 → S_is_within ds Q → A_is_within (endsD Q) (startS 3 (ds.map .pu)) := lawD ss_is_within rfl
abbrev A__law_pot (c0 c1 c2 c3 c4 : Int) : AS := (aSeq (aSet 2 (aIf (aTest (aOp aLt (aVar 1) (aCall aLen (aCons (aVar 0) aNil)))) (aOp aIx (aVar 0) (aVar 1)) (aAdd (aAdd (aMod (aCall (aInts fSum) (aCons (aSlL (aVar 0) aNoP (aPart (aC (.int 1)))) aNil)) (aC (.int 1000003))) (aMul (aC (.int c0)) (aVar 1))) (aC (.int c1)))))
  (aSeq (aSet 3 (aMul (aMod (aCall aInt (aCons (aCall (aI1 absI) (aCons (aVar 2) aNil)) aNil)) (aPowW (aPow (aC (.int 10)) (aC (.int 60))) (aC (.int 5)))) (aCall aInt (aCons (aOp aGe (aCall (aI1 absI) (aCons (aVar 2) aNil)) (aPow (aC (.int 10)) (aC (.int 18)))) aNil))))
  (aSeq (aSet 4 (aMod (aCall aInt (aCons (aVar 2) aNil)) (aC (.int 2305843009213693951))))
  (aRet (aLst (aCons (aVar 3) (aCons (aMod (aCall aInt (aCons (aAdd (aAdd (aMul (aVar 4) (aC (.int c2))) (aMul (aMul (aC (.int c3)) (aVar 1)) (aVar 1))) (aC (.int c4))) aNil)) (aC (.int 2305843009213693921))) (aCons (aC (.int 0)) aNil))))))))
abbrev B__law_pot (c0 c1 c2 c3 c4 : Int) : FS := (fSeq (fSet 2 (fIf (fTest (fOp gLt (fVar 1) (fCall gLen (fCons (fVar 0) fNil)))) (fOp gIx (fVar 0) (fVar 1)) (fOp gAdd (fOp gAdd (fOp gMod (fCall (gInts nSum) (fCons (fSlL (fVar 0) fNoP (fPart (fC (.int 1)))) fNil)) (fC (.int 1000003))) (fOp gMul (fC (.int c0)) (fVar 1))) (fC (.int c1)))))
  (fSeq (fSet 3 (fOp gMul (fOp gMod (fCall gInt (fCons (fCall (gI1 absI) (fCons (fVar 2) fNil)) fNil)) (fOp gPowW (fOp gPow (fC (.int 10)) (fC (.int 60))) (fC (.int 5)))) (fCall gInt (fCons (fOp gGe (fCall (gI1 absI) (fCons (fVar 2) fNil)) (fOp gPow (fC (.int 10)) (fC (.int 18)))) fNil))))
  (fSeq (fSet 4 (fOp gMod (fCall gInt (fCons (fVar 2) fNil)) (fC (.int 2305843009213693951))))
  (fRet (fLst (fCons (fVar 3) (fCons (fOp gMod (fCall gInt (fCons (fOp gAdd (fOp gAdd (fOp gMul (fVar 4) (fC (.int c2))) (fOp gMul (fOp gMul (fC (.int c3)) (fVar 1)) (fVar 1))) (fC (.int c4))) fNil)) (fC (.int 2305843009213693921))) (fCons (fC (.int 0)) fNil))))))))
theorem ss__law_pot (c0 c1 c2 c3 c4 : Int) : SS false (K0D 2 5) (A__law_pot c0 c1 c2 c3 c4) (B__law_pot c0 c1 c2 c3 c4) [] [] [] .ow .ju :=
  (ss_seq (ss_set (se_if (st_test (se_op v_b (se_var rfl) (se_call vc_len (sa_cons (se_var rfl) sa_nil)))) (se_op v_ix (se_var rfl) (se_var rfl)) (se_op v_i (se_op v_i (se_op v_ic (se_call (vc_ints vn_sum) (sa_cons (se_slL (se_var rfl) so_no (so_part se_c)) sa_nil)) se_c) (se_op v_ic se_c (se_var rfl))) se_c)) (by simp) (.inr rfl))
  (ss_seq (ss_set (se_op v_ic (se_op v_ic (se_call vc_int (sa_cons (se_call vc_i1 (sa_cons (se_var rfl) sa_nil)) sa_nil)) (se_op v_ic (se_op v_ic se_c se_c) se_c)) (se_call vc_int (sa_cons (se_op v_b (se_call vc_i1 (sa_cons (se_var rfl) sa_nil)) (se_op v_ic se_c se_c)) sa_nil))) (by simp) (.inr rfl))
  (ss_seq (ss_set (se_op v_ic (se_call vc_int (sa_cons (se_var rfl) sa_nil)) se_c) (by simp) (.inr rfl))
  (ss_ret (se_lst (sa_cons (se_var rfl) (sa_cons (se_op v_ic (se_call vc_int (sa_cons (se_op v_i (se_op v_i (se_op v_ic (se_var rfl) se_c) (se_op v_ic (se_op v_ic se_c (se_var rfl)) (se_var rfl))) se_c) sa_nil)) se_c) (sa_cons se_c sa_nil)))) rfl (.inl rfl)))))
def F__law_pot (c0 c1 c2 c3 c4 : Int) : List D → Option D := runR 2 5 (B__law_pot c0 c1 c2 c3 c4)
abbrev S__law_pot (c0 c1 c2 c3 c4 : Int) : ARC := lowD .ow (F__law_pot c0 c1 c2 c3 c4)
theorem law__law_pot (c0 c1 c2 c3 c4 : Int) : ∀ ds Q, ds.length = 2 → (S__law_pot c0 c1 c2 c3 c4) ds Q → (A__law_pot c0 c1 c2 c3 c4) (endsD Q) (startS 5 (ds.map .pu)) := lawR (ss__law_pot c0 c1 c2 c3 c4)
abbrev A__law_take (c0 c1 c2 c3 : Int) : AS := (aSeq (aIfS (aTest (aOp aGt (aIxO 0 (aC (.int 0))) (aC (.int 0)))) (aSeq (aSet 2 (aMod (aCall aInt (aCons (aIxO 0 (aC (.int 0))) aNil)) (aVar 1)))
  (aSeq (aPut 0 (aDivW (aIxO 0 (aC (.int 0))) (aVar 1)) (aC (.int 0)))
  (aRet (aVar 2)))) aNext)
  (aSeq (aPut 0 (aAdd (aIxO 0 (aC (.int 2))) (aC (.int 1))) (aC (.int 2)))
  (aSeq (aSet 3 (aOp aIx (aLst (aCons (aC (.int 2147483647)) (aCons (aC (.int 2147483629)) (aCons (aC (.int 2147483587)) (aCons (aC (.int 2147483579)) (aCons (aC (.int 2147483563)) aNil)))))) (aMod (aCall aInt (aCons (aIxO 0 (aC (.int 2))) aNil)) (aC (.int 5)))))
  (aSeq (aSet 4 (aMod (aCall aInt (aCons (aPow (aCall aInt (aCons (aAdd (aAdd (aIxO 0 (aC (.int 1))) (aMul (aMul (aC (.int c0)) (aIxO 0 (aC (.int 2)))) (aIxO 0 (aC (.int 2))))) (aC (.int c1))) aNil)) (aC (.int 3))) aNil)) (aVar 3)))
  (aSeq (aSet 4 (aMod (aCall aInt (aCons (aMul (aVar 4) (aAdd (aMod (aCall aInt (aCons (aVar 4) aNil)) (aC (.int c2))) (aMul (aC (.int c3)) (aIxO 0 (aC (.int 2)))))) aNil)) (aC (.int 2305843009213693907))))
  (aRet (aMod (aCall aInt (aCons (aDivW (aVar 4) (aC (.int 173))) aNil)) (aVar 1))))))))
abbrev B__law_take (c0 c1 c2 c3 : Int) : FS := (fSeq (fIfS (fTest (fOp gGt (fIxO 0 (fC (.int 0))) (fC (.int 0)))) (fSeq (fSet 2 (fOp gMod (fCall gInt (fCons (fIxO 0 (fC (.int 0))) fNil)) (fVar 1)))
  (fSeq (fPut 0 (fOp gDivW (fIxO 0 (fC (.int 0))) (fVar 1)) (fC (.int 0)))
  (fRet (fVar 2)))) fNext)
  (fSeq (fPut 0 (fOp gAdd (fIxO 0 (fC (.int 2))) (fC (.int 1))) (fC (.int 2)))
  (fSeq (fSet 3 (fOp gIx (fLst (fCons (fC (.int 2147483647)) (fCons (fC (.int 2147483629)) (fCons (fC (.int 2147483587)) (fCons (fC (.int 2147483579)) (fCons (fC (.int 2147483563)) fNil)))))) (fOp gMod (fCall gInt (fCons (fIxO 0 (fC (.int 2))) fNil)) (fC (.int 5)))))
  (fSeq (fSet 4 (fOp gMod (fCall gInt (fCons (fOp gPow (fCall gInt (fCons (fOp gAdd (fOp gAdd (fIxO 0 (fC (.int 1))) (fOp gMul (fOp gMul (fC (.int c0)) (fIxO 0 (fC (.int 2)))) (fIxO 0 (fC (.int 2))))) (fC (.int c1))) fNil)) (fC (.int 3))) fNil)) (fVar 3)))
  (fSeq (fSet 4 (fOp gMod (fCall gInt (fCons (fOp gMul (fVar 4) (fOp gAdd (fOp gMod (fCall gInt (fCons (fVar 4) fNil)) (fC (.int c2))) (fOp gMul (fC (.int c3)) (fIxO 0 (fC (.int 2)))))) fNil)) (fC (.int 2305843009213693907))))
  (fRet (fOp gMod (fCall gInt (fCons (fOp gDivW (fVar 4) (fC (.int 173))) fNil)) (fVar 1))))))))
theorem ss__law_take (c0 c1 c2 c3 : Int) : SS true (K0M .ow 2 5) (A__law_take c0 c1 c2 c3) (B__law_take c0 c1 c2 c3) [] [] [] .pu .ow :=
  (ss_seq (ss_if (Kn := [.ow, .pu, .ju, .ju, .ju]) (st_test (se_op v_b (se_ixO rfl rfl se_c) se_c)) (ss_seq (ss_set (se_op v_ic (se_call vc_int (sa_cons (se_ixO rfl rfl se_c) sa_nil)) (se_var rfl)) (by simp) (.inl (by decide)))
  (ss_seq (ss_put rfl rfl (se_op v_ic (se_ixO rfl rfl se_c) (se_var rfl)) se_c)
  (ss_ret (se_var rfl) rfl (.inr ⟨_, rfl, rfl, by simp⟩)))) ss_next)
  (ss_seq (ss_put rfl rfl (se_op v_i (se_ixO rfl rfl se_c) se_c) se_c)
  (ss_seq (ss_set (se_op v_ix (se_lst (sa_cons se_c (sa_cons se_c (sa_cons se_c (sa_cons se_c (sa_cons se_c sa_nil)))))) (se_op v_ic (se_call vc_int (sa_cons (se_ixO rfl rfl se_c) sa_nil)) se_c)) (by simp) (.inl (by decide)))
  (ss_seq (ss_set (se_op v_ic (se_call vc_int (sa_cons (se_op v_ic (se_call vc_int (sa_cons (se_op v_i (se_op v_i (se_ixO rfl rfl se_c) (se_op v_ic (se_op v_ic se_c (se_ixO rfl rfl se_c)) (se_ixO rfl rfl se_c))) se_c) sa_nil)) se_c) sa_nil)) (se_var rfl)) (by simp) (.inl (by decide)))
  (ss_seq (ss_set (se_op v_ic (se_call vc_int (sa_cons (se_op v_ic (se_var rfl) (se_op v_i (se_op v_ic (se_call vc_int (sa_cons (se_var rfl) sa_nil)) se_c) (se_op v_ic se_c (se_ixO rfl rfl se_c)))) sa_nil)) se_c) (by simp) (.inl (by decide)))
  (ss_ret (se_op v_ic (se_call vc_int (sa_cons (se_op v_ic (se_var rfl) se_c) sa_nil)) (se_var rfl)) rfl (.inr ⟨_, rfl, rfl, by simp⟩)))))))
def F__law_take (c0 c1 c2 c3 : Int) : List D → Option (D × D) := runMR 2 5 (B__law_take c0 c1 c2 c3)
abbrev S__law_take (c0 c1 c2 c3 : Int) : ARM := lowM .pu (F__law_take c0 c1 c2 c3)
theorem law__law_take (c0 c1 c2 c3 : Int) : ∀ xs ds Q p, ds.length + 1 = 2 → (S__law_take c0 c1 c2 c3) xs ds Q → (A__law_take c0 c1 c2 c3) (endsM Q p) (startS 5 (.ow p xs :: ds.map .pu)) := lawMR (ss__law_take c0 c1 c2 c3)
abbrev A__law_of (tk : List D → Option (D × D)) : AS := (aRet (aOp aIx (aVar 1) (aCallM 2 0 (lowM .pu tk) (aCons (aCall aLen (aCons (aVar 1) aNil)) aNil))))
abbrev B__law_of (tk : List D → Option (D × D)) : FS := (fRet (fOp gIx (fVar 1) (fCallM 2 0 tk (fCons (fCall gLen (fCons (fVar 1) fNil)) fNil))))
theorem ss__law_of (tk : List D → Option (D × D)) : SS true (K0M .ow 2 2) (A__law_of tk) (B__law_of tk) [] [] [] .pu .ow :=
  (ss_ret (se_op v_ix (se_var rfl) (se_callM rfl rfl (sa_cons (se_call vc_len (sa_cons (se_var rfl) sa_nil)) sa_nil))) rfl (.inr ⟨_, rfl, rfl, by simp⟩))
def F__law_of (tk : List D → Option (D × D)) : List D → Option (D × D) := runMR 2 2 (B__law_of tk)
abbrev S__law_of (tk : List D → Option (D × D)) : ARM := lowM .pu (F__law_of tk)
theorem law__law_of (tk : List D → Option (D × D)) : ∀ xs ds Q p, ds.length + 1 = 2 → (S__law_of tk) xs ds Q → (A__law_of tk) (endsM Q p) (startS 2 (.ow p xs :: ds.map .pu)) := lawMR (ss__law_of tk)
abbrev A__law_cells : AS := (aRet (aListRange1 (aCons (aCall (aI2 maxI) (aCons (aC (.int 1)) (aCons (aCall (aI2 minI) (aCons (aVar 1) (aCons (aCall aLen (aCons (aVar 0) aNil)) aNil))) aNil))) aNil)))
abbrev B__law_cells : FS := (fRet (fListRange1 (fCons (fCall (gI2 maxI) (fCons (fC (.int 1)) (fCons (fCall (gI2 minI) (fCons (fVar 1) (fCons (fCall gLen (fCons (fVar 0) fNil)) fNil))) fNil))) fNil)))
theorem ss__law_cells : SS false (K0D 2 2) A__law_cells B__law_cells [] [] [] .ow .ju :=
  (ss_ret (se_listRange1 (sa_cons (se_call vc_i2 (sa_cons se_c (sa_cons (se_call vc_i2 (sa_cons (se_var rfl) (sa_cons (se_call vc_len (sa_cons (se_var rfl) sa_nil)) sa_nil))) sa_nil))) sa_nil)) rfl (.inl rfl))
def F__law_cells : List D → Option D := runR 2 2 B__law_cells
abbrev S__law_cells : ARC := lowD .ow F__law_cells
theorem law__law_cells : ∀ ds Q, ds.length = 2 → S__law_cells ds Q → A__law_cells (endsD Q) (startS 2 (ds.map .pu)) := lawR ss__law_cells
/-- neither unknown nor an error -/
def NoE : D → Prop
  | .ob _ => False
  | .exc _ _ => False
  | .ins _ _ _ => False
  | _ => True
theorem is_integer_eq {d : D} (h : NoE d) : F_is_integer [d] = some (.bl (isIntD d)) := by
  refine runD_rt rfl (e := [d]) ?_
  cases d <;> first | exact h.elim | rfl
theorem is_within_eq {d : D} {lo hi : Int} (h : NoE d) : F_is_within [d, .int lo, .int hi] = some (.bl (withinD d lo hi)) := by
  refine runD_rt rfl (e := [d, .int lo, .int hi]) ?_
  have e := is_integer_eq h
  walk_at "e"
  cases d <;> first | exact h.elim | rfl | skip
  walk_at "isIntD withinD"
  by_cases c : lo ≤ ‹Int›
  · walk_at "c"
    simp [c]
  · walk_at "c"
    simp [c]
/-- a draw -/
def TakeOk (tk : List D → Option (D × D)) : Prop := ∀ (xs : List D) (n : Int) (c : Nat), Pot c xs → 0 < n → n < 1267650600228229401496703205376 → c < 1000000 → ∃ (j : Int) (xs' : List D), tk [.lst xs, .int n] = some (.int j, .lst xs') ∧ 0 ≤ j ∧ j < n ∧ Pot (c + 1) xs'
theorem pt3_0 {i : Nat} {d a b c : D} {e : En} : pt3 i d 0 e (some (.lst [a, b, c])) = .nx (e.set i (.lst [d, b, c])) := rfl
theorem pt3_2 {i : Nat} {d a b c : D} {e : En} : pt3 i d 2 e (some (.lst [a, b, c])) = .nx (e.set i (.lst [a, b, d])) := rfl
theorem take_ok {c0 c1 c2 c3 : Int} (h0 : 0 ≤ c0) (h0' : c0 ≤ 1000000) (h1 : 0 ≤ c1) (h1' : c1 ≤ 1000000) (h2 : 0 < c2) (h2' : c2 ≤ 1000000) (h3 : 0 ≤ c3) (h3' : c3 ≤ 1000000) : TakeOk (F__law_take c0 c1 c2 c3) := fun xs n c hp n0 n1 hc => by
  obtain ⟨a, b, k, rfl, g3, g4, g5, g6, g7⟩ := hp
  by_cases ha : 0 < a
  · refine ⟨a % n, [.int (a / n), .int b, .int k], runMR_rt rfl (e := [.lst [.int (a / n), .int b, .int k], .int n, .int (a % n), .non, .non]) ?_ rfl, Int.emod_nonneg _ (by omega), Int.emod_lt_of_pos _ n0, ⟨_, _, _, rfl, Int.ediv_nonneg g3 (by omega), g4, g5, g6, by omega⟩⟩
    have hd : CDivW a n := cdivW n0 n1
    walk_at "pt3_0 ha gIC_ii"
  · obtain ⟨q, e, hq⟩ := at5 2147483647 2147483629 2147483587 2147483579 2147483563 ((k + 1) % 5) (Int.emod_nonneg _ (by decide)) (Int.emod_lt_of_pos _ (by decide))
    have q0 : 0 < q := by omega
    have q1 : q < 2147483648 := by omega
    have k1 : 0 ≤ k + 1 := by omega
    have k2 : k + 1 ≤ 1000000 := by omega
    have m1 := mul_le (a := c0) (b := k + 1) h0 k1 h0' k2
    have m2 := mul_le (a := c0 * (k + 1)) (b := k + 1) m1.1 k1 m1.2 k2
    generalize hb1 : (b + c0 * (k + 1) * (k + 1) + c1) ^ (3 : Int).toNat % q = b1
    have b10 : 0 ≤ b1 := by rw [← hb1]; exact Int.emod_nonneg _ (by omega)
    have b11 : b1 < 2147483648 := by rw [← hb1]; exact Int.lt_of_lt_of_le (Int.emod_lt_of_pos _ q0) (by omega)
    generalize hb2 : b1 * (b1 % c2 + c3 * (k + 1)) % 2305843009213693907 / 173 = b2
    refine ⟨b2 % n, [.int a, .int b, .int (k + 1)], runMR_rt rfl (e := [.lst [.int a, .int b, .int (k + 1)], .int n, .non, .int q, .int (b1 * (b1 % c2 + c3 * (k + 1)) % 2305843009213693907)]) ?_ rfl, Int.emod_nonneg _ (by omega), Int.emod_lt_of_pos _ n0, ⟨_, _, _, rfl, g3, g4, g5, k1, by omega⟩⟩
    have e1 : CMul c0 (k + 1) := cmul_l h0 (by omega)
    have e2 : CMul (c0 * (k + 1)) (k + 1) := cmul_l m1.1 (by omega)
    have e3 : CPow (b + c0 * (k + 1) * (k + 1) + c1) 3 := cpow3 (by omega) (by omega)
    have e4 : CMul c3 (k + 1) := cmul_l h3 (by omega)
    have e5 : CMul b1 (b1 % c2 + c3 * (k + 1)) := cmul_l b10 (by omega)
    walk_at "pt3_2 ha gIC_ii e hb1 hb2"
theorem of_ok {tk : List D → Option (D × D)} (ht : TakeOk tk) {xs es : List D} {c : Nat} (hp : Pot c xs) (h0 : es ≠ []) (h1 : es.length < 1000000) (hc : c < 1000000) : ∃ (d : D) (xs' : List D), F__law_of tk [.lst xs, .lst es] = some (d, .lst xs') ∧ d ∈ es ∧ Pot (c + 1) xs' := by
  have l0 : 0 < es.length := List.length_pos_iff.mpr h0
  obtain ⟨j, xs', e, j0, j1, hp'⟩ := ht xs es.length c hp (by omega) (by omega) hc
  obtain ⟨d, e1, e2, e3⟩ := atI_in j0 j1
  refine ⟨d, xs', runMR_rt rfl (e := [.lst xs', .lst es]) ?_ rfl, e3, hp'⟩
  walk_at "e e1"
theorem pot_ok {c0 c1 c2 c3 c4 : Int} (h0 : 0 ≤ c0) (h2 : 0 ≤ c2) (h2' : c2 ≤ 1000000) (h3 : 0 ≤ c3) (h3' : c3 ≤ 1000000) (h4 : 0 ≤ c4) {ns : List Int} {i : Int} (i0 : 0 ≤ i) (i1 : i ≤ 100) (hn : ns.length ≤ 63) (h0' : c0 ≤ 1000000) : ∃ xs, F__law_pot c0 c1 c2 c3 c4 [.scr (ns.map D.int), .int i] = some (.lst xs) ∧ Pot 0 xs := by
  have k1 := mul_le (a := c3) (b := i) h3 i0 h3' i1
  have key : ∀ (v : Int), fIf (fTest (fOp gLt (fVar 1) (fCall gLen (fCons (fVar 0) fNil)))) (fOp gIx (fVar 0) (fVar 1)) (fOp gAdd (fOp gAdd (fOp gMod (fCall (gInts nSum) (fCons (fSlL (fVar 0) fNoP (fPart (fC (.int 1)))) fNil)) (fC (.int 1000003))) (fOp gMul (fC (.int c0)) (fVar 1))) (fC (.int c1))) [.scr (ns.map D.int), .int i, .non, .non, .non] = some (.int v, [.scr (ns.map D.int), .int i, .non, .non, .non]) →
      ∃ xs, F__law_pot c0 c1 c2 c3 c4 [.scr (ns.map D.int), .int i] = some (.lst xs) ∧ Pot 0 xs := fun v hv => by
    have v0 := Int.emod_nonneg v (show (2305843009213693951 : Int) ≠ 0 by decide)
    have v1 := Int.emod_lt_of_pos v (show (0 : Int) < 2305843009213693951 by decide)
    have m1 := mul_le (a := v % 2305843009213693951) (b := c2) v0 h2 (show _ ≤ 2305843009213693951 by omega) h2'
    generalize ha : absI v % (10 ^ Int.toNat 60) ^ Int.toNat 5 * (if decide (10 ^ Int.toNat 18 ≤ absI v) = true then 1 else 0) = own
    generalize hb : (v % 2305843009213693951 * c2 + c3 * i * i + c4) % 2305843009213693921 = bb
    refine ⟨[.int own, .int bb, .int 0], runR_eq rfl (e := [.scr (ns.map D.int), .int i, .int v, .int own, .int (v % 2305843009213693951)]) ?_, ⟨_, _, _, rfl, by rw [← ha]; exact own_nn _ _ (Int.ne_of_gt big_pos), by rw [← hb]; exact Int.emod_nonneg _ (by decide), by rw [← hb]; exact Int.emod_lt_of_pos _ (by decide), by decide, by decide⟩⟩
    have e1 : CPow 10 60 := ⟨by decide, by decide, by decide⟩
    have e2 : CPow 10 18 := ⟨by decide, by decide, by decide⟩
    have e3 := cpw
    have e4 : CMul (absI v % (10 ^ Int.toNat 60) ^ Int.toNat 5) (if decide (10 ^ Int.toNat 18 ≤ absI v) = true then 1 else 0) := cmul_r (by split <;> decide) (by split <;> decide)
    have e5 : CMul (v % 2305843009213693951) c2 := cmul_l v0 (by omega)
    have e6 : CMul c3 i := cmul_l h3 (by omega)
    have e7 : CMul (c3 * i) i := cmul_l k1.1 (by omega)
    have e8 := big_pos
    show B__law_pot c0 c1 c2 c3 c4 [.scr (ns.map D.int), .int i, .non, .non, .non] = _
    unfold B__law_pot
    rw [w_seq, w_set, hv]
    generalize fIf _ _ _ = zz at hv
    clear hv zz
    simp only [decide_eq_true_eq] at ha e4
    walk_at "gIC_ii ha hb"
  by_cases c : i < ns.length
  · obtain ⟨d, e1, e2, e3⟩ := atI_in (ds := ns.map D.int) i0 (by rw [List.length_map]; exact c)
    obtain ⟨v, _, rfl⟩ := List.mem_map.mp e3
    refine key v ?_
    walk_at "c e1"
  · have e := cutD_to (ns.map D.int) 1
    rw [show ((1 : Nat) : Int) = 1 from rfl, ← List.map_take] at e
    refine key ((List.take 1 ns).sum % 1000003 + c0 * i + c1) ?_
    have e1 : CMul c0 i := cmul_l h0 (by omega)
    walk_at "c e gIC_ii e1"
theorem cells_ok {ns : List Int} {m : Int} (h0 : 1 ≤ m) (h1 : m ≤ 100) (hn : ns.length ≤ 63) : ∃ k : Nat, (k : Int) ≤ m ∧ F__law_cells [.scr (ns.map D.int), .int m] = some (.lst (rngD 0 k)) := by
  have e : 0 ≤ maxI 1 (minI m ns.length) ∧ maxI 1 (minI m ns.length) ≤ m := by
    unfold maxI minI
    split <;> split <;> omega
  refine ⟨(maxI 1 (minI m ns.length)).toNat, by omega, runR_eq rfl (e := [.scr (ns.map D.int), .int m]) ?_⟩
  have e0 := e.1
  have e2 : maxI 1 (minI m ns.length) ≤ 16777216 := by omega
  walk_at ""
end FB
namespace FB
open PySem L2 DL TL
abbrev A_is_service : AS := (aSeq (aIfS (aOr (aNot (aTest (aIsi .tuple (aVar 0)))) (aOr (aTest (aOp aNe (aCall aLen (aCons (aVar 0) aNil)) (aC (.int 2)))) (aOr (aNot (aTest (aIsi .str (aOp aIx (aVar 0) (aC (.int 0)))))) (aTest (aOp (aIn true) (aOp aIx (aVar 0) (aC (.int 0))) (aC (.tup [.str "queue", .str "order", .str "any"]))))))) (aRet (aC (.bl false))) aNext)
  (aRet (aCall (aFn 3 S_is_within) (aCons (aOp aIx (aVar 0) (aC (.int 1))) (aCons (aC (.int 1)) (aCons (aC (.int 4)) aNil))))))
abbrev B_is_service : FS := (fSeq (fIfS (fOr (fNot (fTest (fIsi .tuple (fVar 0)))) (fOr (fTest (fOp (gEq true) (fCall gLen (fCons (fVar 0) fNil)) (fC (.int 2)))) (fOr (fNot (fTest (fIsi .str (fOp gIx (fVar 0) (fC (.int 0)))))) (fTest (fOp (gIn true) (fOp gIx (fVar 0) (fC (.int 0))) (fC (.tup [.str "queue", .str "order", .str "any"]))))))) (fRet (fC (.bl false))) fNext)
  (fRet (fCall (gFn 3 F_is_within) (fCons (fOp gIx (fVar 0) (fC (.int 1))) (fCons (fC (.int 1)) (fCons (fC (.int 4)) fNil))))))
theorem ss_is_service : SS false (K0D 1 1) A_is_service B_is_service [] [] [] .pu .ju :=
  (ss_seq (ss_if (Kn := [.pu]) (st_or (st_not (st_test (se_isi (se_var rfl)))) (st_or (st_test (se_op v_ne (se_call vc_len (sa_cons (se_var rfl) sa_nil)) se_c)) (st_or (st_not (st_test (se_isi (se_op v_ix (se_var rfl) se_c)))) (st_test (se_op v_in (se_op v_ix (se_var rfl) se_c) se_c))))) (ss_ret se_c rfl (.inl rfl)) ss_next)
  (ss_ret (se_call vc_fn (sa_cons (se_op v_ix (se_var rfl) se_c) (sa_cons se_c (sa_cons se_c sa_nil)))) rfl (.inl rfl)))
def F_is_service : List D → Option D := runD 1 1 B_is_service
abbrev S_is_service : ARC := lowD .pu F_is_service
theorem law_is_service : ∀ ds Q, ds.length = 1 → S_is_service ds Q → A_is_service (endsD Q) (startS 1 (ds.map .pu)) := lawD ss_is_service rfl
abbrev A_check_service : AS := (aIfS (aNot (aTest (aCall (aFn 1 S_is_service) (aCons (aVar 0) aNil)))) aNev aNext)
abbrev B_check_service : FS := (fIfS (fNot (fTest (fCall (gFn 1 F_is_service) (fCons (fVar 0) fNil)))) fNev fNext)
theorem ss_check_service : SS false (K0D 1 1) A_check_service B_check_service [.pu] [] [] .pu .ju :=
  (ss_if (Kn := [.pu]) (st_not (st_test (se_call vc_fn (sa_cons (se_var rfl) sa_nil)))) ss_nev ss_next)
def F_check_service : List D → Option D := runD 1 1 B_check_service
abbrev S_check_service : ARC := lowD .pu F_check_service
theorem law_check_service : ∀ ds Q, ds.length = 1 → S_check_service ds Q → A_check_service (endsD Q) (startS 1 (ds.map .pu)) := lawD ss_check_service rfl
abbrev A__law_can_be : AS := (aSeq (aAsg (aVar 2) (agTup (agCons (agName 3) (agCons (agName 4) (agCons (agName 5) agNil)))))
  (aSeq (aAsg (aVar 0) (agTup (agCons (agName 6) (agCons (agName 7) agNil))))
  (aSeq (aIfS (aOr (aTest (aOp aGt (aCall (aI2 maxI) (aCons (aVar 3) (aCons (aVar 4) aNil))) (aVar 1))) (aAnd (aTest (aOp aEq (aVar 7) (aC (.int 1)))) (aTest (aOp aEq (aVar 5) (aC (.int 0)))))) (aRet (aC (.bl false))) aNext)
  (aSeq (aSet 8 (aSub (aAdd (aVar 5) (aVar 4)) (aVar 3)))
  (aSeq (aIfS (aTest (aOp aEq (aVar 6) (aC (.str "any")))) (aRet (aOp aNe (aVar 8) (aC (.int 0)))) aNext)
  (aSeq (aIfS (aTest (aOp aEq (aVar 6) (aC (.str "order")))) (aRet (aOp aGe (aVar 8) (aC (.int 1)))) aNext)
  (aRet (aIf (aTest (aOp aEq (aVar 7) (aC (.int 1)))) (aAndV (aOp aEq (aVar 3) (aC (.int 0))) (aOp aEq (aVar 4) (aC (.int 0)))) (aChain aLe aLe (aC (.int 1)) (aVar 8) (aSub (aAdd (aMul (aVar 7) (aVar 5)) (aVar 7)) (aC (.int 1))))))))))))
abbrev B__law_can_be : FS := (fSeq (fAsg (fVar 2) (gTup (gCons (gName 3) (gCons (gName 4) (gCons (gName 5) gNil)))))
  (fSeq (fAsg (fVar 0) (gTup (gCons (gName 6) (gCons (gName 7) gNil))))
  (fSeq (fIfS (fOr (fTest (fOp gGt (fCall (gI2 maxI) (fCons (fVar 3) (fCons (fVar 4) fNil))) (fVar 1))) (fAnd (fTest (fOp (gEq false) (fVar 7) (fC (.int 1)))) (fTest (fOp (gEq false) (fVar 5) (fC (.int 0)))))) (fRet (fC (.bl false))) fNext)
  (fSeq (fSet 8 (fOp gSub (fOp gAdd (fVar 5) (fVar 4)) (fVar 3)))
  (fSeq (fIfS (fTest (fOp (gEq false) (fVar 6) (fC (.str "any")))) (fRet (fOp (gEq true) (fVar 8) (fC (.int 0)))) fNext)
  (fSeq (fIfS (fTest (fOp (gEq false) (fVar 6) (fC (.str "order")))) (fRet (fOp gGe (fVar 8) (fC (.int 1)))) fNext)
  (fRet (fIf (fTest (fOp (gEq false) (fVar 7) (fC (.int 1)))) (fAndV (fOp (gEq false) (fVar 3) (fC (.int 0))) (fOp (gEq false) (fVar 4) (fC (.int 0)))) (fChain gLe gLe (fC (.int 1)) (fVar 8) (fOp gSub (fOp gAdd (fOp gMul (fVar 7) (fVar 5)) (fVar 7)) (fC (.int 1))))))))))))
theorem ss__law_can_be : SS false (K0D 3 9) A__law_can_be B__law_can_be [] [] [] .pu .ju :=
  (ss_seq (ss_asg (se_var rfl) (sg_tup (sgs_cons (sg_name (k0 := .ju) rfl) (sgs_cons (sg_name (k0 := .ju) rfl) (sgs_cons (sg_name (k0 := .ju) rfl) sgs_nil)))))
  (ss_seq (ss_asg (se_var rfl) (sg_tup (sgs_cons (sg_name (k0 := .ju) rfl) (sgs_cons (sg_name (k0 := .ju) rfl) sgs_nil))))
  (ss_seq (ss_if (Kn := [.pu, .pu, .pu, .pu, .pu, .pu, .pu, .pu, .ju]) (st_or (st_test (se_op v_b (se_call vc_i2 (sa_cons (se_var rfl) (sa_cons (se_var rfl) sa_nil))) (se_var rfl))) (st_and (st_test (se_op v_eq (se_var rfl) se_c)) (st_test (se_op v_eq (se_var rfl) se_c)))) (ss_ret se_c rfl (.inl rfl)) ss_next)
  (ss_seq (ss_set (se_op v_i (se_op v_i (se_var rfl) (se_var rfl)) (se_var rfl)) (by simp) (.inr rfl))
  (ss_seq (ss_if (Kn := [.pu, .pu, .pu, .pu, .pu, .pu, .pu, .pu, .pu]) (st_test (se_op v_eq (se_var rfl) se_c)) (ss_ret (se_op v_ne (se_var rfl) se_c) rfl (.inl rfl)) ss_next)
  (ss_seq (ss_if (Kn := [.pu, .pu, .pu, .pu, .pu, .pu, .pu, .pu, .pu]) (st_test (se_op v_eq (se_var rfl) se_c)) (ss_ret (se_op v_b (se_var rfl) se_c) rfl (.inl rfl)) ss_next)
  (ss_ret (se_if (st_test (se_op v_eq (se_var rfl) se_c)) (se_andV (se_op v_eq (se_var rfl) se_c) (se_op v_eq (se_var rfl) se_c)) (se_chain v_b v_b se_c (se_var rfl) (se_op v_i (se_op v_i (se_op v_ic (se_var rfl) (se_var rfl)) (se_var rfl)) se_c))) rfl (.inl rfl))))))))
def F__law_can_be : List D → Option D := runD 3 9 B__law_can_be
abbrev S__law_can_be : ARC := lowD .pu F__law_can_be
theorem law__law_can_be : ∀ ds Q, ds.length = 3 → S__law_can_be ds Q → A__law_can_be (endsD Q) (startS 9 (ds.map .pu)) := lawD ss__law_can_be rfl
abbrev svD (w : Str) (n : Int) : D := .tup [.str w, .int n]
theorem is_service_eq {w : Str} {n : Int} (hw : WordOk w) (h0 : 1 ≤ n) (h1 : n ≤ 4) : F_is_service [svD w n] = some (.bl true) := by
  refine runD_rt rfl (e := [svD w n]) ?_
  have e : inF (D.str w) [D.str "queue", D.str "order", D.str "any"] = true := by
    rcases hw with rfl | rfl | rfl <;> decide +kernel
  have e3 : gIn true (D.str w) (D.tup [D.str "queue", D.str "order", D.str "any"]) = some (.bl false) := by
    rw [gIn_t rfl (by decide)]
    rw [e]
    rfl
  have e2 := is_within_eq (d := .int n) (lo := 1) (hi := 4) trivial
  have e4 : withinD (D.int n) 1 4 = true := by
    show (decide (1 ≤ n) && decide (n ≤ 4)) = true
    simp [h0, h1]
  have e5 : (([D.str w, D.int n].length : Nat) : Int) = 2 := rfl
  walk_at "e3 e2 e4 e5"
theorem check_service_eq {w : Str} {n : Int} (hw : WordOk w) (h0 : 1 ≤ n) (h1 : n ≤ 4) : F_check_service [svD w n] = some .non := by
  refine runD_nx rfl (e := [svD w n]) ?_
  have e := is_service_eq hw h0 h1
  walk_at "e"
theorem can_be_eq {w : Str} {n size x y d : Int} (h0 : 0 ≤ n) (h1 : n ≤ 4) : F__law_can_be [svD w n, .int size, .tup [.int x, .int y, .int d]] = some (.bl (canB w n size x y d)) := by
  have em : (size < maxI x y) ↔ (max x y > size) := by
    unfold maxI
    constructor
    · intro q
      split at q <;> omega
    · intro q
      split <;> omega
  have go : ∀ b, canB w n size x y d = b → (∃ e, B__law_can_be [svD w n, .int size, .tup [.int x, .int y, .int d], .non, .non, .non, .non, .non, .non] = .rt (.bl b) e) → F__law_can_be [svD w n, .int size, .tup [.int x, .int y, .int d]] = some (.bl (canB w n size x y d)) := fun b hb ⟨e, he⟩ => by
    rw [hb]
    exact runD_rt rfl he
  refine go _ rfl ?_
  unfold canB
  by_cases c1 : max x y > size
  · have c2 := em.mpr c1
    exact ⟨_, by walk_at "c1 c2"; simp only [true_or, if_true]; rfl⟩
  · have c2 : ¬ size < maxI x y := fun q => c1 (em.mp q)
    by_cases c3 : n = 1
    · by_cases c4 : d = 0
      · exact ⟨_, by walk_at "c1 c2 c3 c4"; simp only [false_or, and_self, if_true]; rfl⟩
      · by_cases c5 : w = "any"
        · exact ⟨_, by walk_at "c1 c2 c3 c4 c5"; simp; rfl⟩
        · by_cases c6 : w = "order"
          · exact ⟨_, by walk_at "c1 c2 c3 c4 c5 c6"; simp; rfl⟩
          · by_cases c7 : x = 0
            · subst c7
              exact ⟨_, by walk_at "c1 c2 c3 c4 c5 c6"; simp; rfl⟩
            · exact ⟨_, by walk_at "c1 c2 c3 c4 c5 c6 c7"; simp; rfl⟩
    · by_cases c5 : w = "any"
      · exact ⟨_, by walk_at "c1 c2 c3 c5"; simp; rfl⟩
      · by_cases c6 : w = "order"
        · exact ⟨_, by walk_at "c1 c2 c3 c5 c6"; simp; rfl⟩
        · by_cases c7 : 1 ≤ d + y - x
          · exact ⟨_, by walk_at "c1 c2 c3 c5 c6 c7"; simp; rfl⟩
          · exact ⟨_, by walk_at "c1 c2 c3 c5 c6 c7"; simp; rfl⟩
end FB
namespace FB
open PySem L2 DL TL
theorem all_map {α : Type} (f : α → Bool) (l : List α) : (l.map f).all id = l.all f := by
  rw [List.all_map]
  rfl
end FB
namespace FB
open PySem L2 DL TL
theorem all_true {α : Type} (zs : List α) : gBls (fun bs => bs.all id) [.lst (zs.map fun _ => D.bl true)] = some (.bl true) := by
  have e := gBls_l (f := fun bs => bs.all id) (bs := List.replicate zs.length true)
  rw [List.map_replicate] at e
  rw [List.map_const', e, bls_all]
end FB
namespace FB
open PySem L2 DL TL
end FB
namespace FB
open PySem L2 DL TL
end FB
namespace FB
open PySem L2 DL TL
end FB
namespace FB
open PySem L2 DL TL
end FB
namespace FB
open PySem L2 DL TL
end FB
namespace FB
open PySem L2 DL TL
abbrev A_gap_of : AS := (aSeq (aAsg (aVar 0) (agTup (agCons (agName 1) (agCons (agName 2) (agCons (agName 3) agNil)))))
  (aRet (aSub (aAdd (aVar 3) (aVar 2)) (aVar 1))))
abbrev B_gap_of : FS := (fSeq (fAsg (fVar 0) (gTup (gCons (gName 1) (gCons (gName 2) (gCons (gName 3) gNil)))))
  (fRet (fOp gSub (fOp gAdd (fVar 3) (fVar 2)) (fVar 1))))
theorem ss_gap_of : SS false (K0D 1 4) A_gap_of B_gap_of [] [] [] .pu .ju :=
  (ss_seq (ss_asg (se_var rfl) (sg_tup (sgs_cons (sg_name (k0 := .ju) rfl) (sgs_cons (sg_name (k0 := .ju) rfl) (sgs_cons (sg_name (k0 := .ju) rfl) sgs_nil)))))
  (ss_ret (se_op v_i (se_op v_i (se_var rfl) (se_var rfl)) (se_var rfl)) rfl (.inl rfl)))
def F_gap_of : List D → Option D := runD 1 4 B_gap_of
abbrev S_gap_of : ARC := lowD .pu F_gap_of
theorem law_gap_of : ∀ ds Q, ds.length = 1 → S_gap_of ds Q → A_gap_of (endsD Q) (startS 4 (ds.map .pu)) := lawD ss_gap_of rfl
abbrev A_is_possible : AS := (aSeq (aAsg (aVar 0) (agTup (agCons (agName 2) (agCons (agName 3) agNil))))
  (aSeq (aAsg (aVar 1) (agTup (agCons (agName 4) (agCons (agName 5) (agCons (agName 6) agNil)))))
  (aSeq (aSet 7 (aCall (aFn 1 S_gap_of) (aCons (aVar 1) aNil)))
  (aSeq (aIfS (aAnd (aTest (aOp aEq (aVar 3) (aC (.int 1)))) (aTest (aOp aEq (aVar 6) (aC (.int 0))))) (aRet (aC (.bl false))) aNext)
  (aSeq (aIfS (aTest (aOp aNe (aVar 2) (aC (.str "queue")))) (aRet (aIf (aTest (aOp aEq (aVar 2) (aC (.str "order")))) (aOp aGe (aVar 7) (aC (.int 1))) (aOp aNe (aVar 7) (aC (.int 0))))) aNext)
  (aSeq (aIfS (aTest (aOp aEq (aVar 3) (aC (.int 1)))) (aRet (aChain aEq aEq (aVar 4) (aVar 5) (aC (.int 0)))) aNext)
  (aRet (aChain aLe aLe (aC (.int 1)) (aVar 7) (aSub (aAdd (aMul (aVar 3) (aVar 6)) (aVar 3)) (aC (.int 1)))))))))))
abbrev B_is_possible : FS := (fSeq (fAsg (fVar 0) (gTup (gCons (gName 2) (gCons (gName 3) gNil))))
  (fSeq (fAsg (fVar 1) (gTup (gCons (gName 4) (gCons (gName 5) (gCons (gName 6) gNil)))))
  (fSeq (fSet 7 (fCall (gFn 1 F_gap_of) (fCons (fVar 1) fNil)))
  (fSeq (fIfS (fAnd (fTest (fOp (gEq false) (fVar 3) (fC (.int 1)))) (fTest (fOp (gEq false) (fVar 6) (fC (.int 0))))) (fRet (fC (.bl false))) fNext)
  (fSeq (fIfS (fTest (fOp (gEq true) (fVar 2) (fC (.str "queue")))) (fRet (fIf (fTest (fOp (gEq false) (fVar 2) (fC (.str "order")))) (fOp gGe (fVar 7) (fC (.int 1))) (fOp (gEq true) (fVar 7) (fC (.int 0))))) fNext)
  (fSeq (fIfS (fTest (fOp (gEq false) (fVar 3) (fC (.int 1)))) (fRet (fChain (gEq false) (gEq false) (fVar 4) (fVar 5) (fC (.int 0)))) fNext)
  (fRet (fChain gLe gLe (fC (.int 1)) (fVar 7) (fOp gSub (fOp gAdd (fOp gMul (fVar 3) (fVar 6)) (fVar 3)) (fC (.int 1)))))))))))
theorem ss_is_possible : SS false (K0D 2 8) A_is_possible B_is_possible [] [] [] .pu .ju :=
  (ss_seq (ss_asg (se_var rfl) (sg_tup (sgs_cons (sg_name (k0 := .ju) rfl) (sgs_cons (sg_name (k0 := .ju) rfl) sgs_nil))))
  (ss_seq (ss_asg (se_var rfl) (sg_tup (sgs_cons (sg_name (k0 := .ju) rfl) (sgs_cons (sg_name (k0 := .ju) rfl) (sgs_cons (sg_name (k0 := .ju) rfl) sgs_nil)))))
  (ss_seq (ss_set (se_call vc_fn (sa_cons (se_var rfl) sa_nil)) (by simp) (.inr rfl))
  (ss_seq (ss_if (Kn := [.pu, .pu, .pu, .pu, .pu, .pu, .pu, .pu]) (st_and (st_test (se_op v_eq (se_var rfl) se_c)) (st_test (se_op v_eq (se_var rfl) se_c))) (ss_ret se_c rfl (.inl rfl)) ss_next)
  (ss_seq (ss_if (Kn := [.pu, .pu, .pu, .pu, .pu, .pu, .pu, .pu]) (st_test (se_op v_ne (se_var rfl) se_c)) (ss_ret (se_if (st_test (se_op v_eq (se_var rfl) se_c)) (se_op v_b (se_var rfl) se_c) (se_op v_ne (se_var rfl) se_c)) rfl (.inl rfl)) ss_next)
  (ss_seq (ss_if (Kn := [.pu, .pu, .pu, .pu, .pu, .pu, .pu, .pu]) (st_test (se_op v_eq (se_var rfl) se_c)) (ss_ret (se_chain v_eq v_eq (se_var rfl) (se_var rfl) se_c) rfl (.inl rfl)) ss_next)
  (ss_ret (se_chain v_b v_b se_c (se_var rfl) (se_op v_i (se_op v_i (se_op v_ic (se_var rfl) (se_var rfl)) (se_var rfl)) se_c)) rfl (.inl rfl))))))))
def F_is_possible : List D → Option D := runD 2 8 B_is_possible
abbrev S_is_possible : ARC := lowD .pu F_is_possible
theorem law_is_possible : ∀ ds Q, ds.length = 2 → S_is_possible ds Q → A_is_possible (endsD Q) (startS 8 (ds.map .pu)) := lawD ss_is_possible rfl
abbrev A_check_pair : AS := (aSeq (aIfS (aOr (aNot (aTest (aIsi .tuple (aVar 0)))) (aTest (aOp aNe (aCall aLen (aCons (aVar 0) aNil)) (aC (.int 3))))) aNev aNext)
  (aIfS (aOr (aNot (aTest (aCall (aBls fun bs => bs.all id) (aCons (aLc (aItT (aSlT (aVar 0) aNoP (aPart (aNeg (aC (.int 1)))))) (agName 2) aYes (aCall (aFn 3 S_is_within) (aCons (aVar 2) (aCons (aC (.int 0)) (aCons (aVar 1) aNil)))) [2]) aNil)))) (aNot (aTest (aCall (aFn 3 S_is_within) (aCons (aOp aIx (aVar 0) (aNeg (aC (.int 1)))) (aCons (aC (.int 0)) (aCons (aC (.int 400)) aNil))))))) aNev aNext))
abbrev B_check_pair : FS := (fSeq (fIfS (fOr (fNot (fTest (fIsi .tuple (fVar 0)))) (fTest (fOp (gEq true) (fCall gLen (fCons (fVar 0) fNil)) (fC (.int 3))))) fNev fNext)
  (fIfS (fOr (fNot (fTest (fCall (gBls fun bs => bs.all id) (fCons (fLc (fItT (fSlT (fVar 0) fNoP (fPart (fNeg (fC (.int 1)))))) (gName 2) fYes (fCall (gFn 3 F_is_within) (fCons (fVar 2) (fCons (fC (.int 0)) (fCons (fVar 1) fNil)))) [2]) fNil)))) (fNot (fTest (fCall (gFn 3 F_is_within) (fCons (fOp gIx (fVar 0) (fNeg (fC (.int 1)))) (fCons (fC (.int 0)) (fCons (fC (.int 400)) fNil))))))) fNev fNext))
theorem ss_check_pair : SS false (K0D 2 3) A_check_pair B_check_pair [.pu, .pu, .ju] [] [] .pu .ju :=
  (ss_seq (ss_if (Kn := [.pu, .pu, .ju]) (st_or (st_not (st_test (se_isi (se_var rfl)))) (st_test (se_op v_ne (se_call vc_len (sa_cons (se_var rfl) sa_nil)) se_c))) ss_nev ss_next)
  (ss_if (Kn := [.pu, .pu, .ju]) (st_or (st_not (st_test (se_call vc_bls (sa_cons (se_lc [.pu, .pu, .ju] (si_t (se_slT (se_var rfl) so_no (so_part (se_neg se_c)))) rfl (sg_name (k0 := .ju) rfl) st_yes (se_call vc_fn (sa_cons (se_var rfl) (sa_cons se_c (sa_cons (se_var rfl) sa_nil)))) rfl rfl) sa_nil)))) (st_not (st_test (se_call vc_fn (sa_cons (se_op v_ix (se_var rfl) (se_neg se_c)) (sa_cons se_c (sa_cons se_c sa_nil))))))) ss_nev ss_next))
def F_check_pair : List D → Option D := runD 2 3 B_check_pair
abbrev S_check_pair : ARC := lowD .pu F_check_pair
theorem law_check_pair : ∀ ds Q, ds.length = 2 → S_check_pair ds Q → A_check_pair (endsD Q) (startS 3 (ds.map .pu)) := lawD ss_check_pair rfl
/-- a rule of a device -/
def RuleOk (st : Stg) (rows : List (List Int)) : Prop := ∀ (i : Nat) (r : List Int), rows[i]? = some r → IsRow st r ∧ sumOf st r = (i : Int)
theorem RuleOk.row {st : Stg} {rows : List (List Int)} (h : RuleOk st rows) : ∀ r ∈ rows, IsRow st r := fun r hr => by
  obtain ⟨i, hi⟩ := List.getElem?_of_mem hr
  exact (h i r hi).1
theorem gap_of_eq {x y d : Int} : F_gap_of [.tup [.int x, .int y, .int d]] = some (.int (d + y - x)) := by
  refine runD_rt rfl (e := [.tup [.int x, .int y, .int d], .int x, .int y, .int d]) ?_
  walk_at ""
theorem is_possible_eq {w : Str} {n x y d size : Int} (hw : WordOk w) (h1 : 1 ≤ n) (h4 : n ≤ 4) (hx : x ≤ size) (hy : y ≤ size) : F_is_possible [svD w n, .tup [.int x, .int y, .int d]] = some (.bl (canB w n size x y d)) := by
  have e := gap_of_eq (x := x) (y := y) (d := d)
  have hm : ¬ max x y > size := by omega
  have go : ∀ b, canB w n size x y d = b → B_is_possible [svD w n, .tup [.int x, .int y, .int d], .non, .non, .non, .non, .non, .non] = .rt (.bl b) [svD w n, .tup [.int x, .int y, .int d], .str w, .int n, .int x, .int y, .int d, .int (d + y - x)] → F_is_possible [svD w n, .tup [.int x, .int y, .int d]] = some (.bl (canB w n size x y d)) := fun b hb he => by
    rw [hb]
    exact runD_rt rfl he
  have q0 : decide (("order" : Str) = "any") = false := by decide +kernel
  have q1 : decide (("order" : Str) = "queue") = false := by decide +kernel
  have q2 : decide (("any" : Str) = "queue") = false := by decide +kernel
  have q3 : decide (("any" : Str) = "order") = false := by decide +kernel
  have q4 : ¬ ("queue" : Str) = "order" := by decide +kernel
  have q5 : ¬ ("queue" : Str) = "any" := by decide +kernel
  have q6 : ¬ ("order" : Str) = "any" := by decide +kernel
  by_cases c1 : n = 1
  · have d1 := decide_eq_true c1
    by_cases c2 : d = 0
    · have d2 := decide_eq_true c2
      refine go false (by unfold canB; rw [if_pos (.inr ⟨c1, c2⟩)]) ?_
      have he : B_is_possible [svD w n, .tup [.int x, .int y, .int d], .non, .non, .non, .non, .non, .non] = .rt (.bl false) [svD w n, .tup [.int x, .int y, .int d], .str w, .int n, .int x, .int y, .int d, .int (d + y - x)] := by walk_at "e d1 d2"
      exact he
    · have d2 := decide_eq_false c2
      have hc : ¬ (max x y > size ∨ (n = 1 ∧ d = 0)) := by omega
      rcases hw with rfl | rfl | rfl
      · refine go (decide (x = 0) && decide (y = 0)) (by unfold canB; rw [if_neg hc, if_neg q5, if_neg q4, if_pos c1]) ?_
        by_cases c7 : x = y
        · have d7 := decide_eq_true c7
          have d9 : (decide (x = 0) && decide (y = 0)) = decide (y = 0) := by subst c7; simp
          rw [d9]
          walk_at "e d1 d2 d7"
        · have d7 := decide_eq_false c7
          have d9 : (decide (x = 0) && decide (y = 0)) = false := by
            by_cases z : x = 0
            · rw [decide_eq_false (show ¬ y = 0 by omega), Bool.and_false]
            · rw [decide_eq_false z, Bool.false_and]
          rw [d9]
          walk_at "e d1 d2 d7"
      · refine go (decide (1 ≤ d + y - x)) (by unfold canB; rw [if_neg hc, if_neg q6, if_pos rfl]) ?_
        walk_at "e d1 d2 q0 q1"
      · refine go (decide (d + y - x ≠ 0)) (by unfold canB; rw [if_neg hc, if_pos rfl]) ?_
        walk_at "e d1 d2 q2 q3"
        simp
  · have d1 := decide_eq_false c1
    have hc : ¬ (max x y > size ∨ (n = 1 ∧ d = 0)) := by omega
    rcases hw with rfl | rfl | rfl
    · refine go (decide (1 ≤ d + y - x) && decide (d + y - x ≤ n * d + n - 1)) (by unfold canB; rw [if_neg hc, if_neg q5, if_neg q4, if_neg c1]) ?_
      have n0 : -1000000000 < n := by omega
      have n1 : n < 1000000000 := by omega
      by_cases c7 : 1 ≤ d + y - x
      · have d7 := decide_eq_true c7
        rw [d7, Bool.true_and]
        walk_at "e d1 d7 gMul_n"
      · have d7 := decide_eq_false c7
        rw [d7, Bool.false_and]
        walk_at "e d1 d7 gMul_n"
    · refine go (decide (1 ≤ d + y - x)) (by unfold canB; rw [if_neg hc, if_neg q6, if_pos rfl]) ?_
      walk_at "e d1 q0 q1"
    · refine go (decide (d + y - x ≠ 0)) (by unfold canB; rw [if_neg hc, if_pos rfl]) ?_
      walk_at "e d1 q2 q3"
      simp
end FB
namespace FB
open PySem L2 DL TL
end FB
namespace FB
open PySem L2 DL TL
theorem check_pair_eq {x y d m : Int} (x0 : 0 ≤ x) (x1 : x ≤ m) (y0 : 0 ≤ y) (y1 : y ≤ m) (d0 : 0 ≤ d) (d1 : d ≤ 400) : F_check_pair [.tup [.int x, .int y, .int d], .int m] = some .non := by
  refine runD_nx rfl (e := [.tup [.int x, .int y, .int d], .int m, .non]) ?_
  have e1 := cutD_last [D.int x, .int y, .int d]
  have e2 : ∀ v : Int, 0 ≤ v → v ≤ m → F_is_within [.int v, .int 0, .int m] = some (.bl true) := fun v v0 v1 => by
    have e := is_within_eq (d := .int v) (lo := 0) (hi := m) trivial
    have e4 : withinD (D.int v) 0 m = true := by
      show (decide (0 ≤ v) && decide (v ≤ m)) = true
      simp [v0, v1]
    rw [e4] at e
    exact e
  have e3 := lcD_map (tg := gName 2) (ft := fYes) (a := fCall (gFn 3 F_is_within) (fCons (fVar 2) (fCons (fC (.int 0)) (fCons (fVar 1) fNil)))) (vs := [2]) (e := [.tup [.int x, .int y, .int d], .int m, .non]) D.int (fun _ => D.bl true) [x, y] [] (fun v hv => by
    have e := e2 v (by rcases List.mem_cons.mp hv with rfl | h; exact x0; rw [List.mem_singleton.mp h]; exact y0) (by rcases List.mem_cons.mp hv with rfl | h; exact x1; rw [List.mem_singleton.mp h]; exact y1)
    walk_at "e") (by simp)
  have e4 := all_true [x, y]
  simp only [List.map_cons, List.map_nil, List.nil_append] at e3 e4
  have e5 : atI [D.int x, D.int y, D.int d] (-1) = some (.int d) := rfl
  have e6 : F_is_within [.int d, .int 0, .int 400] = some (.bl true) := by
    have e := is_within_eq (d := .int d) (lo := 0) (hi := 400) trivial
    have e4 : withinD (D.int d) 0 400 = true := by
      show (decide (0 ≤ d) && decide (d ≤ 400)) = true
      simp [d0, d1]
    rw [e4] at e
    exact e
  have e7 : cutD [D.int x, D.int y, D.int d] none (some (-1)) = [D.int x, D.int y] := e1
  walk_at "e3 e4 e5 e6 e7"
end FB
namespace FB
open PySem L2 DL TL
theorem RuleOk.snoc {st : Stg} {rows : List (List Int)} {r : List Int} (h : RuleOk st rows) (h1 : IsRow st r) (h2 : sumOf st r = (rows.length : Int)) : RuleOk st (rows ++ [r]) := fun i x e => by
  by_cases hi : i < rows.length
  · rw [List.getElem?_append_left hi] at e
    exact h i x e
  · by_cases hi2 : i = rows.length
    · subst hi2
      rw [List.getElem?_append_right (Nat.le_refl _), Nat.sub_self] at e
      cases e
      exact ⟨h1, h2⟩
    · rw [List.getElem?_eq_none (by rw [List.length_append, List.length_singleton]; omega)] at e
      cases e
end FB
namespace FB
open PySem L2 DL TL
theorem RuleOk.take {st : Stg} {rows : List (List Int)} (h : RuleOk st rows) (k : Nat) : RuleOk st (rows.take k) := fun i r e => by
  rw [List.getElem?_take] at e
  split at e
  · exact h i r e
  · cases e
/-- a drawn device and a rule of its -/
structure Ruled (stages size : Nat) (st : Stg) (rule : List (List Int)) : Prop where
  ok : StOkD st
  le : st.length ≤ max stages 2
  rok : RuleOk st rule
  r1 : 1 ≤ rule.length
  r2 : rule.length ≤ size + 1
end FB
namespace FB
open PySem L2 DL TL
/-- laws of the shape: all([_law_right(_law_pot(script, place)) for place in _law_cells(script, m)]) -/
theorem law_main {right : List D → Option (D × D)} {c0 c1 c2 c3 c4 m : Int} (h0 : 0 ≤ c0) (h0' : c0 ≤ 1000000) (h2 : 0 ≤ c2) (h2' : c2 ≤ 1000000) (h3 : 0 ≤ c3) (h3' : c3 ≤ 1000000) (h4 : 0 ≤ c4) (m1 : 1 ≤ m) (m2 : m ≤ 100)
    (hr : ∀ xs, Pot 0 xs → ∃ xs', right [.lst xs] = some (.bl true, .lst xs')) {ns : List Int} (hn : ns.length ≤ 63) :
    runD 1 2 (fRet (fCall (gBls fun bs => bs.all id) (fCons (fLc (fItL (fCall (gFn 2 F__law_cells) (fCons (fVar 0) (fCons (fC (.int m)) fNil)))) (gName 1) fYes (fCallT 1 right (fCall (gFn 2 (F__law_pot c0 c1 c2 c3 c4)) (fCons (fVar 0) (fCons (fVar 1) fNil))) fNil) [1]) fNil))) [.scr (ns.map D.int)] = some (.bl true) := by
  obtain ⟨k, hk, e1⟩ := cells_ok m1 m2 hn
  refine runD_rt rfl (e := [.scr (ns.map D.int), .non]) ?_
  walk_at "e1 rngD_zero"
  rw [lcD_map (fun (i : Nat) => D.int (i : Int)) (fun _ => D.bl true) (List.range k) [] (fun i hi => by
    have hi := List.mem_range.mp hi
    obtain ⟨xs, e2, hp⟩ := pot_ok (c0 := c0) (c1 := c1) (c2 := c2) (c3 := c3) (c4 := c4) (ns := ns) (i := (i : Int)) h0 h2 h2' h3 h3' h4 (by omega) (by omega) hn h0'
    obtain ⟨xs', e3⟩ := hr xs hp
    walk_at "e2 e3") (by rw [List.length_nil, List.length_range]; omega)]
  rw [show ((List.range k).map fun _ => D.bl true) = ((List.range k).map fun _ => true).map D.bl by rw [List.map_map]; rfl]
  have e3 : (((List.range k).map fun _ => true).all id) = true := by
    rw [List.all_eq_true]
    intro x hx
    obtain ⟨_, _, rfl⟩ := List.mem_map.mp hx
    rfl
  walk_at "e3"
theorem repr_bl (b : Bool) : gRepr [.bl b] = some (.str (rpD (.bl b))) := gRepr_eq rfl (by simp [sizD])
theorem any_map {α : Type} (f : α → Bool) (l : List α) : (l.map f).any id = l.any f := by
  rw [List.any_map]
  rfl
end FB
namespace FB
open PySem L2 DL TL
abbrev A_check_size : AS := (aIfS (aNot (aTest (aCall (aFn 3 S_is_within) (aCons (aVar 0) (aCons (aC (.int 0)) (aCons (aC (.int 400)) aNil)))))) aNev aNext)
abbrev B_check_size : FS := (fIfS (fNot (fTest (fCall (gFn 3 F_is_within) (fCons (fVar 0) (fCons (fC (.int 0)) (fCons (fC (.int 400)) fNil)))))) fNev fNext)
theorem ss_check_size : SS false (K0D 1 1) A_check_size B_check_size [.pu] [] [] .pu .ju :=
  (ss_if (Kn := [.pu]) (st_not (st_test (se_call vc_fn (sa_cons (se_var rfl) (sa_cons se_c (sa_cons se_c sa_nil)))))) ss_nev ss_next)
def F_check_size : List D → Option D := runD 1 1 B_check_size
abbrev S_check_size : ARC := lowD .pu F_check_size
theorem law_check_size : ∀ ds Q, ds.length = 1 → S_check_size ds Q → A_check_size (endsD Q) (startS 1 (ds.map .pu)) := lawD ss_check_size rfl
abbrev gns : List Str := ["own_word", "own_most", "own_size", "own_slot", "own_packets", "own_leaves", "own_last"]
/-- a Gate, field by field -/
def gateR (w : Str) (n z k : Int) (p l : D) (t : Int) : D := .ins "Gate" gns [.str w, .int n, .int z, .int k, p, l, .int t]
section
variable {w : Str} {n z k t : Int} {p l x : D} {i : Nat} {e e1 : En} {a : FE}
theorem gs_word : subD (gateR w n z k p l t) [("Gate", "own_word")] = some (.str w) := rfl
theorem gs_most : subD (gateR w n z k p l t) [("Gate", "own_most")] = some (.int n) := rfl
theorem gs_size : subD (gateR w n z k p l t) [("Gate", "own_size")] = some (.int z) := rfl
theorem gs_slot : subD (gateR w n z k p l t) [("Gate", "own_slot")] = some (.int k) := rfl
theorem gs_packets : subD (gateR w n z k p l t) [("Gate", "own_packets")] = some p := rfl
theorem gs_leaves : subD (gateR w n z k p l t) [("Gate", "own_leaves")] = some l := rfl
theorem gs_last : subD (gateR w n z k p l t) [("Gate", "own_last")] = some (.int t) := rfl
theorem gp_packets : putD (gateR w n z k p l t) [("Gate", "own_packets")] x = gateR w n z k x l t := rfl
theorem gp_leaves : putD (gateR w n z k p l t) [("Gate", "own_leaves")] x = gateR w n z k p x t := rfl
theorem fl2_gate {d : D} {y : Int} : fl2 i [] "own_last" (.int y) e d (some (gateR w n z k p l t)) = some (e.set i (gateR w n z k p l y)) := by
  unfold fl2 gateR
  simp only
  rw [putD_nil]
  rfl
theorem fl2_gate2 {d : D} {y : Int} : fl2 i [] "own_slot" (.int y) e d (some (gateR w n z k p l t)) = some (e.set i (gateR w n z y p l t)) := by
  unfold fl2 gateR
  simp only
  rw [putD_nil]
  rfl
theorem up2_gate {g : Int → Int → Int} : up2 i [] "own_slot" g a e (some (gateR w n z k p l t)) = up4 i [] "own_slot" g k (a e) := rfl
end
/-- the slots at which packets leave, the last one -/
def lvs (ps : List (Int × Int)) : List Int := ps.map fun p => p.1 + p.2
def lastF (ps : List (Int × Int)) : Int := (lvs ps).foldl (fun m l => maxI m l) (-1)
theorem lastF_snoc (ps : List (Int × Int)) (q : Int × Int) : lastF (ps ++ [q]) = maxI (lastF ps) (q.1 + q.2) := by
  unfold lastF lvs
  rw [List.map_append, List.foldl_append]
  rfl
theorem lvs_snoc (ps : List (Int × Int)) (q : Int × Int) : lvs (ps ++ [q]) = lvs ps ++ [q.1 + q.2] := by
  unfold lvs
  rw [List.map_append]
  rfl
theorem lastF_ge : ∀ (ls : List Int) (m : Int), m ≤ ls.foldl (fun m l => maxI m l) m ∧ ∀ l ∈ ls, l ≤ ls.foldl (fun m l => maxI m l) m
  | [], m => ⟨Int.le_refl _, fun l h => by cases h⟩
  | x :: ls, m => by
    obtain ⟨h1, h2⟩ := lastF_ge ls (maxI m x)
    have h3 : m ≤ maxI m x ∧ x ≤ maxI m x := by
      unfold maxI
      split <;> omega
    rw [List.foldl_cons]
    refine ⟨by omega, fun l hl => ?_⟩
    rcases List.mem_cons.mp hl with rfl | hl
    · omega
    · exact h2 l hl
theorem lvs_le {ps : List (Int × Int)} {l : Int} (h : l ∈ lvs ps) : l ≤ lastF ps := (lastF_ge (lvs ps) (-1)).2 l h
theorem lastF_m1 (ps : List (Int × Int)) : -1 ≤ lastF ps := (lastF_ge (lvs ps) (-1)).1
/-- one more packet can stand -/
def Good (w : Str) (z : Int) (ps : List (Int × Int)) (k d : Int) : Prop := 0 ≤ d ∧ d ≤ z ∧ k + d ∉ lvs ps ∧ (w = "any" ∨ lastF ps < k + d)
def Goods (w : Str) (z : Int) : List (Int × Int) → Int → List Int → Prop
  | _, _, [] => True
  | ps, k, d :: ds => Good w z ps k d ∧ Goods w z (ps ++ [(k, d)]) k ds
theorem Goods.bd {w : Str} {z : Int} : ∀ {ds : List Int} {ps : List (Int × Int)} {k : Int}, Goods w z ps k ds → ∀ d ∈ ds, 0 ≤ d ∧ d ≤ z
  | [], _, _, _, d, hd => by cases hd
  | x :: ds, ps, k, h, d, hd => by
    rcases List.mem_cons.mp hd with rfl | hd
    · exact ⟨h.1.1, h.1.2.1⟩
    · exact h.2.bd d hd
theorem Goods.new {w : Str} {z : Int} : ∀ {ds : List Int} {ps : List (Int × Int)} {k : Int}, Goods w z ps k ds → (∀ d ∈ ds, k + d ∉ lvs ps) ∧ (ds.map fun d => k + d).Nodup
  | [], _, _, _ => ⟨fun d hd => (by cases hd), List.nodup_nil⟩
  | x :: ds, ps, k, h => by
    obtain ⟨h1, h2⟩ := h.2.new
    rw [lvs_snoc] at h1
    refine ⟨fun d hd => ?_, ?_⟩
    · rcases List.mem_cons.mp hd with rfl | hd
      · exact h.1.2.2.1
      · exact fun q => h1 d hd (List.mem_append_left _ q)
    · rw [List.map_cons, List.nodup_cons]
      refine ⟨fun q => ?_, h2⟩
      obtain ⟨d, hd, e⟩ := List.mem_map.mp q
      have e2 : d = x := by omega
      subst e2
      exact h1 d hd (List.mem_append_right _ (List.mem_singleton.mpr rfl))
theorem Goods.up {w : Str} {z : Int} (hw : w ≠ "any") : ∀ {ds : List Int} {ps : List (Int × Int)} {k : Int}, Goods w z ps k ds → ((lastF ps :: ds.map fun d => k + d).zip (ds.map fun d => k + d)).all (fun q => decide (q.1 < q.2)) = true
  | [], _, _, _ => rfl
  | x :: ds, ps, k, h => by
    have h1 := h.2.up hw
    have h2 : lastF ps < k + x := h.1.2.2.2.resolve_left hw
    have h3 : lastF (ps ++ [(k, x)]) = k + x := by
      rw [lastF_snoc]
      show maxI (lastF ps) (k + x) = k + x
      unfold maxI
      rw [if_pos h2]
    rw [h3] at h1
    rw [List.map_cons, List.zip_cons_cons, List.all_cons, h1]
    simp [h2]
theorem Goods.app {w : Str} {z : Int} : ∀ {ds es : List Int} {ps : List (Int × Int)} {k : Int}, Goods w z ps k (ds ++ es) ↔ Goods w z ps k ds ∧ Goods w z (ps ++ ds.map fun d => (k, d)) k es
  | [], es, ps, k => by
    show _ ↔ True ∧ _
    rw [List.map_nil, List.append_nil]
    simp
  | x :: ds, es, ps, k => by
    show (Good w z ps k x ∧ Goods w z (ps ++ [(k, x)]) k (ds ++ es)) ↔ (Good w z ps k x ∧ Goods w z (ps ++ [(k, x)]) k ds) ∧ _
    rw [Goods.app (ds := ds), List.map_cons, List.append_assoc, List.singleton_append, and_assoc]
abbrev SV := Int ⊕ List Int
def valD : SV → D
  | .inl c => .int c
  | .inr ds => .tup (ds.map D.int)
def aheadF (ps : List (Int × Int)) (k : Int) : Int := maxI 0 (lastF ps + 1 - k)
def dls (ps : List (Int × Int)) (k : Int) : SV → List Int
  | .inl c => (List.range c.toNat).map fun (i : Nat) => aheadF ps k + (i : Int)
  | .inr ds => ds
def OkV (w : Str) (n : Int) : SV → Prop
  | .inl c => w = "queue" ∧ 0 ≤ c ∧ c ≤ n
  | .inr ds => w ≠ "queue" ∧ (ds.length : Int) ≤ n
theorem OkV.len {w : Str} {n : Int} {ps : List (Int × Int)} {k : Int} : ∀ {v : SV}, OkV w n v → ((dls ps k v).length : Int) ≤ n
  | .inl c, h => by
    show (((List.range c.toNat).map _).length : Int) ≤ n
    rw [List.length_map, List.length_range]
    have := h.2.1
    have := h.2.2
    omega
  | .inr ds, h => h.2
def runs : Int → List (Int × Int) → List SV → List (Int × Int)
  | _, ps, [] => ps
  | k, ps, v :: vs => runs (k + 1) (ps ++ (dls ps k v).map fun d => (k, d)) vs
def Valid (w : Str) (n z : Int) : Int → List (Int × Int) → List SV → Prop
  | _, _, [] => True
  | k, ps, v :: vs => OkV w n v ∧ Goods w z ps k (dls ps k v) ∧ Valid w n z (k + 1) (ps ++ (dls ps k v).map fun d => (k, d)) vs
theorem runs_app : ∀ (vs us : List SV) (k : Int) (ps : List (Int × Int)), runs k ps (vs ++ us) = runs (k + vs.length) (runs k ps vs) us
  | [], us, k, ps => by simp [runs]
  | v :: vs, us, k, ps => by
    show runs (k + 1) _ (vs ++ us) = runs (k + ((vs.length + 1 : Nat) : Int)) (runs (k + 1) _ vs) us
    rw [runs_app vs us]
    congr 1
    omega
theorem valid_app {w : Str} {n z : Int} : ∀ {vs us : List SV} {k : Int} {ps : List (Int × Int)}, Valid w n z k ps (vs ++ us) ↔ Valid w n z k ps vs ∧ Valid w n z (k + vs.length) (runs k ps vs) us
  | [], us, k, ps => by simp [runs, Valid]
  | v :: vs, us, k, ps => by
    have e : k + ((vs.length + 1 : Nat) : Int) = k + 1 + (vs.length : Int) := by omega
    show (OkV w n v ∧ Goods w z ps k (dls ps k v) ∧ Valid w n z (k + 1) _ (vs ++ us)) ↔ (OkV w n v ∧ Goods w z ps k (dls ps k v) ∧ Valid w n z (k + 1) _ vs) ∧ Valid w n z (k + ((vs.length + 1 : Nat) : Int)) (runs (k + 1) _ vs) us
    rw [valid_app (vs := vs), e, and_assoc, and_assoc]
theorem Valid.len {w : Str} {n z : Int} {m : Nat} (hn : n ≤ m) : ∀ {vs : List SV} {k : Int} {ps : List (Int × Int)}, Valid w n z k ps vs → (runs k ps vs).length ≤ ps.length + m * vs.length
  | [], _, _, _ => by simp [runs]
  | v :: vs, k, ps, h => by
    have h1 := h.2.2.len hn
    have h2 := h.1.len (ps := ps) (k := k)
    show (runs (k + 1) _ vs).length ≤ _
    rw [List.length_append, List.length_map] at h1
    rw [List.length_cons, Nat.mul_succ]
    omega
end FB
open PySem L2 DL TL FB
local macro_rules
  | `(tactic| walk_at $s:str) => do
    let hs := ((s.getString.splitOn " ").filter fun x => x != "")
    let us := hs.filter fun x => x.front != '@'
    let ls ← us.toArray.mapM fun h => `(Lean.Parser.Tactic.simpLemma| $(Lean.mkIdent h.toName):term)
    `(tactic| simp (config := { maxSteps := 1000000 }) (disch := first | assumption | omega | (simp only [List.length_map, List.length_append, List.length_cons, List.length_nil, List.length_replicate]; omega)) only [u1_some, pr_some, pr_ite, w_var, w_c, mv1_some, w_mov, op1_some, op2_some, op1_ite, op2_ite, w_op, hNeg_int, hNot_bl, w_neg, w_notV, an1_bl, or1_bl, w_andV, w_orV, an1_ite, or1_ite, ch1_some, ch2_some, ch3_bl, w_chain, hTest_bl, w_test, u1_ite, ta1_some, to1_some, ta1_ite, to1_ite, w_tand, w_tor, hNotB_eq, w_not, w_yes, if0_some, if0_ite, w_if, w_isi, w_nil, co1_some, co2_some, co1_ite, co2_ite, w_cons, sr2_some, sr1_t, sr1_l, w_star, hTup_nil, hTup_1, hTup_2, hTup_3, hTup_4, hTup_5, hLst_nil, hLst_1, hLst_2, hLst_3, hLst_4, hLst_5, hLst_6, hTup_eq, hLst_eq, w_tup, w_lst, w_call, w_noP, hPart_int, w_part, sl1_some, sl2_some, sl3_some, hSlL_l, hSlL_s, hSlT_t, w_slL, w_slT, hRevL_l, w_revL, m11_str, m12_some, w_m1, io1_int, io2_lst, w_ixO, bo1_some, bo2_int, bo2_bl, w_bor, ib1_some, w_inB, w_popAt, w_lr1, w_lr2, hLr1_eq, hLsT_eq, hLsL_eq, w_lsT, w_lsL, cm2_some, w_callM, ct2_some, ct0_some, w_callT, gFn_1, gFn_2, gFn_3, gFn_4, gFn_5, gFn_6, w_callK, ck1_1, ck1_2, ck1_2', hItL_l, hItL_s, hItT_t, hItS_s, w_itL, w_itT, w_itS, hRng1_nat, hRng1_eq, hRng2_eq, w_rng1, w_rng2, hEnT_t, hEnL_l, w_enT, w_enL, gZip_tt, gZip_ll, w_zip, hZipX_tl, hZipX_lt, w_zipX, w_name, w_gnil, gc1_some, w_gcons, w_gtup, lc2_some, lc1_some, w_lc, scr_nil, scr_cons, sq_nx, sq_rt, sq_bk, sq_ct, sq_er, sq_ite, w_seq, wk1_nx, wk1_rt, wk1_bk, wk1_ct, wk1_er, wk1_ite, w_wk, w_next, w_nev, w_brk, w_cnt, w_retN, rt1_some, dr1_some, se1_some, rt1_ite, se1_ite, w_ret, w_drop, w_set, if1_some, if1_ite, w_ifS, nx1_some, as1_some, w_asg, w_to, pa1_some, pa2_some, w_par, pb1_some, pb2_some, pb3_some, w_par3, ag1_some, ag2_some, w_aug, ap1_some, ap2_lst, w_app, et1_lst, et2_lst, w_ext, pt1_some, pt2_int, w_put, fo1_some, w_for, forD_nil, rd1_rt, rd1_nx, rd1_ite, w_tn, tn1_some, tn2_nx, tn2_ct, tn2_bk, tn2_rt, tn2_ite, w_ltn, lt1_some, lt2_some, lt2_ite, lt3_some, lt3_ite, lcD_nil, gI_ii, gB_ii, gMul_l, gMul_r, gMul_n, gDiv_p, gDivW_p, gMod_p, gEq_ii, gEq_ss, gEq_bb, gIsN_non, gIsN_int, gIsN_tup, gIsN_lst, gIsN_str, gIsN_bl, gIx_t, gIx_l, gIx_s, gCatL_ll, gCatT_tt, gMulT_ti, gIsB_bb, gI1_i, gI2_ii, gInt_i, gInt_b, gLen_t, gLen_l, gLen_s, gList_t, gList_l, gTupl_t, gTupl_l, gBls_l, gInts_l, gIntsT_t, nSum_eq, gSortI_l, gSortTI_t, gStrI_i, hIsi_int_int, hIsi_bool_int, hIsi_int_bl, hIsi_bool_bl, hIsi_tup_tup, hIsi_str_str, hIsi_lst_lst,
      fl2_gate, up2_gate, xp1_some, xp2_some, xp3_lst, w_appP, up1_some, up3_int, up4_int, w_augP, pk3_p, pk4_int, qb1_some, qb2_some, w_borP, qk1_some, qk2_some, qk3_some, w_inKP, qo1_some, qo2_some, w_opB, fb1_some, w_bHere, fb2_some, fb3_some, w_bCons, qc1_some, qc2_some, w_callBo, mp1_some, mp2_some, mp3_0, mp3_1, mp3_2, mp4_some, w_methP, gs_word, gs_most, gs_size, gs_slot, gs_packets, gs_leaves, gs_last, gp_packets, gp_leaves, w_enZip, hEnZip_tl, hEnZip_lt, hEnZip_tt, hEnZip_ll, gt1_some, w_get, w_fldD, w_propD, hProp_eq, mk2_some, mk1_0, mk1_1, mk1_2, mk1_3, w_make, gd1_some, gd2_some, gd4_int, gd5_none, gd5_some, w_getD, ik1_dk, ik2_int, ik3_some, w_ixK, nk1_some, nk2_int, w_inK, go1_some, go2_some, go3_nil, w_getO, pk1_some, pk2_some, pk3_nil, w_putO, fl1_some, fl2_ins, w_fld, subD_nil, putD_nil, pg1_2, pg1_3, pg1_4, w_parG, cm1_some, cm3_1, cm3_2, cm3_3, cm3_4, cm3_5, ct1_1, ct1_2, ct1_3, ge_0, ge_s, sz_0, sz_s, ap_c, ap_n, List.append_nil, List.replicate, Nat.reduceSub, Nat.reduceAdd, Nat.zero_add, at2_0, at2_1, at3_0, at3_1, at3_2, List.length_cons, List.length_nil, List.length_map, List.length_replicate, if_tt, if_ff, if_not, not_tt, not_ff, dec_t, if_true, if_false, ite_true, ite_false, reduceIte, Bool.false_eq_true, true_and, and_true, Bool.not_true, Bool.not_false, ci_0, ci_1, ci_2, ci_3, ci_4, ci_5, ci_6, ci_7, ci_8, eq_self, Int.reduceLT, Int.reduceLE, Int.reduceEq, Int.toNat_natCast, decide_true, decide_false, not_true_eq_false, not_false_eq_true, $ls,*])
namespace FB
open PySem L2 DL TL
def enF {α : Type} (f : α → D) : Nat → List α → List D
  | _, [] => []
  | k, v :: vs => .tup [.int (k : Int), f v] :: enF f (k + 1) vs
theorem enF_eq {α : Type} (f : α → D) : ∀ (vs : List α) (k : Nat), (((List.range' k vs.length).zip (vs.map f)).map fun p => D.tup [.int (p.1 : Nat), p.2]) = enF f k vs
  | [], k => rfl
  | v :: vs, k => by
    rw [List.length_cons, List.range'_succ, List.map_cons, List.zip_cons_cons, List.map_cons, enF_eq f vs (k + 1)]
    rfl
theorem enumD_enF {α : Type} (f : α → D) (vs : List α) : enumD (vs.map f) = enF f 0 vs := by
  unfold enumD
  rw [List.length_map, List.range_eq_range', enF_eq]
section
variable {w : Str} {n z k : Int} {ps : List (Int × Int)} {v : SV}
theorem within_t {c lo hi : Int} (h0 : lo ≤ c) (h1 : c ≤ hi) : F_is_within [.int c, .int lo, .int hi] = some (.bl true) := by
  rw [is_within_eq (d := .int c) trivial]
  show some (D.bl (decide (lo ≤ c) && decide (c ≤ hi))) = _
  simp [h0, h1]
end
end FB
open PySem L2 DL TL FB
local macro_rules
  | `(tactic| walk_at $s:str) => do
    let hs := ((s.getString.splitOn " ").filter fun x => x != "")
    let us := hs.filter fun x => x.front != '@'
    let ls ← us.toArray.mapM fun h => `(Lean.Parser.Tactic.simpLemma| $(Lean.mkIdent h.toName):term)
    `(tactic| simp (config := { maxSteps := 1000000 }) (disch := first | assumption | omega | (simp only [List.length_map, List.length_append, List.length_cons, List.length_nil, List.length_replicate]; omega)) only [u1_some, pr_some, pr_ite, w_var, w_c, mv1_some, w_mov, op1_some, op2_some, op1_ite, op2_ite, w_op, hNeg_int, hNot_bl, w_neg, w_notV, an1_bl, or1_bl, w_andV, w_orV, an1_ite, or1_ite, ch1_some, ch2_some, ch3_bl, w_chain, hTest_bl, w_test, u1_ite, ta1_some, to1_some, ta1_ite, to1_ite, w_tand, w_tor, hNotB_eq, w_not, w_yes, if0_some, if0_ite, w_if, w_isi, w_nil, co1_some, co2_some, co1_ite, co2_ite, w_cons, sr2_some, sr1_t, sr1_l, w_star, hTup_nil, hTup_1, hTup_2, hTup_3, hTup_4, hTup_5, hLst_nil, hLst_1, hLst_2, hLst_3, hLst_4, hLst_5, hLst_6, hTup_eq, hLst_eq, w_tup, w_lst, w_call, w_noP, hPart_int, w_part, sl1_some, sl2_some, sl3_some, hSlL_l, hSlL_s, hSlT_t, w_slL, w_slT, hRevL_l, w_revL, m11_str, m12_some, w_m1, io1_int, io2_lst, w_ixO, bo1_some, bo2_int, bo2_bl, w_bor, ib1_some, w_inB, w_popAt, w_lr1, w_lr2, hLr1_eq, hLsT_eq, hLsL_eq, w_lsT, w_lsL, cm2_some, w_callM, ct2_some, ct0_some, w_callT, gFn_1, gFn_2, gFn_3, gFn_4, gFn_5, gFn_6, w_callK, ck1_1, ck1_2, ck1_2', hItL_l, hItL_s, hItT_t, hItS_s, w_itL, w_itT, w_itS, hRng1_nat, hRng1_eq, hRng2_eq, w_rng1, w_rng2, hEnT_t, hEnL_l, w_enT, w_enL, gZip_tt, gZip_ll, w_zip, hZipX_tl, hZipX_lt, w_zipX, w_name, w_gnil, gc1_some, w_gcons, w_gtup, lc2_some, lc1_some, w_lc, scr_nil, scr_cons, sq_nx, sq_rt, sq_bk, sq_ct, sq_er, sq_ite, w_seq, wk1_nx, wk1_rt, wk1_bk, wk1_ct, wk1_er, wk1_ite, w_wk, w_next, w_nev, w_brk, w_cnt, w_retN, rt1_some, dr1_some, se1_some, rt1_ite, se1_ite, w_ret, w_drop, w_set, if1_some, if1_ite, w_ifS, nx1_some, as1_some, w_asg, w_to, pa1_some, pa2_some, w_par, pb1_some, pb2_some, pb3_some, w_par3, ag1_some, ag2_some, w_aug, ap1_some, ap2_lst, w_app, et1_lst, et2_lst, w_ext, pt1_some, pt2_int, w_put, fo1_some, w_for, forD_nil, rd1_rt, rd1_nx, rd1_ite, w_tn, tn1_some, tn2_nx, tn2_ct, tn2_bk, tn2_rt, tn2_ite, w_ltn, lt1_some, lt2_some, lt2_ite, lt3_some, lt3_ite, lcD_nil, gI_ii, gB_ii, gMul_l, gMul_r, gMul_n, gDiv_p, gDivW_p, gMod_p, gEq_ii, gEq_ss, gEq_bb, gIsN_non, gIsN_int, gIsN_tup, gIsN_lst, gIsN_str, gIsN_bl, gIx_t, gIx_l, gIx_s, gCatL_ll, gCatT_tt, gMulT_ti, gIsB_bb, gI1_i, gI2_ii, gInt_i, gInt_b, gLen_t, gLen_l, gLen_s, gList_t, gList_l, gTupl_t, gTupl_l, gBls_l, gInts_l, gIntsT_t, nSum_eq, gSortI_l, gSortTI_t, gStrI_i, hIsi_int_int, hIsi_bool_int, hIsi_int_bl, hIsi_bool_bl, hIsi_tup_tup, hIsi_str_str, hIsi_lst_lst,
      fl2_gate, fl2_gate2, up2_gate, xp1_some, xp2_some, xp3_lst, w_appP, up1_some, up3_int, up4_int, w_augP, pk3_p, pk4_int, qb1_some, qb2_some, w_borP, qk1_some, qk2_some, qk3_some, w_inKP, qo1_some, qo2_some, w_opB, fb1_some, w_bHere, fb2_some, fb3_some, w_bCons, qc1_some, qc2_some, w_callBo, mp1_some, mp2_some, mp3_0, mp3_1, mp3_2, mp4_some, w_methP, gs_word, gs_most, gs_size, gs_slot, gs_packets, gs_leaves, gs_last, gp_packets, gp_leaves, w_enZip, hEnZip_tl, hEnZip_lt, hEnZip_tt, hEnZip_ll, gt1_some, w_get, w_fldD, w_propD, hProp_eq, mk2_some, mk1_0, mk1_1, mk1_2, mk1_3, w_make, gd1_some, gd2_some, gd4_int, gd5_none, gd5_some, w_getD, ik1_dk, ik2_int, ik3_some, w_ixK, nk1_some, nk2_int, w_inK, go1_some, go2_some, go3_nil, w_getO, pk1_some, pk2_some, pk3_nil, w_putO, fl1_some, fl2_ins, w_fld, subD_nil, putD_nil, pg1_2, pg1_3, pg1_4, w_parG, cm1_some, cm3_1, cm3_2, cm3_3, cm3_4, cm3_5, ct1_1, ct1_2, ct1_3, ge_0, ge_s, sz_0, sz_s, ap_c, ap_n, List.append_nil, List.replicate, Nat.reduceSub, Nat.reduceAdd, Nat.zero_add, at2_0, at2_1, at3_0, at3_1, at3_2, List.length_cons, List.length_nil, List.length_map, List.length_replicate, if_tt, if_ff, if_not, not_tt, not_ff, dec_t, if_true, if_false, ite_true, ite_false, reduceIte, Bool.false_eq_true, true_and, and_true, Bool.not_true, Bool.not_false, ci_0, ci_1, ci_2, ci_3, ci_4, ci_5, ci_6, ci_7, ci_8, eq_self, Int.reduceLT, Int.reduceLE, Int.reduceEq, Int.toNat_natCast, decide_true, decide_false, not_true_eq_false, not_false_eq_true, $ls,*])
namespace FB
open PySem L2 DL TL
theorem lvs_len (ps : List (Int × Int)) : (lvs ps).length = ps.length := List.length_map _
section
variable {w : Str} {n z k : Int}
end
end FB
namespace FB
open PySem L2 DL TL
abbrev A__law_is_int : AS := (aRet (aAndV (aIsi .int (aVar 0)) (aAndV (aNotV (aIsi .bool (aVar 0))) (aChain aLe aLe (aVar 1) (aVar 0) (aVar 2)))))
abbrev B__law_is_int : FS := (fRet (fAndV (fIsi .int (fVar 0)) (fAndV (fNotV (fIsi .bool (fVar 0))) (fChain gLe gLe (fVar 1) (fVar 0) (fVar 2)))))
theorem ss__law_is_int : SS false (K0D 3 3) A__law_is_int B__law_is_int [] [] [] .pu .ju :=
  (ss_ret (se_andV (se_isi (se_var rfl)) (se_andV (se_notV (se_isi (se_var rfl))) (se_chain v_b v_b (se_var rfl) (se_var rfl) (se_var rfl)))) rfl (.inl rfl))
def F__law_is_int : List D → Option D := runD 3 3 B__law_is_int
abbrev S__law_is_int : ARC := lowD .pu F__law_is_int
theorem law__law_is_int : ∀ ds Q, ds.length = 3 → S__law_is_int ds Q → A__law_is_int (endsD Q) (startS 3 (ds.map .pu)) := lawD ss__law_is_int rfl
abbrev A__law_slot_delays : AS := (aSeq (aIfS (aTest (aOp aEq (aOp aIx (aVar 0) (aC (.int 0))) (aC (.str "queue")))) (aSeq (aIfS (aNot (aTest (aCall (aFn 3 S__law_is_int) (aCons (aVar 3) (aCons (aC (.int 0)) (aCons (aOp aIx (aVar 0) (aC (.int 1))) aNil)))))) aNev aNext)
  (aSeq (aSet 4 (aCall (aInts fMax) (aCons (aOp aCatL (aLst (aCons (aC (.int 0)) aNil)) (aLc (aItL (aSlL (aVar 1) (aPart (aNeg (aC (.int 1)))) aNoP)) (agTup (agCons (agName 6) (agCons (agName 7) agNil))) aYes (aSub (aAdd (aAdd (aVar 6) (aVar 7)) (aC (.int 1))) (aVar 2)) [6, 7])) aNil)))
  (aRet (aLc (aRng1 (aCons (aVar 3) aNil)) (agName 5) aYes (aCall aInt (aCons (aAdd (aVar 4) (aVar 5)) aNil)) [5])))) aNext)
  (aSeq (aIfS (aOr (aNot (aTest (aIsi .tuple (aVar 3)))) (aTest (aOp aGt (aCall aLen (aCons (aVar 3) aNil)) (aOp aIx (aVar 0) (aC (.int 1)))))) aNev aNext)
  (aRet (aCall aList (aCons (aVar 3) aNil)))))
abbrev B__law_slot_delays : FS := (fSeq (fIfS (fTest (fOp (gEq false) (fOp gIx (fVar 0) (fC (.int 0))) (fC (.str "queue")))) (fSeq (fIfS (fNot (fTest (fCall (gFn 3 F__law_is_int) (fCons (fVar 3) (fCons (fC (.int 0)) (fCons (fOp gIx (fVar 0) (fC (.int 1))) fNil)))))) fNev fNext)
  (fSeq (fSet 4 (fCall (gInts nMax) (fCons (fOp gCatL (fLst (fCons (fC (.int 0)) fNil)) (fLc (fItL (fSlL (fVar 1) (fPart (fNeg (fC (.int 1)))) fNoP)) (gTup (gCons (gName 6) (gCons (gName 7) gNil))) fYes (fOp gSub (fOp gAdd (fOp gAdd (fVar 6) (fVar 7)) (fC (.int 1))) (fVar 2)) [6, 7])) fNil)))
  (fRet (fLc (fRng1 (fCons (fVar 3) fNil)) (gName 5) fYes (fCall gInt (fCons (fOp gAdd (fVar 4) (fVar 5)) fNil)) [5])))) fNext)
  (fSeq (fIfS (fOr (fNot (fTest (fIsi .tuple (fVar 3)))) (fTest (fOp gGt (fCall gLen (fCons (fVar 3) fNil)) (fOp gIx (fVar 0) (fC (.int 1)))))) fNev fNext)
  (fRet (fCall gList (fCons (fVar 3) fNil)))))
theorem ss__law_slot_delays : SS false (K0D 4 8) A__law_slot_delays B__law_slot_delays [] [] [] .ow .ju :=
  (ss_seq (ss_if (Kn := [.pu, .pu, .pu, .pu, .ju, .ju, .ju, .ju]) (st_test (se_op v_eq (se_op v_ix (se_var rfl) se_c) se_c)) (ss_seq (ss_if (Kn := [.pu, .pu, .pu, .pu, .ju, .ju, .ju, .ju]) (st_not (st_test (se_call vc_fn (sa_cons (se_var rfl) (sa_cons se_c (sa_cons (se_op v_ix (se_var rfl) se_c) sa_nil)))))) ss_nev ss_next)
  (ss_seq (ss_set (se_call (vc_ints vn_max) (sa_cons (se_op v_catL (se_lst (sa_cons se_c sa_nil)) (se_lc [.pu, .pu, .pu, .pu, .ju, .ju, .ju, .ju] (si_l (se_slL (se_var rfl) (so_part (se_neg se_c)) so_no)) rfl (sg_tup (sgs_cons (sg_name (k0 := .ju) rfl) (sgs_cons (sg_name (k0 := .ju) rfl) sgs_nil))) st_yes (se_op v_i (se_op v_i (se_op v_i (se_var rfl) (se_var rfl)) se_c) (se_var rfl)) rfl rfl)) sa_nil)) (by simp) (.inr rfl))
  (ss_ret (se_lc [.pu, .pu, .pu, .pu, .pu, .ju, .ju, .ju] (si_rng1 (sa_cons (se_var rfl) sa_nil)) rfl (sg_name (k0 := .ju) rfl) st_yes (se_call vc_int (sa_cons (se_op v_i (se_var rfl) (se_var rfl)) sa_nil)) rfl rfl) rfl (.inl rfl)))) ss_next)
  (ss_seq (ss_if (Kn := [.pu, .pu, .pu, .pu, .ju, .ju, .ju, .ju]) (st_or (st_not (st_test (se_isi (se_var rfl)))) (st_test (se_op v_b (se_call vc_len (sa_cons (se_var rfl) sa_nil)) (se_op v_ix (se_var rfl) se_c)))) ss_nev ss_next)
  (ss_ret (se_call vc_list (sa_cons (se_var rfl) sa_nil)) rfl (.inl rfl))))
def F__law_slot_delays : List D → Option D := runR 4 8 B__law_slot_delays
abbrev S__law_slot_delays : ARC := lowD .ow F__law_slot_delays
theorem law__law_slot_delays : ∀ ds Q, ds.length = 4 → S__law_slot_delays ds Q → A__law_slot_delays (endsD Q) (startS 8 (ds.map .pu)) := lawR ss__law_slot_delays
abbrev A__law_packets : AS := (aSeq (aSet 2 (aLst aNil))
  (aSeq (aFor (aItEnT (aCons (aVar 1) aNil)) (agTup (agCons (agName 3) (agCons (agName 4) agNil))) (aExt 2 (aLc (aItL (aCallBo (aFn 4 S__law_slot_delays) 2 (abCons (aVar 0) (abHere 2 (aCons (aVar 3) (aCons (aVar 4) aNil)))))) (agName 5) aYes (aTup (aCons (aCall aInt (aCons (aVar 3) aNil)) (aCons (aCall aInt (aCons (aVar 5) aNil)) aNil))) [5])))
  (aRet (aVar 2))))
abbrev L1__law_packets : FS := (fWk [3, 4] (fExt 2 (fLc (fItL (fCallBo true (gFn 4 F__law_slot_delays) 2 (fbCons (fVar 0) (fbHere (fCons (fVar 3) (fCons (fVar 4) fNil)))))) (gName 5) fYes (fTup (fCons (fCall gInt (fCons (fVar 3) fNil)) (fCons (fCall gInt (fCons (fVar 5) fNil)) fNil))) [5])))
abbrev B__law_packets : FS := (fSeq (fSet 2 (fLst fNil))
  (fSeq (fFor (fItEnT (fCons (fVar 1) fNil)) [] (gTup (gCons (gName 3) (gCons (gName 4) gNil))) L1__law_packets)
  (fRet (fVar 2))))
theorem ss__law_packets : SS false (K0D 2 6) A__law_packets B__law_packets [] [] [] .pu .ju :=
  (ss_seq (ss_set (se_lst sa_nil) (by simp) (.inr rfl))
  (ss_seq (ss_for (J := []) [.pu, .pu, .ow, .ju, .ju, .ju] (si_enT (sa_cons (se_var rfl) sa_nil)) rfl (sg_tup (sgs_cons (sg_name (k0 := .ju) rfl) (sgs_cons (sg_name (k0 := .ju) rfl) sgs_nil))) (ss_wk (K1 := [.pu, .pu, .ow, .pu, .pu, .ju]) (Kn := [.pu, .pu, .ow, .ju, .ju, .ju]) [3, 4] (ss_ext rfl rfl (se_lc [.pu, .pu, .ow, .pu, .pu, .ju] (si_l (se_callBo vc_fn rfl (sab_cons (se_var rfl) (sab_here rfl (sa_cons (se_var rfl) (sa_cons (se_var rfl) sa_nil)) (by simp))) rfl)) rfl (sg_name (k0 := .ju) rfl) st_yes (se_tup (sa_cons (se_call vc_int (sa_cons (se_var rfl) sa_nil)) (sa_cons (se_call vc_int (sa_cons (se_var rfl) sa_nil)) sa_nil))) rfl rfl)) rfl))
  (ss_ret (se_frz (k := .ow) rfl) rfl (.inl rfl))))
def F__law_packets : List D → Option D := runD 2 6 B__law_packets
abbrev S__law_packets : ARC := lowD .pu F__law_packets
theorem law__law_packets : ∀ ds Q, ds.length = 2 → S__law_packets ds Q → A__law_packets (endsD Q) (startS 6 (ds.map .pu)) := lawD ss__law_packets rfl
/-- the last packet is the last one to leave -/
def LastOk (ps : List (Int × Int)) : Prop := ps = [] ∨ ∃ ps' q, ps = ps' ++ [q] ∧ lastF ps = q.1 + q.2
theorem LastOk.snoc {w : Str} {z : Int} {ps : List (Int × Int)} {k d : Int} (hw : w ≠ "any") (h : Good w z ps k d) : LastOk (ps ++ [(k, d)]) := .inr ⟨ps, (k, d), rfl, by
  rw [lastF_snoc]
  have := h.2.2.2.resolve_left hw
  show maxI (lastF ps) (k + d) = k + d
  unfold maxI
  rw [if_pos this]⟩
theorem LastOk.go {w : Str} {z : Int} (hw : w ≠ "any") : ∀ {ds : List Int} {ps : List (Int × Int)} {k : Int}, Goods w z ps k ds → LastOk ps → LastOk (ps ++ ds.map fun d => (k, d))
  | [], ps, k, _, h => by
    rw [List.map_nil, List.append_nil]
    exact h
  | d :: ds, ps, k, h, _ => by
    have := LastOk.go hw h.2 (.snoc hw h.1)
    rw [List.append_assoc] at this
    exact this
theorem cut_last (xs : List D) (x : D) : cutD (xs ++ [x]) (some (-1)) none = [x] := by
  have h1 : HT.sIx (xs ++ [x]).length 0 (some (-1)) = xs.length := by
    show (if (-1 : Int) < 0 then ((-1 : Int) + ((xs ++ [x]).length : Int)).toNat else min (-1 : Int).toNat (xs ++ [x]).length) = _
    rw [if_pos (by decide), List.length_append, List.length_singleton]
    omega
  have h2 : HT.sIx (xs ++ [x]).length (xs ++ [x]).length none = xs.length + 1 := by
    rw [HT.sIx_none, List.length_append, List.length_singleton]
  unfold cutD
  rw [h1, h2, Nat.add_sub_cancel_left]
  simp
theorem law_is_int_t {c lo hi : Int} (h0 : lo ≤ c) (h1 : c ≤ hi) : F__law_is_int [.int c, .int lo, .int hi] = some (.bl true) := by
  refine runD_rt rfl (e := [.int c, .int lo, .int hi]) ?_
  have e1 : decide (lo ≤ c) = true := decide_eq_true h0
  have e2 : decide (c ≤ hi) = true := decide_eq_true h1
  walk_at "e1 e2"
section
variable {w : Str} {n k : Int} {ps : List (Int × Int)} {v : SV}
theorem slot_delays_eq (h : OkV w n v) (hn : n ≤ 4) (hk : 0 ≤ k) (hl : w = "queue" → LastOk ps) : F__law_slot_delays [svD w n, .lst (ps.map pairD), .int k, valD v] = some (.lst ((dls ps k v).map D.int)) := by
  cases v with
  | inl c =>
    obtain ⟨rfl, c0, c1⟩ := h
    refine runR_eq rfl (e := [svD "queue" n, .lst (ps.map pairD), .int k, .int c, .int (aheadF ps k), .non, .non, .non]) ?_
    have e1 := law_is_int_t c0 c1
    have l2 := lcD_map (tg := gName 5) (ft := fYes) (a := fCall gInt (fCons (fOp gAdd (fVar 4) (fVar 5)) fNil)) (vs := [5]) (e := [svD "queue" n, .lst (ps.map pairD), .int k, .int c, .int (aheadF ps k), .non, .non, .non]) (fun (i : Nat) => D.int (i : Int)) (fun (i : Nat) => D.int (aheadF ps k + (i : Int))) (List.range c.toNat) [] (fun i hi => by walk_at "") (by rw [List.length_nil, List.length_range]; omega)
    rw [List.nil_append, ← rngD_zero, show ((List.range c.toNat).map fun (i : Nat) => D.int (aheadF ps k + (i : Int))) = (dls ps k (.inl c)).map D.int by unfold dls; rw [List.map_map]; rfl] at l2
    have r1 : hRng1 [.int c] = some (rngD 0 c.toNat) := hRng1_eq (by omega) (by omega)
    have key : ∃ xs : List Int, fLcD (gTup (gCons (gName 6) (gCons (gName 7) gNil))) fYes (fOp gSub (fOp gAdd (fOp gAdd (fVar 6) (fVar 7)) (fC (.int 1))) (fVar 2)) [6, 7] (cutD (ps.map pairD) (some (-1)) none) [svD "queue" n, .lst (ps.map pairD), .int k, .int c, .non, .non, .non, .non] [] = some (xs.map D.int, [svD "queue" n, .lst (ps.map pairD), .int k, .int c, .non, .non, .non, .non]) ∧ xs.length ≤ 1 ∧ nMax (0 :: xs) = some (.int (aheadF ps k)) := by
      rcases hl rfl with rfl | ⟨ps', q, rfl, hq⟩
      · refine ⟨[], rfl, by simp, ?_⟩
        show some (D.int 0) = _
        unfold aheadF maxI
        rw [if_neg (by show ¬ (-1 + 1 - k > 0); omega)]
      · refine ⟨[q.1 + q.2 + 1 - k], ?_, by simp, ?_⟩
        · have e : cutD ((ps' ++ [q]).map pairD) (some (-1)) none = [pairD q] := by
            rw [List.map_append]
            exact cut_last _ _
          have l1 := lcD_map (tg := gTup (gCons (gName 6) (gCons (gName 7) gNil))) (ft := fYes) (a := fOp gSub (fOp gAdd (fOp gAdd (fVar 6) (fVar 7)) (fC (.int 1))) (fVar 2)) (vs := [6, 7]) (e := [svD "queue" n, .lst ((ps' ++ [q]).map pairD), .int k, .int c, .non, .non, .non, .non]) pairD (fun q => D.int (q.1 + q.2 + 1 - k)) [q] [] (fun q hq => by walk_at "") (by simp)
          rw [List.nil_append, List.map_cons, List.map_nil, List.map_cons, List.map_nil] at l1
          rw [e]
          exact l1
        · show some (D.int (if 0 < q.1 + q.2 + 1 - k then q.1 + q.2 + 1 - k else 0)) = some (.int (aheadF (ps' ++ [q]) k))
          unfold aheadF maxI
          rw [hq]
    obtain ⟨xs, k1, k2, k3⟩ := key
    have e4 : gInts nMax [.lst (D.int 0 :: xs.map D.int)] = some (.int (aheadF ps k)) := by
      rw [show (D.int 0 :: xs.map D.int) = (0 :: xs).map D.int from rfl, gInts_l]
      exact k3
    have e5 : gCatL (.lst [D.int 0]) (.lst (xs.map D.int)) = some (.lst (D.int 0 :: xs.map D.int)) := gCatL_ll (by rw [List.length_map, List.length_cons, List.length_nil]; omega)
    generalize ps.map pairD = P at l2 k1 ⊢
    unfold valD
    walk_at "e1 k1 e5 e4 r1 l2"
  | inr ds =>
    obtain ⟨hw, c1⟩ := h
    refine runR_eq rfl (e := [svD w n, .lst (ps.map pairD), .int k, .tup (ds.map D.int), .non, .non, .non, .non]) ?_
    have e1 : ¬ n < (ds.length : Int) := by omega
    unfold valD
    walk_at "hw e1"
    rfl
theorem packs_loop {T : D} (hn : n ≤ 4) {z : Int} : ∀ (vs : List SV) (k : Nat) (ps : List (Int × Int)), Valid w n z k ps vs → (w = "queue" → LastOk ps) → k + vs.length ≤ 1000 → ps.length ≤ 4 * k →
    fForD (gTup (gCons (gName 3) (gCons (gName 4) gNil))) L1__law_packets (enF valD k vs) [svD w n, T, .lst (ps.map pairD), .non, .non, .non] = .nx [svD w n, T, .lst ((runs k ps vs).map pairD), .non, .non, .non]
  | [], k, ps, _, _, _, _ => rfl
  | v :: vs, k, ps, h, hl, hb, hp => by
    rw [List.length_cons] at hb
    have e1 := slot_delays_eq (k := (k : Int)) h.1 hn (by omega) hl
    have hlen := h.1.len (ps := ps) (k := (k : Int))
    have h3 := h.2.2
    have ih := packs_loop (T := T) hn vs (k + 1) _ h3 (fun hw => LastOk.go (by rw [hw]; decide) h.2.1 (hl hw)) (by omega) (by rw [List.length_append, List.length_map]; omega)
    have e0 : tn (gTup (gCons (gName 3) (gCons (gName 4) gNil))) L1__law_packets (.tup [.int (k : Int), valD v]) [svD w n, T, .lst (ps.map pairD), .non, .non, .non] = .nx [svD w n, T, .lst ((ps ++ (dls ps k v).map fun d => ((k : Int), d)).map pairD), .non, .non, .non] := by
      generalize dls ps k v = ds at e1 hlen ⊢
      generalize valD v = V at e1 ⊢
      have l1 := lcD_map (tg := gName 5) (ft := fYes) (a := fTup (fCons (fCall gInt (fCons (fVar 3) fNil)) (fCons (fCall gInt (fCons (fVar 5) fNil)) fNil))) (vs := [5]) (e := [svD w n, T, .lst (ps.map pairD), .int (k : Int), V, .non]) D.int (fun d => pairD ((k : Int), d)) ds [] (fun d hd => by walk_at "") (by rw [List.length_nil]; omega)
      rw [List.nil_append] at l1
      have e2 : gFn 4 F__law_slot_delays [svD w n, .lst (ps.map pairD), .int (k : Int), V] = some (.lst (ds.map D.int)) := by rw [gFn_4]; exact e1
      have e3 : flatR (.lst (ds.map D.int)) = true := by
        show (ds.map D.int).all flatD = true
        rw [List.all_map]
        exact List.all_eq_true.mpr fun d hd => rfl
      have e4 := qc3_ow (e := [svD w n, T, .lst (ps.map pairD), .int (k : Int), V, .non]) e3
      have e5 : (ps.map pairD).length + (ds.map fun d => pairD ((k : Int), d)).length < 100000 := by
        rw [List.length_map, List.length_map]
        omega
      rw [List.map_append, List.map_map, show (pairD ∘ fun d => ((k : Int), d)) = fun d => pairD ((k : Int), d) from rfl]
      unfold L1__law_packets
      generalize ps.map pairD = P at l1 e2 e4 e5 ⊢
      generalize (ds.map fun d => pairD ((k : Int), d)) = W at l1 e5 ⊢
      walk_at "List.cons_append List.nil_append e2 e4 l1"
    show fForD _ _ (.tup [.int (k : Int), valD v] :: enF valD (k + 1) vs) _ = _
    rw [forD_nx e0]
    have c : ((k + 1 : Nat) : Int) = (k : Int) + 1 := by omega
    rw [c] at ih
    exact ih
theorem law_packets_eq {vs : List SV} {z : Int} (hn : n ≤ 4) (hv : Valid w n z 0 [] vs) (hb : vs.length ≤ 1000) : F__law_packets [svD w n, .tup (vs.map valD)] = some (.lst ((runs 0 [] vs).map pairD)) := by
  refine runD_rt rfl (e := [svD w n, .tup (vs.map valD), .lst ((runs 0 [] vs).map pairD), .non, .non, .non]) ?_
  have e4 := packs_loop (w := w) (T := .tup (vs.map valD)) hn vs 0 [] hv (fun _ => .inl rfl) (by omega) (by simp)
  rw [show ((0 : Nat) : Int) = 0 from rfl, List.map_nil] at e4
  have e6 := enumD_enF valD vs
  generalize vs.map valD = TT at e4 e6 ⊢
  generalize enF valD 0 vs = EE at e4 e6
  generalize (runs 0 [] vs).map pairD = R at e4 ⊢
  walk_at "e6 e4"
end
end FB
namespace FB
open PySem L2 DL TL
def aheads (a : Int) (m : Nat) : List Int := (List.range m).map fun (i : Nat) => a + (i : Int)
theorem aheads_succ (a : Int) (m : Nat) : aheads a (m + 1) = aheads a m ++ [a + m] := by
  unfold aheads
  rw [List.range_succ, List.map_append]
  rfl
theorem aheadF_le (ps : List (Int × Int)) (k : Int) : lastF ps + 1 - k ≤ aheadF ps k ∧ 0 ≤ aheadF ps k := by
  unfold aheadF maxI
  split <;> omega
theorem last_aheads (ps : List (Int × Int)) (k : Int) : ∀ m : Nat, lastF (ps ++ (aheads (aheadF ps k) m).map fun d => (k, d)) = if m = 0 then lastF ps else k + aheadF ps k + m - 1
  | 0 => by
    show lastF (ps ++ []) = _
    rw [List.append_nil, if_pos rfl]
  | m + 1 => by
    have ih := last_aheads ps k m
    have := aheadF_le ps k
    rw [aheads_succ, List.map_append, ← List.append_assoc, List.map_cons, List.map_nil, lastF_snoc, ih]
    show maxI _ (k + (aheadF ps k + m)) = _
    have h1 : ¬ (m + 1 = 0) := by omega
    simp only [h1, if_false]
    unfold maxI
    by_cases hm : m = 0
    · subst hm
      simp only [if_true]
      rw [if_pos (by omega)]
      omega
    · simp only [hm, if_false]
      rw [if_pos (by omega)]
      omega
theorem goods_queue {w : Str} {z k : Int} {ps : List (Int × Int)} : ∀ m : Nat, aheadF ps k + m ≤ z + 1 → Goods w z ps k (aheads (aheadF ps k) m)
  | 0, _ => trivial
  | m + 1, h => by
    rw [aheads_succ, Goods.app]
    have ha := aheadF_le ps k
    have hl : lastF (ps ++ (aheads (aheadF ps k) m).map fun d => (k, d)) < k + (aheadF ps k + m) := by
      rw [last_aheads]
      split <;> omega
    refine ⟨goods_queue m (by omega), ⟨by omega, by omega, fun q => ?_, .inr hl⟩, trivial⟩
    have := lvs_le q
    omega
theorem dls_inl {ps : List (Int × Int)} {k c : Int} : dls ps k (.inl c) = aheads (aheadF ps k) c.toNat := rfl
theorem ahead_next {ps : List (Int × Int)} {k c : Int} (h : 0 ≤ c) : aheadF (ps ++ (dls ps k (.inl c)).map fun d => (k, d)) (k + 1) = maxI 0 (aheadF ps k + c - 1) := by
  have e := last_aheads ps k c.toNat
  rw [← dls_inl] at e
  have ha := aheadF_le ps k
  show maxI 0 (lastF (ps ++ (dls ps k (.inl c)).map fun d => (k, d)) + 1 - (k + 1)) = _
  rw [e]
  by_cases hc : c.toNat = 0
  · rw [if_pos hc]
    have : c = 0 := by omega
    subst this
    unfold aheadF maxI
    split <;> split <;> split <;> omega
  · rw [if_neg hc]
    congr 1
    omega
theorem valid_snoc {w : Str} {n z : Int} {vs : List SV} {v : SV} (h : Valid w n z 0 [] vs) (h1 : OkV w n v) (h2 : Goods w z (runs 0 [] vs) (vs.length : Int) (dls (runs 0 [] vs) (vs.length : Int) v)) : Valid w n z 0 [] (vs ++ [v]) := by
  rw [valid_app, Int.zero_add]
  exact ⟨h, h1, h2, trivial⟩
section
variable {tk : List D → Option (D × D)} {n z : Int}
end
end FB
namespace FB
open PySem L2 DL TL
def upto (m : Nat) : List Int := (List.range m).map fun (i : Nat) => (i : Int)
theorem rng_upto (m : Nat) : rngD 0 m = (upto m).map D.int := by
  rw [rngD_zero]
  unfold upto
  rw [List.map_map]
  rfl
theorem mem_upto {m : Nat} {d : Int} : d ∈ upto m ↔ 0 ≤ d ∧ d < m := by
  unfold upto
  rw [List.mem_map]
  constructor
  · rintro ⟨i, hi, rfl⟩
    have := List.mem_range.mp hi
    omega
  · intro h
    exact ⟨d.toNat, List.mem_range.mpr (by omega), by omega⟩
section
variable {tk : List D → Option (D × D)} {n z : Int} {w : Str}
end
end FB
namespace FB
open PySem L2 DL TL
mutual
theorem shB_of : ∀ (k : Nat) (d : D), shD k d → shB k d = true := fun k d h => by
  cases d <;> simp only [shD] at h <;> first | exact h.elim | skip
  all_goals simp only [shB, Bool.and_eq_true, decide_eq_true_eq]
  all_goals first | exact h | exact ⟨h.1, shBA_of _ _ h.2⟩ | skip
theorem shBA_of : ∀ (k : Nat) (ds : List D), shA k ds → shBA k ds = true := fun k ds h => by
  cases ds with
  | nil => rfl
  | cons d ds =>
    simp only [shA] at h
    simp only [shBA, Bool.and_eq_true]
    exact ⟨shB_of _ _ h.1, shBA_of _ _ h.2⟩
end
end FB
namespace FB
open PySem L2 DL TL
structure CS where
  ks : List (List Int)
  vs : List (List Int)
  fd : List (List Int)
abbrev EV := Int × Int × Int × Int
def cur (c : CS) (k : List Int) : List Int := match ixA c.ks k with
  | some j => c.vs.getD j []
  | none => []
def cstep (c : CS) (x : EV) : CS :=
  let k := [x.1, x.2.1, x.2.2.1]
  let cu := cur c k
  match ixA c.ks k with
  | some j => ⟨c.ks, c.vs.set j (cu ++ [x.2.2.2]), c.fd ++ cu.map fun o => [x.1, x.2.1, x.2.2.1, o, x.2.2.2]⟩
  | none => ⟨c.ks ++ [k], c.vs ++ [cu ++ [x.2.2.2]], c.fd ++ cu.map fun o => [x.1, x.2.1, x.2.2.1, o, x.2.2.2]⟩
def COk (c : CS) (N : Nat) : Prop := c.ks.length = c.vs.length ∧ c.ks.length ≤ N ∧ ∀ v ∈ c.vs, v.length ≤ N
theorem cur_mem {c : CS} {k : List Int} {j : Nat} (h : ixA c.ks k = some j) (hl : c.ks.length = c.vs.length) : c.vs[j]? = some (cur c k) ∧ cur c k ∈ c.vs := by
  have hj : j < c.vs.length := by
    have := (ixA_lt h).1
    omega
  have e : cur c k = c.vs[j] := by
    unfold cur
    rw [h]
    simp only
    rw [List.getD_eq_getElem?_getD, List.getElem?_eq_getElem hj]
    rfl
  rw [e]
  exact ⟨List.getElem?_eq_getElem hj, List.getElem_mem hj⟩
theorem cur_len {c : CS} {N : Nat} (ok : COk c N) (k : List Int) : (cur c k).length ≤ N := by
  cases h : ixA c.ks k with
  | some j => exact ok.2.2 _ (cur_mem h ok.1).2
  | none =>
    unfold cur
    rw [h]
    exact Nat.zero_le _
theorem COk.step {c : CS} {N : Nat} (ok : COk c N) (x : EV) : COk (cstep c x) (N + 1) := by
  have hc := cur_len ok [x.1, x.2.1, x.2.2.1]
  unfold cstep
  simp only
  split
  · refine ⟨by rw [List.length_set]; exact ok.1, by have := ok.2.1; show c.ks.length ≤ N + 1; omega, fun v hv => ?_⟩
    rcases List.mem_or_eq_of_mem_set hv with y | y
    · have := ok.2.2 v y
      omega
    · rw [y, List.length_append, List.length_singleton]
      omega
  · refine ⟨by rw [List.length_append, List.length_append, ok.1]; rfl, by have := ok.2.1; rw [List.length_append, List.length_singleton]; omega, fun v hv => ?_⟩
    rcases List.mem_append.mp hv with y | y
    · have := ok.2.2 v y
      omega
    · rw [List.mem_singleton.mp y, List.length_append, List.length_singleton]
      omega
theorem cstep_fd (c : CS) (x : EV) : (cstep c x).fd = c.fd ++ (cur c [x.1, x.2.1, x.2.2.1]).map fun o => [x.1, x.2.1, x.2.2.1, o, x.2.2.2] := by
  unfold cstep
  simp only
  split <;> rfl
def c0 : CS := ⟨[], [], []⟩
/-- the lanes and slots of a packet, numbered -/
def evZ (m : Int) : Nat → List (Int × Int) → List EV
  | _, [] => []
  | k, (lane, slot) :: zs => (slot, (k : Int), lane, m) :: evZ m (k + 1) zs
end FB
namespace FB
open PySem L2 DL TL
end FB
namespace FB
open PySem L2 DL TL
/-- each list holds at most n numbers, one more of the stages ahead of j -/
def CLen (c : CS) (n j : Nat) : Prop := ∀ (i : Nat) (k v : List Int), c.ks[i]? = some k → c.vs[i]? = some v → v.length ≤ n + (if k.getD 1 0 < (j : Int) then 1 else 0)
theorem CLen.cur {c : CS} {n j : Nat} (h : CLen c n j) (hl : c.ks.length = c.vs.length) {a l : Int} : (cur c [a, (j : Int), l]).length ≤ n := by
  cases e : ixA c.ks [a, (j : Int), l] with
  | some i =>
    obtain ⟨h1, h2⟩ := ixA_lt e
    have := h i _ _ h2 (cur_mem e hl).1
    have hk : ([a, (j : Int), l] : List Int).getD 1 0 = (j : Int) := rfl
    rw [hk, if_neg (by omega)] at this
    omega
  | none =>
    unfold FB.cur
    rw [e]
    exact Nat.zero_le _
theorem CLen.step {c : CS} {n j : Nat} (h : CLen c n j) (hl : c.ks.length = c.vs.length) {a l m : Int} : CLen (cstep c (a, (j : Int), l, m)) n (j + 1) := by
  have hc := h.cur hl (a := a) (l := l)
  have up : ∀ (k : List Int) (v : List Int), v.length ≤ n + (if k.getD 1 0 < (j : Int) then 1 else 0) → v.length ≤ n + (if k.getD 1 0 < ((j + 1 : Nat) : Int) then 1 else 0) := fun k v hv => by
    split at hv
    · rw [if_pos (by omega)]
      exact hv
    · omega
  have nw : (FB.cur c [a, (j : Int), l] ++ [m]).length ≤ n + (if ([a, (j : Int), l] : List Int).getD 1 0 < ((j + 1 : Nat) : Int) then 1 else 0) := by
    have hk : ([a, (j : Int), l] : List Int).getD 1 0 = (j : Int) := rfl
    rw [hk, if_pos (by omega), List.length_append, List.length_singleton]
    omega
  intro i k v hk hv
  unfold cstep at hk hv
  simp only at hk hv
  cases e : ixA c.ks [a, (j : Int), l] with
  | some i0 =>
    rw [e] at hk hv
    simp only at hk hv
    rw [List.getElem?_set] at hv
    split at hv
    · rename_i hi
      subst hi
      have h2 := (ixA_lt e).2
      rw [h2] at hk
      cases hk
      split at hv
      · cases hv
        exact nw
      · cases hv
    · exact up k v (h i k v hk hv)
  | none =>
    rw [e] at hk hv
    simp only at hk hv
    rcases Nat.lt_or_ge i c.ks.length with hi | hi
    · rw [List.getElem?_append_left hi] at hk
      rw [List.getElem?_append_left (by omega)] at hv
      exact up k v (h i k v hk hv)
    · rw [List.getElem?_append_right hi] at hk
      rw [List.getElem?_append_right (by omega), ← hl] at hv
      cases h0 : i - c.ks.length with
      | zero =>
        rw [h0] at hk hv
        cases hk
        cases hv
        exact nw
      | succ q =>
        rw [h0] at hk
        simp at hk
theorem CLen.row {n : Nat} {m : Int} : ∀ (zs : List (Int × Int)) (k : Nat) (c : CS) (N : Nat), COk c N → CLen c n k → CLen ((evZ m k zs).foldl cstep c) n (k + zs.length) ∧ ((evZ m k zs).foldl cstep c).fd.length ≤ c.fd.length + n * zs.length
  | [], k, c, N, _, h => ⟨h, by simp [evZ]⟩
  | (l, a) :: zs, k, c, N, ok, h => by
    obtain ⟨h1, h2⟩ := CLen.row zs (k + 1) (cstep c (a, (k : Int), l, m)) (N + 1) (ok.step _) (h.step ok.1)
    have h3 : (cstep c (a, (k : Int), l, m)).fd.length ≤ c.fd.length + n := by
      rw [cstep_fd, List.length_append, List.length_map]
      have := h.cur ok.1 (a := a) (l := l)
      simp only
      omega
    refine ⟨?_, ?_⟩
    · show CLen ((evZ m (k + 1) zs).foldl cstep (cstep c (a, (k : Int), l, m))) n (k + (zs.length + 1))
      rw [show k + (zs.length + 1) = k + 1 + zs.length by omega]
      exact h1
    · show ((evZ m (k + 1) zs).foldl cstep (cstep c (a, (k : Int), l, m))).fd.length ≤ _
      rw [List.length_cons, Nat.mul_succ]
      omega
theorem CLen.next {c : CS} {n j : Nat} (h : CLen c n j) : CLen c (n + 1) 0 := fun i k v hk hv => by
  have := h i k v hk hv
  split at this <;> split <;> omega
def EvB (B : Int) (x : EV) : Prop := (0 ≤ x.1 ∧ x.1 ≤ B) ∧ (0 ≤ x.2.1 ∧ x.2.1 ≤ B) ∧ (0 ≤ x.2.2.1 ∧ x.2.2.1 ≤ B) ∧ 0 ≤ x.2.2.2 ∧ x.2.2.2 ≤ B
def CB (B : Int) (c : CS) : Prop := (∀ v ∈ c.vs, ∀ x ∈ v, 0 ≤ x ∧ x ≤ B) ∧ ∀ r ∈ c.fd, ∀ x ∈ r, 0 ≤ x ∧ x ≤ B
theorem CB.step {B : Int} {c : CS} {x : EV} (h : CB B c) (hl : c.ks.length = c.vs.length) (hx : EvB B x) : CB B (cstep c x) := by
  have hcu : ∀ y ∈ cur c [x.1, x.2.1, x.2.2.1], 0 ≤ y ∧ y ≤ B := fun y hy => by
    cases e : ixA c.ks [x.1, x.2.1, x.2.2.1] with
    | some j => exact h.1 _ (cur_mem e hl).2 y hy
    | none =>
      unfold cur at hy
      rw [e] at hy
      cases hy
  have hnw : ∀ y ∈ cur c [x.1, x.2.1, x.2.2.1] ++ [x.2.2.2], 0 ≤ y ∧ y ≤ B := fun y hy => by
    rcases List.mem_append.mp hy with z | z
    · exact hcu y z
    · rw [List.mem_singleton.mp z]
      exact hx.2.2.2
  refine ⟨fun v hv => ?_, fun r hr => ?_⟩
  · unfold cstep at hv
    simp only at hv
    split at hv
    · rcases List.mem_or_eq_of_mem_set hv with z | z
      · exact h.1 v z
      · rw [z]
        exact hnw
    · rcases List.mem_append.mp hv with z | z
      · exact h.1 v z
      · rw [List.mem_singleton.mp z]
        exact hnw
  · rw [cstep_fd] at hr
    rcases List.mem_append.mp hr with z | z
    · exact h.2 r z
    · obtain ⟨o, ho, rfl⟩ := List.mem_map.mp z
      intro y hy
      simp only [List.mem_cons, List.not_mem_nil, or_false] at hy
      obtain ⟨b1, b2, b3, b4⟩ := hx
      rcases hy with rfl | rfl | rfl | rfl | rfl
      · exact b1
      · exact b2
      · exact b3
      · exact hcu _ ho
      · exact b4
end FB
namespace FB
open PySem L2 DL TL
end FB
namespace FB
open PySem L2 DL TL
section
variable {right : List D → Option (D × D)} {q : Nat} {W : Nat} {scr i : D}
end
mutual
theorem eqv_self : ∀ d : D, eoB d = true → PyData.eqv (pyD d) (pyD d) = true
  | .non, _ => by simp [pyD, PyData.eqv]
  | .bl b, _ => by simp [pyD, PyData.eqv]
  | .int i, _ => by simp [pyD, PyData.eqv]
  | .str x, _ => by simp [pyD, PyData.eqv]
  | .tup ds, h => by
    rw [pyD, PyData.eqv]
    exact eqvA_self ds (by rwa [eoB] at h)
  | .lst ds, h => by
    rw [pyD, PyData.eqv]
    exact eqvA_self ds (by rwa [eoB] at h)
  | .scr ds, h => by
    rw [pyD, PyData.eqv]
    exact eqvA_self ds (by rwa [eoB] at h)
  | .ob _, h => by simp [eoB] at h
  | .ins _ _ _, h => by simp [eoB] at h
  | .dk _ _, h => by simp [eoB] at h
  | .dt _ _, h => by simp [eoB] at h
theorem eqvA_self : ∀ ds : List D, eoBA ds = true → PyData.eqvAll (pyA ds) (pyA ds) = true
  | [], _ => by simp [pyA, PyData.eqvAll]
  | d :: ds, h => by
    rw [eoBA, Bool.and_eq_true] at h
    rw [pyA, PyData.eqvAll, eqv_self d h.1, eqvA_self ds h.2]
    rfl
end
end FB
namespace FB
open PySem L2 DL TL
section
variable {right : List D → Option (D × D)} {cells pot : List D → Option D} {m : Int} {q k : Nat} {W : Nat} {scr : D}
end
end FB
namespace FB
open PySem L2 DL TL
section
variable {st : Stg} {rule : List (List Int)} {w : Str} {n : Int} {vs : List SV}
end
end FB
namespace FB
open PySem L2 DL TL
structure QInv (n k : Int) (ps : List (Int × Int)) : Prop where
  a : ∀ p ∈ ps, p.1 + 1 ≤ k ∧ aheadF ps k ≤ p.2 + (n - 1) * (k - p.1) ∧ p.1 + p.2 + 1 - k ≤ aheadF ps k
  b : n = 1 → aheadF ps k = 0 ∧ ∀ p ∈ ps, p.2 = 0
abbrev CanP (n z : Int) (p q : Int × Int) : Prop := p.1 ≤ q.1 ∧ canB "queue" n z p.2 q.2 (q.1 - p.1) = true
theorem canB_queue {n z x y d : Int} (hx : x ≤ z) (hy : y ≤ z) (h1 : n = 1 → d ≠ 0 ∧ x = 0 ∧ y = 0) (h2 : n ≠ 1 → 1 ≤ d + y - x ∧ d + y - x ≤ n * d + n - 1) : canB "queue" n z x y d = true := by
  unfold canB
  rw [if_neg (by
    intro h
    rcases h with h | ⟨h, h'⟩
    · omega
    · exact (h1 h).1 h'), if_neg (by decide), if_neg (by decide)]
  split
  · rename_i h
    obtain ⟨_, rfl, rfl⟩ := h1 h
    rfl
  · rename_i h
    obtain ⟨g1, g2⟩ := h2 h
    rw [decide_eq_true g1, decide_eq_true g2]
    rfl
theorem mem_dls {ps : List (Int × Int)} {k c d : Int} (h : d ∈ dls ps k (.inl c)) : ∃ i : Nat, d = aheadF ps k + i ∧ (i : Int) < c := by
  obtain ⟨i, hi, rfl⟩ := List.mem_map.mp h
  have := List.mem_range.mp hi
  exact ⟨i, rfl, by omega⟩
theorem new_pairs {n z k : Int} {ps : List (Int × Int)} {c : Int} (h0 : 0 ≤ c) (hc : c ≤ n) (hn : n = 1 → aheadF ps k = 0) (hz : ∀ d ∈ dls ps k (.inl c), d ≤ z) : ((dls ps k (.inl c)).map fun d => (k, d)).Pairwise (CanP n z) := by
  rw [List.pairwise_map]
  have hz' := hz
  unfold dls at hz' ⊢
  rw [List.pairwise_map]
  refine List.Pairwise.imp_of_mem ?_ (List.pairwise_lt_range (n := c.toNat))
  intro i j hi hj hij
  have hi' := List.mem_range.mp hi
  have hj' := List.mem_range.mp hj
  refine ⟨Int.le_refl _, canB_queue (hz' _ (List.mem_map.mpr ⟨i, hi, rfl⟩)) (hz' _ (List.mem_map.mpr ⟨j, hj, rfl⟩)) (fun h1 => by omega) fun h1 => ?_⟩
  simp only [Int.sub_self, Int.mul_zero]
  omega
theorem mul_grow {n d : Int} : n * d = (n - 1) * d + d := by
  rw [Int.sub_mul, Int.one_mul]
  omega
theorem QInv.step {n z k c : Int} {ps : List (Int × Int)} (n1 : 1 ≤ n) (h : QInv n k ps) (h0 : 0 ≤ c) (hc : c ≤ n) : QInv n (k + 1) (ps ++ (dls ps k (.inl c)).map fun d => (k, d)) := by
  have hw := (aheadF_le ps k).2
  have en := ahead_next (ps := ps) (k := k) h0
  have em : maxI 0 (aheadF ps k + c - 1) = 0 ∨ (maxI 0 (aheadF ps k + c - 1) = aheadF ps k + c - 1) := by
    unfold maxI
    split
    · exact .inr rfl
    · exact .inl rfl
  have em2 : aheadF ps k + c - 1 ≤ maxI 0 (aheadF ps k + c - 1) := by
    unfold maxI
    split <;> omega
  have em0 : 0 ≤ maxI 0 (aheadF ps k + c - 1) := by
    unfold maxI
    split <;> omega
  refine ⟨fun p hp => ?_, fun h1 => ?_⟩
  · rw [en]
    rcases List.mem_append.mp hp with hp | hp
    · obtain ⟨g1, g2, g3⟩ := h.a p hp
      have e : (n - 1) * (k + 1 - p.1) = (n - 1) * (k - p.1) + (n - 1) := by
        rw [show k + 1 - p.1 = (k - p.1) + 1 by omega, Int.mul_add, Int.mul_one]
      rw [e]
      have hp0 : 0 ≤ (n - 1) * (k - p.1) := Int.mul_nonneg (by omega) (by omega)
      generalize (n - 1) * (k - p.1) = M at *
      generalize maxI 0 (aheadF ps k + c - 1) = W at *
      refine ⟨by omega, ?_, by omega⟩
      rcases em with em | em <;> omega
    · obtain ⟨d, hd, rfl⟩ := List.mem_map.mp hp
      obtain ⟨i, rfl, hi⟩ := mem_dls hd
      simp only
      rw [show k + 1 - k = 1 by omega, Int.mul_one]
      generalize maxI 0 (aheadF ps k + c - 1) = W at *
      refine ⟨by omega, ?_, by omega⟩
      rcases em with em | em <;> omega
  · obtain ⟨g1, g2⟩ := h.b h1
    refine ⟨?_, fun p hp => ?_⟩
    · rw [en, g1]
      unfold maxI
      rw [if_neg (by omega)]
    · rcases List.mem_append.mp hp with hp | hp
      · exact g2 p hp
      · obtain ⟨d, hd, rfl⟩ := List.mem_map.mp hp
        obtain ⟨i, rfl, hi⟩ := mem_dls hd
        show aheadF ps k + (i : Int) = 0
        omega
theorem runs_pairs {n z : Int} (n1 : 1 ≤ n) : ∀ (vs : List SV) (k : Int) (ps : List (Int × Int)), Valid "queue" n z k ps vs → QInv n k ps → ps.Pairwise (CanP n z) → (∀ p ∈ ps, p.2 ≤ z) → (runs k ps vs).Pairwise (CanP n z)
  | [], k, ps, _, _, hp, _ => hp
  | v :: vs, k, ps, hv, hi, hp, hz => by
    obtain ⟨h1, h2, h3⟩ := hv
    cases v with
    | inr ds => exact absurd rfl h1.1
    | inl c =>
      obtain ⟨_, c0, c1⟩ := h1
      have hzn : ∀ d ∈ dls ps k (.inl c), d ≤ z := fun d hd => (h2.bd d hd).2
      have hw := (aheadF_le ps k).2
      show (runs (k + 1) _ vs).Pairwise _
      refine runs_pairs n1 vs (k + 1) _ h3 (QInv.step (z := z) n1 hi c0 c1) ?_ fun p hpm => ?_
      · refine List.pairwise_append.mpr ⟨hp, new_pairs c0 c1 (fun h => (hi.b h).1) hzn, fun p hpm q hq => ?_⟩
        obtain ⟨g1, g2, g3⟩ := hi.a p hpm
        have pz := hz p hpm
        obtain ⟨d, hd, rfl⟩ := List.mem_map.mp hq
        have dz := hzn d hd
        obtain ⟨i, rfl, hi'⟩ := mem_dls hd
        refine ⟨by show p.1 ≤ k; omega, canB_queue pz dz (fun h => ?_) fun h => ?_⟩
        · have := hi.b h
          have := this.2 p hpm
          refine ⟨by show k - p.1 ≠ 0; omega, this, ?_⟩
          show aheadF ps k + (i : Int) = 0
          omega
        · simp only
          rw [mul_grow (n := n) (d := k - p.1)]
          have hp0 : 0 ≤ (n - 1) * (k - p.1) := Int.mul_nonneg (by omega) (by omega)
          generalize (n - 1) * (k - p.1) = M at *
          omega
      · rcases List.mem_append.mp hpm with hpm | hpm
        · exact hz p hpm
        · obtain ⟨d, hd, rfl⟩ := List.mem_map.mp hpm
          exact hzn d hd
theorem queue_pairs {n z : Int} {vs : List SV} (n1 : 1 ≤ n) (hv : Valid "queue" n z 0 [] vs) : (runs 0 [] vs).Pairwise (CanP n z) :=
  runs_pairs n1 vs 0 [] hv ⟨fun p hp => (by cases hp), fun _ => ⟨rfl, fun p hp => (by cases hp)⟩⟩ .nil fun p hp => (by cases hp)
end FB
namespace FB
open PySem L2 DL TL
end FB
namespace FB
open PySem L2 DL TL
theorem q_ne : ¬ ("queue" : Str) = "any" ∧ ¬ ("queue" : Str) = "order" ∧ ¬ ("order" : Str) = "any" := by decide +kernel
theorem can_any {n m x y d : Int} : canB "any" n m x y d = if max x y > m ∨ (n = 1 ∧ d = 0) then false else decide (d + y - x ≠ 0) := by
  unfold canB
  rw [if_pos (show ("any" : Str) = "any" from rfl)]
theorem can_order {n m x y d : Int} : canB "order" n m x y d = if max x y > m ∨ (n = 1 ∧ d = 0) then false else decide (1 ≤ d + y - x) := by
  unfold canB
  rw [if_neg q_ne.2.2, if_pos (show ("order" : Str) = "order" from rfl)]
end FB
namespace FB
open PySem L2 DL TL
abbrev A__law_can_stand : AS := (aSeq (aSet 5 (aCall (aFn 4 S__law_slot_delays) (aCons (aVar 0) (aCons (aVar 2) (aCons (aVar 3) (aCons (aVar 4) aNil))))))
  (aSeq (aIfS (aOr (aTest (aOp aIsN (aVar 5) (aC .non))) (aNot (aTest (aCall (aBls fun bs => bs.all id) (aCons (aLc (aItL (aVar 5)) (agName 10) aYes (aCall (aFn 3 S__law_is_int) (aCons (aVar 10) (aCons (aC (.int 0)) (aCons (aVar 1) aNil)))) [10]) aNil))))) (aRet (aC (.bl false))) aNext)
  (aSeq (aPar 6 7 (aLc (aItL (aVar 2)) (agTup (agCons (agName 9) (agCons (agName 10) agNil))) aYes (aAdd (aVar 9) (aVar 10)) [9, 10]) (aLc (aItL (aVar 5)) (agName 10) aYes (aAdd (aVar 3) (aVar 10)) [10]))
  (aSeq (aIfS (aTest (aOp aEq (aOp aIx (aVar 0) (aC (.int 0))) (aC (.str "any")))) (aRet (aOp aEq (aLenSetL (aOp aCatL (aVar 6) (aVar 7))) (aAdd (aCall aLen (aCons (aVar 6) aNil)) (aCall aLen (aCons (aVar 7) aNil))))) aNext)
  (aSeq (aSet 8 (aCall (aInts fMax) (aCons (aOp aCatL (aLst (aCons (aNeg (aC (.int 1))) aNil)) (aVar 6)) aNil)))
  (aRet (aCall (aBls fun bs => bs.all id) (aCons (aLc (aItZip (aCons (aOp aCatL (aLst (aCons (aVar 8) aNil)) (aVar 7)) (aCons (aVar 7) aNil))) (agTup (agCons (agName 9) (agCons (agName 11) agNil))) aYes (aOp aLt (aVar 9) (aVar 11)) [9, 11]) aNil))))))))
abbrev B__law_can_stand : FS := (fSeq (fSet 5 (fCall (gFn 4 F__law_slot_delays) (fCons (fVar 0) (fCons (fVar 2) (fCons (fVar 3) (fCons (fVar 4) fNil))))))
  (fSeq (fIfS (fOr (fTest (fOp (gIsN false) (fVar 5) (fC .non))) (fNot (fTest (fCall (gBls fun bs => bs.all id) (fCons (fLc (fItL (fVar 5)) (gName 10) fYes (fCall (gFn 3 F__law_is_int) (fCons (fVar 10) (fCons (fC (.int 0)) (fCons (fVar 1) fNil)))) [10]) fNil))))) (fRet (fC (.bl false))) fNext)
  (fSeq (fPar 6 7 (fLc (fItL (fVar 2)) (gTup (gCons (gName 9) (gCons (gName 10) gNil))) fYes (fOp gAdd (fVar 9) (fVar 10)) [9, 10]) (fLc (fItL (fVar 5)) (gName 10) fYes (fOp gAdd (fVar 3) (fVar 10)) [10]))
  (fSeq (fIfS (fTest (fOp (gEq false) (fOp gIx (fVar 0) (fC (.int 0))) (fC (.str "any")))) (fRet (fOp (gEq false) (fLenSetL (fOp gCatL (fVar 6) (fVar 7))) (fOp gAdd (fCall gLen (fCons (fVar 6) fNil)) (fCall gLen (fCons (fVar 7) fNil))))) fNext)
  (fSeq (fSet 8 (fCall (gInts nMax) (fCons (fOp gCatL (fLst (fCons (fNeg (fC (.int 1))) fNil)) (fVar 6)) fNil)))
  (fRet (fCall (gBls fun bs => bs.all id) (fCons (fLc (fItZip (fCons (fOp gCatL (fLst (fCons (fVar 8) fNil)) (fVar 7)) (fCons (fVar 7) fNil))) (gTup (gCons (gName 9) (gCons (gName 11) gNil))) fYes (fOp gLt (fVar 9) (fVar 11)) [9, 11]) fNil))))))))
theorem ss__law_can_stand : SS false (K0D 5 12) A__law_can_stand B__law_can_stand [] [] [] .pu .ju :=
  (ss_seq (ss_set (se_call vc_fn (sa_cons (se_var rfl) (sa_cons (se_var rfl) (sa_cons (se_var rfl) (sa_cons (se_var rfl) sa_nil))))) (by simp) (.inr rfl))
  (ss_seq (ss_if (Kn := [.pu, .pu, .pu, .pu, .pu, .pu, .ju, .ju, .ju, .ju, .ju, .ju]) (st_or (st_test (se_op v_isN (se_frz (k := .ow) rfl) se_c)) (st_not (st_test (se_call vc_bls (sa_cons (se_lc [.pu, .pu, .pu, .pu, .pu, .pu, .ju, .ju, .ju, .ju, .ju, .ju] (si_l (se_var rfl)) rfl (sg_name (k0 := .ju) rfl) st_yes (se_call vc_fn (sa_cons (se_var rfl) (sa_cons se_c (sa_cons (se_var rfl) sa_nil)))) rfl rfl) sa_nil))))) (ss_ret se_c rfl (.inl rfl)) ss_next)
  (ss_seq (ss_par (se_lc [.pu, .pu, .pu, .pu, .pu, .pu, .ju, .ju, .ju, .ju, .ju, .ju] (si_l (se_var rfl)) rfl (sg_tup (sgs_cons (sg_name (k0 := .ju) rfl) (sgs_cons (sg_name (k0 := .ju) rfl) sgs_nil))) st_yes (se_op v_i (se_var rfl) (se_var rfl)) rfl rfl) (se_lc [.pu, .pu, .pu, .pu, .pu, .pu, .ju, .ju, .ju, .ju, .ju, .ju] (si_l (se_var rfl)) rfl (sg_name (k0 := .ju) rfl) st_yes (se_op v_i (se_var rfl) (se_var rfl)) rfl rfl) (by simp) (by simp) (.inr rfl))
  (ss_seq (ss_if (Kn := [.pu, .pu, .pu, .pu, .pu, .pu, .ow, .ow, .ju, .ju, .ju, .ju]) (st_test (se_op v_eq (se_op v_ix (se_var rfl) se_c) se_c)) (ss_ret (se_op v_eq (se_lenSetL (se_op v_catL (se_frz (k := .ow) rfl) (se_frz (k := .ow) rfl))) (se_op v_i (se_call vc_len (sa_cons (se_var rfl) sa_nil)) (se_call vc_len (sa_cons (se_var rfl) sa_nil)))) rfl (.inl rfl)) ss_next)
  (ss_seq (ss_set (se_call (vc_ints vn_max) (sa_cons (se_op v_catL (se_lst (sa_cons (se_neg se_c) sa_nil)) (se_frz (k := .ow) rfl)) sa_nil)) (by simp) (.inr rfl))
  (ss_ret (se_call vc_bls (sa_cons (se_lc [.pu, .pu, .pu, .pu, .pu, .pu, .pu, .pu, .pu, .ju, .ju, .ju] (si_zip (sa_cons (se_op v_catL (se_lst (sa_cons (se_var rfl) sa_nil)) (se_frz (k := .ow) rfl)) (sa_cons (se_var rfl) sa_nil))) rfl (sg_tup (sgs_cons (sg_name (k0 := .ju) rfl) (sgs_cons (sg_name (k0 := .ju) rfl) sgs_nil))) st_yes (se_op v_b (se_var rfl) (se_var rfl)) rfl rfl) sa_nil)) rfl (.inl rfl)))))))
def F__law_can_stand : List D → Option D := runD 5 12 B__law_can_stand
abbrev S__law_can_stand : ARC := lowD .pu F__law_can_stand
theorem law__law_can_stand : ∀ ds Q, ds.length = 5 → S__law_can_stand ds Q → A__law_can_stand (endsD Q) (startS 12 (ds.map .pu)) := lawD ss__law_can_stand rfl
abbrev A__law_slot_values : AS := (aSeq (aIfS (aTest (aOp aEq (aOp aIx (aVar 0) (aC (.int 0))) (aC (.str "queue")))) (aRet (aLc (aRng1 (aCons (aAdd (aOp aIx (aVar 0) (aC (.int 1))) (aC (.int 1))) aNil)) (agName 7) aYes (aCall aInt (aCons (aVar 7) aNil)) [7])) aNext)
  (aSeq (aPar 2 3 (aLst (aCons (aTup aNil) aNil)) (aLst (aCons (aTup aNil) aNil)))
  (aSeq (aFor (aRng1 (aCons (aOp aIx (aVar 0) (aC (.int 1))) aNil)) (agName 4) (aSeq (aSet 5 (aLst aNil))
  (aSeq (aFor (aItL (aVar 3)) (agName 6) (aExt 5 (aLc (aRng1 (aCons (aAdd (aVar 1) (aC (.int 1))) aNil)) (agName 8) (aTest (aOp (aIn true) (aVar 8) (aVar 6))) (aOp aCatT (aVar 6) (aTup (aCons (aCall aInt (aCons (aVar 8) aNil)) aNil))) [8])))
  (aPar 2 3 (aOp aCatL (aVar 2) (aVar 5)) (aVar 5)))))
  (aRet (aVar 2)))))
abbrev L1__law_slot_values : FS := (fWk [6] (fExt 5 (fLc (fRng1 (fCons (fOp gAdd (fVar 1) (fC (.int 1))) fNil)) (gName 8) (fTest (fOp (gIn true) (fVar 8) (fVar 6))) (fOp gCatT (fVar 6) (fTup (fCons (fCall gInt (fCons (fVar 8) fNil)) fNil))) [8])))
abbrev L2__law_slot_values : FS := (fWk [4, 5] (fSeq (fSet 5 (fLst fNil))
  (fSeq (fFor (fItL (fVar 3)) [] (gName 6) L1__law_slot_values)
  (fPar 2 3 (fOp gCatL (fVar 2) (fVar 5)) (fVar 5)))))
abbrev B__law_slot_values : FS := (fSeq (fIfS (fTest (fOp (gEq false) (fOp gIx (fVar 0) (fC (.int 0))) (fC (.str "queue")))) (fRet (fLc (fRng1 (fCons (fOp gAdd (fOp gIx (fVar 0) (fC (.int 1))) (fC (.int 1))) fNil)) (gName 7) fYes (fCall gInt (fCons (fVar 7) fNil)) [7])) fNext)
  (fSeq (fPar 2 3 (fLst (fCons (fTup fNil) fNil)) (fLst (fCons (fTup fNil) fNil)))
  (fSeq (fFor (fRng1 (fCons (fOp gIx (fVar 0) (fC (.int 1))) fNil)) [] (gName 4) L2__law_slot_values)
  (fRet (fVar 2)))))
theorem ss__law_slot_values : SS false (K0D 2 9) A__law_slot_values B__law_slot_values [] [] [] .ei .ju :=
  (ss_seq (ss_if (Kn := [.pu, .pu, .ju, .ju, .ju, .ju, .ju, .ju, .ju]) (st_test (se_op v_eq (se_op v_ix (se_var rfl) se_c) se_c)) (ss_ret (se_lc [.pu, .pu, .ju, .ju, .ju, .ju, .ju, .ju, .ju] (si_rng1 (sa_cons (se_op v_i (se_op v_ix (se_var rfl) se_c) se_c) sa_nil)) rfl (sg_name (k0 := .ju) rfl) st_yes (se_call vc_int (sa_cons (se_var rfl) sa_nil)) rfl rfl) rfl (.inl rfl)) ss_next)
  (ss_seq (ss_par (se_lst (sa_cons (se_tup sa_nil) sa_nil)) (se_lst (sa_cons (se_tup sa_nil) sa_nil)) (by simp) (by simp) (.inr rfl))
  (ss_seq (ss_for (J := []) [.pu, .pu, .ow, .ei, .ju, .ju, .ju, .ju, .ju] (si_rng1 (sa_cons (se_op v_ix (se_var rfl) se_c) sa_nil)) rfl (sg_name (k0 := .ju) rfl) (ss_wk (K1 := [.pu, .pu, .ow, .pu, .pu, .pu, .ju, .ju, .ju]) (Kn := [.pu, .pu, .ow, .ei, .ju, .ju, .ju, .ju, .ju]) [4, 5] (ss_seq (ss_set (se_lst sa_nil) (by simp) (.inr rfl))
  (ss_seq (ss_for (J := []) [.pu, .pu, .ow, .pu, .pu, .ow, .ju, .ju, .ju] (si_l (se_frz (k := .ei) rfl)) rfl (sg_name (k0 := .ju) rfl) (ss_wk (K1 := [.pu, .pu, .ow, .pu, .pu, .ow, .pu, .ju, .ju]) (Kn := [.pu, .pu, .ow, .pu, .pu, .ow, .ju, .ju, .ju]) [6] (ss_ext rfl rfl (se_lc [.pu, .pu, .ow, .pu, .pu, .ow, .pu, .ju, .ju] (si_rng1 (sa_cons (se_op v_i (se_var rfl) se_c) sa_nil)) rfl (sg_name (k0 := .ju) rfl) (st_test (se_op v_in (se_var rfl) (se_var rfl))) (se_op v_catT (se_var rfl) (se_tup (sa_cons (se_call vc_int (sa_cons (se_var rfl) sa_nil)) sa_nil))) rfl rfl)) rfl))
  (ss_par (se_op v_catL (se_frz (k := .ow) rfl) (se_frz (k := .ow) rfl)) (se_var rfl) (by simp) (by simp) (.inr rfl)))) rfl))
  (ss_ret (se_frz (k := .ow) rfl) rfl (.inl rfl)))))
def F__law_slot_values : List D → Option D := runD 2 9 B__law_slot_values
abbrev S__law_slot_values : ARC := lowD .ei F__law_slot_values
theorem law__law_slot_values : ∀ ds Q, ds.length = 2 → S__law_slot_values ds Q → A__law_slot_values (endsD Q) (startS 9 (ds.map .pu)) := lawD ss__law_slot_values rfl
abbrev A__law_all_scripts : AS := (aSeq (aSet 3 (aLst (aCons (aTup aNil) aNil)))
  (aSeq (aFor (aRng1 (aCons (aVar 2) aNil)) (agName 4) (aSeq (aSet 5 (aLst aNil))
  (aSeq (aFor (aItL (aVar 3)) (agName 6) (aSeq (aSet 7 (aCall (aFn 2 S__law_packets) (aCons (aVar 0) (aCons (aVar 6) aNil))))
  (aFor (aItL (aCall (aFn 2 S__law_slot_values) (aCons (aVar 0) (aCons (aVar 1) aNil)))) (agName 8) (aIfS (aTest (aCall (aFn 5 S__law_can_stand) (aCons (aVar 0) (aCons (aVar 1) (aCons (aVar 7) (aCons (aVar 4) (aCons (aVar 8) aNil))))))) (aApp 5 (aOp aCatT (aVar 6) (aTup (aCons (aVar 8) aNil)))) aNext))))
  (aSet 3 (aVar 5)))))
  (aRet (aVar 3))))
abbrev L1__law_all_scripts : FS := (fWk [8] (fIfS (fTest (fCall (gFn 5 F__law_can_stand) (fCons (fVar 0) (fCons (fVar 1) (fCons (fVar 7) (fCons (fVar 4) (fCons (fVar 8) fNil))))))) (fApp 5 (fOp gCatT (fVar 6) (fTup (fCons (fVar 8) fNil)))) fNext))
abbrev L2__law_all_scripts : FS := (fWk [6, 7] (fSeq (fSet 7 (fCall (gFn 2 F__law_packets) (fCons (fVar 0) (fCons (fVar 6) fNil))))
  (fFor (fItL (fCall (gFn 2 F__law_slot_values) (fCons (fVar 0) (fCons (fVar 1) fNil)))) [] (gName 8) L1__law_all_scripts)))
abbrev L3__law_all_scripts : FS := (fWk [4, 5] (fSeq (fSet 5 (fLst fNil))
  (fSeq (fFor (fItL (fVar 3)) [] (gName 6) L2__law_all_scripts)
  (fSet 3 (fVar 5)))))
abbrev B__law_all_scripts : FS := (fSeq (fSet 3 (fLst (fCons (fTup fNil) fNil)))
  (fSeq (fFor (fRng1 (fCons (fVar 2) fNil)) [] (gName 4) L3__law_all_scripts)
  (fRet (fVar 3))))
theorem ss__law_all_scripts : SS false (K0D 3 9) A__law_all_scripts B__law_all_scripts [] [] [] .pu .ju :=
  (ss_seq (ss_set (se_lst (sa_cons (se_tup sa_nil) sa_nil)) (by simp) (.inr rfl))
  (ss_seq (ss_for (J := []) [.pu, .pu, .pu, .ei, .ju, .ju, .ju, .ju, .ju] (si_rng1 (sa_cons (se_var rfl) sa_nil)) rfl (sg_name (k0 := .ju) rfl) (ss_wk (K1 := [.pu, .pu, .pu, .pu, .pu, .pu, .ju, .ju, .ju]) (Kn := [.pu, .pu, .pu, .ei, .ju, .ju, .ju, .ju, .ju]) [4, 5] (ss_seq (ss_set (se_lst sa_nil) (by simp) (.inr rfl))
  (ss_seq (ss_for (J := []) [.pu, .pu, .pu, .pu, .pu, .ow, .ju, .ju, .ju] (si_l (se_frz (k := .ei) rfl)) rfl (sg_name (k0 := .ju) rfl) (ss_wk (K1 := [.pu, .pu, .pu, .pu, .pu, .ow, .pu, .pu, .ju]) (Kn := [.pu, .pu, .pu, .pu, .pu, .ow, .ju, .ju, .ju]) [6, 7] (ss_seq (ss_set (se_call vc_fn (sa_cons (se_var rfl) (sa_cons (se_var rfl) sa_nil))) (by simp) (.inr rfl))
  (ss_for (J := []) [.pu, .pu, .pu, .pu, .pu, .ow, .pu, .pu, .ju] (si_l (se_call vc_fn (sa_cons (se_var rfl) (sa_cons (se_var rfl) sa_nil)))) rfl (sg_name (k0 := .ju) rfl) (ss_wk (K1 := [.pu, .pu, .pu, .pu, .pu, .ow, .pu, .pu, .pu]) (Kn := [.pu, .pu, .pu, .pu, .pu, .ow, .pu, .pu, .ju]) [8] (ss_if (Kn := [.pu, .pu, .pu, .pu, .pu, .ow, .pu, .pu, .pu]) (st_test (se_call vc_fn (sa_cons (se_var rfl) (sa_cons (se_var rfl) (sa_cons (se_var rfl) (sa_cons (se_var rfl) (sa_cons (se_var rfl) sa_nil))))))) (ss_app rfl rfl (se_op v_catT (se_var rfl) (se_tup (sa_cons (se_var rfl) sa_nil)))) ss_next) rfl))) rfl))
  (ss_set (se_frz (k := .ow) rfl) (by simp) (.inr rfl)))) rfl))
  (ss_ret (se_frz (k := .ei) rfl) rfl (.inl rfl))))
def F__law_all_scripts : List D → Option D := runD 3 9 B__law_all_scripts
abbrev S__law_all_scripts : ARC := lowD .pu F__law_all_scripts
theorem law__law_all_scripts : ∀ ds Q, ds.length = 3 → S__law_all_scripts ds Q → A__law_all_scripts (endsD Q) (startS 9 (ds.map .pu)) := lawD ss__law_all_scripts rfl
instance {w : Str} {z k d : Int} {ps : List (Int × Int)} : Decidable (Good w z ps k d) := by
  unfold Good
  exact inferInstance
def goodsDec (w : Str) (z : Int) : ∀ (ps : List (Int × Int)) (k : Int) (ds : List Int), Decidable (Goods w z ps k ds)
  | _, _, [] => isTrue trivial
  | ps, k, d :: ds => @instDecidableAnd _ _ inferInstance (goodsDec w z (ps ++ [(k, d)]) k ds)
instance {w : Str} {z k : Int} {ds : List Int} {ps : List (Int × Int)} : Decidable (Goods w z ps k ds) := goodsDec w z ps k ds
theorem dedup_le : ∀ ls : List Int, (dedup ls).length ≤ ls.length
  | [] => Nat.le_refl _
  | x :: xs => by
    have := dedup_le xs
    unfold dedup
    split <;> rw [List.length_cons] <;> first | omega | (rw [List.length_cons]; omega)
theorem dedup_iff : ∀ ls : List Int, (dedup ls).length = ls.length ↔ ls.Nodup
  | [] => by simp [dedup]
  | x :: xs => by
    have h1 := dedup_le xs
    have h2 := (dedup_dist xs).2 x
    unfold dedup
    rw [List.nodup_cons, ← dedup_iff xs]
    split
    · rename_i hx
      rw [List.length_cons]
      exact ⟨fun h => by omega, fun h => absurd (h2.mp hx) h.1⟩
    · rename_i hx
      rw [List.length_cons, List.length_cons]
      exact ⟨fun h => ⟨fun q => hx (h2.mpr q), by omega⟩, fun h => by rw [h.2]⟩
theorem goods_any {z k : Int} : ∀ {ds : List Int} {ps : List (Int × Int)}, (lvs ps).Nodup → (Goods "any" z ps k ds ↔ (∀ d ∈ ds, 0 ≤ d ∧ d ≤ z) ∧ (lvs ps ++ ds.map fun d => k + d).Nodup)
  | [], ps, h => by
    rw [List.map_nil, List.append_nil]
    exact ⟨fun _ => ⟨fun d hd => (by cases hd), h⟩, fun _ => trivial⟩
  | x :: ds, ps, h => by
    show Good "any" z ps k x ∧ Goods "any" z (ps ++ [(k, x)]) k ds ↔ _
    have e : lvs ps ++ (x :: ds).map (fun d => k + d) = lvs (ps ++ [(k, x)]) ++ ds.map fun d => k + d := by
      rw [lvs_snoc, List.append_assoc]
      rfl
    rw [e]
    constructor
    · rintro ⟨h1, h2⟩
      have hn : (lvs (ps ++ [(k, x)])).Nodup := by
        rw [lvs_snoc, List.nodup_append]
        exact ⟨h, by simp, fun a ha b hb e => h1.2.2.1 (by rw [List.mem_singleton.mp hb] at e; rw [← e]; exact ha)⟩
      obtain ⟨a1, a2⟩ := (goods_any hn).mp h2
      exact ⟨fun d hd => (List.mem_cons.mp hd).elim (fun q => q ▸ ⟨h1.1, h1.2.1⟩) (a1 d), a2⟩
    · rintro ⟨h1, h2⟩
      have hn : (lvs (ps ++ [(k, x)])).Nodup := (List.nodup_append.mp h2).1
      refine ⟨⟨(h1 x List.mem_cons_self).1, (h1 x List.mem_cons_self).2, fun q => ?_, .inl rfl⟩, (goods_any hn).mpr ⟨fun d hd => h1 d (List.mem_cons_of_mem _ hd), h2⟩⟩
      rw [lvs_snoc, List.nodup_append] at hn
      exact hn.2.2 _ q _ (List.mem_singleton.mpr rfl) rfl
theorem goods_up {w : Str} {z k : Int} (hw : w ≠ "any") : ∀ {ds : List Int} {ps : List (Int × Int)}, Goods w z ps k ds ↔ (∀ d ∈ ds, 0 ≤ d ∧ d ≤ z) ∧ ((lastF ps :: ds.map fun d => k + d).zip (ds.map fun d => k + d)).all (fun q => decide (q.1 < q.2)) = true
  | [], ps => ⟨fun _ => ⟨fun d hd => (by cases hd), rfl⟩, fun _ => trivial⟩
  | x :: ds, ps => by
    show Good w z ps k x ∧ Goods w z (ps ++ [(k, x)]) k ds ↔ _
    rw [List.map_cons, List.zip_cons_cons, List.all_cons, Bool.and_eq_true, decide_eq_true_eq]
    have hl : lastF ps < k + x → lastF (ps ++ [(k, x)]) = k + x := fun h => by
      rw [lastF_snoc]
      show maxI (lastF ps) (k + x) = k + x
      unfold maxI
      rw [if_pos h]
    constructor
    · rintro ⟨h1, h2⟩
      have h3 := h1.2.2.2.resolve_left hw
      obtain ⟨a1, a2⟩ := (goods_up hw).mp h2
      rw [hl h3] at a2
      exact ⟨fun d hd => (List.mem_cons.mp hd).elim (fun q => q ▸ ⟨h1.1, h1.2.1⟩) (a1 d), h3, a2⟩
    · rintro ⟨h1, h3, h2⟩
      refine ⟨⟨(h1 x List.mem_cons_self).1, (h1 x List.mem_cons_self).2, fun q => ?_, .inr h3⟩, (goods_up hw).mpr ⟨fun d hd => h1 d (List.mem_cons_of_mem _ hd), by rw [hl h3]; exact h2⟩⟩
      have := lvs_le q
      omega
theorem law_is_int_b {c lo hi : Int} : F__law_is_int [.int c, .int lo, .int hi] = some (.bl (decide (lo ≤ c) && decide (c ≤ hi))) := by
  by_cases h0 : lo ≤ c
  · by_cases h1 : c ≤ hi
    · rw [law_is_int_t h0 h1]
      simp [h0, h1]
    · refine runD_rt rfl (e := [.int c, .int lo, .int hi]) ?_
      have e1 : decide (lo ≤ c) = true := decide_eq_true h0
      have e2 : decide (c ≤ hi) = false := decide_eq_false h1
      walk_at "e1 e2"
      rfl
  · refine runD_rt rfl (e := [.int c, .int lo, .int hi]) ?_
    have e1 : decide (lo ≤ c) = false := decide_eq_false h0
    walk_at "e1"
    rfl
theorem lastF_mem : ∀ (ls : List Int) (m : Int), ls.foldl (fun m l => maxI m l) m ∈ m :: ls
  | [], m => List.mem_cons_self
  | l :: ls, m => by
    have h := lastF_mem ls (maxI m l)
    rw [List.foldl_cons]
    rcases List.mem_cons.mp h with e | e
    · rw [e]
      unfold maxI
      split
      · exact List.mem_cons_of_mem _ List.mem_cons_self
      · exact List.mem_cons_self
    · exact List.mem_cons_of_mem _ (List.mem_cons_of_mem _ e)
section
variable {w : Str} {n z k : Int} {ps : List (Int × Int)} {v : SV}
theorem maxL_last (ps : List (Int × Int)) : maxL (-1) (lvs ps) = lastF ps := by
  obtain ⟨h1, h2⟩ := maxL_ok (lvs ps) (-1)
  have h3 : maxL (-1) (lvs ps) ≤ lastF ps := by
    rcases List.mem_cons.mp h1 with e | e
    · rw [e]
      exact lastF_m1 ps
    · exact lvs_le e
  have h4 : lastF ps ∈ (-1 : Int) :: lvs ps := lastF_mem (lvs ps) (-1)
  have h5 := h2 _ h4
  omega
theorem can_stand_eq (h : OkV w n v) (hn : n ≤ 4) (hk : 0 ≤ k) (hl : w = "queue" → LastOk ps) (hnd : (lvs ps).Nodup) (hps : ps.length ≤ 3000) :
    F__law_can_stand [svD w n, .int z, .lst (ps.map pairD), .int k, valD v] = some (.bl (decide (Goods w z ps k (dls ps k v)))) := by
  have e0 := slot_delays_eq h hn hk hl
  have hlen := h.len (ps := ps) (k := k)
  generalize dls ps k v = ds at e0 hlen ⊢
  generalize valD v = V at e0 ⊢
  have hl4 : ds.length ≤ 4 := by omega
  have l1 := lcD_map (tg := gName 10) (ft := fYes) (a := fCall (gFn 3 F__law_is_int) (fCons (fVar 10) (fCons (fC (.int 0)) (fCons (fVar 1) fNil)))) (vs := [10]) (e := [svD w n, .int z, .lst (ps.map pairD), .int k, V, lstI ds, .non, .non, .non, .non, .non, .non]) D.int (fun d => D.bl (decide (0 ≤ d) && decide (d ≤ z))) ds [] (fun d hd => by
    have e := law_is_int_b (c := d) (lo := 0) (hi := z)
    generalize ps.map pairD = P
    walk_at "e") (by rw [List.length_nil]; omega)
  rw [List.nil_append] at l1
  have a1 : gBls (fun bs => bs.all id) [.lst (ds.map fun d => D.bl (decide (0 ≤ d) && decide (d ≤ z)))] = some (.bl (decide (∀ d ∈ ds, 0 ≤ d ∧ d ≤ z))) := by
    rw [show (ds.map fun d => D.bl (decide (0 ≤ d) && decide (d ≤ z))) = (ds.map fun d => decide (0 ≤ d) && decide (d ≤ z)).map D.bl by rw [List.map_map]; rfl, gBls_l, List.all_map]
    congr 2
    rw [Bool.eq_iff_iff, List.all_eq_true, decide_eq_true_eq]
    simp
  generalize (ds.map fun d => D.bl (decide (0 ≤ d) && decide (d ≤ z))) = W1 at l1 a1
  by_cases hb : ∀ d ∈ ds, 0 ≤ d ∧ d ≤ z
  · have l2 := lcD_map (tg := gTup (gCons (gName 9) (gCons (gName 10) gNil))) (ft := fYes) (a := fOp gAdd (fVar 9) (fVar 10)) (vs := [9, 10]) (e := [svD w n, .int z, .lst (ps.map pairD), .int k, V, lstI ds, .non, .non, .non, .non, .non, .non]) pairD (fun p => D.int (p.1 + p.2)) ps [] (fun p hp => by
      generalize ps.map pairD = P
      walk_at "") (by rw [List.length_nil]; omega)
    rw [List.nil_append, show (ps.map fun p => D.int (p.1 + p.2)) = (lvs ps).map D.int by unfold lvs; rw [List.map_map]; rfl] at l2
    have l3 := lcD_map (tg := gName 10) (ft := fYes) (a := fOp gAdd (fVar 3) (fVar 10)) (vs := [10]) (e := [svD w n, .int z, .lst (ps.map pairD), .int k, V, lstI ds, .non, .non, .non, .non, .non, .non]) D.int (fun d => D.int (k + d)) ds [] (fun d hd => by
      generalize ps.map pairD = P
      walk_at "") (by rw [List.length_nil]; omega)
    rw [List.nil_append, show (ds.map fun d => D.int (k + d)) = (ds.map fun d => k + d).map D.int by rw [List.map_map]; rfl] at l3
    have e1 : decide (∀ d ∈ ds, 0 ≤ d ∧ d ≤ z) = true := decide_eq_true hb
    rw [e1] at a1
    by_cases hw : w = "any"
    · subst hw
      have e2 : gCatL (lstI (lvs ps)) (lstI (ds.map fun d => k + d)) = some (lstI (lvs ps ++ ds.map fun d => k + d)) := by
        rw [show lstI (lvs ps ++ ds.map fun d => k + d) = .lst ((lvs ps).map D.int ++ (ds.map fun d => k + d).map D.int) by rw [← List.map_append]]
        exact gCatL_ll (by rw [List.length_map, List.length_map, List.length_map, lvs_len]; omega)
      have e3 : hLsL (lstI (lvs ps ++ ds.map fun d => k + d)) = some (.int (dedup (lvs ps ++ ds.map fun d => k + d)).length) := hLsL_eq (by rw [List.length_append, List.length_map, lvs_len]; omega)
      have e4 : decide (((dedup (lvs ps ++ ds.map fun d => k + d)).length : Int) = ((lvs ps).length : Int) + ((ds.map fun d => k + d).length : Int)) = decide (Goods "any" z ps k ds) := by
        refine decide_eq_decide.mpr ?_
        rw [goods_any hnd, ← dedup_iff, List.length_append]
        exact ⟨fun h => ⟨hb, by omega⟩, fun h => by have := h.2; omega⟩
      rw [← e4]
      refine runD_rt rfl (e := [svD "any" n, .int z, .lst (ps.map pairD), .int k, V, lstI ds, lstI (lvs ps), lstI (ds.map fun d => k + d), .non, .non, .non, .non]) ?_
      generalize ps.map pairD = P at e0 l1 l2 l3 ⊢
      walk_at "e0 l1 a1 l2 l3 e2 e3"
    · have hw' : decide (w = "any") = false := decide_eq_false hw
      have e2 : gCatL (.lst [.int (-1)]) (lstI (lvs ps)) = some (lstI (-1 :: lvs ps)) := gCatL_ll (by rw [List.length_map, List.length_cons, List.length_nil, lvs_len]; omega)
      have e3 : gInts nMax [lstI (-1 :: lvs ps)] = some (.int (lastF ps)) := by
        rw [gInts_l]
        show some (D.int (maxL (-1) (lvs ps))) = _
        rw [maxL_last]
      have e4 : gCatL (.lst [.int (lastF ps)]) (lstI (ds.map fun d => k + d)) = some (lstI (lastF ps :: ds.map fun d => k + d)) := gCatL_ll (by rw [List.length_map, List.length_map, List.length_cons, List.length_nil]; omega)
      have l4 := lcD_map (tg := gTup (gCons (gName 9) (gCons (gName 11) gNil))) (ft := fYes) (a := fOp gLt (fVar 9) (fVar 11)) (vs := [9, 11]) (e := [svD w n, .int z, .lst (ps.map pairD), .int k, V, lstI ds, lstI (lvs ps), lstI (ds.map fun d => k + d), .int (lastF ps), .non, .non, .non]) (fun q : Int × Int => D.tup [.int q.1, .int q.2]) (fun q => D.bl (decide (q.1 < q.2))) ((lastF ps :: ds.map fun d => k + d).zip (ds.map fun d => k + d)) [] (fun q hq => by
        generalize ps.map pairD = P
        walk_at "") (by rw [List.length_nil, List.length_zip, List.length_map]; omega)
      rw [List.nil_append, ← zipD_map] at l4
      have a3 : gBls (fun bs => bs.all id) [.lst (((lastF ps :: ds.map fun d => k + d).zip (ds.map fun d => k + d)).map fun q => D.bl (decide (q.1 < q.2)))] = some (.bl (decide (Goods w z ps k ds))) := by
        rw [show (((lastF ps :: ds.map fun d => k + d).zip (ds.map fun d => k + d)).map fun q => D.bl (decide (q.1 < q.2))) = (((lastF ps :: ds.map fun d => k + d).zip (ds.map fun d => k + d)).map fun q => decide (q.1 < q.2)).map D.bl by rw [List.map_map]; rfl, gBls_l, List.all_map]
        congr 2
        rw [Bool.eq_iff_iff, decide_eq_true_eq, goods_up hw]
        exact ⟨fun h => ⟨hb, h⟩, fun h => h.2⟩
      refine runD_rt rfl (e := [svD w n, .int z, .lst (ps.map pairD), .int k, V, lstI ds, lstI (lvs ps), lstI (ds.map fun d => k + d), .int (lastF ps), .non, .non, .non]) ?_
      generalize ps.map pairD = P at e0 l1 l2 l3 l4 ⊢
      walk_at "e0 l1 a1 l2 l3 hw' e2 e3 e4 l4 a3"
  · have e1 : decide (∀ d ∈ ds, 0 ≤ d ∧ d ≤ z) = false := decide_eq_false hb
    have e2 : decide (Goods w z ps k ds) = false := decide_eq_false fun q => hb q.bd
    rw [e1] at a1
    rw [e2]
    refine runD_rt rfl (e := [svD w n, .int z, .lst (ps.map pairD), .int k, V, lstI ds, .non, .non, .non, .non, .non, .non]) ?_
    generalize ps.map pairD = P at e0 l1 ⊢
    walk_at "e0 l1 a1"
end
end FB
namespace FB
open PySem L2 DL TL
theorem inF_int {d : Int} {r : List Int} : inF (.int d) (r.map D.int) = decide (d ∈ r) := by
  unfold inF
  rw [List.any_map, Bool.eq_iff_iff, List.any_eq_true, decide_eq_true_eq]
  constructor
  · rintro ⟨x, hx, h⟩
    have : x = d := by
      have h2 : eqF (.int x) (.int d) = true := h
      simpa [eqF] using h2
    rw [← this]
    exact hx
  · intro h
    exact ⟨d, h, by simp [eqF]⟩
def freeV (z : Int) (r : List Int) : List Int := (upto (z + 1).toNat).filter fun d => !decide (d ∈ r)
def rowsV (z : Int) : Nat → List (List Int)
  | 0 => [[]]
  | j + 1 => (rowsV z j).flatMap fun r => (freeV z r).map fun d => r ++ [d]
def foundV (z : Int) : Nat → List (List Int)
  | 0 => [[]]
  | j + 1 => foundV z j ++ rowsV z (j + 1)
def valsV (w : Str) (n z : Int) : List SV := if w = "queue" then (upto (n + 1).toNat).map .inl else (foundV z n.toNat).map .inr
theorem upto_len (m : Nat) : (upto m).length = m := by
  unfold upto
  rw [List.length_map, List.length_range]
theorem freeV_len (z : Int) (r : List Int) : (freeV z r).length ≤ (z + 1).toNat := by
  unfold freeV
  have := List.length_filter_le (fun d => !decide (d ∈ r)) (upto (z + 1).toNat)
  rw [upto_len] at this
  exact this
theorem flatMap_le {α β : Type} {f : α → List β} {m : Nat} : ∀ l : List α, (∀ a ∈ l, (f a).length ≤ m) → (l.flatMap f).length ≤ l.length * m
  | [], _ => Nat.zero_le _
  | a :: l, h => by
    have h1 := h a List.mem_cons_self
    have h2 := flatMap_le l fun b hb => h b (List.mem_cons_of_mem _ hb)
    rw [List.flatMap_cons, List.length_append, List.length_cons, Nat.succ_mul]
    omega
theorem rowsV_len {z : Int} (hz : z ≤ 3) : ∀ j : Nat, (rowsV z j).length ≤ 4 ^ j
  | 0 => Nat.le_refl _
  | j + 1 => by
    have h1 := rowsV_len hz j
    have h2 := flatMap_le (f := fun r => (freeV z r).map fun d => r ++ [d]) (m := 4) (rowsV z j) fun r _ => by
      rw [List.length_map]
      have := freeV_len z r
      omega
    show ((rowsV z j).flatMap fun r => (freeV z r).map fun d => r ++ [d]).length ≤ 4 ^ (j + 1)
    rw [Nat.pow_succ]
    omega
theorem foundV_len {z : Int} (hz : z ≤ 3) : ∀ j : Nat, (foundV z j).length ≤ 2 * 4 ^ j
  | 0 => (by show (1 : Nat) ≤ 2 * 1; decide)
  | j + 1 => by
    have h1 := foundV_len hz j
    have h2 := rowsV_len hz (j + 1)
    show (foundV z j ++ rowsV z (j + 1)).length ≤ _
    rw [List.length_append]
    rw [Nat.pow_succ] at h2 ⊢
    omega
theorem rowsV_mem {z : Int} : ∀ {j : Nat} {r : List Int}, r ∈ rowsV z j ↔ r.length = j ∧ r.Nodup ∧ ∀ d ∈ r, 0 ≤ d ∧ d ≤ z
  | 0, r => by
    show r ∈ [[]] ↔ _
    rw [List.mem_singleton]
    constructor
    · rintro rfl
      exact ⟨rfl, List.nodup_nil, fun d hd => by cases hd⟩
    · intro h
      exact List.length_eq_zero_iff.mp h.1
  | j + 1, r => by
    show r ∈ ((rowsV z j).flatMap fun r => (freeV z r).map fun d => r ++ [d]) ↔ _
    rw [List.mem_flatMap]
    constructor
    · rintro ⟨q, hq, hr⟩
      obtain ⟨d, hd, rfl⟩ := List.mem_map.mp hr
      obtain ⟨q1, q2, q3⟩ := rowsV_mem.mp hq
      unfold freeV at hd
      rw [List.mem_filter, mem_upto] at hd
      have hd2 : d ∉ q := by simpa using hd.2
      refine ⟨by rw [List.length_append, List.length_singleton, q1], ?_, fun x hx => ?_⟩
      · rw [List.nodup_append]
        exact ⟨q2, by simp, fun a ha b hb e => hd2 (by rw [← List.mem_singleton.mp hb, ← e]; exact ha)⟩
      · rcases List.mem_append.mp hx with hx | hx
        · exact q3 x hx
        · rw [List.mem_singleton.mp hx]
          omega
    · rintro ⟨h1, h2, h3⟩
      have hne : r ≠ [] := fun e => by rw [e] at h1; cases h1
      refine ⟨r.dropLast, rowsV_mem.mpr ⟨by rw [List.length_dropLast]; omega, ?_, fun d hd => h3 d (List.dropLast_subset _ hd)⟩, List.mem_map.mpr ⟨r.getLast hne, ?_, List.dropLast_concat_getLast hne⟩⟩
      · exact h2.sublist (List.dropLast_sublist _)
      · unfold freeV
        rw [List.mem_filter, mem_upto]
        have hb := h3 _ (List.getLast_mem hne)
        refine ⟨by omega, ?_⟩
        have h4 := h2
        rw [← List.dropLast_concat_getLast hne, List.nodup_append] at h4
        simpa using fun q => h4.2.2 _ q _ (List.mem_singleton.mpr rfl) rfl
theorem foundV_mem {z : Int} : ∀ {j : Nat} {r : List Int}, r ∈ foundV z j ↔ r.length ≤ j ∧ r.Nodup ∧ ∀ d ∈ r, 0 ≤ d ∧ d ≤ z
  | 0, r => by
    show r ∈ rowsV z 0 ↔ _
    rw [rowsV_mem]
    constructor <;> rintro ⟨h1, h2⟩ <;> exact ⟨by omega, h2⟩
  | j + 1, r => by
    show r ∈ foundV z j ++ rowsV z (j + 1) ↔ _
    rw [List.mem_append, foundV_mem, rowsV_mem]
    constructor
    · rintro (⟨h1, h2⟩ | ⟨h1, h2⟩) <;> exact ⟨by omega, h2⟩
    · rintro ⟨h1, h2⟩
      by_cases h : r.length ≤ j
      · exact .inl ⟨h, h2⟩
      · exact .inr ⟨by omega, h2⟩
theorem goods_nodup {w : Str} {z k : Int} {ps : List (Int × Int)} {ds : List Int} (h : Goods w z ps k ds) : ds.Nodup := by
  have h2 := h.new.2
  rw [List.nodup_iff_pairwise_ne, List.pairwise_map] at h2
  exact List.nodup_iff_pairwise_ne.mpr (h2.imp fun h e => h (by rw [e]))
/-- what can stand is among the values -/
theorem valsV_mem {w : Str} {n z k : Int} {ps : List (Int × Int)} {v : SV} (n1 : 0 ≤ n) (h1 : OkV w n v) (h2 : Goods w z ps k (dls ps k v)) : v ∈ valsV w n z := by
  unfold valsV
  cases v with
  | inl c =>
    obtain ⟨h1, h3, h4⟩ := h1
    rw [if_pos h1]
    exact List.mem_map.mpr ⟨c, mem_upto.mpr (by omega), rfl⟩
  | inr ds =>
    obtain ⟨h1, h3⟩ := h1
    rw [if_neg h1]
    exact List.mem_map.mpr ⟨ds, foundV_mem.mpr ⟨by omega, goods_nodup h2, h2.bd⟩, rfl⟩
theorem valsV_ok {w : Str} {n z : Int} (n1 : 0 ≤ n) {v : SV} (h : v ∈ valsV w n z) : OkV w n v := by
  unfold valsV at h
  split at h
  · rename_i hw
    obtain ⟨c, hc, rfl⟩ := List.mem_map.mp h
    have := mem_upto.mp hc
    exact ⟨hw, by omega, by omega⟩
  · rename_i hw
    obtain ⟨ds, hd, rfl⟩ := List.mem_map.mp h
    have := (foundV_mem.mp hd).1
    exact ⟨hw, by omega⟩
theorem valsV_len {w : Str} {n z : Int} (n0 : 0 ≤ n) (n4 : n ≤ 4) (hz : z ≤ 3) : (valsV w n z).length ≤ 512 := by
  unfold valsV
  split
  · rw [List.length_map, upto_len]
    omega
  · rw [List.length_map]
    have h1 := foundV_len hz n.toNat
    have h2 : 4 ^ n.toNat ≤ 4 ^ 4 := Nat.pow_le_pow_right (by decide) (by omega)
    omega
section
variable {w : Str} {n z : Int}
theorem sv_turn {S F R : D} {lap : D} {acc : List (List Int)} {r : List Int} (hz0 : 0 ≤ z) (hz : z ≤ 3) (ha : acc.length ≤ 4000) (hr : r.length ≤ 100) :
    tn (gName 6) L1__law_slot_values (tupI r) [S, .int z, F, R, lap, .lst (acc.map tupI), .non, .non, .non] = .nx [S, .int z, F, R, lap, .lst ((acc ++ (freeV z r).map fun d => r ++ [d]).map tupI), .non, .non, .non] := by
  have r1 : hRng1 [.int (z + 1)] = some (rngD 0 (z + 1).toNat) := hRng1_eq (by omega) (by omega)
  have fl : (r.map D.int).all flatD = true := by
    rw [List.all_map]
    exact List.all_eq_true.mpr fun d hd => rfl
  have l1 := lcD_fmap (tg := gName 8) (ft := fTest (fOp (gIn true) (fVar 8) (fVar 6))) (a := fOp gCatT (fVar 6) (fTup (fCons (fCall gInt (fCons (fVar 8) fNil)) fNil))) (vs := [8]) (e := [S, .int z, F, R, lap, .lst (acc.map tupI), tupI r, .non, .non]) D.int (fun d => if (!decide (d ∈ r)) = true then some (tupI (r ++ [d])) else none) (upto (z + 1).toNat) [] (fun d hd => by
    have e1 : gIn true (.int d) (tupI r) = some (.bl (!decide (d ∈ r))) := by
      rw [← inF_int]
      exact gIn_t rfl fl
    have e2 : gCatT (tupI r) (.tup [.int d]) = some (tupI (r ++ [d])) := by
      rw [show tupI (r ++ [d]) = .tup (r.map D.int ++ [.int d]) by unfold tupI; rw [List.map_append]; rfl]
      exact gCatT_tt (by rw [List.length_map, List.length_singleton]; omega)
    generalize tupI (r ++ [d]) = T2 at e2 ⊢
    generalize tupI r = T1 at e1 e2 ⊢
    generalize acc.map tupI = AA
    by_cases h : d ∈ r
    · rw [decide_eq_true h] at e1 ⊢
      simp only [Bool.not_true, Bool.false_eq_true, if_false] at e1 ⊢
      walk_at "e1"
    · rw [decide_eq_false h] at e1 ⊢
      simp only [Bool.not_false, if_true] at e1 ⊢
      walk_at "e1 e2") (by rw [List.length_nil, upto_len]; omega)
  have e3 : ((upto (z + 1).toNat).filterMap fun d => if (!decide (d ∈ r)) = true then some (tupI (r ++ [d])) else none) = ((freeV z r).map fun d => r ++ [d]).map tupI := by
    unfold freeV
    generalize upto (z + 1).toNat = U
    induction U with
    | nil => rfl
    | cons x U ih =>
      rw [List.filterMap_cons, List.filter_cons]
      by_cases h : x ∈ r
      · simp only [decide_eq_true h, Bool.not_true, Bool.false_eq_true, if_false]
        exact ih
      · simp only [decide_eq_false h, Bool.not_false, if_true, List.map_cons]
        rw [ih]
  rw [List.nil_append, e3, ← rng_upto] at l1
  have hl := freeV_len z r
  have hx : (acc.map tupI).length + (((freeV z r).map fun d => r ++ [d]).map tupI).length < 100000 := by
    rw [List.length_map, List.length_map, List.length_map]
    omega
  rw [List.map_append]
  generalize ((freeV z r).map fun d => r ++ [d]).map tupI = W at l1 hx ⊢
  generalize acc.map tupI = AA at l1 hx ⊢
  generalize tupI r = T1 at l1 ⊢
  generalize rngD 0 (z + 1).toNat = RR at l1 r1
  unfold L1__law_slot_values
  walk_at "r1 l1"
theorem sv_lap {lap : D} {S : D} {j : Nat} (hz0 : 0 ≤ z) (hz : z ≤ 3) (hj : j < 4) :
    tn (gName 4) L2__law_slot_values lap [S, .int z, .lst ((foundV z j).map tupI), .lst ((rowsV z j).map tupI), .non, .non, .non, .non, .non] = .nx [S, .int z, .lst ((foundV z (j + 1)).map tupI), .lst ((rowsV z (j + 1)).map tupI), .non, .non, .non, .non, .non] := by
  have hr := rowsV_len hz j
  have hf := foundV_len hz j
  have hp : 4 ^ j ≤ 4 ^ 3 := Nat.pow_le_pow_right (by decide) (by omega)
  have l1 := forD_acc (tg := gName 6) (fb := L1__law_slot_values) tupI (fun acc : List (List Int) => [S, .int z, .lst ((foundV z j).map tupI), .lst ((rowsV z j).map tupI), lap, .lst (acc.map tupI), .non, .non, .non]) (fun r => (freeV z r).map fun d => r ++ [d]) 4 256 (rowsV z j) [] (fun r hr => by
    rw [List.length_map]
    have := freeV_len z r
    omega) (by rw [List.length_nil]; omega) (fun acc r hr ha => by
    have := (rowsV_mem.mp hr).1
    exact sv_turn hz0 hz (by omega) (by omega))
  rw [List.nil_append] at l1
  change _ = Out.nx [S, .int z, .lst ((foundV z j).map tupI), .lst ((rowsV z j).map tupI), lap, .lst ((rowsV z (j + 1)).map tupI), .non, .non, .non] at l1
  have hr1 := rowsV_len hz (j + 1)
  have e2 : gCatL (.lst ((foundV z j).map tupI)) (.lst ((rowsV z (j + 1)).map tupI)) = some (.lst ((foundV z (j + 1)).map tupI)) := by
    rw [show foundV z (j + 1) = foundV z j ++ rowsV z (j + 1) from rfl, List.map_append]
    exact gCatL_ll (by rw [List.length_map, List.length_map]; rw [Nat.pow_succ] at hr1; omega)
  rw [List.map_nil] at l1
  generalize (foundV z (j + 1)).map tupI = F2 at e2 ⊢
  generalize (rowsV z (j + 1)).map tupI = R2 at l1 e2 ⊢
  generalize (foundV z j).map tupI = F1 at l1 e2 ⊢
  generalize (rowsV z j).map tupI = R1 at l1 ⊢
  unfold L2__law_slot_values
  walk_at "l1 e2"
theorem sv_laps {S : D} (hz0 : 0 ≤ z) (hz : z ≤ 3) : ∀ (ds : List D) (j : Nat), j + ds.length ≤ 4 →
    fForD (gName 4) L2__law_slot_values ds [S, .int z, .lst ((foundV z j).map tupI), .lst ((rowsV z j).map tupI), .non, .non, .non, .non, .non] = .nx [S, .int z, .lst ((foundV z (j + ds.length)).map tupI), .lst ((rowsV z (j + ds.length)).map tupI), .non, .non, .non, .non, .non]
  | [], j, h => rfl
  | d :: ds, j, h => by
    rw [List.length_cons] at h
    rw [forD_nx (sv_lap hz0 hz (by omega)), sv_laps hz0 hz ds (j + 1) (by omega), List.length_cons, show j + 1 + ds.length = j + (ds.length + 1) by omega]
theorem slot_values_eq (n1 : 1 ≤ n) (n4 : n ≤ 4) (hz0 : 0 ≤ z) (hz : z ≤ 3) : F__law_slot_values [svD w n, .int z] = some (.lst ((valsV w n z).map valD)) := by
  by_cases hw : w = "queue"
  · subst hw
    have r1 : hRng1 [.int (n + 1)] = some (rngD 0 (n + 1).toNat) := hRng1_eq (by omega) (by omega)
    have l1 := lcD_map (tg := gName 7) (ft := fYes) (a := fCall gInt (fCons (fVar 7) fNil)) (vs := [7]) (e := [svD "queue" n, .int z, .non, .non, .non, .non, .non, .non, .non]) D.int D.int (upto (n + 1).toNat) [] (fun d hd => by walk_at "") (by rw [List.length_nil, upto_len]; omega)
    rw [List.nil_append, ← rng_upto] at l1
    have e1 : (valsV "queue" n z).map valD = rngD 0 (n + 1).toNat := by
      unfold valsV
      rw [if_pos rfl, List.map_map, rng_upto]
      rfl
    rw [e1]
    generalize rngD 0 (n + 1).toNat = RR at l1 r1 ⊢
    refine runD_rt rfl (e := [svD "queue" n, .int z, .non, .non, .non, .non, .non, .non, .non]) ?_
    walk_at "r1 l1"
  · have hw' : decide (w = "queue") = false := decide_eq_false hw
    have r1 : hRng1 [.int n] = some (rngD 0 n.toNat) := hRng1_eq (by omega) (by omega)
    have l1 := sv_laps (S := svD w n) hz0 hz (rngD 0 n.toNat) 0 (by rw [rng_upto, List.length_map, upto_len]; omega)
    rw [show (rngD 0 n.toNat).length = n.toNat by rw [rng_upto, List.length_map, upto_len], Nat.zero_add] at l1
    have e1 : (valsV w n z).map valD = (foundV z n.toNat).map tupI := by
      unfold valsV
      rw [if_neg hw, List.map_map]
      rfl
    rw [e1]
    change fForD _ _ _ [svD w n, .int z, .lst [.tup []], .lst [.tup []], .non, .non, .non, .non, .non] = _ at l1
    generalize (foundV z n.toNat).map tupI = F2 at l1 ⊢
    generalize (rowsV z n.toNat).map tupI = R2 at l1
    generalize rngD 0 n.toNat = RR at l1 r1
    refine runD_rt rfl (e := [svD w n, .int z, .lst F2, .lst R2, .non, .non, .non, .non, .non]) ?_
    walk_at "hw' r1 l1"
end
end FB
namespace FB
open PySem L2 DL TL
abbrev scrD (vs : List SV) : D := .tup (vs.map valD)
/-- the value can stand behind this script -/
def canS (w : Str) (z : Int) (vs : List SV) (v : SV) : Bool := decide (Goods w z (runs 0 [] vs) (vs.length : Int) (dls (runs 0 [] vs) (vs.length : Int) v))
def stepS (w : Str) (n z : Int) (vs : List SV) : List (List SV) := (valsV w n z).flatMap fun v => if canS w z vs v = true then [vs ++ [v]] else []
def allS (w : Str) (n z : Int) : Nat → List (List SV)
  | 0 => [[]]
  | m + 1 => (allS w n z m).flatMap (stepS w n z)
theorem allS_ok {w : Str} {n z : Int} (n0 : 0 ≤ n) : ∀ {m : Nat} {vs : List SV}, vs ∈ allS w n z m → vs.length = m ∧ Valid w n z 0 [] vs
  | 0, vs, h => by
    rw [List.mem_singleton.mp h]
    exact ⟨rfl, trivial⟩
  | m + 1, vs, h => by
    obtain ⟨us, hu, h⟩ := List.mem_flatMap.mp h
    obtain ⟨v, hv, h⟩ := List.mem_flatMap.mp h
    obtain ⟨h1, h2⟩ := allS_ok n0 hu
    split at h
    · rename_i hc
      rw [List.mem_singleton.mp h]
      exact ⟨by rw [List.length_append, List.length_singleton, h1], valid_snoc h2 (valsV_ok n0 hv) (of_decide_eq_true hc)⟩
    · cases h
theorem allS_all {w : Str} {n z : Int} (n0 : 0 ≤ n) : ∀ {m : Nat} {vs : List SV}, vs.length = m → Valid w n z 0 [] vs → vs ∈ allS w n z m
  | 0, vs, h, _ => by
    rw [List.length_eq_zero_iff.mp h]
    exact List.mem_singleton.mpr rfl
  | m + 1, vs, h, hv => by
    have hne : vs ≠ [] := fun e => by rw [e] at h; cases h
    have e := List.dropLast_concat_getLast hne
    generalize vs.dropLast = us at e
    generalize vs.getLast hne = v at e
    subst e
    obtain ⟨h1, h2⟩ := valid_app.mp hv
    rw [List.length_append, List.length_singleton] at h
    rw [Int.zero_add] at h2
    refine List.mem_flatMap.mpr ⟨us, allS_all n0 (by omega) h1, List.mem_flatMap.mpr ⟨v, valsV_mem n0 h2.1 h2.2.1, ?_⟩⟩
    rw [if_pos (show canS w z us v = true from decide_eq_true h2.2.1)]
    exact List.mem_singleton.mpr rfl
theorem stepS_len {w : Str} {n z : Int} (vs : List SV) : (stepS w n z vs).length ≤ (valsV w n z).length := by
  have := flatMap_le (f := fun v => if canS w z vs v = true then [vs ++ [v]] else []) (m := 1) (valsV w n z) fun v _ => by
    split
    · exact Nat.le_refl _
    · exact Nat.zero_le _
  unfold stepS
  omega
theorem allS_len {w : Str} {n z : Int} : ∀ m : Nat, (allS w n z m).length ≤ (valsV w n z).length ^ m
  | 0 => Nat.le_refl _
  | m + 1 => by
    have h1 := allS_len (w := w) (n := n) (z := z) m
    have h2 := flatMap_le (f := stepS w n z) (m := (valsV w n z).length) (allS w n z m) fun vs _ => stepS_len vs
    rw [Nat.pow_succ]
    exact Nat.le_trans h2 (Nat.mul_le_mul_right _ h1)
theorem valid_inv {w : Str} {n z : Int} : ∀ {vs : List SV} {k : Int} {ps : List (Int × Int)}, Valid w n z k ps vs → (lvs ps).Nodup ∧ (w = "queue" → LastOk ps) → (lvs (runs k ps vs)).Nodup ∧ (w = "queue" → LastOk (runs k ps vs))
  | [], k, ps, _, h => h
  | v :: vs, k, ps, hv, h => by
    show (lvs (runs (k + 1) (ps ++ (dls ps k v).map fun d => (k, d)) vs)).Nodup ∧ (w = "queue" → LastOk (runs (k + 1) (ps ++ (dls ps k v).map fun d => (k, d)) vs))
    refine valid_inv (vs := vs) (k := k + 1) (ps := ps ++ (dls ps k v).map fun d => (k, d)) hv.2.2 ⟨?_, fun hw => LastOk.go (by rw [hw]; decide) hv.2.1 (h.2 hw)⟩
    obtain ⟨g1, g2⟩ := hv.2.1.new
    have e : lvs (ps ++ (dls ps k v).map fun d => (k, d)) = lvs ps ++ (dls ps k v).map fun d => k + d := by
      unfold lvs
      rw [List.map_append, List.map_map]
      rfl
    rw [e, List.nodup_append]
    refine ⟨h.1, g2, fun a ha b hb q => ?_⟩
    obtain ⟨d, hd, rfl⟩ := List.mem_map.mp hb
    exact g1 d hd (by rw [← q]; exact ha)
theorem canS_eq {w : Str} {n z : Int} {vs : List SV} {v : SV} (n4 : n ≤ 4) (h : OkV w n v) (hv : Valid w n z 0 [] vs) (hl : vs.length ≤ 700) :
    F__law_can_stand [svD w n, .int z, .lst ((runs 0 [] vs).map pairD), .int (vs.length : Nat), valD v] = some (.bl (canS w z vs v)) := by
  obtain ⟨h1, h2⟩ := valid_inv hv ⟨List.nodup_nil, fun _ => .inl rfl⟩
  have h3 := hv.len (m := 4) (by omega)
  rw [List.length_nil, Nat.zero_add] at h3
  exact can_stand_eq h n4 (by omega) h2 h1 (by omega)
section
variable {w : Str} {n z : Int}
theorem as_val {S R : D} {m : Nat} {vs : List SV} {acc : List (List SV)} {v : SV} (n4 : n ≤ 4) (h : OkV w n v) (hv : Valid w n z 0 [] vs) (hm : vs.length = m) (hl : m ≤ 700) (ha : acc.length ≤ 4000) :
    tn (gName 8) L1__law_all_scripts (valD v) [svD w n, .int z, S, R, .int (m : Nat), .lst (acc.map scrD), scrD vs, .lst ((runs 0 [] vs).map pairD), .non] = .nx [svD w n, .int z, S, R, .int (m : Nat), .lst ((acc ++ if canS w z vs v = true then [vs ++ [v]] else []).map scrD), scrD vs, .lst ((runs 0 [] vs).map pairD), .non] := by
  subst hm
  have e1 := canS_eq n4 h hv hl
  have e2 : gCatT (scrD vs) (.tup [valD v]) = some (scrD (vs ++ [v])) := by
    rw [show scrD (vs ++ [v]) = .tup (vs.map valD ++ [valD v]) by unfold scrD; rw [List.map_append]; rfl]
    exact gCatT_tt (by rw [List.length_map, List.length_singleton]; omega)
  have e3 : (acc.map scrD).length < 100000 := by rw [List.length_map]; omega
  have e4 : (acc ++ if canS w z vs v = true then [vs ++ [v]] else []).map scrD = acc.map scrD ++ if canS w z vs v = true then [scrD (vs ++ [v])] else [] := by
    rw [List.map_append]
    split <;> rfl
  rw [e4]
  generalize scrD (vs ++ [v]) = T2 at e2 ⊢
  generalize scrD vs = T1 at e2 ⊢
  generalize (runs 0 [] vs).map pairD = P at e1 ⊢
  generalize acc.map scrD = AA at e3 ⊢
  unfold L1__law_all_scripts
  generalize valD v = V at e1 e2 ⊢
  cases hc : canS w z vs v with
  | true =>
    rw [hc] at e1
    simp only [if_true]
    walk_at "e1 e2"
  | false =>
    rw [hc] at e1
    simp only [Bool.false_eq_true, if_false, List.append_nil]
    walk_at "e1"
theorem as_script {S R : D} {m : Nat} {vs : List SV} {acc : List (List SV)} (n1 : 1 ≤ n) (n4 : n ≤ 4) (z0 : 0 ≤ z) (z3 : z ≤ 3) (hv : Valid w n z 0 [] vs) (hm : vs.length = m) (hl : m ≤ 700) (ha : acc.length + (valsV w n z).length ≤ 4000) :
    tn (gName 6) L2__law_all_scripts (scrD vs) [svD w n, .int z, S, R, .int (m : Nat), .lst (acc.map scrD), .non, .non, .non] = .nx [svD w n, .int z, S, R, .int (m : Nat), .lst ((acc ++ stepS w n z vs).map scrD), .non, .non, .non] := by
  have e1 := law_packets_eq n4 hv (by omega)
  have e2 := slot_values_eq (w := w) n1 n4 z0 z3
  have l1 := forD_acc (tg := gName 8) (fb := L1__law_all_scripts) valD (fun acc : List (List SV) => [svD w n, .int z, S, R, .int (m : Nat), .lst (acc.map scrD), scrD vs, .lst ((runs 0 [] vs).map pairD), .non]) (fun v => if canS w z vs v = true then [vs ++ [v]] else []) 1 4000 (valsV w n z) acc (fun v _ => by
    split
    · exact Nat.le_refl _
    · exact Nat.zero_le _) (by omega) (fun acc v hv2 ha => as_val n4 (valsV_ok (by omega) hv2) hv hm hl (by omega))
  change _ = Out.nx [svD w n, .int z, S, R, .int (m : Nat), .lst ((acc ++ stepS w n z vs).map scrD), scrD vs, .lst ((runs 0 [] vs).map pairD), .non] at l1
  generalize (acc ++ stepS w n z vs).map scrD = A2 at l1 ⊢
  generalize acc.map scrD = A1 at l1 ⊢
  generalize (valsV w n z).map valD = VV at e2 l1
  generalize (runs 0 [] vs).map pairD = P at e1 l1
  generalize hT : scrD vs = T at l1 ⊢
  rw [show D.tup (vs.map valD) = T from hT] at e1
  unfold L2__law_all_scripts
  walk_at "e1 e2 l1"
theorem as_slot {S : D} {m : Nat} (n1 : 1 ≤ n) (n4 : n ≤ 4) (z0 : 0 ≤ z) (z3 : z ≤ 3) (hl : m ≤ 700) (ha : (valsV w n z).length ^ (m + 1) ≤ 3000) :
    tn (gName 4) L3__law_all_scripts (.int (m : Nat)) [svD w n, .int z, S, .lst ((allS w n z m).map scrD), .non, .non, .non, .non, .non] = .nx [svD w n, .int z, S, .lst ((allS w n z (m + 1)).map scrD), .non, .non, .non, .non, .non] := by
  have h1 := allS_len (w := w) (n := n) (z := z) m
  have h2 : (valsV w n z).length * (allS w n z m).length ≤ 3000 := by
    rw [Nat.pow_succ, Nat.mul_comm] at ha
    exact Nat.le_trans (Nat.mul_le_mul_left _ h1) ha
  have h3 := valsV_len (w := w) (by omega) n4 z3
  have l1 := forD_acc (tg := gName 6) (fb := L2__law_all_scripts) scrD (fun acc : List (List SV) => [svD w n, .int z, S, .lst ((allS w n z m).map scrD), .int (m : Nat), .lst (acc.map scrD), .non, .non, .non]) (stepS w n z) (valsV w n z).length 3000 (allS w n z m) [] (fun vs _ => stepS_len vs) (by rw [List.length_nil]; omega) (fun acc vs hvs ha => by
    obtain ⟨q1, q2⟩ := allS_ok (by omega) hvs
    exact as_script n1 n4 z0 z3 q2 q1 hl (by omega))
  rw [List.nil_append, List.map_nil] at l1
  change _ = Out.nx [svD w n, .int z, S, .lst ((allS w n z m).map scrD), .int (m : Nat), .lst ((allS w n z (m + 1)).map scrD), .non, .non, .non] at l1
  generalize (allS w n z (m + 1)).map scrD = A2 at l1 ⊢
  generalize (allS w n z m).map scrD = A1 at l1 ⊢
  unfold L3__law_all_scripts
  walk_at "l1"
theorem slot_pos (n1 : 1 ≤ n) : 0 < (valsV w n z).length := by
  unfold valsV
  split
  · rw [List.length_map, upto_len]
    omega
  · rw [List.length_map]
    exact List.length_pos_of_mem (foundV_mem.mpr ⟨Nat.zero_le _, List.nodup_nil, fun d hd => by cases hd⟩)
theorem as_slots {S : D} (n1 : 1 ≤ n) (n4 : n ≤ 4) (z0 : 0 ≤ z) (z3 : z ≤ 3) : ∀ (c m : Nat), m + c ≤ 700 → (valsV w n z).length ^ (m + c) ≤ 3000 →
    fForD (gName 4) L3__law_all_scripts (rngK m c) [svD w n, .int z, S, .lst ((allS w n z m).map scrD), .non, .non, .non, .non, .non] = .nx [svD w n, .int z, S, .lst ((allS w n z (m + c)).map scrD), .non, .non, .non, .non, .non]
  | 0, m, _, _ => rfl
  | c + 1, m, h1, h2 => by
    have hp := slot_pos (w := w) (z := z) n1
    have h3 : (valsV w n z).length ^ (m + 1) ≤ 3000 := Nat.le_trans (Nat.pow_le_pow_right hp (by omega)) h2
    have ih := as_slots (S := S) n1 n4 z0 z3 c (m + 1) (by omega) (by rw [show m + 1 + c = m + (c + 1) by omega]; exact h2)
    rw [rngK_succ, forD_nx (as_slot n1 n4 z0 z3 (by omega) h3), ih, show m + 1 + c = m + (c + 1) by omega]
theorem all_scripts_eq {c : Nat} (n1 : 1 ≤ n) (n4 : n ≤ 4) (z0 : 0 ≤ z) (z3 : z ≤ 3) (hc : c ≤ 700) (h : (valsV w n z).length ^ c ≤ 3000) : F__law_all_scripts [svD w n, .int z, .int (c : Nat)] = some (.lst ((allS w n z c).map scrD)) := by
  have l1 := as_slots (S := .int (c : Nat)) n1 n4 z0 z3 c 0 (by omega) (by rw [Nat.zero_add]; exact h)
  rw [Nat.zero_add, ← rngD_K] at l1
  have r1 : hRng1 [.int (c : Nat)] = some (rngD 0 c) := hRng1_nat (by omega)
  change fForD _ _ (rngD 0 c) [svD w n, .int z, .int (c : Nat), .lst [.tup []], .non, .non, .non, .non, .non] = _ at l1
  generalize (allS w n z c).map scrD = A2 at l1 ⊢
  generalize rngD 0 c = RR at l1 r1
  refine runD_rt rfl (e := [svD w n, .int z, .int (c : Nat), .lst A2, .non, .non, .non, .non, .non]) ?_
  walk_at "r1 l1"
end
end FB
namespace FB
open PySem L2 DL TL
def placeF (n x y d : Int) : Int := min3 n (n * d + n - (d + y - x)) (x + 1)
def fewF (w : Str) (n x y d : Int) : Int := if w ≠ "queue" ∨ (x = 0 ∧ d + y = 0) ∨ n = 1 then d + 1 else (x - (placeF n x y d - 1) + n - 2) / (n - 1) + d + 1
end FB
namespace FB
open PySem L2 DL TL
abbrev CanW (w : Str) (n z : Int) (p q : Int × Int) : Prop := p.1 ≤ q.1 ∧ canB w n z p.2 q.2 (q.1 - p.1) = true
theorem canB_other {w : Str} {n z x y d : Int} (hw : w = "order" ∨ w = "any") (hx : x ≤ z) (hy : y ≤ z) (h1 : n = 1 → d ≠ 0) (h2 : w = "order" → 1 ≤ d + y - x) (h3 : w = "any" → d + y - x ≠ 0) : canB w n z x y d = true := by
  have hc : ¬ (max x y > z ∨ (n = 1 ∧ d = 0)) := by
    rintro (h | ⟨h, h'⟩)
    · omega
    · exact h1 h h'
  rcases hw with rfl | rfl
  · rw [can_order, if_neg hc]
    exact decide_eq_true (h2 rfl)
  · rw [can_any, if_neg hc]
    exact decide_eq_true (h3 rfl)
theorem goods_pairs {w : Str} {n z k : Int} (hw : w = "order" ∨ w = "any") : ∀ (ds : List Int) (ps : List (Int × Int)), Goods w z ps k ds → (n = 1 → ds = [] ∨ (ds.length ≤ 1 ∧ ∀ p ∈ ps, p.1 < k)) → ps.Pairwise (CanW w n z) → (∀ p ∈ ps, p.1 ≤ k ∧ p.2 ≤ z) → (ps ++ ds.map fun d => (k, d)).Pairwise (CanW w n z)
  | [], ps, _, _, hp, _ => by
    rw [List.map_nil, List.append_nil]
    exact hp
  | d :: ds, ps, hg, h1, hp, hb => by
    obtain ⟨g1, g2⟩ := hg
    have e : ps ++ (d :: ds).map (fun d => (k, d)) = (ps ++ [(k, d)]) ++ ds.map fun d => (k, d) := by
      rw [List.append_assoc]
      rfl
    rw [e]
    refine goods_pairs hw ds _ g2 (fun hn => ?_) ?_ fun p hpm => ?_
    · rcases h1 hn with h | ⟨h, _⟩
      · cases h
      · rw [List.length_cons] at h
        exact .inl (List.length_eq_zero_iff.mp (by omega))
    · refine List.pairwise_append.mpr ⟨hp, List.pairwise_singleton _ _, fun p hpm q hq => ?_⟩
      rw [List.mem_singleton.mp hq]
      obtain ⟨b1, b2⟩ := hb p hpm
      have hl : p.1 + p.2 ∈ lvs ps := List.mem_map.mpr ⟨p, hpm, rfl⟩
      refine ⟨b1, canB_other hw b2 g1.2.1 (fun hn => ?_) (fun hw => ?_) fun hw => ?_⟩
      · rcases h1 hn with h | ⟨_, h⟩
        · cases h
        · have := h p hpm
          show k - p.1 ≠ 0
          omega
      · have h5 := g1.2.2.2.resolve_left (by rw [hw]; decide)
        have h6 := lvs_le hl
        show 1 ≤ k - p.1 + d - p.2
        omega
      · show k - p.1 + d - p.2 ≠ 0
        intro h5
        exact g1.2.2.1 (by rw [show k + d = p.1 + p.2 by omega]; exact hl)
    · rcases List.mem_append.mp hpm with hpm | hpm
      · exact hb p hpm
      · rw [List.mem_singleton.mp hpm]
        exact ⟨Int.le_refl _, g1.2.1⟩
theorem runs_pairsO {w : Str} {n z : Int} (hw : w = "order" ∨ w = "any") : ∀ (vs : List SV) (k : Int) (ps : List (Int × Int)), Valid w n z k ps vs → ps.Pairwise (CanW w n z) → (∀ p ∈ ps, p.1 < k ∧ p.2 ≤ z) → (runs k ps vs).Pairwise (CanW w n z)
  | [], k, ps, _, hp, _ => hp
  | v :: vs, k, ps, hv, hp, hb => by
    have hl := hv.1.len (ps := ps) (k := k)
    refine runs_pairsO hw vs (k + 1) _ hv.2.2 (goods_pairs hw _ _ hv.2.1 (fun hn => .inr ⟨by omega, fun p hpm => (hb p hpm).1⟩) hp fun p hpm => ⟨by have := (hb p hpm).1; omega, (hb p hpm).2⟩) fun p hpm => ?_
    rcases List.mem_append.mp hpm with hpm | hpm
    · have := hb p hpm
      exact ⟨by omega, this.2⟩
    · obtain ⟨d, hd, rfl⟩ := List.mem_map.mp hpm
      exact ⟨by show k < k + 1; omega, (hv.2.1.bd d hd).2⟩
theorem valid_pairs {w : Str} {n z : Int} {vs : List SV} (hw : WordOk w) (n1 : 1 ≤ n) (hv : Valid w n z 0 [] vs) : (runs 0 [] vs).Pairwise (CanW w n z) := by
  rcases hw with rfl | hw
  · exact queue_pairs n1 hv
  · exact runs_pairsO hw vs 0 [] hv .nil fun p hp => (by cases hp)
structure QM (n k : Int) (ps : List (Int × Int)) : Prop where
  a : aheadF ps k ≤ k * (n - 1)
  b : ∀ p ∈ ps, 0 ≤ p.1 ∧ p.1 + 1 ≤ k ∧ ∃ i : Int, 0 ≤ i ∧ i < n ∧ i ≤ p.2 ∧ p.2 - i ≤ p.1 * (n - 1) ∧ aheadF ps k ≤ (p.2 - i) + (n - 1) * (k - p.1)
theorem QM.step {n k c : Int} {ps : List (Int × Int)} (n1 : 1 ≤ n) (k0 : 0 ≤ k) (h : QM n k ps) (h0 : 0 ≤ c) (hc : c ≤ n) : QM n (k + 1) (ps ++ (dls ps k (.inl c)).map fun d => (k, d)) := by
  have hw := (aheadF_le ps k).2
  have en := ahead_next (ps := ps) (k := k) h0
  have em : maxI 0 (aheadF ps k + c - 1) ≤ aheadF ps k + (n - 1) := by
    unfold maxI
    split <;> omega
  refine ⟨?_, fun p hp => ?_⟩
  · rw [en, show (k + 1) * (n - 1) = k * (n - 1) + (n - 1) by rw [Int.add_mul, Int.one_mul]]
    have := h.a
    omega
  · rw [en]
    rcases List.mem_append.mp hp with hp | hp
    · obtain ⟨g0, g1, i, g2, g3, g4, g5, g6⟩ := h.b p hp
      have e : (n - 1) * (k + 1 - p.1) = (n - 1) * (k - p.1) + (n - 1) := by
        rw [show k + 1 - p.1 = (k - p.1) + 1 by omega, Int.mul_add, Int.mul_one]
      rw [e]
      exact ⟨g0, by omega, i, g2, g3, g4, g5, by omega⟩
    · obtain ⟨d, hd, rfl⟩ := List.mem_map.mp hp
      obtain ⟨i, rfl, hi⟩ := mem_dls hd
      have := h.a
      simp only
      rw [show k + 1 - k = 1 by omega, Int.mul_one]
      exact ⟨k0, by omega, i, by omega, by omega, by omega, by omega, by omega⟩
end FB
namespace FB
open PySem L2 DL TL
def Kep (c : CS) : Prop := c.ks.length = c.vs.length ∧ ∀ v ∈ c.vs, v ≠ []
theorem Kep.step {c : CS} (ok : Kep c) (x : EV) : Kep (cstep c x) := by
  unfold cstep
  simp only
  split
  · refine ⟨by rw [List.length_set]; exact ok.1, fun v hv => ?_⟩
    rcases List.mem_or_eq_of_mem_set hv with y | y
    · exact ok.2 v y
    · rw [y]
      simp
  · refine ⟨by rw [List.length_append, List.length_append, ok.1]; rfl, fun v hv => ?_⟩
    rcases List.mem_append.mp hv with y | y
    · exact ok.2 v y
    · rw [List.mem_singleton.mp y]
      simp
end FB
namespace FB
open PySem L2 DL TL
def okQ (n z : Nat) : Nat → List Nat → Bool
  | _, [] => true
  | a, c :: cs => Nat.ble c n && Nat.ble (a + c) (z + 1) && okQ n z (a + c - 1) cs
def aAt : Nat → List Nat → Nat → Nat
  | a, _, 0 => a
  | a, [], _ + 1 => a
  | a, c :: cs, k + 1 => aAt (a + c - 1) cs k
def qIn (cs : List Nat) (k x : Nat) : Bool := Nat.ble (aAt 0 cs k) x && Nat.blt x (aAt 0 cs k + cs.getD k 0)
abbrev toSV (cs : List Nat) : List SV := cs.map fun (c : Nat) => Sum.inl (c : Int)
theorem okQ_valid {n z : Nat} : ∀ {cs : List Nat} {a : Nat} {k : Int} {ps : List (Int × Int)}, okQ n z a cs = true → (a : Int) = aheadF ps k → Valid "queue" n z k ps (toSV cs)
  | [], _, _, _, _, _ => trivial
  | c :: cs, a, k, ps, h, ha => by
    unfold okQ at h
    rw [Bool.and_eq_true, Bool.and_eq_true, Nat.ble_eq, Nat.ble_eq] at h
    obtain ⟨⟨h1, h2⟩, h3⟩ := h
    refine ⟨⟨rfl, by omega, by omega⟩, ?_, okQ_valid h3 ?_⟩
    · rw [dls_inl, Int.toNat_natCast]
      exact goods_queue c (by omega)
    · rw [ahead_next (by omega), ← ha]
      unfold maxI
      split <;> omega
def blocksQ : Nat → Int → List Nat → List (Int × Int)
  | _, _, [] => []
  | a, k, c :: cs => ((aheads (a : Int) c).map fun d => (k, d)) ++ blocksQ (a + c - 1) (k + 1) cs
theorem runs_blocks : ∀ {cs : List Nat} {a : Nat} {k : Int} {ps : List (Int × Int)}, (a : Int) = aheadF ps k → runs k ps (toSV cs) = ps ++ blocksQ a k cs
  | [], _, _, _, _ => (List.append_nil _).symm
  | c :: cs, a, k, ps, ha => by
    show runs (k + 1) (ps ++ (dls ps k (.inl (c : Int))).map fun d => (k, d)) (toSV cs) = _
    rw [runs_blocks (a := a + c - 1) (by
      rw [ahead_next (by omega), ← ha]
      unfold maxI
      split <;> omega), dls_inl, Int.toNat_natCast, ← ha, List.append_assoc]
    rfl
theorem mem_aheads {a : Int} {c : Nat} {x : Int} (h0 : a ≤ x) (h1 : x < a + c) : x ∈ aheads a c := List.mem_map.mpr ⟨(x - a).toNat, List.mem_range.mpr (by omega), by omega⟩
theorem two_sub {l : List Int} (hl : l.Pairwise (· < ·)) {x y : Int} (hx : x ∈ l) (hy : y ∈ l) (h : x < y) : [x, y].Sublist l := by
  induction l with
  | nil => cases hx
  | cons t l ih =>
    obtain ⟨h1, h2⟩ := List.pairwise_cons.mp hl
    rcases List.mem_cons.mp hx with e | hx'
    · subst e
      rcases List.mem_cons.mp hy with e | hy'
      · omega
      · exact (List.singleton_sublist.mpr hy').cons₂ x
    · rcases List.mem_cons.mp hy with e | hy'
      · have := h1 x hx'
        omega
      · exact (ih h2 hx' hy').cons t
theorem aheads_up (a : Int) (c : Nat) : (aheads a c).Pairwise (· < ·) := by
  unfold aheads
  rw [List.pairwise_map]
  exact (List.pairwise_lt_range (n := c)).imp fun h => by omega
theorem block_mem : ∀ {cs : List Nat} {a j : Nat} {k : Int} {x : Nat}, aAt a cs j ≤ x → x < aAt a cs j + cs.getD j 0 → (k + j, (x : Int)) ∈ blocksQ a k cs
  | [], a, j, k, x, h0, h1 => by
    have : ([] : List Nat).getD j 0 = 0 := by cases j <;> rfl
    omega
  | c :: cs, a, 0, k, x, h0, h1 => by
    have h0 : a ≤ x := h0
    have h1 : x < a + c := h1
    refine List.mem_append_left _ (List.mem_map.mpr ⟨(x : Int), mem_aheads (by omega) (by omega), ?_⟩)
    rw [Int.natCast_zero, Int.add_zero]
  | c :: cs, a, j + 1, k, x, h0, h1 => by
    have := block_mem (cs := cs) (a := a + c - 1) (j := j) (k := k + 1) (x := x) h0 h1
    rw [show k + 1 + (j : Int) = k + ((j + 1 : Nat) : Int) by omega] at this
    exact List.mem_append_right _ this
theorem block_two : ∀ {cs : List Nat} {a j d : Nat} {k : Int} {x y : Nat}, aAt a cs j ≤ x → x < aAt a cs j + cs.getD j 0 → aAt a cs (j + d) ≤ y → y < aAt a cs (j + d) + cs.getD (j + d) 0 → (d = 0 → x < y) → [(k + j, (x : Int)), (k + j + d, (y : Int))].Sublist (blocksQ a k cs)
  | [], a, j, d, k, x, y, h0, h1, _, _, _ => by
    have : ([] : List Nat).getD j 0 = 0 := by cases j <;> rfl
    omega
  | c :: cs, a, 0, 0, k, x, y, h0, h1, h2, h3, h4 => by
    have h0 : a ≤ x := h0
    have h1 : x < a + c := h1
    have h2 : a ≤ y := h2
    have h3 : y < a + c := h3
    have h5 := h4 rfl
    have := (two_sub (aheads_up a c) (x := (x : Int)) (y := (y : Int)) (mem_aheads (by omega) (by omega)) (mem_aheads (by omega) (by omega)) (by omega)).map fun d => (k, d)
    rw [Int.natCast_zero, Int.add_zero, Int.add_zero]
    exact this.trans (List.sublist_append_left _ _)
  | c :: cs, a, 0, d + 1, k, x, y, h0, h1, h2, h3, _ => by
    have h0 : a ≤ x := h0
    have h1 : x < a + c := h1
    have m1 : (k, (x : Int)) ∈ (aheads (a : Int) c).map fun d => (k, d) := List.mem_map.mpr ⟨(x : Int), mem_aheads (by omega) (by omega), rfl⟩
    rw [Nat.zero_add] at h2 h3
    have m2 := block_mem (cs := cs) (a := a + c - 1) (j := d) (k := k + 1) (x := y) h2 h3
    have := (List.singleton_sublist.mpr m1).append (List.singleton_sublist.mpr m2)
    rw [show k + 1 + (d : Int) = k + ((0 : Nat) : Int) + ((d + 1 : Nat) : Int) by omega] at this
    rw [show k + ((0 : Nat) : Int) = k by omega] at this ⊢
    exact this
  | c :: cs, a, j + 1, d, k, x, y, h0, h1, h2, h3, h4 => by
    rw [show j + 1 + d = (j + d) + 1 by omega] at h2 h3
    have := block_two (cs := cs) (a := a + c - 1) (j := j) (d := d) (k := k + 1) (x := x) (y := y) h0 h1 h2 h3 h4
    rw [show k + 1 + (j : Int) = k + ((j + 1 : Nat) : Int) by omega] at this
    exact this.trans (List.sublist_append_right _ _)
theorem idle_other {w : Str} {n z : Int} (hw : w ≠ "queue") (hn : 0 ≤ n) : ∀ (m : Nat) (k : Int) (ps : List (Int × Int)), Valid w n z k ps (List.replicate m (.inr [])) ∧ runs k ps (List.replicate m (.inr [])) = ps
  | 0, k, ps => ⟨trivial, rfl⟩
  | m + 1, k, ps => by
    have e : ps ++ (dls ps k (.inr [])).map (fun d => (k, d)) = ps := List.append_nil _
    obtain ⟨h1, h2⟩ := idle_other hw hn m (k + 1) ps
    refine ⟨⟨⟨hw, hn⟩, trivial, ?_⟩, ?_⟩
    · rw [e]
      exact h1
    · show runs (k + 1) (ps ++ (dls ps k (.inr [])).map fun d => (k, d)) (List.replicate m (.inr [])) = ps
      rw [e]
      exact h2
/-- the script of two packets whose delays are told -/
def tScript (x y : Int) (d : Nat) : List SV := if d = 0 then [.inr [x, y]] else .inr [x] :: List.replicate (d - 1) (.inr []) ++ [.inr [y]]
theorem told_script {w : Str} {n x y z : Int} {d : Nat} (hw : w = "order" ∨ w = "any") (n1 : 1 ≤ n) (hx : 0 ≤ x ∧ x ≤ z) (hy : 0 ≤ y ∧ y ≤ z) (hc : canB w n z x y d = true) :
    Valid w n z 0 [] (tScript x y d) ∧ ((tScript x y d).length : Int) = fewF w n x y d ∧ ∃ k : Int, [(k, x), (k + d, y)].Sublist (runs 0 [] (tScript x y d)) := by
  have hq : w ≠ "queue" := by
    rcases hw with rfl | rfl <;> decide
  have hf : fewF w n x y d = d + 1 := if_pos (.inl hq)
  have hb : ¬ (max x y > z ∨ (n = 1 ∧ (d : Int) = 0)) ∧ (w = "any" ∨ x < d + y) ∧ (d : Int) + y ≠ x := by
    rcases hw with rfl | rfl
    · rw [can_order] at hc
      split at hc
      · cases hc
      · rename_i h
        have := of_decide_eq_true hc
        exact ⟨h, .inr (by omega), by omega⟩
    · rw [can_any] at hc
      split at hc
      · cases hc
      · rename_i h
        have := of_decide_eq_true hc
        exact ⟨h, .inl rfl, by omega⟩
  obtain ⟨hb1, hb2, hb3⟩ := hb
  have gx : Good w z [] 0 x := ⟨hx.1, hx.2, by simp [lvs], .inr (by show (-1 : Int) < 0 + x; omega)⟩
  have l1 : lastF [((0 : Int), x)] = x := by
    show maxI (-1) (0 + x) = x
    unfold maxI
    rw [if_pos (by omega), Int.zero_add]
  have gy : ∀ k : Int, k = d → Good w z [(0, x)] k y := fun k hk => ⟨hy.1, hy.2, by
    show k + y ∉ [0 + x]
    rw [List.mem_singleton]
    omega, by rw [l1]; exact hb2.imp id fun h => by omega⟩
  rw [hf]
  unfold tScript
  by_cases h0 : d = 0
  · subst h0
    rw [if_pos rfl]
    exact ⟨⟨⟨hq, by show (2 : Int) ≤ n; omega⟩, ⟨gx, gy 0 rfl, trivial⟩, trivial⟩, rfl, 0, List.Sublist.refl _⟩
  · rw [if_neg h0]
    obtain ⟨i1, i2⟩ := idle_other (n := n) (z := z) hq (by omega) (d - 1) (0 + 1) [(0, x)]
    have v1 : Valid w n z 0 [] (.inr [x] :: List.replicate (d - 1) (.inr [])) := ⟨⟨hq, by show (1 : Int) ≤ n; omega⟩, ⟨gx, trivial⟩, i1⟩
    have r1 : runs 0 [] (.inr [x] :: List.replicate (d - 1) (.inr [])) = [(0, x)] := i2
    have ll : ((Sum.inr [x] : SV) :: List.replicate (d - 1) (.inr [])).length = d := by rw [List.length_cons, List.length_replicate]; omega
    refine ⟨valid_app.mpr ⟨v1, ?_⟩, by rw [List.length_append, ll]; rfl, 0, ?_⟩
    · rw [r1, ll, Int.zero_add]
      exact ⟨⟨hq, by show (1 : Int) ≤ n; omega⟩, ⟨gy d rfl, trivial⟩, trivial⟩
    · rw [runs_app, r1, ll]
      exact List.Sublist.refl _
end FB
namespace FB
open PySem L2 DL TL
end FB
namespace FB
open PySem L2 DL TL
abbrev p3 (x y d : Int) : D := .tup [.int x, .int y, .int d]
section
variable {w : Str} {n x y d : Int}
end
end FB
namespace FB
open PySem L2 DL TL
end FB
namespace FB
open PySem L2 DL TL
section
variable {w : Str} {n z : Int}
end
end FB
namespace DL
variable [Tabl]
open PySem PySem.Spec L2 PyProof.Rows
def updV (kvs more : List (List Key × V)) : List (List Key × V) := more.foldl (fun acc p => putK acc p.1 p.2) kvs
theorem KT_all {H : Hp} {more : List (List Key × V)} {ys : List (List Key × Addr × Value)} (r2 : KT H more ys) : ∀ {kvs : List (List Key × V)} {xs : List (List Key × Addr × Value)}, KT H kvs xs → KT H (updV kvs more) (PySem.storedAllH xs ys) := by
  induction r2 with
  | nil => exact fun r => r
  | @cons p q ps qs h t ih =>
    intro kvs xs r
    obtain ⟨h1, h2, h3⟩ := h
    have := r.put p.1 h2 h3
    rw [h1] at this
    have e := ih (kvs := putK kvs p.1 p.2) (xs := storedH xs q.1 q.2.1 q.2.2) (by rw [h1]; exact this)
    exact e
theorem putK_len (kvs : List (List Key × V)) (k : List Key) (v : V) : (putK kvs k v).length ≤ kvs.length + 1 := by
  unfold putK
  split <;> simp
theorem updV_len : ∀ (more kvs : List (List Key × V)), (updV kvs more).length ≤ kvs.length + more.length
  | [], kvs => Nat.le_refl _
  | p :: more, kvs => by
    have h1 := updV_len more (putK kvs p.1 p.2)
    have h2 := putK_len kvs p.1 p.2
    rw [List.length_cons]
    show (updV (putK kvs p.1 p.2) more).length ≤ _
    omega
theorem pget2 {α β : Type} {R : α → β → Prop} : ∀ {l : List α} {m : List β} {j : Nat} {x : α}, Paired R l m → l[j]? = some x → ∃ y, m[j]? = some y ∧ R x y
  | _, _, _, _, .nil, h => by simp at h
  | _, _, 0, _, .cons r _, h => by
    cases h
    exact ⟨_, rfl, r⟩
  | _, _, j + 1, _, .cons _ t, h => pget2 (j := j) t h
theorem nodup_1 {α : Type} {l : List α} (h : l.length ≤ 1) : l.Nodup := by
  match l, h with
  | [], _ => exact List.nodup_nil
  | [y], _ => exact List.pairwise_singleton _ _
def rUpdT : V → List V → Hp → VK → Prop := fun x xs H Q => ∃ (a b : Addr) (kvs more : List (List Key × V)), x = .ref a ∧ xs = [.ref b] ∧ a ≠ b ∧ H a = some (.dT kvs) ∧ H b = some (.dT more) ∧
  (kvs ≠ [] ∨ more.length ≤ 1) ∧ kvs.length + more.length ≤ sizeLine ∧ Q .non (upd H a (.dT (updV kvs more)))
theorem mt_updT {X : Cx} (hu : X.A.units + 1 < cLine) : MtR X "dict.update" rUpdT := by
  intro pins s σ H x xs v us Q I rx rxs h
  obtain ⟨a, b, kvs, more, rfl, rfl, hab, ha, hb, hap, hsz, q⟩ := h
  cases rx
  obtain ⟨u, rfl, ru⟩ := vals1 rxs
  cases ru
  obtain ⟨z, hd, xs1, rel, dd⟩ := dt_of I.hok ha
  obtain ⟨z2, hd2, xs2, rel2, dd2⟩ := dt_of I.hok hb
  have l1 := Paired.length rel
  have l2 := Paired.length rel2
  have hap2 : xs1 ≠ [] ∨ ((∀ x ∈ xs2, s.TypeIs (.ref x.2.1) "tuple") ∧ (xs2.map fun x => (tupleKind (mixKind X.prog X.w)).hash x.1).Nodup) := by
    rcases hap with h | h
    · left
      intro e
      rw [e] at l1
      exact h (List.length_eq_zero_iff.mp l1)
    · right
      constructor
      · intro x hx
        obtain ⟨j, hj⟩ := List.getElem?_of_mem hx
        have hj2 : j < more.length := by rw [l2]; exact (List.getElem?_eq_some_iff.mp hj).1
        obtain ⟨y, hy, hz⟩ := pget2 rel2 (List.getElem?_eq_getElem hj2)
        rw [hj] at hy
        cases hy
        obtain ⟨o, its, n, o1, o2, _⟩ := key_of I.hok hz.2.1
        exact ⟨o, o1, o2⟩
      · have : (xs2.map fun x => (tupleKind (mixKind X.prog X.w)).hash x.1).length ≤ 1 := by rw [List.length_map]; omega
        exact nodup_1 this
  refine PySem.call_update_dictH (knd := tupleKind (mixKind X.prog X.w)) (tupleKind_room_in1 hu) hab hd2 dd dd2 hap2 (by omega) fun h' dd' _ hs => ?_
  obtain ⟨o, es, ep, hq, h2, h3, h4, _, h5⟩ := dd'
  have I2 : Inv X pins σ (upd H a (.dT (updV kvs more))) { s with heap := h', toks := s.toks } :=
    d_write I (by rw [ha]; exact True.intro) hs ⟨o, hq⟩ ⟨Nat.le_trans (updV_len more kvs) hsz, hd, _, (KT_all rel2 rel).keeps (fun c ys ec => (by rw [upd_ne (ne_of ec ha (fun z => nomatch z))]; exact ec)), o, es, ep, hq, h2, h3, h4, h5⟩
  exact ⟨.non, _, I2, rfl, q⟩
/-- what a dict with tuple keys is behind some more of pairs -/
def updS : List (List Key) × List Sl → List (List Key × D) → List (List Key) × List Sl
  | a, [] => a
  | a, z :: zs => updS (match ixA a.1 z.1 with
    | some j => (a.1, a.2.set j (.pu z.2))
    | none => (a.1 ++ [z.1], a.2 ++ [.pu z.2])) zs
section
variable {K : PySem.W.Frag} {F H : Hp} {s : Ss} {σ : L2.St} {to : TE} {ae ao : AE} {i : Nat} {path : Pth}
theorem updS_ok : ∀ (zs : List (List Key × D)) (ms : List V) (ks : List (List Key)) (ts : List Sl) (vs : List V), DqA K F (zs.map (·.2)) ms → ks.length = ts.length → ks.Nodup → SlOkA K F H ts vs → (fpA ts).Nodup →
    ∃ vs', updV (ks.zip vs) ((zs.map (·.1)).zip ms) = (updS (ks, ts) zs).1.zip vs' ∧ (updS (ks, ts) zs).1.length = (updS (ks, ts) zs).2.length ∧ (updS (ks, ts) zs).1.Nodup ∧ SlOkA K F H (updS (ks, ts) zs).2 vs' ∧ (fpA (updS (ks, ts) zs).2).Nodup ∧ ∀ b ∈ fpA (updS (ks, ts) zs).2, b ∈ fpA ts
  | [], ms, ks, ts, vs, hm, hl, hn, hs, hf => ⟨vs, rfl, hl, hn, hs, hf, fun b h => h⟩
  | z :: zs, ms, ks, ts, vs, hm, hl, hn, hs, hf => by
    rw [List.map_cons] at hm
    unfold DqA at hm
    obtain ⟨m, ms, rfl, hm1, hm2⟩ := hm
    have hlen2 : ks.length = vs.length := by rw [hs.len]; exact hl
    have e2 := putK_ix ks vs z.1 m hlen2 hn
    have eu : updV (ks.zip vs) (((z :: zs).map (·.1)).zip (m :: ms)) = updV (putK (ks.zip vs) z.1 m) ((zs.map (·.1)).zip ms) := rfl
    rw [eu, e2]
    cases ei : ixA ks z.1 with
    | some j =>
      obtain ⟨j1, j2⟩ := ixA_lt ei
      have et : ts[j]? = some (ts[j]'(by omega)) := List.getElem?_eq_getElem _
      obtain ⟨m1, m2⟩ := fpA_set (t' := .pu z.2) hf et (by rw [fp_pu]; exact List.nodup_nil) fun b hb => by
        rw [fp_pu] at hb
        cases hb
      have h := updS_ok zs ms ks (ts.set j (.pu z.2)) (vs.set j m) hm2 (by rw [List.length_set]; exact hl) hn (hs.setG hf et (slok_pu.mpr ⟨m, rfl, hm1⟩) (Same.refl _) (fun b hb u _ f1 f2 => ⟨f1, f2⟩)) m1
      have er : updS (ks, ts) (z :: zs) = updS (ks, ts.set j (.pu z.2)) zs := by
        show updS (match ixA ks z.1 with | some j => _ | none => _) zs = _
        rw [ei]
      rw [er]
      obtain ⟨vs', q1, q2, q3, q4, q5, q6⟩ := h
      refine ⟨vs', q1, q2, q3, q4, q5, fun b hb => ?_⟩
      rcases m2 b (q6 b hb) with y | y
      · rw [fp_pu] at y
        cases y
      · exact y.1
    | none =>
      have h := updS_ok zs ms (ks ++ [z.1]) (ts ++ [.pu z.2]) (vs ++ [m]) hm2 (by simp [hl]) (List.nodup_append.mpr ⟨hn, List.pairwise_singleton _ _, fun a ha b hb y => by
        rw [List.mem_singleton.mp hb] at y
        subst y
        exact ixA_none.mp ei ha⟩) (slokA_snoc hs (slok_pu.mpr ⟨m, rfl, hm1⟩)) (by rw [fpA_app, fpA_cons, fpA_nil, fp_pu]; simpa using hf)
      have er : updS (ks, ts) (z :: zs) = updS (ks ++ [z.1], ts ++ [.pu z.2]) zs := by
        show updS (match ixA ks z.1 with | some j => _ | none => _) zs = _
        rw [ei]
      rw [er]
      obtain ⟨vs', q1, q2, q3, q4, q5, q6⟩ := h
      refine ⟨vs', q1, q2, q3, q4, q5, fun b hb => ?_⟩
      have := q6 b hb
      rw [fpA_app, fpA_cons, fpA_nil, fp_pu] at this
      simpa using this
def aUpdT (i : Nat) (path : Pth) (ab : AE) : AE := fun s P => match plc s i path with
  | some (.nd q (.dt _) _) => ab s fun rb s1 => match rb.d with
    | .dt ks2 ds2 => match plc s1 i path with
      | some (.nd q1 (.dt ks) ts) => q1 = q ∧ (ks ≠ [] ∨ ks2.length ≤ 1) ∧ ks.length + ks2.length ≤ 100000 ∧ P (.pu .non) (setP s1 i path (.nd q (.dt (updS (ks, ts) (ks2.zip ds2)).1) (updS (ks, ts) (ks2.zip ds2)).2))
      | _ => False
    | _ => False
  | _ => False
theorem sim_updT {tb : TE} {ab : AE} (hc : FOk K path) (hb : Sim K tb ab) : Sim K (tBM K "dict" rUpdT (tFlds K (tVar i) path) (tCons tb tNil)) (aUpdT i path ab) := fun s P q σ F H ok Q k => by
  unfold aUpdT at q
  cases e0 : plc s i path with
  | none =>
    rw [e0] at q
    exact q.elim
  | some l0 =>
    rw [e0] at q
    cases l0 with
    | no => exact q.elim
    | pu d => exact q.elim
    | ow p xs => exact q.elim
    | nd q0 kk0 ts0 =>
      cases kk0 <;> first | exact q.elim | skip
      rename_i ks0
      obtain ⟨g1, _, _, g4, _⟩ := (Step.refl ok).placeR e0 rfl hc
      obtain ⟨_, _, _, _, _, vs0, hcell0, _⟩ := slok_nd.mp g1
      refine g4 _ ⟨?_, ?_⟩
      · exact .inr (.inr (.inl ⟨rfl, .inr ⟨_, hcell0⟩⟩))
      refine hb.d q ok fun rb s1 v1 F1 H1 q1 st1 d1 => ?_
      cases e : rb.d <;> simp only [e] at q1
      rename_i ks2 ds2
      rw [e] at d1
      obtain ⟨b, ms, rfl, c1, c2, c3⟩ := d1
      cases e1 : plc s1 i path with
      | none =>
        simp only [e1] at q1
      | some l1 =>
        simp only [e1] at q1
        cases l1 with
        | no => exact q1.elim
        | pu d => exact q1.elim
        | ow p xs => exact q1.elim
        | nd q1' kk1 ts =>
          cases kk1 <;> first | exact q1.elim | skip
          rename_i ks
          simp only at q1
          obtain ⟨rfl, hap, hsz, q1⟩ := q1
          obtain ⟨w1, w2, w3, w4, w5⟩ := st1.placeR e1 rfl hc
          obtain ⟨_, hfq, _, _, hlen, vs, hcell, hts⟩ := slok_nd.mp w1
          rw [fp_nd] at w2
          obtain ⟨n1, n2⟩ := List.nodup_cons.mp w2
          have n2' : (fpA ts).Nodup := by simpa [NK.dxs] using n2
          have n1' : q1' ∉ fpA ts := by simpa [NK.dxs] using n1
          have hlen' : ks.length = ts.length ∧ ks.Nodup := hlen
          have hlen2 : ks.length = vs.length := by rw [hts.len]; exact hlen'.1
          have hz1 : (ks2.zip ds2).map (·.1) = ks2 := List.map_fst_zip (by omega)
          have hz2 : (ks2.zip ds2).map (·.2) = ds2 := List.map_snd_zip (by omega)
          obtain ⟨vs', y1, y2, y3, y4, y5, y6⟩ := updS_ok (K := K) (F := F1) (H := H1) (ks2.zip ds2) ms ks ts vs (by rw [hz2]; exact c3) hlen'.1 hlen'.2 hts n2'
          rw [hz1] at y1
          generalize hU : updS (ks, ts) (ks2.zip ds2) = U at *
          obtain ⟨ks', ts'⟩ := U
          simp only at y1 y2 y3 y4 y5 y6 q1
          have hbq : q1' ≠ b := fun z => by
            rw [z] at hfq
            rw [hfq] at c1
            cases c1
          have hcb := st1.st.le _ _ c1
          have mono : SlOkA K F1 (upd H1 q1' (.dT (ks'.zip vs'))) ts' vs' := SlOkA.mono ts' (Same.refl _) (fun b hb u _ h1 h2 => ⟨h1, by rw [upd_ne fun z => n1' (by rw [← z]; exact y6 b hb)]; exact h2⟩) y4
          have go : Lx K [] (.nd q1' (.dt ks) ts) (.ref q1') F1 H1 (.pu .non) .non (.nd q1' (.dt ks') ts') F1 (upd H1 q1' (.dT (ks'.zip vs'))) := by
            refine ⟨Same.refl _, fun a o ha h _ => ?_, fun a h => ?_, slok_nd.mpr ⟨rfl, hfq, fun b hb => (by cases hb), trivial, ⟨y2, y3⟩, vs', upd_same, mono⟩, ?_, fun a ha => ?_, st1.st.le.write hfq hcell trivial, fun a h => .inl h, slok_pu.mpr ⟨_, rfl, rfl⟩, fun a ha => ?_, by rw [fp_pu]; exact List.nodup_nil⟩
            · rw [upd_ne fun z => ha (by rw [fp_nd, z]; exact List.mem_cons_self)]
              exact h
            · by_cases z : a = q1'
              · subst z
                rw [upd_same] at h
                cases h
              · rwa [upd_ne z] at h
            · rw [fp_nd]
              refine List.nodup_cons.mpr ⟨fun z => n1' (y6 _ (by simpa [NK.dxs] using z)), by simpa [NK.dxs] using y5⟩
            · rw [fp_nd] at ha ⊢
              rcases List.mem_cons.mp ha with z | z
              · exact .inl (by rw [z]; exact List.mem_cons_self)
              · exact .inl (List.mem_cons_of_mem _ (by simpa [NK.dxs] using y6 _ (by simpa [NK.dxs] using z)))
            · rw [fp_pu] at ha
              cases ha
          have hms : ms.length = ds2.length := by rw [← c3.length]
          refine ⟨q1', b, ks.zip vs, ks2.zip ms, rfl, rfl, hbq, hcell, hcb, ?_, ?_, ?_⟩
          · rcases hap with h | h
            · left
              intro z
              have := congrArg List.length z
              rw [List.length_zip, List.length_nil] at this
              have : ks.length = 0 := by omega
              exact h (List.length_eq_zero_iff.mp this)
            · right
              rw [List.length_zip]
              omega
          · rw [List.length_zip, List.length_zip]
            have h1 : min ks.length vs.length + min ks2.length ms.length ≤ 100000 := by omega
            exact Nat.le_trans h1 (show (100000 : Nat) ≤ sizeLine by first | size_fits | decide)
          · rw [y1]
            obtain ⟨st3, rs3⟩ := w5 [] exok_nil _ _ _ _ _ go
            exact k _ _ _ _ _ q1 st3 rs3
end
section
variable {X : Cx} {K : PySem.W.Frag} {i : Nat} {path : Pth} {o e : Expr} {te : TE} {ae : AE} {apos cpos pos : Pos}
theorem s_updT (hK : X.K = K := by rfl) (hu : X.A.units + 64 < cLine) (ho : PE X o (tFlds K (tVar i) path)) (hp : FOk K path) (he : DE X e te ae)
    (hbase : attributeBase o "update" X.env (eval o X.env) = eval o X.env := by rfl)
    (hfew : ((backTo cpos (starEach [e] X.env)).all (fun x => !x.1) && (backToKw cpos (keywordEach [] X.env)).all (fun x => x.1.isSome)
      && decide ([e].length + ([] : List Keyword).length + (if ([] : List Keyword).isEmpty then 0 else 1) < 30)) = true := by rfl)
    (hline : (apos.endLine == cpos.line) = true := by rfl) (hs : starEach [e] X.env = (false, eval e X.env) :: starEach [] X.env := by rfl) (hplain : (backTo cpos (starEach [] X.env)).any (·.1) = false := by rfl)
    (hsw : swapsWith (.Call (.Attribute o "update" apos) [e] [] cpos) none pos.line X.env = pure false := by rfl) :
    DS X (.Expr (.Call (.Attribute o "update" apos) [e] [] cpos) pos) (tDrop (tBM K "dict" rUpdT (tFlds K (tVar i) path) (tCons te tNil))) (aDrop (aUpdT i path ae)) := by
  subst hK
  have ha : PA X [e] (tCons te tNil) := pa_cons he.pe pa_nil hs
  have h : DE X (.Call (.Attribute o "update" apos) [e] [] cpos) (tBM X.K "dict" rUpdT (tFlds X.K (tVar i) path) (tCons te tNil)) (aUpdT i path ae) := ⟨pe_bm PySem.F.plainAttrs_dict PySem.F.slot_dict_update PySem.F.type_dict_update (mt_updT (by omega)) ho ha hbase hfew hline hs hplain, sim_updT hp he.sm⟩
  exact s_expr h hsw
end
section
variable {K : PySem.W.Frag}
def aInTP (i : Nat) (path : Pth) (ak : AA) : AE := fun s P => ak s fun dk s1 => dk.length ≤ 100 ∧ ∃ kk, keysD dk = some kk ∧ match plc s1 i path with
  | some (.nd _ (.dt ks) _) => P (.pu (.bl (ixA ks kk).isSome)) s1
  | _ => False
theorem sim_inTP {i : Nat} {path : Pth} {tka : TA} {aka : AA} (hc : FOk K path) (hk : SimA K tka aka) : Sim K (tDIn (tTup tka) (tFlds K (tVar i) path)) (aInTP i path aka) := fun s P q σ F H ok Q k => by
  refine sim_ktup (P := fun kk s1 => match plc s1 i path with
    | some (.nd _ (.dt ks) _) => P (.pu (.bl (ixA ks kk).isSome)) s1
    | _ => False) hk q ok fun kk s1 b F1 H1 q1 st1 hb => ?_
  cases e : plc s1 i path with
  | none => simp only [e] at q1
  | some l =>
    simp only [e] at q1
    cases l with
    | no => exact q1.elim
    | pu d => exact q1.elim
    | ow _ _ => exact q1.elim
    | nd p kk0 ts =>
      cases kk0 <;> first | exact q1.elim | skip
      rename_i ks
      obtain ⟨k1, _, _, k4, _⟩ := st1.placeR e rfl hc
      obtain ⟨_, _, _, _, hlen, vs, hcell, hts⟩ := slok_nd.mp k1
      have hb2 := st1.st.le _ _ hb
      refine k4 _ ⟨_, _, rfl, DGet.t (k := kk) hcell hb2, ?_⟩
      have hs : (valV (ks.zip vs) kk).isSome = (ixA ks kk).isSome := by
        rw [valV_ix (by rw [hts.len]; exact hlen.1)]
        cases ei : ixA ks kk with
        | none => rfl
        | some j =>
          obtain ⟨j1, _⟩ := ixA_lt ei
          have : j < vs.length := by
            rw [hts.len, ← hlen.1]
            exact j1
          rw [Option.bind_some, List.getElem?_eq_getElem this]
          rfl
      rw [hs]
      exact k _ s1 _ F1 H1 q1 st1 (.pu rfl)
end
section
variable {X : Cx} {K : PySem.W.Frag} {i : Nat} {path : Pth} {eo : Expr} {es : List Expr} {tka : TA} {aka : AA} {x1} {tpos pos : Pos}
theorem d_inTP (hK : X.K = K := by rfl) (hu : X.A.units + 64 < cLine) (hk : DA X es tka aka) (ho : PE X eo (tFlds K (tVar i) path)) (hp : FOk K path) (hm : behindInMarks .In eo = false := by rfl) : DE X (.Compare (.Tuple es x1 tpos) [.In] [eo] pos) (tDIn (tTup tka) (tFlds K (tVar i) path)) (aInTP i path aka) := by
  subst hK
  exact ⟨pe_cmp (pc_din (by omega) (pe_tup hk.pe) ho) hm, sim_inTP hp hk.sm⟩
end
end DL
namespace DL
variable [Tabl]
open PySem L2
section
variable {z : Bool} {K K1 K2 K3 Kb Kc : List TK} {kr k0 ka kb k : TK} {a b : AE} {fa fb : FE} {T T1 T2 : List Nat} {aa : AA} {faa : FA} {i : Nat} {path : Pth}
def updD : List (List Key) × List D → List (List Key × D) → List (List Key) × List D
  | a, [] => a
  | a, z :: zs => updD (match ixA a.1 z.1 with
    | some j => (a.1, a.2.set j z.2)
    | none => (a.1 ++ [z.1], a.2 ++ [z.2])) zs
theorem upd_d : ∀ (zs : List (List Key × D)) (ks : List (List Key)) (ts : List Sl), (updS (ks, ts) zs).1 = (updD (ks, dsA ts) zs).1 ∧ dsA (updS (ks, ts) zs).2 = (updD (ks, dsA ts) zs).2
  | [], ks, ts => ⟨rfl, rfl⟩
  | z :: zs, ks, ts => by
    unfold updS updD
    simp only
    cases ixA ks z.1 with
    | some j =>
      have := upd_d zs ks (ts.set j (.pu z.2))
      rw [dsA_set, Sl.d] at this
      exact this
    | none =>
      have := upd_d zs (ks ++ [z.1]) (ts ++ [.pu z.2])
      rw [dsA_app] at this
      exact this
theorem upd_mem : ∀ (zs : List (List Key × D)) (ks : List (List Key)) (ts : List Sl), ∀ t ∈ (updS (ks, ts) zs).2, t ∈ ts ∨ ∃ d, t = .pu d
  | [], ks, ts, t, h => .inl h
  | z :: zs, ks, ts, t, h => by
    unfold updS at h
    simp only at h
    cases hj : ixA ks z.1 with
    | some j =>
      rw [hj] at h
      rcases upd_mem zs ks (ts.set j (.pu z.2)) t h with y | y
      · rcases List.mem_or_eq_of_mem_set y with y | rfl
        · exact .inl y
        · exact .inr ⟨_, rfl⟩
      · exact .inr y
    | none =>
      rw [hj] at h
      rcases upd_mem zs (ks ++ [z.1]) (ts ++ [.pu z.2]) t h with y | y
      · rcases List.mem_append.mp y with y | y
        · exact .inl y
        · exact .inr ⟨_, List.mem_singleton.mp y⟩
      · exact .inr y
def fUpdT (i : Nat) (path : Pth) (a : FE) : FE := fun e => (a e).bind fun x => (x.2[i]?).bind fun d => (subD d path).bind fun y => match y, x.1 with
  | .dt ks ds, .dt ks2 ds2 => if (ks ≠ [] ∨ ks2.length ≤ 1) ∧ ks.length + ks2.length ≤ 100000 then some (.non, x.2.set i (putD d path (.dt (updD (ks, ds) (ks2.zip ds2)).1 (updD (ks, ds) (ks2.zip ds2)).2))) else none
  | _, _ => none
theorem se_updT {kk : TK} (ha : SE K a fa ka K1 T1) (h0 : K[i]? = some k) (hK1 : K1[i]? = some k) (h2 : subK k path = some (.dt kk)) (hkk : leK .pu kk = true) (hk : k ≠ .ju) (n1 : i ∉ T1) : SE K (aUpdT i path a) (fUpdT i path fa) .pu K1 (T1 ++ [i]) := fun s e x e' m hh P hP => by
  obtain ⟨⟨d1, e1⟩, g1, h'⟩ := ex_bind hh
  clear hh
  obtain ⟨d, g2, hh⟩ := ex_bind h'
  clear h'
  obtain ⟨y, g3, h'⟩ := ex_bind hh
  clear hh
  simp only at g2 g3 h'
  obtain ⟨l, t, y1, y2, y3, y4, y5, y6, y7⟩ := m.plc h0 h2
  have y4' := y4
  unfold Has at y4
  obtain ⟨p, ke, ts, rfl, y8⟩ := y4
  unfold aUpdT
  rw [y2]
  simp only
  refine ha s e _ e1 m g1 _ fun l1 s1 k1 q1 m1 u1 => ?_
  have es : s1[i]? = some l := by rw [u1.t i n1]; exact y1
  have ep : DL.plc s1 i path = some (.nd p (.dt ke) ts) := by
    unfold DL.plc
    rw [es]
    exact y5
  obtain ⟨l3, z1, z2, z3⟩ := m1.ix hK1
  rw [es] at z1
  cases z1
  rw [z3, ev_d hk] at g2
  cases g2
  rw [y7 hk] at g3
  cases g3
  have ed : (Sl.nd p (.dt ke) ts).d = .dt ke (dsA ts) := by rw [Sl.d]; rfl
  rw [ed] at h'
  try simp only at h'
  rw [q1]
  cases d1 <;> first | (cases h'; done) | skip
  rename_i ks2 ds2
  try simp only at h'
  try simp only
  split at h'
  case isFalse => cases h'
  rename_i hc
  cases h'
  rw [ep]
  refine ⟨rfl, hc.1, hc.2, ?_⟩
  obtain ⟨w1, w2⟩ := upd_d (ks2.zip ds2) ke ts
  have hm := upd_mem (ks2.zip ds2) ke ts
  generalize updS (ke, ts) (ks2.zip ds2) = U at w1 w2 hm ⊢
  have hN : Has (.dt kk) (.nd p (.dt U.1) U.2) := by
    unfold Has
    refine ⟨p, _, _, rfl, fun t ht => ?_⟩
    rcases hm t ht with y | ⟨d, rfl⟩
    · exact y8 t y
    · exact le_has _ _ _ hkk (has_pu _)
  obtain ⟨v1, v2, v3⟩ := m1.putP hK1 h2 hk (by simp) es y5 hN rfl
  have eD : (Sl.nd p (.dt U.1) U.2).d = .dt (updD (ke, dsA ts) (ks2.zip ds2)).1 (updD (ke, dsA ts) (ks2.zip ds2)).2 := by
    rw [Sl.d, ← w1, ← w2]
    rfl
  rw [eD] at v1
  exact hP _ _ (has_pu _) (by rw [Sl.d]) v1 (u1.trans ⟨fun b hb => v3 b hb, v2⟩)
def fInTP (i : Nat) (path : Pth) (k : FA) : FE := fun e => (k e).bind fun x => if x.1.length ≤ 100 then (x.2[i]?).bind fun d => (subD d path).bind fun y => match y with
  | .dt ks _ => (keysD x.1).map fun kk => (.bl (ixA ks kk).isSome, x.2)
  | _ => none
  else none
theorem se_inTP {kk : TK} (ha : SA K aa faa K1 T1) (h : K1[i]? = some k) (h2 : subK k path = some (.dt kk)) (hk : k ≠ .ju) : SE K (aInTP i path aa) (fInTP i path faa) .pu K1 T1 := fun s e x e' m hh P hP => by
  obtain ⟨⟨d1, e1⟩, h1, h'⟩ := ex_bind hh
  clear hh
  simp only at h'
  split at h'
  case isFalse => cases h'
  rename_i hlen
  obtain ⟨d, h3, hh⟩ := ex_bind h'
  clear h'
  obtain ⟨y, h4, h'⟩ := ex_bind hh
  clear hh
  refine ha s e _ e1 m h1 _ fun s1 m1 u1 => ?_
  obtain ⟨l, t, y1, y2, y3, y4, y5, y6, y7⟩ := m1.plc h h2
  rw [y6, ev_d hk] at h3
  cases h3
  rw [y7 hk] at h4
  cases h4
  unfold Has at y4
  obtain ⟨p, ke, ts, rfl, y8⟩ := y4
  have ed : (Sl.nd p (.dt ke) ts).d = .dt ke (dsA ts) := by rw [Sl.d]; rfl
  rw [ed] at h'
  rw [y2]
  obtain ⟨kx, h6, h7⟩ := ex_map h'
  cases h7
  exact ⟨hlen, kx, h6, hP _ _ (has_pu _) (by rw [Sl.d]) m1 u1⟩
end
end DL
open PySem L2 DL TL FB
local macro_rules
  | `(tactic| walk_at $s:str) => do
    let hs := ((s.getString.splitOn " ").filter fun x => x != "")
    let us := hs.filter fun x => x.front != '@'
    let ls ← us.toArray.mapM fun h => `(Lean.Parser.Tactic.simpLemma| $(Lean.mkIdent h.toName):term)
    `(tactic| simp (config := { maxSteps := 1000000 }) (disch := first | assumption | omega | (simp only [List.length_map, List.length_append, List.length_cons, List.length_nil, List.length_replicate]; omega)) only [u1_some, pr_some, pr_ite, w_var, w_c, mv1_some, w_mov, op1_some, op2_some, op1_ite, op2_ite, w_op, hNeg_int, hNot_bl, w_neg, w_notV, an1_bl, or1_bl, w_andV, w_orV, an1_ite, or1_ite, ch1_some, ch2_some, ch3_bl, w_chain, hTest_bl, w_test, u1_ite, ta1_some, to1_some, ta1_ite, to1_ite, w_tand, w_tor, hNotB_eq, w_not, w_yes, if0_some, if0_ite, w_if, w_isi, w_nil, co1_some, co2_some, co1_ite, co2_ite, w_cons, sr2_some, sr1_t, sr1_l, w_star, hTup_nil, hTup_1, hTup_2, hTup_3, hTup_4, hTup_5, hLst_nil, hLst_1, hLst_2, hLst_3, hLst_4, hLst_5, hLst_6, hTup_eq, hLst_eq, w_tup, w_lst, w_call, w_noP, hPart_int, w_part, sl1_some, sl2_some, sl3_some, hSlL_l, hSlL_s, hSlT_t, w_slL, w_slT, hRevL_l, w_revL, m11_str, m12_some, w_m1, io1_int, io2_lst, w_ixO, bo1_some, bo2_int, bo2_bl, w_bor, ib1_some, w_inB, w_popAt, w_lr1, w_lr2, hLr1_eq, hLsT_eq, hLsL_eq, w_lsT, w_lsL, cm2_some, w_callM, ct2_some, ct0_some, w_callT, gFn_1, gFn_2, gFn_3, gFn_4, gFn_5, gFn_6, w_callK, ck1_1, ck1_2, ck1_2', hItL_l, hItL_s, hItT_t, hItS_s, w_itL, w_itT, w_itS, hRng1_nat, hRng1_eq, hRng2_eq, w_rng1, w_rng2, hEnT_t, hEnL_l, w_enT, w_enL, gZip_tt, gZip_ll, w_zip, hZipX_tl, hZipX_lt, w_zipX, w_name, w_gnil, gc1_some, w_gcons, w_gtup, lc2_some, lc1_some, w_lc, scr_nil, scr_cons, sq_nx, sq_rt, sq_bk, sq_ct, sq_er, sq_ite, w_seq, wk1_nx, wk1_rt, wk1_bk, wk1_ct, wk1_er, wk1_ite, w_wk, w_next, w_nev, w_brk, w_cnt, w_retN, rt1_some, dr1_some, se1_some, rt1_ite, se1_ite, w_ret, w_drop, w_set, if1_some, if1_ite, w_ifS, nx1_some, as1_some, w_asg, w_to, pa1_some, pa2_some, w_par, pb1_some, pb2_some, pb3_some, w_par3, ag1_some, ag2_some, w_aug, ap1_some, ap2_lst, w_app, et1_lst, et2_lst, w_ext, pt1_some, pt2_int, w_put, fo1_some, w_for, forD_nil, rd1_rt, rd1_nx, rd1_ite, w_tn, tn1_some, tn2_nx, tn2_ct, tn2_bk, tn2_rt, tn2_ite, w_ltn, lt1_some, lt2_some, lt2_ite, lt3_some, lt3_ite, lcD_nil, gI_ii, gB_ii, gMul_l, gMul_r, gMul_n, gDiv_p, gDivW_p, gMod_p, gEq_ii, gEq_ss, gEq_bb, gIsN_non, gIsN_int, gIsN_tup, gIsN_lst, gIsN_str, gIsN_bl, gIx_t, gIx_l, gIx_s, gCatL_ll, gCatT_tt, gMulT_ti, gIsB_bb, gI1_i, gI2_ii, gInt_i, gInt_b, gLen_t, gLen_l, gLen_s, gList_t, gList_l, gTupl_t, gTupl_l, gBls_l, gInts_l, gIntsT_t, nSum_eq, gSortI_l, gSortTI_t, gStrI_i, hIsi_int_int, hIsi_bool_int, hIsi_int_bl, hIsi_bool_bl, hIsi_tup_tup, hIsi_str_str, hIsi_lst_lst,
      fl2_gate, fl2_gate2, up2_gate, xp1_some, xp2_some, xp3_lst, w_appP, up1_some, up3_int, up4_int, w_augP, pk3_p, pk4_int, qb1_some, qb2_some, w_borP, qk1_some, qk2_some, qk3_some, w_inKP, qo1_some, qo2_some, w_opB, fb1_some, w_bHere, fb2_some, fb3_some, w_bCons, qc1_some, qc2_some, w_callBo, mp1_some, mp2_some, mp3_0, mp3_1, mp3_2, mp4_some, w_methP, w_propP, w_perm, pm1_1, pm1_2, pm1_3, pm1_4, gs_word, gs_most, gs_size, gs_slot, gs_packets, gs_leaves, gs_last, gp_packets, gp_leaves, w_enZip, hEnZip_tl, hEnZip_lt, hEnZip_tt, hEnZip_ll, gt1_some, w_get, w_fldD, w_propD, hProp_eq, mk2_some, mk1_0, mk1_1, mk1_2, mk1_3, w_make, gd1_some, gd2_some, gd4_int, gd5_none, gd5_some, w_getD, ik1_dk, ik2_int, ik3_some, w_ixK, nk1_some, nk2_int, w_inK, go1_some, go2_some, go3_nil, w_getO, pk1_some, pk2_some, pk3_nil, w_putO, fl1_some, fl2_ins, w_fld, subD_nil, putD_nil, pg1_2, pg1_3, pg1_4, w_parG, cm1_some, cm3_1, cm3_2, cm3_3, cm3_4, cm3_5, ct1_1, ct1_2, ct1_3, ge_0, ge_s, sz_0, sz_s, ap_c, ap_n, List.append_nil, List.replicate, Nat.reduceSub, Nat.reduceAdd, Nat.zero_add, at2_0, at2_1, at3_0, at3_1, at3_2, List.length_cons, List.length_nil, List.length_map, List.length_replicate, if_tt, if_ff, if_not, not_tt, not_ff, dec_t, if_true, if_false, ite_true, ite_false, reduceIte, Bool.false_eq_true, true_and, and_true, Bool.not_true, Bool.not_false, ci_0, ci_1, ci_2, ci_3, ci_4, ci_5, ci_6, ci_7, ci_8, eq_self, Int.reduceLT, Int.reduceLE, Int.reduceEq, Int.toNat_natCast, decide_true, decide_false, not_true_eq_false, not_false_eq_true, $ls,*])
namespace K16
open PySem L2 DL TL FB
-- is_integer: library
-- gap_of: library
abbrev A__law_pot : AS := FB.A__law_pot 1241 563 74561 8247 533
abbrev F__law_pot := FB.F__law_pot 1241 563 74561 8247 533
abbrev S__law_pot := FB.S__law_pot 1241 563 74561 8247 533
theorem law__law_pot : ∀ ds Q, ds.length = 2 → S__law_pot ds Q → A__law_pot (endsD Q) (startS 5 (ds.map .pu)) := FB.law__law_pot 1241 563 74561 8247 533
abbrev A__law_take : AS := FB.A__law_take 98257 431 10009 89
abbrev F__law_take := FB.F__law_take 98257 431 10009 89
abbrev S__law_take := FB.S__law_take 98257 431 10009 89
theorem law__law_take : ∀ xs ds Q p, ds.length + 1 = 2 → S__law_take xs ds Q → A__law_take (endsM Q p) (startS 5 (.ow p xs :: ds.map .pu)) := FB.law__law_take 98257 431 10009 89
-- _law_cells: library
-- _law_is_int: library
-- _law_can_be: library
-- _law_slot_values: library
abbrev A__law_pairs_in : AS := (aSeq (aSet 1 aDicT)
  (aSeq (aFor (aItEnL (aCons (aVar 0) aNil)) (agTup (agCons (agName 2) (agCons (agTup (agCons (agName 3) (agCons (agName 4) agNil))) agNil))) (aFor (aItL (aSlL (aVar 0) (aPart (aAdd (aVar 2) (aC (.int 1)))) aNoP)) (agTup (agCons (agName 5) (agCons (agName 6) agNil))) (aPutT 1 [] (aC (.bl true)) (aCons (aCall aInt (aCons (aVar 4) aNil)) (aCons (aCall aInt (aCons (aVar 6) aNil)) (aCons (aCall aInt (aCons (aSub (aVar 5) (aVar 3)) aNil)) aNil))))))
  (aRet (aVar 1))))
abbrev L1__law_pairs_in : FS := (fWk [5, 6] (fPutT 1 [] (fC (.bl true)) (fCons (fCall gInt (fCons (fVar 4) fNil)) (fCons (fCall gInt (fCons (fVar 6) fNil)) (fCons (fCall gInt (fCons (fOp gSub (fVar 5) (fVar 3)) fNil)) fNil)))))
abbrev L2__law_pairs_in : FS := (fWk [2, 3, 4] (fFor (fItL (fSlL (fVar 0) (fPart (fOp gAdd (fVar 2) (fC (.int 1)))) fNoP)) [] (gTup (gCons (gName 5) (gCons (gName 6) gNil))) L1__law_pairs_in))
abbrev B__law_pairs_in : FS := (fSeq (fSet 1 (fC (.dt [] [])))
  (fSeq (fFor (fItEnL (fCons (fVar 0) fNil)) [] (gTup (gCons (gName 2) (gCons (gTup (gCons (gName 3) (gCons (gName 4) gNil))) gNil))) L2__law_pairs_in)
  (fRet (fVar 1))))
theorem ss__law_pairs_in : SS false (K0D 1 7) A__law_pairs_in B__law_pairs_in [] [] [] .pu .ju :=
  (ss_seq (ss_set (se_dicT (k := .pu)) (by simp) (.inr rfl))
  (ss_seq (ss_for (J := []) [.pu, (.dt .pu), .ju, .ju, .ju, .ju, .ju] (si_enL (sa_cons (se_var rfl) sa_nil)) rfl (sg_tup (sgs_cons (sg_name (k0 := .ju) rfl) (sgs_cons (sg_tup (sgs_cons (sg_name (k0 := .ju) rfl) (sgs_cons (sg_name (k0 := .ju) rfl) sgs_nil))) sgs_nil))) (ss_wk (K1 := [.pu, (.dt .pu), .pu, .pu, .pu, .ju, .ju]) (Kn := [.pu, (.dt .pu), .ju, .ju, .ju, .ju, .ju]) [2, 3, 4] (ss_for (J := []) [.pu, (.dt .pu), .pu, .pu, .pu, .ju, .ju] (si_l (se_slL (se_var rfl) (so_part (se_op v_i (se_var rfl) se_c)) so_no)) rfl (sg_tup (sgs_cons (sg_name (k0 := .ju) rfl) (sgs_cons (sg_name (k0 := .ju) rfl) sgs_nil))) (ss_wk (K1 := [.pu, (.dt .pu), .pu, .pu, .pu, .pu, .pu]) (Kn := [.pu, (.dt .pu), .pu, .pu, .pu, .ju, .ju]) [5, 6] (ss_putT (k := (.dt .pu)) rfl rfl (by simp) rfl se_c (sa_cons (se_call vc_int (sa_cons (se_var rfl) sa_nil)) (sa_cons (se_call vc_int (sa_cons (se_var rfl) sa_nil)) (sa_cons (se_call vc_int (sa_cons (se_op v_i (se_var rfl) (se_var rfl)) sa_nil)) sa_nil))) rfl (by decide)) rfl)) rfl))
  (ss_ret (se_frz (k := (.dt .pu)) rfl) rfl (.inl rfl))))
def F__law_pairs_in : List D → Option D := runD 1 7 B__law_pairs_in
abbrev S__law_pairs_in : ARC := lowD .pu F__law_pairs_in
theorem law__law_pairs_in : ∀ ds Q, ds.length = 1 → S__law_pairs_in ds Q → A__law_pairs_in (endsD Q) (startS 7 (ds.map .pu)) := lawD ss__law_pairs_in rfl
-- is_within: library
-- is_possible: library
abbrev A__law_of : AS := FB.A__law_of F__law_take
abbrev F__law_of := FB.F__law_of F__law_take
abbrev S__law_of := FB.S__law_of F__law_take
theorem law__law_of : ∀ xs ds Q p, ds.length + 1 = 2 → S__law_of xs ds Q → A__law_of (endsM Q p) (startS 2 (.ow p xs :: ds.map .pu)) := FB.law__law_of F__law_take
-- _law_slot_delays: library
-- is_service: library
-- check_size: library
-- check_pair: library
-- _law_can_stand: library
-- _law_packets: library
abbrev A__law_small_world : AS := (aSeq (aPar 1 2 (aCallM 2 0 S__law_of (aCons (aLst (aCons (aC (.str "queue")) (aCons (aC (.str "queue")) (aCons (aC (.str "order")) (aCons (aC (.str "any")) aNil))))) aNil)) (aAdd (aC (.int 1)) (aCallM 2 0 S__law_take (aCons (aC (.int 4)) aNil))))
  (aSeq (aIfS (aTest (aOp aEq (aVar 1) (aC (.str "queue")))) (aSeq (aSet 3 (aAdd (aC (.int 1)) (aCallM 2 0 S__law_take (aCons (aIf (aTest (aOp aEq (aVar 2) (aC (.int 2)))) (aC (.int 2)) (aC (.int 3))) aNil))))
  (aSeq (aSet 4 (aIf (aTest (aOp aEq (aVar 2) (aC (.int 1)))) (aC (.int 0)) (aDiv (aSub (aAdd (aVar 3) (aVar 2)) (aC (.int 2))) (aSub (aVar 2) (aC (.int 1))))))
  (aRet (aTup (aCons (aTup (aCons (aVar 1) (aCons (aCall aInt (aCons (aVar 2) aNil)) aNil))) (aCons (aCall aInt (aCons (aVar 3) aNil)) (aCons (aCall aInt (aCons (aAdd (aVar 4) (aC (.int 2))) aNil)) (aCons (aC (.int 1)) aNil)))))))) aNext)
  (aSeq (aIfS (aTest (aOp aGt (aVar 2) (aC (.int 2)))) (aRet (aTup (aCons (aTup (aCons (aVar 1) (aCons (aCall aInt (aCons (aVar 2) aNil)) aNil))) (aCons (aAdd (aC (.int 1)) (aCallM 2 0 S__law_take (aCons (aC (.int 3)) aNil))) (aCons (aC (.int 1)) (aCons (aC (.int 0)) aNil)))))) aNext)
  (aRet (aTup (aCons (aTup (aCons (aVar 1) (aCons (aCall aInt (aCons (aVar 2) aNil)) aNil))) (aCons (aAdd (aC (.int 1)) (aCallM 2 0 S__law_take (aCons (aIf (aTest (aOp aEq (aVar 2) (aC (.int 1)))) (aC (.int 3)) (aC (.int 2))) aNil))) (aCons (aC (.int 2)) (aCons (aC (.int 1)) aNil)))))))))
abbrev B__law_small_world : FS := (fSeq (fPar 1 2 (fCallM 2 0 F__law_of (fCons (fLst (fCons (fC (.str "queue")) (fCons (fC (.str "queue")) (fCons (fC (.str "order")) (fCons (fC (.str "any")) fNil))))) fNil)) (fOp gAdd (fC (.int 1)) (fCallM 2 0 F__law_take (fCons (fC (.int 4)) fNil))))
  (fSeq (fIfS (fTest (fOp (gEq false) (fVar 1) (fC (.str "queue")))) (fSeq (fSet 3 (fOp gAdd (fC (.int 1)) (fCallM 2 0 F__law_take (fCons (fIf (fTest (fOp (gEq false) (fVar 2) (fC (.int 2)))) (fC (.int 2)) (fC (.int 3))) fNil))))
  (fSeq (fSet 4 (fIf (fTest (fOp (gEq false) (fVar 2) (fC (.int 1)))) (fC (.int 0)) (fOp gDiv (fOp gSub (fOp gAdd (fVar 3) (fVar 2)) (fC (.int 2))) (fOp gSub (fVar 2) (fC (.int 1))))))
  (fRet (fTup (fCons (fTup (fCons (fVar 1) (fCons (fCall gInt (fCons (fVar 2) fNil)) fNil))) (fCons (fCall gInt (fCons (fVar 3) fNil)) (fCons (fCall gInt (fCons (fOp gAdd (fVar 4) (fC (.int 2))) fNil)) (fCons (fC (.int 1)) fNil)))))))) fNext)
  (fSeq (fIfS (fTest (fOp gGt (fVar 2) (fC (.int 2)))) (fRet (fTup (fCons (fTup (fCons (fVar 1) (fCons (fCall gInt (fCons (fVar 2) fNil)) fNil))) (fCons (fOp gAdd (fC (.int 1)) (fCallM 2 0 F__law_take (fCons (fC (.int 3)) fNil))) (fCons (fC (.int 1)) (fCons (fC (.int 0)) fNil)))))) fNext)
  (fRet (fTup (fCons (fTup (fCons (fVar 1) (fCons (fCall gInt (fCons (fVar 2) fNil)) fNil))) (fCons (fOp gAdd (fC (.int 1)) (fCallM 2 0 F__law_take (fCons (fIf (fTest (fOp (gEq false) (fVar 2) (fC (.int 1)))) (fC (.int 3)) (fC (.int 2))) fNil))) (fCons (fC (.int 2)) (fCons (fC (.int 1)) fNil)))))))))
theorem ss__law_small_world : SS true (K0M .ow 1 5) A__law_small_world B__law_small_world [] [] [] .pu .ow :=
  (ss_seq (ss_par (se_callM rfl rfl (sa_cons (se_lst (sa_cons se_c (sa_cons se_c (sa_cons se_c (sa_cons se_c sa_nil))))) sa_nil)) (se_op v_i se_c (se_callM rfl rfl (sa_cons se_c sa_nil))) (by simp) (by simp) (.inl (by decide)))
  (ss_seq (ss_if (Kn := [.ow, .pu, .pu, .ju, .ju]) (st_test (se_op v_eq (se_var rfl) se_c)) (ss_seq (ss_set (se_op v_i se_c (se_callM rfl rfl (sa_cons (se_if (st_test (se_op v_eq (se_var rfl) se_c)) se_c se_c) sa_nil))) (by simp) (.inl (by decide)))
  (ss_seq (ss_set (se_if (st_test (se_op v_eq (se_var rfl) se_c)) se_c (se_op v_ic (se_op v_i (se_op v_i (se_var rfl) (se_var rfl)) se_c) (se_op v_i (se_var rfl) se_c))) (by simp) (.inl (by decide)))
  (ss_ret (se_tup (sa_cons (se_tup (sa_cons (se_var rfl) (sa_cons (se_call vc_int (sa_cons (se_var rfl) sa_nil)) sa_nil))) (sa_cons (se_call vc_int (sa_cons (se_var rfl) sa_nil)) (sa_cons (se_call vc_int (sa_cons (se_op v_i (se_var rfl) se_c) sa_nil)) (sa_cons se_c sa_nil))))) rfl (.inr ⟨_, rfl, rfl, by simp⟩)))) ss_next)
  (ss_seq (ss_if (Kn := [.ow, .pu, .pu, .ju, .ju]) (st_test (se_op v_b (se_var rfl) se_c)) (ss_ret (se_tup (sa_cons (se_tup (sa_cons (se_var rfl) (sa_cons (se_call vc_int (sa_cons (se_var rfl) sa_nil)) sa_nil))) (sa_cons (se_op v_i se_c (se_callM rfl rfl (sa_cons se_c sa_nil))) (sa_cons se_c (sa_cons se_c sa_nil))))) rfl (.inr ⟨_, rfl, rfl, by simp⟩)) ss_next)
  (ss_ret (se_tup (sa_cons (se_tup (sa_cons (se_var rfl) (sa_cons (se_call vc_int (sa_cons (se_var rfl) sa_nil)) sa_nil))) (sa_cons (se_op v_i se_c (se_callM rfl rfl (sa_cons (se_if (st_test (se_op v_eq (se_var rfl) se_c)) se_c se_c) sa_nil))) (sa_cons se_c (sa_cons se_c sa_nil))))) rfl (.inr ⟨_, rfl, rfl, by simp⟩)))))
def F__law_small_world : List D → Option (D × D) := runMR 1 5 B__law_small_world
abbrev S__law_small_world : ARM := lowM .pu F__law_small_world
theorem law__law_small_world : ∀ xs ds Q p, ds.length + 1 = 1 → S__law_small_world xs ds Q → A__law_small_world (endsM Q p) (startS 5 (.ow p xs :: ds.map .pu)) := lawMR ss__law_small_world
-- check_service: library
-- _law_all_scripts: library
abbrev A_can_be : AS := (aSeq (aDrop (aCall (aFn 1 S_check_service) (aCons (aVar 0) aNil)))
  (aSeq (aDrop (aCall (aFn 1 S_check_size) (aCons (aVar 1) aNil)))
  (aSeq (aDrop (aCall (aFn 2 S_check_pair) (aCons (aVar 2) (aCons (aVar 1) aNil))))
  (aRet (aCall (aFn 2 S_is_possible) (aCons (aVar 0) (aCons (aVar 2) aNil)))))))
abbrev B_can_be : FS := (fSeq (fDrop (fCall (gFn 1 F_check_service) (fCons (fVar 0) fNil)))
  (fSeq (fDrop (fCall (gFn 1 F_check_size) (fCons (fVar 1) fNil)))
  (fSeq (fDrop (fCall (gFn 2 F_check_pair) (fCons (fVar 2) (fCons (fVar 1) fNil))))
  (fRet (fCall (gFn 2 F_is_possible) (fCons (fVar 0) (fCons (fVar 2) fNil)))))))
theorem ss_can_be : SS false (K0D 3 3) A_can_be B_can_be [] [] [] .pu .ju :=
  (ss_seq (ss_drop (se_call vc_fn (sa_cons (se_var rfl) sa_nil)))
  (ss_seq (ss_drop (se_call vc_fn (sa_cons (se_var rfl) sa_nil)))
  (ss_seq (ss_drop (se_call vc_fn (sa_cons (se_var rfl) (sa_cons (se_var rfl) sa_nil))))
  (ss_ret (se_call vc_fn (sa_cons (se_var rfl) (sa_cons (se_var rfl) sa_nil))) rfl (.inl rfl)))))
def F_can_be : List D → Option D := runD 3 3 B_can_be
abbrev S_can_be : ARC := lowD .pu F_can_be
theorem law_can_be : ∀ ds Q, ds.length = 3 → S_can_be ds Q → A_can_be (endsD Q) (startS 3 (ds.map .pu)) := lawD ss_can_be rfl
abbrev A__law_right : AS := (aSeq (aFor (aRng1 (aCons (aC (.int 3)) aNil)) (agName 1) (aSeq (aAsg (aCallM 1 0 S__law_small_world aNil) (agTup (agCons (agName 2) (agCons (agName 3) (agCons (agName 4) (agCons (agName 5) agNil))))))
  (aSeq (aSet 6 aDicT)
  (aSeq (aFor (aItL (aCall (aFn 3 S__law_all_scripts) (aCons (aVar 2) (aCons (aVar 3) (aCons (aVar 4) aNil))))) (agName 7) (aDrop (aUpdT 6 [] (aCall (aFn 1 S__law_pairs_in) (aCons (aCall (aFn 2 S__law_packets) (aCons (aVar 2) (aCons (aVar 7) aNil))) aNil)))))
  (aSeq (aFor (aRng1 (aCons (aAdd (aVar 3) (aC (.int 1))) aNil)) (agName 8) (aFor (aRng1 (aCons (aAdd (aVar 3) (aC (.int 1))) aNil)) (agName 9) (aFor (aRng1 (aCons (aAdd (aVar 5) (aC (.int 1))) aNil)) (agName 10) (aIfS (aTest (aOp aNe (aCall aRepr (aCons (aCall (aFn 3 S_can_be) (aCons (aVar 2) (aCons (aCall aInt (aCons (aVar 3) aNil)) (aCons (aTup (aCons (aVar 8) (aCons (aVar 9) (aCons (aVar 10) aNil)))) aNil)))) aNil)) (aCall aRepr (aCons (aInTP 6 [] (aCons (aVar 8) (aCons (aVar 9) (aCons (aVar 10) aNil)))) aNil)))) (aRet (aC (.bl false))) aNext))))
  (aSeq (aSet 3 (aCall aInt (aCons (aAdd (aVar 3) (aCallM 2 0 S__law_take (aCons (aC (.int 60)) aNil))) aNil)))
  (aFor (aRng1 (aCons (aC (.int 12)) aNil)) (agName 11) (aSeq (aPar 8 9 (aCallM 2 0 S__law_take (aCons (aAdd (aVar 3) (aC (.int 1))) aNil)) (aCallM 2 0 S__law_take (aCons (aAdd (aVar 3) (aC (.int 1))) aNil)))
  (aSeq (aSet 12 (aCall (aI2 maxI) (aCons (aC (.int 0)) (aCons (aSub (aAdd (aSub (aVar 8) (aVar 9)) (aCallM 2 0 S__law_take (aCons (aC (.int 7)) aNil))) (aC (.int 3))) aNil))))
  (aSeq (aSet 10 (aCall (aI2 minI) (aCons (aC (.int 400)) (aCons (aCall aInt (aCons (aCallM 2 0 S__law_of (aCons (aLst (aCons (aVar 12) (aCons (aVar 12) (aCons (aCallM 2 0 S__law_take (aCons (aAdd (aVar 3) (aC (.int 2))) aNil)) (aCons (aC (.int 400)) (aCons (aC (.int 0)) aNil)))))) aNil)) aNil)) aNil))))
  (aSeq (aSet 13 (aCall (aFn 3 S__law_can_be) (aCons (aVar 2) (aCons (aVar 3) (aCons (aTup (aCons (aVar 8) (aCons (aVar 9) (aCons (aVar 10) aNil)))) aNil)))))
  (aIfS (aTest (aOp aNe (aCall aRepr (aCons (aCallK 3 3 [1, 2, 0] S_can_be (aCons (aTup (aCons (aCall aInt (aCons (aVar 8) aNil)) (aCons (aCall aInt (aCons (aVar 9) aNil)) (aCons (aVar 10) aNil)))) (aCons (aVar 2) (aCons (aVar 3) aNil)))) aNil)) (aCall aRepr (aCons (aVar 13) aNil)))) (aRet (aC (.bl false))) aNext))))))))))))
  (aRet (aC (.bl true))))
abbrev L1__law_right : FS := (fWk [7] (fDrop (fUpdT 6 [] (fCall (gFn 1 F__law_pairs_in) (fCons (fCall (gFn 2 F__law_packets) (fCons (fVar 2) (fCons (fVar 7) fNil))) fNil)))))
abbrev L2__law_right : FS := (fWk [10] (fIfS (fTest (fOp (gEq true) (fCall gRepr (fCons (fCall (gFn 3 F_can_be) (fCons (fVar 2) (fCons (fCall gInt (fCons (fVar 3) fNil)) (fCons (fTup (fCons (fVar 8) (fCons (fVar 9) (fCons (fVar 10) fNil)))) fNil)))) fNil)) (fCall gRepr (fCons (fInTP 6 [] (fCons (fVar 8) (fCons (fVar 9) (fCons (fVar 10) fNil)))) fNil)))) (fRet (fC (.bl false))) fNext))
abbrev L3__law_right : FS := (fWk [9] (fFor (fRng1 (fCons (fOp gAdd (fVar 5) (fC (.int 1))) fNil)) [] (gName 10) L2__law_right))
abbrev L4__law_right : FS := (fWk [8] (fFor (fRng1 (fCons (fOp gAdd (fVar 3) (fC (.int 1))) fNil)) [] (gName 9) L3__law_right))
abbrev L5__law_right : FS := (fWk [8, 9, 10, 11, 12, 13] (fSeq (fPar 8 9 (fCallM 2 0 F__law_take (fCons (fOp gAdd (fVar 3) (fC (.int 1))) fNil)) (fCallM 2 0 F__law_take (fCons (fOp gAdd (fVar 3) (fC (.int 1))) fNil)))
  (fSeq (fSet 12 (fCall (gI2 maxI) (fCons (fC (.int 0)) (fCons (fOp gSub (fOp gAdd (fOp gSub (fVar 8) (fVar 9)) (fCallM 2 0 F__law_take (fCons (fC (.int 7)) fNil))) (fC (.int 3))) fNil))))
  (fSeq (fSet 10 (fCall (gI2 minI) (fCons (fC (.int 400)) (fCons (fCall gInt (fCons (fCallM 2 0 F__law_of (fCons (fLst (fCons (fVar 12) (fCons (fVar 12) (fCons (fCallM 2 0 F__law_take (fCons (fOp gAdd (fVar 3) (fC (.int 2))) fNil)) (fCons (fC (.int 400)) (fCons (fC (.int 0)) fNil)))))) fNil)) fNil)) fNil))))
  (fSeq (fSet 13 (fCall (gFn 3 F__law_can_be) (fCons (fVar 2) (fCons (fVar 3) (fCons (fTup (fCons (fVar 8) (fCons (fVar 9) (fCons (fVar 10) fNil)))) fNil)))))
  (fIfS (fTest (fOp (gEq true) (fCall gRepr (fCons (fCallK 3 3 [1, 2, 0] F_can_be (fCons (fTup (fCons (fCall gInt (fCons (fVar 8) fNil)) (fCons (fCall gInt (fCons (fVar 9) fNil)) (fCons (fVar 10) fNil)))) (fCons (fVar 2) (fCons (fVar 3) fNil)))) fNil)) (fCall gRepr (fCons (fVar 13) fNil)))) (fRet (fC (.bl false))) fNext))))))
abbrev L6__law_right : FS := (fWk [1, 2, 3, 4, 5, 6] (fSeq (fAsg (fCallM 1 0 F__law_small_world fNil) (gTup (gCons (gName 2) (gCons (gName 3) (gCons (gName 4) (gCons (gName 5) gNil))))))
  (fSeq (fSet 6 (fC (.dt [] [])))
  (fSeq (fFor (fItL (fCall (gFn 3 F__law_all_scripts) (fCons (fVar 2) (fCons (fVar 3) (fCons (fVar 4) fNil))))) [] (gName 7) L1__law_right)
  (fSeq (fFor (fRng1 (fCons (fOp gAdd (fVar 3) (fC (.int 1))) fNil)) [] (gName 8) L4__law_right)
  (fSeq (fSet 3 (fCall gInt (fCons (fOp gAdd (fVar 3) (fCallM 2 0 F__law_take (fCons (fC (.int 60)) fNil))) fNil)))
  (fFor (fRng1 (fCons (fC (.int 12)) fNil)) [] (gName 11) L5__law_right)))))))
abbrev B__law_right : FS := (fSeq (fFor (fRng1 (fCons (fC (.int 3)) fNil)) [] (gName 1) L6__law_right)
  (fRet (fC (.bl true))))
theorem ss__law_right : SS true (K0M .ow 1 14) A__law_right B__law_right [] [] [] .pu .ow :=
  (ss_seq (ss_for (J := []) [.ow, .ju, .ju, .ju, .ju, .ju, .ju, .ju, .ju, .ju, .ju, .ju, .ju, .ju] (si_rng1 (sa_cons se_c sa_nil)) rfl (sg_name (k0 := .ju) rfl) (ss_wk (K1 := [.ow, .pu, .pu, .pu, .pu, .pu, (.dt .pu), .ju, .ju, .ju, .ju, .ju, .ju, .ju]) (Kn := [.ow, .ju, .ju, .ju, .ju, .ju, .ju, .ju, .ju, .ju, .ju, .ju, .ju, .ju]) [1, 2, 3, 4, 5, 6] (ss_seq (ss_asg (se_callM rfl rfl sa_nil) (sg_tup (sgs_cons (sg_name (k0 := .ju) rfl) (sgs_cons (sg_name (k0 := .ju) rfl) (sgs_cons (sg_name (k0 := .ju) rfl) (sgs_cons (sg_name (k0 := .ju) rfl) sgs_nil))))))
  (ss_seq (ss_set (se_dicT (k := .pu)) (by simp) (.inl (by decide)))
  (ss_seq (ss_for (J := []) [.ow, .pu, .pu, .pu, .pu, .pu, (.dt .pu), .ju, .ju, .ju, .ju, .ju, .ju, .ju] (si_l (se_call vc_fn (sa_cons (se_var rfl) (sa_cons (se_var rfl) (sa_cons (se_var rfl) sa_nil))))) rfl (sg_name (k0 := .ju) rfl) (ss_wk (K1 := [.ow, .pu, .pu, .pu, .pu, .pu, (.dt .pu), .pu, .ju, .ju, .ju, .ju, .ju, .ju]) (Kn := [.ow, .pu, .pu, .pu, .pu, .pu, (.dt .pu), .ju, .ju, .ju, .ju, .ju, .ju, .ju]) [7] (ss_drop (se_updT (k := (.dt .pu)) (se_call vc_fn (sa_cons (se_call vc_fn (sa_cons (se_var rfl) (sa_cons (se_var rfl) sa_nil))) sa_nil)) rfl rfl rfl rfl (by simp) (by decide))) rfl))
  (ss_seq (ss_for (J := []) [.ow, .pu, .pu, .pu, .pu, .pu, (.dt .pu), .ju, .ju, .ju, .ju, .ju, .ju, .ju] (si_rng1 (sa_cons (se_op v_i (se_var rfl) se_c) sa_nil)) rfl (sg_name (k0 := .ju) rfl) (ss_wk (K1 := [.ow, .pu, .pu, .pu, .pu, .pu, (.dt .pu), .ju, .pu, .ju, .ju, .ju, .ju, .ju]) (Kn := [.ow, .pu, .pu, .pu, .pu, .pu, (.dt .pu), .ju, .ju, .ju, .ju, .ju, .ju, .ju]) [8] (ss_for (J := []) [.ow, .pu, .pu, .pu, .pu, .pu, (.dt .pu), .ju, .pu, .ju, .ju, .ju, .ju, .ju] (si_rng1 (sa_cons (se_op v_i (se_var rfl) se_c) sa_nil)) rfl (sg_name (k0 := .ju) rfl) (ss_wk (K1 := [.ow, .pu, .pu, .pu, .pu, .pu, (.dt .pu), .ju, .pu, .pu, .ju, .ju, .ju, .ju]) (Kn := [.ow, .pu, .pu, .pu, .pu, .pu, (.dt .pu), .ju, .pu, .ju, .ju, .ju, .ju, .ju]) [9] (ss_for (J := []) [.ow, .pu, .pu, .pu, .pu, .pu, (.dt .pu), .ju, .pu, .pu, .ju, .ju, .ju, .ju] (si_rng1 (sa_cons (se_op v_i (se_var rfl) se_c) sa_nil)) rfl (sg_name (k0 := .ju) rfl) (ss_wk (K1 := [.ow, .pu, .pu, .pu, .pu, .pu, (.dt .pu), .ju, .pu, .pu, .pu, .ju, .ju, .ju]) (Kn := [.ow, .pu, .pu, .pu, .pu, .pu, (.dt .pu), .ju, .pu, .pu, .ju, .ju, .ju, .ju]) [10] (ss_if (Kn := [.ow, .pu, .pu, .pu, .pu, .pu, (.dt .pu), .ju, .pu, .pu, .pu, .ju, .ju, .ju]) (st_test (se_op v_ne (se_call vc_repr (sa_cons (se_call vc_fn (sa_cons (se_var rfl) (sa_cons (se_call vc_int (sa_cons (se_var rfl) sa_nil)) (sa_cons (se_tup (sa_cons (se_var rfl) (sa_cons (se_var rfl) (sa_cons (se_var rfl) sa_nil)))) sa_nil)))) sa_nil)) (se_call vc_repr (sa_cons (se_inTP (k := (.dt .pu)) (sa_cons (se_var rfl) (sa_cons (se_var rfl) (sa_cons (se_var rfl) sa_nil))) rfl rfl (by simp)) sa_nil)))) (ss_ret se_c rfl (.inr ⟨_, rfl, rfl, by simp⟩)) ss_next) rfl)) rfl)) rfl))
  (ss_seq (ss_set (se_call vc_int (sa_cons (se_op v_i (se_var rfl) (se_callM rfl rfl (sa_cons se_c sa_nil))) sa_nil)) (by simp) (.inl (by decide)))
  (ss_for (J := []) [.ow, .pu, .pu, .pu, .pu, .pu, (.dt .pu), .ju, .ju, .ju, .ju, .ju, .ju, .ju] (si_rng1 (sa_cons se_c sa_nil)) rfl (sg_name (k0 := .ju) rfl) (ss_wk (K1 := [.ow, .pu, .pu, .pu, .pu, .pu, (.dt .pu), .ju, .pu, .pu, .pu, .pu, .pu, .pu]) (Kn := [.ow, .pu, .pu, .pu, .pu, .pu, (.dt .pu), .ju, .ju, .ju, .ju, .ju, .ju, .ju]) [8, 9, 10, 11, 12, 13] (ss_seq (ss_par (se_callM rfl rfl (sa_cons (se_op v_i (se_var rfl) se_c) sa_nil)) (se_callM rfl rfl (sa_cons (se_op v_i (se_var rfl) se_c) sa_nil)) (by simp) (by simp) (.inl (by decide)))
  (ss_seq (ss_set (se_call vc_i2 (sa_cons se_c (sa_cons (se_op v_i (se_op v_i (se_op v_i (se_var rfl) (se_var rfl)) (se_callM rfl rfl (sa_cons se_c sa_nil))) se_c) sa_nil))) (by simp) (.inl (by decide)))
  (ss_seq (ss_set (se_call vc_i2 (sa_cons se_c (sa_cons (se_call vc_int (sa_cons (se_callM rfl rfl (sa_cons (se_lst (sa_cons (se_var rfl) (sa_cons (se_var rfl) (sa_cons (se_callM rfl rfl (sa_cons (se_op v_i (se_var rfl) se_c) sa_nil)) (sa_cons se_c (sa_cons se_c sa_nil)))))) sa_nil)) sa_nil)) sa_nil))) (by simp) (.inl (by decide)))
  (ss_seq (ss_set (se_call vc_fn (sa_cons (se_var rfl) (sa_cons (se_var rfl) (sa_cons (se_tup (sa_cons (se_var rfl) (sa_cons (se_var rfl) (sa_cons (se_var rfl) sa_nil)))) sa_nil)))) (by simp) (.inl (by decide)))
  (ss_if (Kn := [.ow, .pu, .pu, .pu, .pu, .pu, (.dt .pu), .ju, .pu, .pu, .pu, .pu, .pu, .pu]) (st_test (se_op v_ne (se_call vc_repr (sa_cons (se_callK (sa_cons (se_tup (sa_cons (se_call vc_int (sa_cons (se_var rfl) sa_nil)) (sa_cons (se_call vc_int (sa_cons (se_var rfl) sa_nil)) (sa_cons (se_var rfl) sa_nil)))) (sa_cons (se_var rfl) (sa_cons (se_var rfl) sa_nil)))) sa_nil)) (se_call vc_repr (sa_cons (se_var rfl) sa_nil)))) (ss_ret se_c rfl (.inr ⟨_, rfl, rfl, by simp⟩)) ss_next))))) rfl))))))) rfl))
  (ss_ret se_c rfl (.inr ⟨_, rfl, rfl, by simp⟩)))
def F__law_right : List D → Option (D × D) := runMR 1 14 B__law_right
abbrev S__law_right : ARM := lowM .pu F__law_right
theorem law__law_right : ∀ xs ds Q p, ds.length + 1 = 1 → S__law_right xs ds Q → A__law_right (endsM Q p) (startS 14 (.ow p xs :: ds.map .pu)) := lawMR ss__law_right
abbrev A_law : AS := (aRet (aCall (aBls fun bs => bs.all id) (aCons (aLc (aItL (aCall (aFn 2 S__law_cells) (aCons (aVar 0) (aCons (aC (.int 2)) aNil)))) (agName 1) aYes (aCallT 1 S__law_right (aCall (aFn 2 S__law_pot) (aCons (aVar 0) (aCons (aVar 1) aNil))) aNil) [1]) aNil)))
abbrev B_law : FS := (fRet (fCall (gBls fun bs => bs.all id) (fCons (fLc (fItL (fCall (gFn 2 F__law_cells) (fCons (fVar 0) (fCons (fC (.int 2)) fNil)))) (gName 1) fYes (fCallT 1 F__law_right (fCall (gFn 2 F__law_pot) (fCons (fVar 0) (fCons (fVar 1) fNil))) fNil) [1]) fNil)))
theorem ss_law : SS false (K0D 1 2) A_law B_law [] [] [] .pu .ju :=
  (ss_ret (se_call vc_bls (sa_cons (se_lc [.pu, .ju] (si_l (se_call vc_fn (sa_cons (se_var rfl) (sa_cons se_c sa_nil)))) rfl (sg_name (k0 := .ju) rfl) st_yes (se_callT (se_call vc_fn (sa_cons (se_var rfl) (sa_cons (se_var rfl) sa_nil))) sa_nil) rfl rfl) sa_nil)) rfl (.inl rfl))
def F_law : List D → Option D := runD 1 2 B_law
abbrev S_law : ARC := SLaw
/-- what is left: plain Lean -/
def Main : Prop := ∀ ns : List Int, ns.length ≤ 63 → F_law [.scr (ns.map D.int)] = some (.bl true)
theorem law_of (h : Main) : ∀ ds Q, ds.length = 1 → S_law ds Q → A_law (endsD Q) (startS 2 (ds.map .pu)) := fun ds Q hl q => by
  obtain ⟨ns, rfl, hn, hq⟩ := q
  exact lawD ss_law rfl _ Q rfl ⟨_, h ns hn, fun l hk hd => by rw [of_pu hk, hd]; exact hq⟩
theorem takeOk : TakeOk F__law_take := take_ok (by decide) (by decide) (by decide) (by decide) (by decide) (by decide) (by decide) (by decide)
abbrev key3 (x y d : Int) : List Key := [Sum.inl x, Sum.inl y, Sum.inl d]
def addK (ks : List (List Key)) (k : List Key) : List (List Key) := match ixA ks k with
  | some _ => ks
  | none => ks ++ [k]
abbrev dtB (ks : List (List Key)) : D := .dt ks (List.replicate ks.length (.bl true))
theorem addK_mem {ks : List (List Key)} {k s : List Key} : s ∈ addK ks k ↔ s ∈ ks ∨ s = k := by
  unfold addK
  cases h : ixA ks k with
  | some j =>
    have hk := (ixA_lt h).2
    constructor
    · exact .inl
    · rintro (h | rfl)
      · exact h
      · exact List.mem_of_getElem? hk
  | none => simp
theorem addK_len (ks : List (List Key)) (k : List Key) : (addK ks k).length ≤ ks.length + 1 := by
  unfold addK
  cases ixA ks k <;> simp
def addAll (ks more : List (List Key)) : List (List Key) := more.foldl addK ks
theorem all_mem : ∀ {more ks : List (List Key)} {s : List Key}, s ∈ addAll ks more ↔ s ∈ ks ∨ s ∈ more
  | [], ks, s => by simp [addAll]
  | k :: more, ks, s => by
    have := all_mem (more := more) (ks := addK ks k) (s := s)
    show s ∈ addAll (addK ks k) more ↔ _
    rw [this, addK_mem, List.mem_cons, or_assoc]
theorem all_len : ∀ (more ks : List (List Key)), (addAll ks more).length ≤ ks.length + more.length
  | [], ks => Nat.le_refl _
  | k :: more, ks => by
    have h1 := all_len more (addK ks k)
    have h2 := addK_len ks k
    rw [List.length_cons]
    show (addAll (addK ks k) more).length ≤ _
    omega
theorem set_rep (n j : Nat) : (List.replicate n (D.bl true)).set j (.bl true) = List.replicate n (.bl true) := by
  induction n generalizing j with
  | zero => rfl
  | succ n ih =>
    cases j with
    | zero => rfl
    | succ j => rw [List.replicate_succ, List.set_cons_succ, ih]
theorem rep_snoc (n : Nat) : List.replicate n (D.bl true) ++ [.bl true] = List.replicate (n + 1) (.bl true) := by
  rw [List.replicate_succ']
theorem put_b (ks : List (List Key)) (k : List Key) : putKeyT ks (List.replicate ks.length (.bl true)) k (.bl true) = dtB (addK ks k) := by
  unfold putKeyT addK
  cases ixA ks k with
  | some j =>
    show D.dt _ _ = D.dt _ _
    rw [set_rep]
  | none =>
    show D.dt _ _ = D.dt _ _
    rw [rep_snoc, List.length_append, List.length_singleton]
theorem upd_b : ∀ (more ks : List (List Key)), updD (ks, List.replicate ks.length (.bl true)) (more.zip (List.replicate more.length (.bl true))) = (addAll ks more, List.replicate (addAll ks more).length (.bl true))
  | [], ks => rfl
  | k :: more, ks => by
    rw [List.length_cons, List.replicate_succ, List.zip_cons_cons]
    unfold updD
    simp only
    have ih := upd_b more (addK ks k)
    have e : (match ixA ks k with
      | some j => (ks, (List.replicate ks.length (D.bl true)).set j (.bl true))
      | none => (ks ++ [k], List.replicate ks.length (D.bl true) ++ [.bl true])) = (addK ks k, List.replicate (addK ks k).length (.bl true)) := by
      unfold addK
      cases ixA ks k with
      | some j =>
        simp only
        rw [set_rep]
      | none =>
        simp only
        rw [rep_snoc, List.length_append, List.length_singleton]
    exact (congrArg (fun a => updD a (more.zip (List.replicate more.length (.bl true)))) e).trans ih
def pairsK : List (Int × Int) → List (List Key)
  | [] => []
  | p :: ps => (ps.map fun q => key3 p.2 q.2 (q.1 - p.1)) ++ pairsK ps
theorem pairs_len : ∀ ps : List (Int × Int), (pairsK ps).length ≤ ps.length * ps.length
  | [] => Nat.le_refl _
  | p :: ps => by
    have := pairs_len ps
    unfold pairsK
    rw [List.length_append, List.length_map, List.length_cons, Nat.succ_mul, Nat.mul_succ]
    omega
theorem pairs_of : ∀ {ps : List (Int × Int)} {k : List Key}, k ∈ pairsK ps → ∃ p q, [p, q].Sublist ps ∧ k = key3 p.2 q.2 (q.1 - p.1)
  | [], k, h => by cases h
  | p :: ps, k, h => by
    unfold pairsK at h
    rcases List.mem_append.mp h with h | h
    · obtain ⟨q, hq, rfl⟩ := List.mem_map.mp h
      exact ⟨p, q, (List.singleton_sublist.mpr hq).cons_cons p, rfl⟩
    · obtain ⟨a, b, hs, e⟩ := pairs_of h
      exact ⟨a, b, hs.cons p, e⟩
theorem pairs_in : ∀ {ps : List (Int × Int)} {p q : Int × Int}, [p, q].Sublist ps → key3 p.2 q.2 (q.1 - p.1) ∈ pairsK ps
  | [], p, q, h => by cases h
  | a :: ps, p, q, h => by
    unfold pairsK
    cases h with
    | cons _ h => exact List.mem_append_right _ (pairs_in h)
    | cons_cons _ h => exact List.mem_append_left _ (List.mem_map.mpr ⟨q, List.singleton_sublist.mp h, rfl⟩)
theorem pin_turn {P a : D} {ks : List (List Key)} {s x : Int} {q : Int × Int} (hl : ks.length < 100000) : tn (gTup (gCons (gName 5) (gCons (gName 6) gNil))) L1__law_pairs_in (pairD q) [P, dtB ks, a, .int s, .int x, .non, .non] = .nx [P, dtB (addK ks (key3 x q.2 (q.1 - s))), a, .int s, .int x, .non, .non] := by
  have eA : (fCons (fCall gInt (fCons (fVar 4) fNil)) (fCons (fCall gInt (fCons (fVar 6) fNil)) (fCons (fCall gInt (fCons (fOp gSub (fVar 5) (fVar 3)) fNil)) fNil))) [P, dtB ks, a, .int s, .int x, .int q.1, .int q.2] = some ([.int x, .int q.2, .int (q.1 - s)], [P, dtB ks, a, .int s, .int x, .int q.1, .int q.2]) := by walk_at ""
  have e := w_putT_nil (i := 1) (fa := fC (.bl true)) (faa := fCons (fCall gInt (fCons (fVar 4) fNil)) (fCons (fCall gInt (fCons (fVar 6) fNil)) (fCons (fCall gInt (fCons (fOp gSub (fVar 5) (fVar 3)) fNil)) fNil))) (e := [P, dtB ks, a, .int s, .int x, .int q.1, .int q.2]) (x := .bl true) (kk := key3 x q.2 (q.1 - s)) rfl eA (by simp) rfl rfl hl
  rw [put_b] at e
  unfold L1__law_pairs_in pairD
  walk_at "e"
theorem pin_loop {P a : D} {s x : Int} : ∀ (qs : List (Int × Int)) (ks : List (List Key)), ks.length + qs.length ≤ 100000 → fForD (gTup (gCons (gName 5) (gCons (gName 6) gNil))) L1__law_pairs_in (qs.map pairD) [P, dtB ks, a, .int s, .int x, .non, .non] = .nx [P, dtB (addAll ks (qs.map fun q => key3 x q.2 (q.1 - s))), a, .int s, .int x, .non, .non]
  | [], ks, _ => rfl
  | q :: qs, ks, h => by
    rw [List.length_cons] at h
    have := addK_len ks (key3 x q.2 (q.1 - s))
    rw [List.map_cons, forD_nx (pin_turn (by omega)), pin_loop qs _ (by omega)]
    rfl
theorem cut_from (xs : List D) (k : Nat) (h : k ≤ xs.length) : cutD xs (some (k : Int)) none = xs.drop k := by
  unfold cutD
  rw [HT.sIx_nat, HT.sIx_none, Nat.min_eq_left h]
  exact List.take_of_length_le (by rw [List.length_drop]; omega)
theorem pout_turn {ps : List (Int × Int)} {ks : List (List Key)} {i : Nat} {p : Int × Int} {rest : List (Int × Int)} (hr : ps.drop (i + 1) = rest) (hi : i + 1 ≤ ps.length) (hl : ks.length + rest.length ≤ 100000) (hp : ps.length ≤ 1000) :
    tn (gTup (gCons (gName 2) (gCons (gTup (gCons (gName 3) (gCons (gName 4) gNil))) gNil))) L2__law_pairs_in (.tup [.int (i : Int), pairD p]) [.lst (ps.map pairD), dtB ks, .non, .non, .non, .non, .non] = .nx [.lst (ps.map pairD), dtB (addAll ks (rest.map fun q => key3 p.2 q.2 (q.1 - p.1))), .non, .non, .non, .non, .non] := by
  have e1 : hSlL (.lst (ps.map pairD)) (some ((i : Int) + 1)) none = some (.lst (rest.map pairD)) := by
    show some (D.lst (cutD (ps.map pairD) (some (((i + 1 : Nat) : Int))) none)) = _
    rw [cut_from _ _ (by rw [List.length_map]; exact hi), ← List.map_drop, hr]
  have e2 := pin_loop (P := .lst (ps.map pairD)) (a := .int (i : Int)) (s := p.1) (x := p.2) rest ks hl
  generalize rest.map pairD = RP at e1 e2
  generalize addAll ks (rest.map fun q => key3 p.2 q.2 (q.1 - p.1)) = K2 at e2 ⊢
  generalize ps.map pairD = PP at e1 e2 ⊢
  unfold L2__law_pairs_in pairD
  walk_at "e1 e2"
theorem pout_loop {ps : List (Int × Int)} (hp : ps.length ≤ 200) : ∀ (rest : List (Int × Int)) (i : Nat) (ks : List (List Key)), ps.drop i = rest → i + rest.length = ps.length → ks.length + 200 * rest.length ≤ 100000 →
    fForD (gTup (gCons (gName 2) (gCons (gTup (gCons (gName 3) (gCons (gName 4) gNil))) gNil))) L2__law_pairs_in (((List.range' i rest.length).zip rest).map fun z => D.tup [.int (z.1 : Nat), pairD z.2]) [.lst (ps.map pairD), dtB ks, .non, .non, .non, .non, .non] = .nx [.lst (ps.map pairD), dtB (addAll ks (pairsK rest)), .non, .non, .non, .non, .non]
  | [], i, ks, _, _, _ => rfl
  | p :: rest, i, ks, hd, hl, hk => by
    rw [List.length_cons] at hl hk
    have hd2 : ps.drop (i + 1) = rest := by
      rw [← List.tail_drop, hd]
      rfl
    have hb := all_len (rest.map fun q => key3 p.2 q.2 (q.1 - p.1)) ks
    rw [List.length_map] at hb
    rw [List.length_cons, List.range'_succ, List.zip_cons_cons, List.map_cons]
    have ht := pout_turn (ps := ps) (ks := ks) (i := i) (p := p) hd2 (by omega) (by omega) (by omega)
    show fForD _ _ (D.tup [.int (i : Int), pairD p] :: _) _ = _
    rw [forD_nx ht, pout_loop hp rest (i + 1) _ hd2 (by omega) (by omega)]
    have : addAll ks (pairsK (p :: rest)) = addAll (addAll ks (rest.map fun q => key3 p.2 q.2 (q.1 - p.1))) (pairsK rest) := by
      show addAll ks ((rest.map fun q => key3 p.2 q.2 (q.1 - p.1)) ++ pairsK rest) = _
      unfold addAll
      rw [List.foldl_append]
    rw [this]
def pK (ps : List (Int × Int)) : List (List Key) := addAll [] (pairsK ps)
theorem pairs_eq {ps : List (Int × Int)} (hp : ps.length ≤ 200) : F__law_pairs_in [.lst (ps.map pairD)] = some (dtB (pK ps)) := by
  have e := pout_loop hp ps 0 [] rfl (by omega) (by rw [List.length_nil]; omega)
  rw [← List.range_eq_range', ← enum_map] at e
  unfold pK
  refine runD_rt rfl (e := [.lst (ps.map pairD), dtB (addAll [] (pairsK ps)), .non, .non, .non, .non, .non]) ?_
  have e : fForD (gTup (gCons (gName 2) (gCons (gTup (gCons (gName 3) (gCons (gName 4) gNil))) gNil))) L2__law_pairs_in (enumD (ps.map pairD)) [.lst (ps.map pairD), .dt [] [], .non, .non, .non, .non, .non] = .nx [.lst (ps.map pairD), dtB (addAll [] (pairsK ps)), .non, .non, .non, .non, .non] := e
  generalize dtB (addAll [] (pairsK ps)) = K2 at e ⊢
  have hl : (ps.map pairD).length = ps.length := List.length_map _
  generalize ps.map pairD = PP at e hl ⊢
  walk_at "e hl"
end K16
namespace K16
open PySem L2 DL TL FB
structure Wld where
  w : Str
  n : Nat
  z : Nat
  m : Nat
  t : Nat
def slotsQ (n z : Nat) : Nat := if n = 1 then 2 else (z + n - 2) / (n - 1) + 2
def worldsQ : List Wld := (List.range 4).flatMap fun n => (List.range (if n = 1 then 2 else 3)).map fun z => ⟨"queue", n + 1, z + 1, slotsQ (n + 1) (z + 1), 1⟩
def worldsO (w : Str) : List Wld := (List.range 4).flatMap fun n => (List.range (if n = 1 then 2 else 3)).map fun z => ⟨w, n + 1, z + 1, if n + 1 > 2 then 1 else 2, if n + 1 > 2 then 0 else 1⟩
def worlds : List Wld := worldsQ ++ worldsO "order" ++ worldsO "any"
def firstB : List (List SV) → Bool
  | [] => true
  | vs :: r => match pairsK (runs 0 [] vs) with
    | [] => firstB r
    | [_] => true
    | _ => false
def allCs (n : Nat) : Nat → List (List Nat)
  | 0 => [[]]
  | m + 1 => (allCs n m).flatMap fun cs => (List.range (n + 1)).map fun c => cs ++ [c]
def exQ (n z m x y d : Nat) : Bool := (allCs n m).any fun cs => okQ n z 0 cs && (List.range m).any fun k => qIn cs k x && qIn cs (k + d) y && (Nat.blt 0 d || Nat.blt x y)
def chkQ2 (W : Wld) : Bool := (List.range (W.z + 1)).all fun x => (List.range (W.z + 1)).all fun y => (List.range 2).all fun d => !canB "queue" W.n W.z x y d || exQ W.n W.z W.m x y d
def chkW (W : Wld) : Bool := firstB (allS W.w W.n W.z W.m) && Nat.ble ((valsV W.w W.n W.z).length ^ W.m) 300
theorem worlds_ok : worlds.all chkW = true := by decide +kernel
theorem worldsQ_ok : worldsQ.all chkQ2 = true := by decide +kernel
theorem allCs_len (n : Nat) : ∀ (m : Nat), ∀ cs ∈ allCs n m, cs.length = m
  | 0, cs, h => by rw [List.mem_singleton.mp h]; rfl
  | m + 1, cs, h => by
    obtain ⟨a, ha, h⟩ := List.mem_flatMap.mp h
    obtain ⟨c, _, rfl⟩ := List.mem_map.mp h
    rw [List.length_append, allCs_len n m a ha]
    rfl
theorem ahead_nil : ((0 : Nat) : Int) = aheadF [] 0 := by decide
theorem exQ_script {n z m x y d : Nat} (h : exQ n z m x y d = true) : ∃ vs : List SV, vs.length = m ∧ Valid "queue" n z 0 [] vs ∧ ∃ k : Int, [(k, (x : Int)), (k + d, (y : Int))].Sublist (runs 0 [] vs) := by
  obtain ⟨cs, hc, h⟩ := List.any_eq_true.mp h
  rw [Bool.and_eq_true] at h
  obtain ⟨h1, h⟩ := h
  obtain ⟨k, _, h⟩ := List.any_eq_true.mp h
  rw [Bool.and_eq_true, Bool.and_eq_true, Bool.or_eq_true] at h
  obtain ⟨⟨h2, h3⟩, h4⟩ := h
  unfold qIn at h2 h3
  rw [Bool.and_eq_true, Nat.ble_eq, Nat.blt_eq] at h2 h3
  rw [Nat.blt_eq, Nat.blt_eq] at h4
  refine ⟨toSV cs, by rw [List.length_map]; exact allCs_len n m cs hc, okQ_valid h1 ahead_nil, (0 : Int) + k, ?_⟩
  rw [runs_blocks ahead_nil, List.nil_append]
  exact block_two h2.1 h2.2 h3.1 h3.2 fun hd => by omega
theorem other_script {w : Str} {n x y z : Int} {d m : Nat} (hw : w = "order" ∨ w = "any") (n1 : 1 ≤ n) (hx : 0 ≤ x ∧ x ≤ z) (hy : 0 ≤ y ∧ y ≤ z) (hd : d + 1 ≤ m) (hc : canB w n z x y d = true) :
    ∃ vs : List SV, vs.length = m ∧ Valid w n z 0 [] vs ∧ ∃ k : Int, [(k, x), (k + d, y)].Sublist (runs 0 [] vs) := by
  have hq : w ≠ "queue" := by
    rcases hw with rfl | rfl <;> decide
  obtain ⟨h1, h2, k, h3⟩ := told_script hw n1 hx hy hc
  have hf : fewF w n x y d = d + 1 := if_pos (.inl hq)
  rw [hf] at h2
  obtain ⟨g1, g2⟩ := idle_other (z := z) hq (show 0 ≤ n by omega) (m - (d + 1)) (0 + ((tScript x y d).length : Int)) (runs 0 [] (tScript x y d))
  refine ⟨tScript x y d ++ List.replicate (m - (d + 1)) (.inr []), by rw [List.length_append, List.length_replicate]; omega, valid_app.mpr ⟨h1, g1⟩, k, ?_⟩
  rw [runs_app, g2]
  exact h3
structure SmallW (w : Str) (n z : Int) (m t : Nat) : Prop where
  hw : WordOk w
  n1 : 1 ≤ n
  n4 : n ≤ 4
  z1 : 1 ≤ z
  z3 : z ≤ 3
  m4 : m ≤ 4
  t1 : t ≤ 1
  first : firstB (allS w n z m) = true
  few : (valsV w n z).length ^ m ≤ 300
  all : ∀ (x y : Int) (d : Nat), 0 ≤ x → x ≤ z → 0 ≤ y → y ≤ z → d ≤ t → canB w n z x y d = true → ∃ vs : List SV, vs.length = m ∧ Valid w n z 0 [] vs ∧ ∃ k : Int, [(k, x), (k + d, y)].Sublist (runs 0 [] vs)
theorem world_of {W : Wld} (h : W ∈ worlds) : SmallW W.w W.n W.z W.m W.t := by
  have hk := List.all_eq_true.mp worlds_ok W h
  unfold chkW at hk
  rw [Bool.and_eq_true, Nat.ble_eq] at hk
  unfold worlds at h
  have key : ∀ w : Str, (w = "order" ∨ w = "any") → W ∈ worldsO w → SmallW W.w W.n W.z W.m W.t := fun w hw h => by
    obtain ⟨n, hn, h⟩ := List.mem_flatMap.mp h
    obtain ⟨z, hz, rfl⟩ := List.mem_map.mp h
    have hn := List.mem_range.mp hn
    have hz := List.mem_range.mp hz
    have hz : z < 3 := by
      split at hz <;> omega
    refine ⟨.inr hw, by simp only []; omega, by simp only []; omega, by simp only []; omega, by simp only []; omega, by simp only []; split <;> omega, by simp only []; split <;> omega, hk.1, hk.2, fun x y d x0 x1 y0 y1 hd hc => ?_⟩
    refine other_script hw (by simp only []; omega) ⟨x0, x1⟩ ⟨y0, y1⟩ ?_ hc
    simp only at hd ⊢
    split at hd <;> (rename_i c; first | rw [if_pos c] | rw [if_neg c]) <;> omega
  rcases List.mem_append.mp h with h | h
  · rcases List.mem_append.mp h with h | h
    · have hq := List.all_eq_true.mp worldsQ_ok W h
      obtain ⟨n, hn, h⟩ := List.mem_flatMap.mp h
      obtain ⟨z, hz, rfl⟩ := List.mem_map.mp h
      have hn := List.mem_range.mp hn
      have hz2 := List.mem_range.mp hz
      have hz : z < 3 := by
        split at hz2 <;> omega
      refine ⟨.inl rfl, by simp only []; omega, by simp only []; omega, by simp only []; omega, by simp only []; omega, ?_, by simp only []; omega, hk.1, hk.2, fun x y d x0 x1 y0 y1 hd hc => ?_⟩
      · simp only
        have : ∀ n : Fin 4, ∀ z : Fin 3, z.val < (if n.val = 1 then 2 else 3) → slotsQ (n.val + 1) (z.val + 1) ≤ 4 := by decide
        exact this ⟨n, hn⟩ ⟨z, hz⟩ hz2
      · obtain ⟨a, rfl⟩ : ∃ a : Nat, x = (a : Int) := ⟨x.toNat, by omega⟩
        obtain ⟨b, rfl⟩ : ∃ b : Nat, y = (b : Int) := ⟨y.toNat, by omega⟩
        unfold chkQ2 at hq
        have q1 := List.all_eq_true.mp hq a (List.mem_range.mpr (by simp only at x1 ⊢; omega))
        have q2 := List.all_eq_true.mp q1 b (List.mem_range.mpr (by simp only at y1 ⊢; omega))
        have q3 := List.all_eq_true.mp q2 d (List.mem_range.mpr (by simp only at hd; omega))
        rw [Bool.or_eq_true, Bool.not_eq_true'] at q3
        rcases q3 with q3 | q3
        · simp only at hc q3
          rw [hc] at q3
          cases q3
        · exact exQ_script q3
    · exact key _ (.inl rfl) h
  · exact key _ (.inr rfl) h
def shownK (L : List (List SV)) (ks : List (List Key)) : List (List Key) := L.foldl (fun ks vs => addAll ks (pK (runs 0 [] vs))) ks
theorem shown_mem : ∀ {L : List (List SV)} {ks : List (List Key)} {s : List Key}, s ∈ shownK L ks ↔ s ∈ ks ∨ ∃ vs ∈ L, s ∈ pairsK (runs 0 [] vs)
  | [], ks, s => by simp [shownK]
  | vs :: L, ks, s => by
    have ih := shown_mem (L := L) (ks := addAll ks (pK (runs 0 [] vs))) (s := s)
    show s ∈ shownK L (addAll ks (pK (runs 0 [] vs))) ↔ _
    rw [ih, all_mem]
    unfold pK
    rw [all_mem]
    simp only [List.not_mem_nil, false_or, List.mem_cons, exists_eq_or_imp, or_assoc]
theorem shown_can {w : Str} {n z : Int} {m t : Nat} (W : SmallW w n z m t) {x y : Int} {d : Nat} (x0 : 0 ≤ x) (x1 : x ≤ z) (y0 : 0 ≤ y) (y1 : y ≤ z) (hd : d ≤ t) : (ixA (shownK (allS w n z m) []) (key3 x y (d : Int))).isSome = canB w n z x y (d : Int) := by
  have hn : (0 : Int) ≤ n := by have := W.n1; omega
  have iff : key3 x y (d : Int) ∈ shownK (allS w n z m) [] ↔ canB w n z x y (d : Int) = true := by
    rw [shown_mem]
    constructor
    · rintro (h | ⟨vs, hv, h⟩)
      · cases h
      · obtain ⟨p, q, hs, e⟩ := pairs_of h
        have hp := valid_pairs W.hw W.n1 (allS_ok hn hv).2
        have hc := (List.pairwise_pair.mp (hp.sublist hs)).2
        simp only [key3, List.cons.injEq, Sum.inl.injEq, and_true] at e
        obtain ⟨e1, e2, e3⟩ := e
        rw [e1, e2, e3]
        exact hc
    · intro hc
      obtain ⟨vs, hl, hv, k, hs⟩ := W.all x y d x0 x1 y0 y1 hd hc
      refine .inr ⟨vs, allS_all hn hl hv, ?_⟩
      have := pairs_in hs
      simp only at this
      rw [show k + (d : Int) - k = d by omega] at this
      exact this
  cases hc : canB w n z x y (d : Int) with
  | true =>
    have h := iff.mpr hc
    cases hi : ixA (shownK (allS w n z m) []) (key3 x y (d : Int)) with
    | none => exact absurd h (ixA_none.mp hi)
    | some j => rfl
  | false =>
    cases hi : ixA (shownK (allS w n z m) []) (key3 x y (d : Int)) with
    | none => rfl
    | some j =>
      have := iff.mp (List.mem_of_getElem? (ixA_lt hi).2)
      rw [hc] at this
      cases this
end K16
namespace K16
open PySem L2 DL TL FB
theorem slots_int {j t : Nat} (hj : j ≠ 0) : ((1 : Int) + t + (1 + j) - 2) / (1 + j - 1) + 2 = ((slotsQ (j + 1) (t + 1) : Nat) : Int) := by
  unfold slotsQ
  rw [if_neg (by omega), show t + 1 + (j + 1) - 2 = t + j by omega, show j + 1 - 1 = j by omega, Int.natCast_add, Int.natCast_ediv, Int.natCast_add, show (1 : Int) + t + (1 + j) - 2 = t + j by omega, show (1 : Int) + j - 1 = j by omega]
  rfl
theorem mem_q {j t : Nat} (hj : j < 4) (ht : t < if j = 1 then 2 else 3) : (⟨"queue", j + 1, t + 1, slotsQ (j + 1) (t + 1), 1⟩ : Wld) ∈ worlds := by
  unfold worlds
  exact List.mem_append_left _ (List.mem_append_left _ (List.mem_flatMap.mpr ⟨j, List.mem_range.mpr hj, List.mem_map.mpr ⟨t, List.mem_range.mpr ht, rfl⟩⟩))
theorem mem_o {w : Str} {j t : Nat} (hw : w = "order" ∨ w = "any") (hj : j < 4) (ht : t < if j = 1 then 2 else 3) : (⟨w, j + 1, t + 1, if j + 1 > 2 then 1 else 2, if j + 1 > 2 then 0 else 1⟩ : Wld) ∈ worlds := by
  have : (⟨w, j + 1, t + 1, if j + 1 > 2 then 1 else 2, if j + 1 > 2 then 0 else 1⟩ : Wld) ∈ worldsO w := List.mem_flatMap.mpr ⟨j, List.mem_range.mpr hj, List.mem_map.mpr ⟨t, List.mem_range.mpr ht, rfl⟩⟩
  unfold worlds
  rcases hw with rfl | rfl
  · exact List.mem_append_left _ (List.mem_append_right _ this)
  · exact List.mem_append_right _ this
theorem small_eq {c : Nat} {xs : List D} (hc : c + 3 < 1000000) (hp : Pot c xs) : ∃ (W : Wld) (xs' : List D), W ∈ worlds ∧ F__law_small_world [.lst xs] = some (.tup [svD W.w W.n, .int W.z, .int W.m, .int W.t], .lst xs') ∧ Pot (c + 3) xs' := by
  obtain ⟨w', xs1, e1, hw, hp1⟩ := of_ok takeOk (es := [.str "queue", .str "queue", .str "order", .str "any"]) hp (by simp) (by simp) (by omega)
  obtain ⟨j', xs2, e2, j0, j1, hp2⟩ := takeOk xs1 4 (c + 1) hp1 (by decide) (by decide) (by omega)
  obtain ⟨j, rfl⟩ : ∃ j : Nat, j' = (j : Int) := ⟨j'.toNat, by omega⟩
  have hj : j < 4 := by omega
  obtain ⟨t', xs3, e3, t0, t1, hp3⟩ := takeOk xs2 (if j = 1 then 2 else 3) (c + 1 + 1) hp2 (by split <;> decide) (by split <;> decide) (by omega)
  obtain ⟨t, rfl⟩ : ∃ t : Nat, t' = (t : Int) := ⟨t'.toNat, by omega⟩
  have ht : t < if j = 1 then 2 else 3 := by split at t1 <;> (rename_i h; first | rw [if_pos h] | rw [if_neg h]) <;> omega
  have go : ∀ w : Str, (w = "order" ∨ w = "any") → decide (w = "queue") = false → F__law_of [.lst xs, .lst [.str "queue", .str "queue", .str "order", .str "any"]] = some (.str w, .lst xs1) → ∃ (W : Wld) (xs' : List D), W ∈ worlds ∧ F__law_small_world [.lst xs] = some (.tup [svD W.w W.n, .int W.z, .int W.m, .int W.t], .lst xs') ∧ Pot (c + 3) xs' := fun w hw dq e1 => by
    refine ⟨_, xs3, mem_o hw hj ht, ?_, hp3⟩
    have s1 : svD w ((j + 1 : Nat) : Int) = svD w (1 + (j : Int)) := by rw [show ((j + 1 : Nat) : Int) = 1 + (j : Int) by omega]
    have s2 : D.int ((t + 1 : Nat) : Int) = .int (1 + (t : Int)) := by rw [show ((t + 1 : Nat) : Int) = 1 + (t : Int) by omega]
    simp only [s1, s2]
    by_cases h2 : j + 1 > 2
    · have d2 : decide (1 + (j : Int) > 2) = true := decide_eq_true (by omega)
      have d2' : decide ((2 : Int) < 1 + (j : Int)) = true := decide_eq_true (by omega)
      have h1 : j ≠ 1 := by omega
      rw [if_pos h2, if_pos h2]
      rw [if_neg h1] at e3
      refine runMR_rt rfl (e := [.lst xs3, .str w, .int (1 + (j : Int)), .non, .non]) ?_ rfl
      walk_at "e1 e2 e3 dq d2 d2'"
      try rfl
    · have d2 : decide (1 + (j : Int) > 2) = false := decide_eq_false (by omega)
      have d2' : decide ((2 : Int) < 1 + (j : Int)) = false := decide_eq_false (by omega)
      rw [if_neg h2, if_neg h2]
      refine runMR_rt rfl (e := [.lst xs3, .str w, .int (1 + (j : Int)), .non, .non]) ?_ rfl
      by_cases h1 : j = 1
      · have d1 : decide (1 + (j : Int) = 1) = false := decide_eq_false (by omega)
        rw [if_pos h1] at e3
        walk_at "e1 e2 e3 dq d2 d2' d1"
        try rfl
      · have d1 : decide (1 + (j : Int) = 1) = true := decide_eq_true (by omega)
        rw [if_neg h1] at e3
        walk_at "e1 e2 e3 dq d2 d2' d1"
        try rfl
  simp only [List.mem_cons, List.not_mem_nil, or_false] at hw
  have hq : w' = .str "queue" ∨ w' = .str "order" ∨ w' = .str "any" := by
    rcases hw with h | h | h | h
    · exact .inl h
    · exact .inl h
    · exact .inr (.inl h)
    · exact .inr (.inr h)
  rcases hq with rfl | rfl | rfl
  · refine ⟨_, xs3, mem_q hj ht, ?_, hp3⟩
    have s1 : svD "queue" ((j + 1 : Nat) : Int) = svD "queue" (1 + (j : Int)) := by rw [show ((j + 1 : Nat) : Int) = 1 + (j : Int) by omega]
    have s2 : D.int ((t + 1 : Nat) : Int) = .int (1 + (t : Int)) := by rw [show ((t + 1 : Nat) : Int) = 1 + (t : Int) by omega]
    simp only [s1, s2]
    by_cases h0 : j = 0
    · have hs : ((slotsQ (j + 1) (t + 1) : Nat) : Int) = 0 + 2 := by
        subst h0
        rfl
      rw [hs]
      have d1 : decide (1 + (j : Int) = 1) = true := decide_eq_true (by omega)
      have d2 : decide (1 + (j : Int) = 2) = false := decide_eq_false (by omega)
      rw [if_neg (by omega)] at e3
      refine runMR_rt rfl (e := [.lst xs3, .str "queue", .int (1 + (j : Int)), .int (1 + (t : Int)), .int 0]) ?_ rfl
      walk_at "e1 e2 e3 d1 d2"
      try rfl
    · rw [← slots_int h0]
      have d1 : decide (1 + (j : Int) = 1) = false := decide_eq_false (by omega)
      have g0 : (0 : Int) < 1 + (j : Int) - 1 := by omega
      refine runMR_rt rfl (e := [.lst xs3, .str "queue", .int (1 + (j : Int)), .int (1 + (t : Int)), .int (((1 : Int) + t + (1 + j) - 2) / (1 + j - 1))]) ?_ rfl
      by_cases h1 : j = 1
      · have d2 : decide (1 + (j : Int) = 2) = true := decide_eq_true (by omega)
        rw [if_pos h1] at e3
        walk_at "e1 e2 e3 d1 d2"
        try rfl
      · have d2 : decide (1 + (j : Int) = 2) = false := decide_eq_false (by omega)
        rw [if_neg h1] at e3
        walk_at "e1 e2 e3 d1 d2"
        try rfl
  · exact go "order" (.inl rfl) (by decide) e1
  · exact go "any" (.inr rfl) (by decide) e1
theorem same_loop {tg : FG} {fb : FS} {e : En} : ∀ ds : List D, (∀ d ∈ ds, tn tg fb d e = .nx e) → fForD tg fb ds e = .nx e
  | [], _ => rfl
  | d :: ds, h => by
    rw [forD_nx (h d List.mem_cons_self), same_loop ds fun d hd => h d (List.mem_cons_of_mem _ hd)]
theorem upd_at {fa : FE} {e : En} {i : Nat} {ks more : List (List Key)} (h : fa e = some (dtB more, e)) (hi : e[i]? = some (dtB ks)) (g1 : ks ≠ [] ∨ more.length ≤ 1) (g2 : ks.length + more.length ≤ 100000) : fUpdT i [] fa e = some (.non, e.set i (dtB (addAll ks more))) := by
  unfold fUpdT
  rw [h]
  simp only [Option.bind_some, hi, subD]
  rw [if_pos ⟨g1, g2⟩, upd_b]
  rfl
theorem in_at {ka : FA} {e : En} {i : Nat} {ks : List (List Key)} {x y d : Int} (h : ka e = some ([.int x, .int y, .int d], e)) (hi : e[i]? = some (dtB ks)) : fInTP i [] ka e = some (.bl (ixA ks (key3 x y d)).isSome, e) := by
  unfold fInTP
  rw [h]
  simp only [Option.bind_some]
  rw [if_pos (show [D.int x, D.int y, D.int d].length ≤ 100 from by simp)]
  simp only [hi, Option.bind_some, subD]
  rfl
theorem runs_le {w : Str} {n z : Int} (n4 : n ≤ 4) : ∀ (vs : List SV) (k : Int) (ps : List (Int × Int)), Valid w n z k ps vs → (runs k ps vs).length ≤ ps.length + 4 * vs.length
  | [], k, ps, _ => Nat.le_refl _
  | v :: vs, k, ps, h => by
    have h1 := h.1.len (ps := ps) (k := k)
    have h2 := runs_le n4 vs _ _ h.2.2
    rw [List.length_append, List.length_map] at h2
    rw [List.length_cons]
    show (runs (k + 1) _ vs).length ≤ _
    omega
abbrev eU (pot lap : D) (w : Str) (n z m t : Int) (ks : List (List Key)) : En := [pot, lap, svD w n, .int z, .int m, .int t, dtB ks, .non, .non, .non, .non, .non, .non, .non]
theorem up_turn {pot lap : D} {w : Str} {n z m t : Int} {ks : List (List Key)} {vs : List SV} (n4 : n ≤ 4) (hv : Valid w n z 0 [] vs) (hl : vs.length ≤ 4) (g1 : ks ≠ [] ∨ (pK (runs 0 [] vs)).length ≤ 1) (g2 : ks.length + (pK (runs 0 [] vs)).length ≤ 100000) :
    tn (gName 7) L1__law_right (scrD vs) (eU pot lap w n z m t ks) = .nx (eU pot lap w n z m t (addAll ks (pK (runs 0 [] vs)))) := by
  have hr := runs_le n4 vs 0 [] hv
  rw [List.length_nil] at hr
  have e1 := law_packets_eq (w := w) (n := n) n4 hv (by omega)
  have e2 := pairs_eq (ps := runs 0 [] vs) (by omega)
  have eA : fCall (gFn 1 F__law_pairs_in) (fCons (fCall (gFn 2 F__law_packets) (fCons (fVar 2) (fCons (fVar 7) fNil))) fNil) [pot, lap, svD w n, .int z, .int m, .int t, dtB ks, scrD vs, .non, .non, .non, .non, .non, .non] = some (dtB (pK (runs 0 [] vs)), [pot, lap, svD w n, .int z, .int m, .int t, dtB ks, scrD vs, .non, .non, .non, .non, .non, .non]) := by
    unfold scrD
    generalize dtB (pK (runs 0 [] vs)) = B at e2 ⊢
    generalize (runs 0 [] vs).map pairD = R at e1 e2
    generalize D.tup (vs.map valD) = V at e1 ⊢
    generalize svD w n = S at e1 ⊢
    walk_at "e1 e2"
  have e := upd_at eA (i := 6) rfl g1 g2
  unfold eU
  generalize scrD vs = V at e ⊢
  generalize dtB (addAll ks (pK (runs 0 [] vs))) = B at e ⊢
  unfold L1__law_right
  generalize dtB ks = C at e ⊢
  walk_at "e"
theorem up_loop {pot lap : D} {w : Str} {n z m t : Int} (n4 : n ≤ 4) : ∀ (L : List (List SV)) (ks : List (List Key)), (∀ vs ∈ L, Valid w n z 0 [] vs ∧ vs.length ≤ 4) → (ks ≠ [] ∨ firstB L = true) → ks.length + 256 * L.length ≤ 100000 →
    fForD (gName 7) L1__law_right (L.map scrD) (eU pot lap w n z m t ks) = .nx (eU pot lap w n z m t (shownK L ks))
  | [], ks, _, _, _ => rfl
  | vs :: L, ks, hv, hf, hl => by
    obtain ⟨h1, h2⟩ := hv vs List.mem_cons_self
    rw [List.length_cons] at hl
    have hr := runs_le n4 vs 0 [] h1
    rw [List.length_nil] at hr
    have hp := pairs_len (runs 0 [] vs)
    have hp2 : (runs 0 [] vs).length * (runs 0 [] vs).length ≤ 16 * 16 := Nat.mul_le_mul (by omega) (by omega)
    have hk : (pK (runs 0 [] vs)).length ≤ (pairsK (runs 0 [] vs)).length := by
      have := all_len (pairsK (runs 0 [] vs)) []
      rw [List.length_nil, Nat.zero_add] at this
      exact this
    have ha := all_len (pK (runs 0 [] vs)) ks
    have g1 : ks ≠ [] ∨ (pK (runs 0 [] vs)).length ≤ 1 := by
      rcases hf with hf | hf
      · exact .inl hf
      · right
        unfold firstB at hf
        split at hf
        · rename_i h; rw [h] at hk; exact Nat.le_trans hk (by decide)
        · rename_i h; rw [h] at hk; exact hk
        · cases hf
    have g3 : addAll ks (pK (runs 0 [] vs)) ≠ [] ∨ firstB L = true := by
      rcases hf with hf | hf
      · left
        intro h
        cases hks : ks with
        | nil => exact hf hks
        | cons k r =>
          have : k ∈ addAll ks (pK (runs 0 [] vs)) := all_mem.mpr (.inl (by rw [hks]; exact List.mem_cons_self))
          rw [h] at this
          cases this
      · unfold firstB at hf
        split at hf
        · exact .inr hf
        · rename_i k h
          left
          intro h2
          have : k ∈ addAll ks (pK (runs 0 [] vs)) := all_mem.mpr (.inr (by unfold pK; exact all_mem.mpr (.inr (by rw [h]; exact List.mem_cons_self))))
          rw [h2] at this
          cases this
        · cases hf
    rw [List.map_cons, forD_nx (up_turn n4 h1 h2 g1 (by omega)), up_loop n4 L _ (fun vs h => hv vs (List.mem_cons_of_mem _ h)) g3 (by omega)]
    rfl
theorem prog_can {w : Str} {n z x y d : Int} (hw : WordOk w) (n1 : 1 ≤ n) (n4 : n ≤ 4) (z4 : z ≤ 400) (x0 : 0 ≤ x) (x1 : x ≤ z) (y0 : 0 ≤ y) (y1 : y ≤ z) (d0 : 0 ≤ d) (d1 : d ≤ 400) : F_can_be [svD w n, .int z, .tup [.int x, .int y, .int d]] = some (.bl (canB w n z x y d)) := by
  have e1 := check_service_eq hw n1 n4
  have e2 : F_check_size [.int z] = some .non := by
    have w := within_t (c := z) (lo := 0) (hi := 400) (by omega) (by omega)
    refine runD_nx rfl (e := [.int z]) ?_
    walk_at "w"
  have e3 := check_pair_eq x0 x1 y0 y1 d0 d1
  have e4 := is_possible_eq (w := w) (n := n) (d := d) hw n1 n4 x1 y1
  refine runD_rt rfl (e := [svD w n, .int z, .tup [.int x, .int y, .int d]]) ?_
  generalize svD w n = S at e1 e4 ⊢
  generalize D.tup [.int x, .int y, .int d] = T at e3 e4 ⊢
  walk_at "e1 e2 e3 e4"
theorem mem_rng {n : Nat} {d : D} (h : d ∈ rngD 0 n) : ∃ i : Nat, i < n ∧ d = .int (i : Int) := by
  rw [rngD_zero] at h
  obtain ⟨i, hi, rfl⟩ := List.mem_map.mp h
  exact ⟨i, List.mem_range.mp hi, rfl⟩
section
variable {pot lap : D} {w : Str} {n z : Int} {m t : Nat}
theorem chk_turn (W : SmallW w n z m t) {x y : Int} {d : Nat} (x0 : 0 ≤ x) (x1 : x ≤ z) (y0 : 0 ≤ y) (y1 : y ≤ z) (hd : d ≤ t) :
    tn (gName 10) L2__law_right (.int (d : Int)) [pot, lap, svD w n, .int z, .int (m : Int), .int (t : Int), dtB (shownK (allS w n z m) []), .non, .int x, .int y, .non, .non, .non, .non] = .nx [pot, lap, svD w n, .int z, .int (m : Int), .int (t : Int), dtB (shownK (allS w n z m) []), .non, .int x, .int y, .non, .non, .non, .non] := by
  have hz := W.z3
  have ht := W.t1
  have e1 := prog_can W.hw W.n1 W.n4 (by omega) x0 x1 y0 y1 (show (0 : Int) ≤ (d : Int) by omega) (by omega)
  have hs := shown_can W x0 x1 y0 y1 hd
  have eI := in_at (ka := fCons (fVar 8) (fCons (fVar 9) (fCons (fVar 10) fNil))) (i := 6) (ks := shownK (allS w n z m) []) (x := x) (y := y) (d := (d : Int)) (e := [pot, lap, svD w n, .int z, .int (m : Int), .int (t : Int), dtB (shownK (allS w n z m) []), .non, .int x, .int y, .int (d : Int), .non, .non, .non]) (by walk_at "") rfl
  rw [hs] at eI
  have er := repr_bl (canB w n z x y (d : Int))
  generalize rpD (.bl (canB w n z x y (d : Int))) = R at er
  generalize D.bl (canB w n z x y (d : Int)) = B at e1 eI er
  generalize dtB (shownK (allS w n z m) []) = C at eI ⊢
  generalize svD w n = S at e1 eI ⊢
  unfold L2__law_right
  walk_at "e1 eI er"
theorem chk_row (W : SmallW w n z m t) {x y : Int} (x0 : 0 ≤ x) (x1 : x ≤ z) (y0 : 0 ≤ y) (y1 : y ≤ z) :
    tn (gName 9) L3__law_right (.int y) [pot, lap, svD w n, .int z, .int (m : Int), .int (t : Int), dtB (shownK (allS w n z m) []), .non, .int x, .non, .non, .non, .non, .non] = .nx [pot, lap, svD w n, .int z, .int (m : Int), .int (t : Int), dtB (shownK (allS w n z m) []), .non, .int x, .non, .non, .non, .non, .non] := by
  have ht := W.t1
  have e := same_loop (tg := gName 10) (fb := L2__law_right) (e := [pot, lap, svD w n, .int z, .int (m : Int), .int (t : Int), dtB (shownK (allS w n z m) []), .non, .int x, .int y, .non, .non, .non, .non]) (rngD 0 ((t : Int) + 1).toNat) fun d hd => by
    obtain ⟨i, hi, rfl⟩ := mem_rng hd
    exact chk_turn W x0 x1 y0 y1 (by omega)
  have hb : (t : Int) + 1 < 4611686018427387904 := by omega
  generalize dtB (shownK (allS w n z m) []) = C at e ⊢
  generalize svD w n = S at e ⊢
  unfold L3__law_right
  walk_at "e"
theorem chk_rows (W : SmallW w n z m t) {x : Int} (x0 : 0 ≤ x) (x1 : x ≤ z) :
    tn (gName 8) L4__law_right (.int x) (eU pot lap w n z m t (shownK (allS w n z m) [])) = .nx (eU pot lap w n z m t (shownK (allS w n z m) [])) := by
  have hz := W.z3
  have hz1 := W.z1
  have e := same_loop (tg := gName 9) (fb := L3__law_right) (e := [pot, lap, svD w n, .int z, .int (m : Int), .int (t : Int), dtB (shownK (allS w n z m) []), .non, .int x, .non, .non, .non, .non, .non]) (rngD 0 (z + 1).toNat) fun d hd => by
    obtain ⟨i, hi, rfl⟩ := mem_rng hd
    exact chk_row W x0 x1 (by omega) (by omega)
  unfold eU
  generalize dtB (shownK (allS w n z m) []) = C at e ⊢
  generalize svD w n = S at e ⊢
  unfold L4__law_right
  walk_at "e"
theorem chk_all (W : SmallW w n z m t) : fForD (gName 8) L4__law_right (rngD 0 (z + 1).toNat) (eU pot lap w n z m t (shownK (allS w n z m) [])) = .nx (eU pot lap w n z m t (shownK (allS w n z m) [])) :=
  same_loop _ fun d hd => by
    have hz1 := W.z1
    obtain ⟨i, hi, rfl⟩ := mem_rng hd
    exact chk_rows W (by omega) (by omega)
end
theorem maxI_bd {a : Int} : 0 ≤ maxI 0 a := by unfold maxI; split <;> omega
theorem minI_bd {a : Int} (h : 0 ≤ a) : 0 ≤ minI 400 a ∧ minI 400 a ≤ 400 := by unfold minI; split <;> omega
theorem far_turn {pot : List D} {d lap C : D} {w : Str} {n z m t : Int} {c : Nat} (hw : WordOk w) (n1 : 1 ≤ n) (n4 : n ≤ 4) (z0 : 0 ≤ z) (z1 : z ≤ 100) (hc : c + 5 < 1000000) (hp : Pot c pot) :
    ∃ pot', tn (gName 11) L5__law_right d [.lst pot, lap, svD w n, .int z, .int m, .int t, C, .non, .non, .non, .non, .non, .non, .non] = .nx [.lst pot', lap, svD w n, .int z, .int m, .int t, C, .non, .non, .non, .non, .non, .non, .non] ∧ Pot (c + 5) pot' := by
  obtain ⟨x, pot1, e1, x0, x1, hp1⟩ := takeOk pot (z + 1) c hp (by omega) (by omega) (by omega)
  obtain ⟨y, pot2, e2, y0, y1, hp2⟩ := takeOk pot1 (z + 1) (c + 1) hp1 (by omega) (by omega) (by omega)
  obtain ⟨s, pot3, e3, s0, s1, hp3⟩ := takeOk pot2 7 (c + 1 + 1) hp2 (by omega) (by omega) (by omega)
  obtain ⟨u, pot4, e4, u0, u1, hp4⟩ := takeOk pot3 (z + 2) (c + 1 + 1 + 1) hp3 (by omega) (by omega) (by omega)
  have g0 := maxI_bd (a := x - y + s - 3)
  generalize hg : maxI 0 (x - y + s - 3) = g at g0
  obtain ⟨v', pot5, e5, hv, hp5⟩ := of_ok takeOk (es := [.int g, .int g, .int u, .int 400, .int 0]) hp4 (by simp) (by simp) (by omega)
  obtain ⟨v, rfl, v0⟩ : ∃ v : Int, v' = .int v ∧ 0 ≤ v := by
    simp only [List.mem_cons, List.not_mem_nil, or_false] at hv
    rcases hv with rfl | rfl | rfl | rfl | rfl
    · exact ⟨_, rfl, g0⟩
    · exact ⟨_, rfl, g0⟩
    · exact ⟨_, rfl, u0⟩
    · exact ⟨_, rfl, by decide⟩
    · exact ⟨_, rfl, by decide⟩
  obtain ⟨k0, k1⟩ := minI_bd v0
  generalize hk : minI 400 v = k at k0 k1
  have e6 := FB.can_be_eq (w := w) (n := n) (size := z) (x := x) (y := y) (d := k) (by omega) n4
  have e7 := prog_can hw n1 n4 (by omega) x0 (show x ≤ z by omega) y0 (show y ≤ z by omega) k0 k1
  have er := repr_bl (canB w n z x y k)
  have e8 : ck1 3 3 [1, 2, 0] F_can_be [.tup [.int x, .int y, .int k], svD w n, .int z] = F_can_be [svD w n, .int z, .tup [.int x, .int y, .int k]] := rfl
  refine ⟨pot5, ?_, hp5⟩
  generalize rpD (.bl (canB w n z x y k)) = R at er
  generalize D.bl (canB w n z x y k) = B at e6 e7 er
  generalize svD w n = S at e6 e7 e8 ⊢
  unfold L5__law_right
  walk_at "e1 e2 e3 e4 e5 e6 e7 e8 er hg hk"
abbrev env0 (pot : List D) : En := [.lst pot, .non, .non, .non, .non, .non, .non, .non, .non, .non, .non, .non, .non, .non]
theorem lap_ok {pot : List D} {d : D} {c : Nat} (hc : c < 100000) (hp : Pot c pot) : ∃ pot', tn (gName 1) L6__law_right d (env0 pot) = .nx (env0 pot') ∧ Pot (c + 100) pot' := by
  obtain ⟨W, pot1, hW, e1, hp1⟩ := small_eq (by omega) hp
  have Wd := world_of hW
  obtain ⟨w, n', z', m, t⟩ := W
  simp only at e1 Wd
  generalize (n' : Int) = n at e1 Wd
  generalize (z' : Int) = z at e1 Wd
  have z1 := Wd.z1
  have z3 := Wd.z3
  have hn : (0 : Int) ≤ n := by have := Wd.n1; omega
  have ha := allS_len (w := w) (n := n) (z := z) m
  have hf := Wd.few
  have e2 := all_scripts_eq (w := w) Wd.n1 Wd.n4 (show 0 ≤ z by omega) z3 (c := m) (by have := Wd.m4; omega) (by omega)
  have e3 := up_loop (pot := .lst pot1) (lap := d) (w := w) (n := n) (z := z) (m := (m : Int)) (t := (t : Int)) Wd.n4 (allS w n z m) [] (fun vs hv => by
    obtain ⟨h1, h2⟩ := allS_ok hn hv
    exact ⟨h2, by have := Wd.m4; omega⟩) (.inr Wd.first) (by rw [List.length_nil]; omega)
  have e4 := chk_all (pot := .lst pot1) (lap := d) Wd
  obtain ⟨u, pot2, e5, u0, u1, hp2⟩ := takeOk pot1 60 (c + 3) hp1 (by decide) (by decide) (by omega)
  obtain ⟨e', h1, c', pot', rfl, hp', hc'⟩ := forD_inv (tg := gName 11) (fb := L5__law_right) (fun ds e => ∃ (c' : Nat) (pot : List D), e = [.lst pot, d, svD w n, .int (z + u), .int (m : Int), .int (t : Int), dtB (shownK (allS w n z m) []), .non, .non, .non, .non, .non, .non, .non] ∧ Pot c' pot ∧ c' + 5 * ds.length ≤ c + 64) (fun dd ds e ⟨c', pot, he, hp, hc'⟩ => by
    subst he
    rw [List.length_cons] at hc'
    obtain ⟨pot', h1, h2⟩ := far_turn (d := dd) (lap := d) (C := dtB (shownK (allS w n z m) [])) (m := (m : Int)) (t := (t : Int)) Wd.hw Wd.n1 Wd.n4 (show 0 ≤ z + u by omega) (by omega) (show c' + 5 < 1000000 by omega) hp
    exact ⟨_, h1, c' + 5, pot', rfl, h2, by omega⟩) (rngD 0 12) [.lst pot2, d, svD w n, .int (z + u), .int (m : Int), .int (t : Int), dtB (shownK (allS w n z m) []), .non, .non, .non, .non, .non, .non, .non] ⟨c + 4, pot2, rfl, hp2, by rw [rngD_len]; omega⟩
  have h12 : (12 : Int).toNat = 12 := rfl
  refine ⟨pot', ?_, hp'.mono (by omega)⟩
  unfold eU at e3 e4
  have e3 : fForD (gName 7) L1__law_right ((allS w n z m).map scrD) [.lst pot1, d, svD w n, .int z, .int (m : Int), .int (t : Int), .dt [] [], .non, .non, .non, .non, .non, .non, .non] = _ := e3
  generalize dtB (shownK (allS w n z m) []) = C at e3 e4 h1
  generalize (allS w n z m).map scrD = AS at e2 e3
  generalize svD w n = S at e1 e2 e3 e4 h1
  unfold L6__law_right
  walk_at "e1 e2 e3 e4 e5 h12 h1"
theorem right_ok (xs : List D) (hp : Pot 0 xs) : ∃ xs', F__law_right [.lst xs] = some (.bl true, .lst xs') := by
  obtain ⟨e', h1, c', pot', rfl, hp', hc'⟩ := forD_inv (tg := gName 1) (fb := L6__law_right) (fun ds e => ∃ (c' : Nat) (pot : List D), e = env0 pot ∧ Pot c' pot ∧ c' + 100 * ds.length ≤ 300) (fun dd ds e ⟨c', pot, he, hp, hc'⟩ => by
    subst he
    rw [List.length_cons] at hc'
    obtain ⟨pot', h1, h2⟩ := lap_ok (d := dd) (by omega) hp
    exact ⟨_, h1, c' + 100, pot', rfl, h2, by omega⟩) (rngD 0 3) (env0 xs) ⟨0, xs, rfl, hp, by rw [rngD_len]; omega⟩
  have h3 : (3 : Int).toNat = 3 := rfl
  refine ⟨pot', runMR_rt rfl (e := env0 pot') ?_ rfl⟩
  walk_at "h3 h1"
theorem main : Main := fun ns hn => law_main (by decide) (by decide) (by decide) (by decide) (by decide) (by decide) (by decide) (by decide) (by decide) right_ok hn
theorem law_law : ∀ ds Q, ds.length = 1 → S_law ds Q → A_law (endsD Q) (startS 2 (ds.map .pu)) := law_of main
end K16
namespace K16
open PySem L2 DL FB
def topS (i : Nat) : Stmt := PySem.Challenge.pw_queueloops_k16_whole_pairs_that_can_be.main.body.getD i (.Pass ⟨0, 0, 0, 0⟩)
abbrev s_is_integer : Stmt := topS 6
abbrev N_is_integer : List Str := ["value"]
abbrev s_gap_of : Stmt := topS 23
abbrev N_gap_of : List Str := ["pair", "ahead", "behind", "slots"]
abbrev s__law_pot : Stmt := topS 27
abbrev N__law_pot : List Str := ["script", "place", "cell", "own", "small"]
abbrev s__law_take : Stmt := topS 28
abbrev N__law_take : List Str := ["pot", "upto", "digit", "prime", "blend"]
abbrev s__law_cells : Stmt := topS 30
abbrev N__law_cells : List Str := ["script", "most"]
abbrev s__law_is_int : Stmt := topS 31
abbrev N__law_is_int : List Str := ["value", "least", "most"]
abbrev s__law_can_be : Stmt := topS 35
abbrev N__law_can_be : List Str := ["service", "size", "pair", "x", "y", "d", "word", "n", "gap"]
abbrev s__law_slot_values : Stmt := topS 37
abbrev N__law_slot_values : List Str := ["service", "size", "found", "rows", "lap", "later", "row", "count", "delay"]
abbrev s__law_pairs_in : Stmt := topS 38
abbrev N__law_pairs_in : List Str := ["packets", "found", "at", "slot", "delay", "later", "other"]
abbrev s_is_within : Stmt := topS 7
abbrev N_is_within : List Str := ["value", "least", "most"]
abbrev s_is_possible : Stmt := topS 24
abbrev N_is_possible : List Str := ["service", "pair", "word", "many", "ahead", "behind", "slots", "gap"]
abbrev s__law_of : Stmt := topS 29
abbrev N__law_of : List Str := ["pot", "some"]
abbrev s__law_slot_delays : Stmt := topS 32
abbrev N__law_slot_delays : List Str := ["service", "packets", "slot", "value", "ahead", "at", "one", "delay"]
abbrev s_is_service : Stmt := topS 16
abbrev N_is_service : List Str := ["value"]
abbrev s_check_size : Stmt := topS 18
abbrev N_check_size : List Str := ["size"]
abbrev s_check_pair : Stmt := topS 22
abbrev N_check_pair : List Str := ["pair", "size", "delay"]
abbrev s__law_can_stand : Stmt := topS 33
abbrev N__law_can_stand : List Str := ["service", "size", "packets", "slot", "value", "delays", "before", "leaves", "last", "one", "delay", "other"]
abbrev s__law_packets : Stmt := topS 34
abbrev N__law_packets : List Str := ["service", "script", "packets", "slot", "value", "delay"]
abbrev s__law_small_world : Stmt := topS 39
abbrev N__law_small_world : List Str := ["pot", "word", "n", "size", "ahead"]
abbrev s_check_service : Stmt := topS 17
abbrev N_check_service : List Str := ["service"]
abbrev s__law_all_scripts : Stmt := topS 36
abbrev N__law_all_scripts : List Str := ["service", "size", "slots", "rows", "slot", "later", "script", "packets", "value"]
abbrev s_can_be : Stmt := topS 25
abbrev N_can_be : List Str := ["service", "size", "pair"]
abbrev s__law_right : Stmt := topS 40
abbrev N__law_right : List Str := ["pot", "lap", "service", "size", "slots", "most", "shown", "script", "x", "y", "d", "turn", "near", "due"]
abbrev s_law : Stmt := topS 41
abbrev N_law : List Str := ["script", "place"]
structure Tx (K : PySem.W.Frag) (mg : Str → Option Value) where
  f_is_integer : Addr
  d_is_integer : FuncData
  F_is_integer : Fun K "is_integer" "is_integer" s_is_integer f_is_integer d_is_integer
  b_is_integer : Binds K d_is_integer ["value"] []
  g_is_integer : mg "is_integer" = some (.ref f_is_integer)
  f_gap_of : Addr
  d_gap_of : FuncData
  F_gap_of : Fun K "gap_of" "gap_of" s_gap_of f_gap_of d_gap_of
  b_gap_of : Binds K d_gap_of ["pair"] []
  g_gap_of : mg "gap_of" = some (.ref f_gap_of)
  f__law_pot : Addr
  d__law_pot : FuncData
  F__law_pot : Fun K "_law_pot" "_law_pot" s__law_pot f__law_pot d__law_pot
  b__law_pot : Binds K d__law_pot ["script", "place"] []
  g__law_pot : mg "_law_pot" = some (.ref f__law_pot)
  f__law_take : Addr
  d__law_take : FuncData
  F__law_take : Fun K "_law_take" "_law_take" s__law_take f__law_take d__law_take
  b__law_take : Binds K d__law_take ["pot", "upto"] []
  g__law_take : mg "_law_take" = some (.ref f__law_take)
  f__law_cells : Addr
  d__law_cells : FuncData
  F__law_cells : Fun K "_law_cells" "_law_cells" s__law_cells f__law_cells d__law_cells
  b__law_cells : Binds K d__law_cells ["script", "most"] []
  g__law_cells : mg "_law_cells" = some (.ref f__law_cells)
  f__law_is_int : Addr
  d__law_is_int : FuncData
  F__law_is_int : Fun K "_law_is_int" "_law_is_int" s__law_is_int f__law_is_int d__law_is_int
  b__law_is_int : Binds K d__law_is_int ["value", "least", "most"] []
  g__law_is_int : mg "_law_is_int" = some (.ref f__law_is_int)
  f__law_can_be : Addr
  d__law_can_be : FuncData
  F__law_can_be : Fun K "_law_can_be" "_law_can_be" s__law_can_be f__law_can_be d__law_can_be
  b__law_can_be : Binds K d__law_can_be ["service", "size", "pair"] []
  g__law_can_be : mg "_law_can_be" = some (.ref f__law_can_be)
  f__law_slot_values : Addr
  d__law_slot_values : FuncData
  F__law_slot_values : Fun K "_law_slot_values" "_law_slot_values" s__law_slot_values f__law_slot_values d__law_slot_values
  b__law_slot_values : Binds K d__law_slot_values ["service", "size"] []
  g__law_slot_values : mg "_law_slot_values" = some (.ref f__law_slot_values)
  f__law_pairs_in : Addr
  d__law_pairs_in : FuncData
  F__law_pairs_in : Fun K "_law_pairs_in" "_law_pairs_in" s__law_pairs_in f__law_pairs_in d__law_pairs_in
  b__law_pairs_in : Binds K d__law_pairs_in ["packets"] []
  g__law_pairs_in : mg "_law_pairs_in" = some (.ref f__law_pairs_in)
  f_is_within : Addr
  d_is_within : FuncData
  F_is_within : Fun K "is_within" "is_within" s_is_within f_is_within d_is_within
  b_is_within : Binds K d_is_within ["value", "least", "most"] []
  g_is_within : mg "is_within" = some (.ref f_is_within)
  f_is_possible : Addr
  d_is_possible : FuncData
  F_is_possible : Fun K "is_possible" "is_possible" s_is_possible f_is_possible d_is_possible
  b_is_possible : Binds K d_is_possible ["service", "pair"] []
  g_is_possible : mg "is_possible" = some (.ref f_is_possible)
  f__law_of : Addr
  d__law_of : FuncData
  F__law_of : Fun K "_law_of" "_law_of" s__law_of f__law_of d__law_of
  b__law_of : Binds K d__law_of ["pot", "some"] []
  g__law_of : mg "_law_of" = some (.ref f__law_of)
  f__law_slot_delays : Addr
  d__law_slot_delays : FuncData
  F__law_slot_delays : Fun K "_law_slot_delays" "_law_slot_delays" s__law_slot_delays f__law_slot_delays d__law_slot_delays
  b__law_slot_delays : Binds K d__law_slot_delays ["service", "packets", "slot", "value"] []
  g__law_slot_delays : mg "_law_slot_delays" = some (.ref f__law_slot_delays)
  f_is_service : Addr
  d_is_service : FuncData
  F_is_service : Fun K "is_service" "is_service" s_is_service f_is_service d_is_service
  b_is_service : Binds K d_is_service ["value"] []
  g_is_service : mg "is_service" = some (.ref f_is_service)
  f_check_size : Addr
  d_check_size : FuncData
  F_check_size : Fun K "check_size" "check_size" s_check_size f_check_size d_check_size
  b_check_size : Binds K d_check_size ["size"] []
  g_check_size : mg "check_size" = some (.ref f_check_size)
  f_check_pair : Addr
  d_check_pair : FuncData
  F_check_pair : Fun K "check_pair" "check_pair" s_check_pair f_check_pair d_check_pair
  b_check_pair : Binds K d_check_pair ["pair", "size"] []
  g_check_pair : mg "check_pair" = some (.ref f_check_pair)
  f__law_can_stand : Addr
  d__law_can_stand : FuncData
  F__law_can_stand : Fun K "_law_can_stand" "_law_can_stand" s__law_can_stand f__law_can_stand d__law_can_stand
  b__law_can_stand : Binds K d__law_can_stand ["service", "size", "packets", "slot", "value"] []
  g__law_can_stand : mg "_law_can_stand" = some (.ref f__law_can_stand)
  f__law_packets : Addr
  d__law_packets : FuncData
  F__law_packets : Fun K "_law_packets" "_law_packets" s__law_packets f__law_packets d__law_packets
  b__law_packets : Binds K d__law_packets ["service", "script"] []
  g__law_packets : mg "_law_packets" = some (.ref f__law_packets)
  f__law_small_world : Addr
  d__law_small_world : FuncData
  F__law_small_world : Fun K "_law_small_world" "_law_small_world" s__law_small_world f__law_small_world d__law_small_world
  b__law_small_world : Binds K d__law_small_world ["pot"] []
  g__law_small_world : mg "_law_small_world" = some (.ref f__law_small_world)
  f_check_service : Addr
  d_check_service : FuncData
  F_check_service : Fun K "check_service" "check_service" s_check_service f_check_service d_check_service
  b_check_service : Binds K d_check_service ["service"] []
  g_check_service : mg "check_service" = some (.ref f_check_service)
  f__law_all_scripts : Addr
  d__law_all_scripts : FuncData
  F__law_all_scripts : Fun K "_law_all_scripts" "_law_all_scripts" s__law_all_scripts f__law_all_scripts d__law_all_scripts
  b__law_all_scripts : Binds K d__law_all_scripts ["service", "size", "slots"] []
  g__law_all_scripts : mg "_law_all_scripts" = some (.ref f__law_all_scripts)
  f_can_be : Addr
  d_can_be : FuncData
  F_can_be : Fun K "can_be" "can_be" s_can_be f_can_be d_can_be
  b_can_be : Binds K d_can_be ["service", "size", "pair"] []
  g_can_be : mg "can_be" = some (.ref f_can_be)
  f__law_right : Addr
  d__law_right : FuncData
  F__law_right : Fun K "_law_right" "_law_right" s__law_right f__law_right d__law_right
  b__law_right : Binds K d__law_right ["pot"] []
  g__law_right : mg "_law_right" = some (.ref f__law_right)
  f_law : Addr
  d_law : FuncData
  F_law : Fun K "law" "law" s_law f_law d_law
  b_law : Binds K d_law ["script"] []
  g_law : mg "law" = some (.ref f_law)
  kb_0 : KBinds K d_can_be ["service", "size", "pair"] ["pair", "service", "size"] (gP 3 [1, 2, 0]) (gP 3 [1, 2, 0])
  z_abs : mg "abs" = none
  z_all : mg "all" = none
  z_bool : mg "bool" = none
  z_enumerate : mg "enumerate" = none
  z_int : mg "int" = none
  z_isinstance : mg "isinstance" = none
  z_len : mg "len" = none
  z_list : mg "list" = none
  z_max : mg "max" = none
  z_min : mg "min" = none
  z_range : mg "range" = none
  z_repr : mg "repr" = none
  z_set : mg "set" = none
  z_str : mg "str" = none
  z_sum : mg "sum" = none
  z_tuple : mg "tuple" = none
  z_zip : mg "zip" = none
  c_MOST_COME : ∃ t, mg "MOST_COME" = some (.int 4 t)
  c_MOST_SIZE : ∃ t, mg "MOST_SIZE" = some (.int 400 t)
  c_MOST_SLOTS_BEHIND : ∃ t, mg "MOST_SLOTS_BEHIND" = some (.int 400 t)
  c_ORDER : ∃ t, mg "ORDER" = some (.str "order" t)
  c_PAIR : ∃ t, mg "PAIR" = some (.int 2 t)
  c_QUEUE : ∃ t, mg "QUEUE" = some (.str "queue" t)
  c_TRIPLE : ∃ t, mg "TRIPLE" = some (.int 3 t)
  q_WORDS : Addr
  c_WORDS : mg "WORDS" = some (.ref q_WORDS)
  t_WORDS : ∀ F, SqT K F q_WORDS [.str "queue", .str "order", .str "any"]
  e_WORDS : ∀ F, DqA K F [.str "queue", .str "order", .str "any"] [.str "queue", .str "order", .str "any"]
section
variable {P : Program} {w : World} {K : PySem.W.Frag} {mg : Str → Option Value} {base : Heap}
theorem sc_is_integer : FnScope N_is_integer ["value"] (defScope s_is_integer) := ⟨rfl, rfl, rfl, by decide +kernel, rfl, by decide +kernel, by decide +kernel⟩
theorem ok_is_integer (T : Tx K mg) : FnOk P w K mg base CX0 1 T.f_is_integer T.d_is_integer ["value"] (spD K 1 S_is_integer) := fnDF (as := A_is_integer) T.F_is_integer sc_is_integer rfl law_is_integer fun cdv A outer s H E hr => ⟨_,
    (ss_one (s_ret (d_and (d_isi (K := K) (hK := rfl) (T := .int) (d_var 0) T.z_isinstance (by decide +kernel) T.z_int (by decide +kernel)) (d_one (d_not (d_isi (K := K) (hK := rfl) (T := .bool) (d_var 0) T.z_isinstance (by decide +kernel) T.z_bool (by decide +kernel)))))))⟩
theorem sc_gap_of : FnScope N_gap_of ["pair"] (defScope s_gap_of) := ⟨rfl, rfl, rfl, by decide +kernel, rfl, by decide +kernel, by decide +kernel⟩
theorem ok_gap_of (T : Tx K mg) : FnOk P w K mg base CX0 1 T.f_gap_of T.d_gap_of ["pair"] (spD K 1 S_gap_of) := fnDF (as := A_gap_of) T.F_gap_of sc_gap_of rfl law_gap_of fun cdv A outer s H E hr => ⟨_,
    (ss_cons (s_asg (d_var 0) (dg_tup (K := K) (hK := rfl) rfl (dgs_cons (dg_name (i := 1) sc_gap_of.nd) (dgs_cons (dg_name (i := 2) sc_gap_of.nd) (dgs_cons (dg_name (i := 3) sc_gap_of.nd) dgs_nil)))))
    (ss_one (s_ret (d_sub (d_add (d_var 3) (d_var 2)) (d_var 1)))))⟩
theorem sc__law_pot : FnScope N__law_pot ["script", "place"] (defScope s__law_pot) := ⟨rfl, rfl, rfl, by decide +kernel, rfl, by decide +kernel, by decide +kernel⟩
theorem ok__law_pot (T : Tx K mg) : FnOk P w K mg base CX0 1 T.f__law_pot T.d__law_pot ["script", "place"] (spD K 2 S__law_pot) := fnDF (as := A__law_pot) T.F__law_pot sc__law_pot rfl law__law_pot fun cdv A outer s H E hr => ⟨_,
    (ss_cons (s_set (i := 2) sc__law_pot.nd (d_if (t_cmp op_lt rd_b (d_var 1) (d_cb (K := K) (hK := rfl) rc_len call_len_seq T.z_len (by decide +kernel) (da_cons (d_var 0) da_nil)) (nomark _)) (d_ix (K := K) (hK := rfl) (d_var 0) (d_var 1)) (d_add (d_add (d_mod (d_cb (K := K) (hK := rfl) rc_sum (cr_sum rfl) T.z_sum (by decide +kernel) (da_cons (d_slL (K := K) (hK := rfl) (d_var 0) do_no (do_so d_int)) da_nil)) d_int) (d_mul d_int (d_var 1))) d_int)))
    (ss_cons (s_set (i := 3) sc__law_pot.nd (d_mul (d_mod (d_ct (K := K) (hK := rfl) rc_int call_int1 T.z_int (by decide +kernel) (da_cons (d_cb (K := K) (hK := rfl) rc_i1 cr_abs T.z_abs (by decide +kernel) (da_cons (d_var 2) da_nil)) da_nil)) (d_powW (d_pow d_int d_int) d_int)) (d_ct (K := K) (hK := rfl) rc_int call_int1 T.z_int (by decide +kernel) (da_cons (d_cmp op_ge rd_b (d_cb (K := K) (hK := rfl) rc_i1 cr_abs T.z_abs (by decide +kernel) (da_cons (d_var 2) da_nil)) (d_pow d_int d_int) (nomark _)) da_nil))))
    (ss_cons (s_set (i := 4) sc__law_pot.nd (d_mod (d_ct (K := K) (hK := rfl) rc_int call_int1 T.z_int (by decide +kernel) (da_cons (d_var 2) da_nil)) d_int))
    (ss_one (s_ret (d_lst (da_cons (d_var 3) (da_cons (d_mod (d_ct (K := K) (hK := rfl) rc_int call_int1 T.z_int (by decide +kernel) (da_cons (d_add (d_add (d_mul (d_var 4) d_int) (d_mul (d_mul d_int (d_var 1)) (d_var 1))) d_int) da_nil)) d_int) (da_cons d_int da_nil)))))))))⟩
theorem sc__law_take : FnScope N__law_take ["pot", "upto"] (defScope s__law_take) := ⟨rfl, rfl, rfl, by decide +kernel, rfl, by decide +kernel, by decide +kernel⟩
theorem ok__law_take (T : Tx K mg) : FnOk P w K mg base CX0 1 T.f__law_take T.d__law_take ["pot", "upto"] (spM K 2 S__law_take) := fnMF (as := A__law_take) T.F__law_take sc__law_take rfl law__law_take fun cdv A outer s H E hr => ⟨_,
    (ss_cons (s_if (t_cmp op_gt rd_b (d_ixO (K := K) (hK := rfl) (i := 0) (d_var 0) d_int) d_int (nomark _)) (ss_cons (s_set (i := 2) sc__law_take.nd (d_mod (d_ct (K := K) (hK := rfl) rc_int call_int1 T.z_int (by decide +kernel) (da_cons (d_ixO (K := K) (hK := rfl) (i := 0) (d_var 0) d_int) da_nil)) (d_var 1)))
    (ss_cons (s_put (i := 0) (d_fdivW (d_ixO (K := K) (hK := rfl) (i := 0) (d_var 0) d_int) (d_var 1)) (d_var 0) d_int)
    (ss_one (s_ret (d_var 2))))) ss_nil)
    (ss_cons (s_put (i := 0) (d_add (d_ixO (K := K) (hK := rfl) (i := 0) (d_var 0) d_int) d_int) (d_var 0) d_int)
    (ss_cons (s_set (i := 3) sc__law_take.nd (d_ix (K := K) (hK := rfl) (d_lst (da_cons d_int (da_cons d_int (da_cons d_int (da_cons d_int (da_cons d_int da_nil)))))) (d_mod (d_ct (K := K) (hK := rfl) rc_int call_int1 T.z_int (by decide +kernel) (da_cons (d_ixO (K := K) (hK := rfl) (i := 0) (d_var 0) d_int) da_nil)) d_int)))
    (ss_cons (s_set (i := 4) sc__law_take.nd (d_mod (d_ct (K := K) (hK := rfl) rc_int call_int1 T.z_int (by decide +kernel) (da_cons (d_pow (d_ct (K := K) (hK := rfl) rc_int call_int1 T.z_int (by decide +kernel) (da_cons (d_add (d_add (d_ixO (K := K) (hK := rfl) (i := 0) (d_var 0) d_int) (d_mul (d_mul d_int (d_ixO (K := K) (hK := rfl) (i := 0) (d_var 0) d_int)) (d_ixO (K := K) (hK := rfl) (i := 0) (d_var 0) d_int))) d_int) da_nil)) d_int) da_nil)) (d_var 3)))
    (ss_cons (s_set (i := 4) sc__law_take.nd (d_mod (d_ct (K := K) (hK := rfl) rc_int call_int1 T.z_int (by decide +kernel) (da_cons (d_mul (d_var 4) (d_add (d_mod (d_ct (K := K) (hK := rfl) rc_int call_int1 T.z_int (by decide +kernel) (da_cons (d_var 4) da_nil)) d_int) (d_mul d_int (d_ixO (K := K) (hK := rfl) (i := 0) (d_var 0) d_int)))) da_nil)) d_int))
    (ss_one (s_ret (d_mod (d_ct (K := K) (hK := rfl) rc_int call_int1 T.z_int (by decide +kernel) (da_cons (d_fdivW (d_var 4) d_int) da_nil)) (d_var 1)))))))))⟩
theorem sc__law_cells : FnScope N__law_cells ["script", "most"] (defScope s__law_cells) := ⟨rfl, rfl, rfl, by decide +kernel, rfl, by decide +kernel, by decide +kernel⟩
theorem ok__law_cells (T : Tx K mg) : FnOk P w K mg base CX0 1 T.f__law_cells T.d__law_cells ["script", "most"] (spD K 2 S__law_cells) := fnDF (as := A__law_cells) T.F__law_cells sc__law_cells rfl law__law_cells fun cdv A outer s H E hr => ⟨_,
    (ss_one (s_ret (d_list_range1 T.z_list T.z_range rfl (d_cb (K := K) (hK := rfl) rc_i2 (cr_max2 rfl) T.z_max (by decide +kernel) (da_cons d_int (da_cons (d_cb (K := K) (hK := rfl) rc_i2 (cr_min2 rfl) T.z_min (by decide +kernel) (da_cons (d_var 1) (da_cons (d_cb (K := K) (hK := rfl) rc_len call_len_seq T.z_len (by decide +kernel) (da_cons (d_var 0) da_nil)) da_nil))) da_nil))))))⟩
theorem sc__law_is_int : FnScope N__law_is_int ["value", "least", "most"] (defScope s__law_is_int) := ⟨rfl, rfl, rfl, by decide +kernel, rfl, by decide +kernel, by decide +kernel⟩
theorem ok__law_is_int (T : Tx K mg) : FnOk P w K mg base CX0 1 T.f__law_is_int T.d__law_is_int ["value", "least", "most"] (spD K 3 S__law_is_int) := fnDF (as := A__law_is_int) T.F__law_is_int sc__law_is_int rfl law__law_is_int fun cdv A outer s H E hr => ⟨_,
    (ss_one (s_ret (d_and (d_isi (K := K) (hK := rfl) (T := .int) (d_var 0) T.z_isinstance (by decide +kernel) T.z_int (by decide +kernel)) (d_and (d_not (d_isi (K := K) (hK := rfl) (T := .bool) (d_var 0) T.z_isinstance (by decide +kernel) T.z_bool (by decide +kernel))) (d_one (d_chain op_le rd_b op_le rd_b (d_var 1) (d_var 0) (d_var 2)))))))⟩
theorem sc__law_can_be : FnScope N__law_can_be ["service", "size", "pair"] (defScope s__law_can_be) := ⟨rfl, rfl, rfl, by decide +kernel, rfl, by decide +kernel, by decide +kernel⟩
theorem ok__law_can_be (T : Tx K mg) : FnOk P w K mg base CX0 1 T.f__law_can_be T.d__law_can_be ["service", "size", "pair"] (spD K 3 S__law_can_be) := fnDF (as := A__law_can_be) T.F__law_can_be sc__law_can_be rfl law__law_can_be fun cdv A outer s H E hr => ⟨_,
    (ss_cons (s_asg (d_var 2) (dg_tup (K := K) (hK := rfl) rfl (dgs_cons (dg_name (i := 3) sc__law_can_be.nd) (dgs_cons (dg_name (i := 4) sc__law_can_be.nd) (dgs_cons (dg_name (i := 5) sc__law_can_be.nd) dgs_nil)))))
    (ss_cons (s_asg (d_var 0) (dg_tup (K := K) (hK := rfl) rfl (dgs_cons (dg_name (i := 6) sc__law_can_be.nd) (dgs_cons (dg_name (i := 7) sc__law_can_be.nd) dgs_nil))))
    (ss_cons (s_if (t_w (w_or (t_cmp op_gt rd_b (d_cb (K := K) (hK := rfl) rc_i2 (cr_max2 rfl) T.z_max (by decide +kernel) (da_cons (d_var 3) (da_cons (d_var 4) da_nil))) (d_var 1) (nomark _)) (w_or1 (t_w (w_and (t_cmp op_eq rd_eq (d_var 7) d_int (nomark _)) (w_and1 (t_cmp op_eq rd_eq (d_var 5) d_int (nomark _)))))))) (ss_one (s_ret d_bl)) ss_nil)
    (ss_cons (s_set (i := 8) sc__law_can_be.nd (d_sub (d_add (d_var 5) (d_var 4)) (d_var 3)))
    (ss_cons (s_if (t_cmp op_eq rd_eq (d_var 6) d_str (nomark _)) (ss_one (s_ret (d_cmp op_ne rd_ne (d_var 8) d_int (nomark _)))) ss_nil)
    (ss_cons (s_if (t_cmp op_eq rd_eq (d_var 6) d_str (nomark _)) (ss_one (s_ret (d_cmp op_ge rd_b (d_var 8) d_int (nomark _)))) ss_nil)
    (ss_one (s_ret (d_if (t_cmp op_eq rd_eq (d_var 7) d_int (nomark _)) (d_and (d_cmp op_eq rd_eq (d_var 3) d_int (nomark _)) (d_one (d_cmp op_eq rd_eq (d_var 4) d_int (nomark _)))) (d_chain op_le rd_b op_le rd_b d_int (d_var 8) (d_sub (d_add (d_mul (d_var 7) (d_var 5)) (d_var 7)) d_int)))))))))))⟩
theorem sc__law_slot_values : FnScope N__law_slot_values ["service", "size"] (defScope s__law_slot_values) := ⟨rfl, rfl, rfl, by decide +kernel, rfl, by decide +kernel, by decide +kernel⟩
theorem ok__law_slot_values (T : Tx K mg) : FnOk P w K mg base CX0 1 T.f__law_slot_values T.d__law_slot_values ["service", "size"] (spD K 2 S__law_slot_values) := fnDF (as := A__law_slot_values) T.F__law_slot_values sc__law_slot_values rfl law__law_slot_values fun cdv A outer s H E hr => ⟨_,
    (ss_cons (s_if (t_cmp op_eq rd_eq (d_ix (K := K) (hK := rfl) (d_var 0) d_int) d_str (nomark _)) (ss_one (s_ret (d_lc (own := [("count", 7)]) rfl sc__law_slot_values.nd (di_rng1 T.z_range (da_cons (d_add (d_ix (K := K) (hK := rfl) (d_var 0) d_int) d_int) da_nil)) (blkOk_by (N := N__law_slot_values) (sc := defScope s__law_slot_values) (own := [("count", 7)]) (by decide +kernel)) (by decide) (fun _ _ _ _ _ => (dg_name (i := 7) sc__law_slot_values.nd)) (fun _ _ _ _ _ => (d_ct (K := K) (hK := rfl) rc_int call_int1 T.z_int (by decide +kernel) (da_cons (d_var 7) da_nil)))))) ss_nil)
    (ss_cons (s_par (i := 2) (j := 3) rfl sc__law_slot_values.nd (d_lst (da_cons (d_tup da_nil) da_nil)) (d_lst (da_cons (d_tup da_nil) da_nil)) (by decide) (by rfl))
    (ss_cons (s_for PassesOwn.never rfl (di_rng1 T.z_range (da_cons (d_ix (K := K) (hK := rfl) (d_var 0) d_int) da_nil)) (dg_name (i := 4) sc__law_slot_values.nd) (ss_cons (s_set (i := 5) sc__law_slot_values.nd (d_lst da_nil))
    (ss_cons (s_for PassesOwn.never rfl (di_list (K := K) (hK := rfl) (d_var 3)) (dg_name (i := 6) sc__law_slot_values.nd) (ss_one (s_ext (i := 5) (d_lcI (own := [("delay", 8)]) rfl sc__law_slot_values.nd (di_rng1 T.z_range (da_cons (d_add (d_var 1) d_int) da_nil)) (blkOk_by (N := N__law_slot_values) (sc := defScope s__law_slot_values) (own := [("delay", 8)]) (by decide +kernel)) (by decide) (fun _ _ _ _ _ => (dg_name (i := 8) sc__law_slot_values.nd)) (fun _ _ _ _ _ => (t_nin (K := K) (hK := rfl) (d_var 8) (d_var 6))) (fun _ _ _ _ _ => (d_cat_tup (K := K) (hK := rfl) (d_var 6) (d_tup (da_cons (d_ct (K := K) (hK := rfl) rc_int call_int1 T.z_int (by decide +kernel) (da_cons (d_var 8) da_nil)) da_nil))))) (d_var 5))))
    (ss_one (s_par (i := 2) (j := 3) rfl sc__law_slot_values.nd (d_cat_lst (d_var 2) (d_var 5)) (d_var 5) (by decide) (by rfl))))))
    (ss_one (s_ret (d_var 2))))))⟩
theorem sc__law_pairs_in : FnScope N__law_pairs_in ["packets"] (defScope s__law_pairs_in) := ⟨rfl, rfl, rfl, by decide +kernel, rfl, by decide +kernel, by decide +kernel⟩
theorem ok__law_pairs_in (T : Tx K mg) : FnOk P w K mg base CX0 1 T.f__law_pairs_in T.d__law_pairs_in ["packets"] (spD K 1 S__law_pairs_in) := fnDF (as := A__law_pairs_in) T.F__law_pairs_in sc__law_pairs_in rfl law__law_pairs_in fun cdv A outer s H E hr => ⟨_,
    (ss_cons (s_set (i := 1) sc__law_pairs_in.nd d_dicT)
    (ss_cons (s_for PassesOwn.never rfl (di_enumerateL (K := K) (hK := rfl) T.z_enumerate (da_cons (d_var 0) da_nil)) (dg_tup (K := K) (hK := rfl) rfl (dgs_cons (dg_name (i := 2) sc__law_pairs_in.nd) (dgs_cons (dg_tup (K := K) (hK := rfl) rfl (dgs_cons (dg_name (i := 3) sc__law_pairs_in.nd) (dgs_cons (dg_name (i := 4) sc__law_pairs_in.nd) dgs_nil))) dgs_nil))) (ss_one (s_for PassesOwn.never rfl (di_list (K := K) (hK := rfl) (d_slL (K := K) (hK := rfl) (d_var 0) (do_so (d_add (d_var 2) d_int)) do_no)) (dg_tup (K := K) (hK := rfl) rfl (dgs_cons (dg_name (i := 5) sc__law_pairs_in.nd) (dgs_cons (dg_name (i := 6) sc__law_pairs_in.nd) dgs_nil))) (ss_one (s_putT (K := K) (hK := rfl) (i := 1) (path := []) hr.units (d_var 1).pe fok_nil (da_cons (d_ct (K := K) (hK := rfl) rc_int call_int1 T.z_int (by decide +kernel) (da_cons (d_var 4) da_nil)) (da_cons (d_ct (K := K) (hK := rfl) rc_int call_int1 T.z_int (by decide +kernel) (da_cons (d_var 6) da_nil)) (da_cons (d_ct (K := K) (hK := rfl) rc_int call_int1 T.z_int (by decide +kernel) (da_cons (d_sub (d_var 5) (d_var 3)) da_nil)) da_nil))) d_bl)))))
    (ss_one (s_ret (d_var 1)))))⟩
theorem sc_is_within : FnScope N_is_within ["value", "least", "most"] (defScope s_is_within) := ⟨rfl, rfl, rfl, by decide +kernel, rfl, by decide +kernel, by decide +kernel⟩
theorem ok_is_within (T : Tx K mg) : FnOk P w K mg base CX0 2 T.f_is_within T.d_is_within ["value", "least", "most"] (spD K 3 S_is_within) := fnDF (as := A_is_within) T.F_is_within sc_is_within rfl law_is_within fun cdv A outer s H E hr => ⟨_,
    (ss_one (s_ret (d_and (d_callF (K := K) (hK := rfl) (ok_is_integer T) (hr.mono (by decide)) T.g_is_integer T.F_is_integer.kp T.b_is_integer (da_cons (d_var 0) da_nil)) (d_one (d_chain op_le rd_b op_le rd_b (d_var 1) (d_var 0) (d_var 2))))))⟩
theorem sc_is_possible : FnScope N_is_possible ["service", "pair"] (defScope s_is_possible) := ⟨rfl, rfl, rfl, by decide +kernel, rfl, by decide +kernel, by decide +kernel⟩
theorem ok_is_possible (T : Tx K mg) : FnOk P w K mg base CX0 2 T.f_is_possible T.d_is_possible ["service", "pair"] (spD K 2 S_is_possible) := fnDF (as := A_is_possible) T.F_is_possible sc_is_possible rfl law_is_possible fun cdv A outer s H E hr => ⟨_,
    (ss_cons (s_asg (d_var 0) (dg_tup (K := K) (hK := rfl) rfl (dgs_cons (dg_name (i := 2) sc_is_possible.nd) (dgs_cons (dg_name (i := 3) sc_is_possible.nd) dgs_nil))))
    (ss_cons (s_asg (d_var 1) (dg_tup (K := K) (hK := rfl) rfl (dgs_cons (dg_name (i := 4) sc_is_possible.nd) (dgs_cons (dg_name (i := 5) sc_is_possible.nd) (dgs_cons (dg_name (i := 6) sc_is_possible.nd) dgs_nil)))))
    (ss_cons (s_set (i := 7) sc_is_possible.nd (d_callF (K := K) (hK := rfl) (ok_gap_of T) (hr.mono (by decide)) T.g_gap_of T.F_gap_of.kp T.b_gap_of (da_cons (d_var 1) da_nil)))
    (ss_cons (s_if (t_w (w_and (t_cmp op_eq rd_eq (d_var 3) d_int (nomark _)) (w_and1 (t_cmp op_eq rd_eq (d_var 6) d_int (nomark _))))) (ss_one (s_ret d_bl)) ss_nil)
    (ss_cons (s_if (t_cmp op_ne rd_ne (d_var 2) (d_gstr T.c_QUEUE) (nomark _)) (ss_one (s_ret (d_if (t_cmp op_eq rd_eq (d_var 2) (d_gstr T.c_ORDER) (nomark _)) (d_cmp op_ge rd_b (d_var 7) d_int (nomark _)) (d_cmp op_ne rd_ne (d_var 7) d_int (nomark _))))) ss_nil)
    (ss_cons (s_if (t_cmp op_eq rd_eq (d_var 3) d_int (nomark _)) (ss_one (s_ret (d_chain op_eq rd_eq op_eq rd_eq (d_var 4) (d_var 5) d_int))) ss_nil)
    (ss_one (s_ret (d_chain op_le rd_b op_le rd_b d_int (d_var 7) (d_sub (d_add (d_mul (d_var 3) (d_var 6)) (d_var 3)) d_int))))))))))⟩
theorem sc__law_of : FnScope N__law_of ["pot", "some"] (defScope s__law_of) := ⟨rfl, rfl, rfl, by decide +kernel, rfl, by decide +kernel, by decide +kernel⟩
theorem ok__law_of (T : Tx K mg) : FnOk P w K mg base CX0 2 T.f__law_of T.d__law_of ["pot", "some"] (spM K 2 S__law_of) := fnMF (as := A__law_of) T.F__law_of sc__law_of rfl law__law_of fun cdv A outer s H E hr => ⟨_,
    (ss_one (s_ret (d_ix (K := K) (hK := rfl) (d_var 1) (d_callMF (K := K) (hK := rfl) (j := 0) (ok__law_take T) (hr.mono (by decide)) T.g__law_take T.F__law_take.kp T.b__law_take (d_var 0) (da_cons (d_cb (K := K) (hK := rfl) rc_len call_len_seq T.z_len (by decide +kernel) (da_cons (d_var 1) da_nil)) da_nil)))))⟩
theorem sc__law_slot_delays : FnScope N__law_slot_delays ["service", "packets", "slot", "value"] (defScope s__law_slot_delays) := ⟨rfl, rfl, rfl, by decide +kernel, rfl, by decide +kernel, by decide +kernel⟩
theorem ok__law_slot_delays (T : Tx K mg) : FnOk P w K mg base CX0 2 T.f__law_slot_delays T.d__law_slot_delays ["service", "packets", "slot", "value"] (spD K 4 S__law_slot_delays) := fnDF (as := A__law_slot_delays) T.F__law_slot_delays sc__law_slot_delays rfl law__law_slot_delays fun cdv A outer s H E hr => ⟨_,
    (ss_cons (s_if (t_cmp op_eq rd_eq (d_ix (K := K) (hK := rfl) (d_var 0) d_int) d_str (nomark _)) (ss_cons (s_if (t_not (t_val (d_callF (K := K) (hK := rfl) (ok__law_is_int T) (hr.mono (by decide)) T.g__law_is_int T.F__law_is_int.kp T.b__law_is_int (da_cons (d_var 3) (da_cons d_int (da_cons (d_ix (K := K) (hK := rfl) (d_var 0) d_int) da_nil)))))) (ss_one s_nev) ss_nil)
    (ss_cons (s_set (i := 4) sc__law_slot_delays.nd (d_cb (K := K) (hK := rfl) rc_max (cr_max rfl) T.z_max (by decide +kernel) (da_cons (d_cat_lst (d_lst (da_cons d_int da_nil)) (d_lc (own := [("one", 6), ("delay", 7)]) rfl sc__law_slot_delays.nd (di_list (K := K) (hK := rfl) (d_slL (K := K) (hK := rfl) (d_var 1) (do_so (d_neg d_int)) do_no)) (blkOk_by (N := N__law_slot_delays) (sc := defScope s__law_slot_delays) (own := [("one", 6), ("delay", 7)]) (by decide +kernel)) (by decide) (fun _ _ _ _ _ => (dg_tup (K := K) (hK := rfl) rfl (dgs_cons (dg_name (i := 6) sc__law_slot_delays.nd) (dgs_cons (dg_name (i := 7) sc__law_slot_delays.nd) dgs_nil)))) (fun _ _ _ _ _ => (d_sub (d_add (d_add (d_var 6) (d_var 7)) d_int) (d_var 2))))) da_nil)))
    (ss_one (s_ret (d_lc (own := [("at", 5)]) rfl sc__law_slot_delays.nd (di_rng1 T.z_range (da_cons (d_var 3) da_nil)) (blkOk_by (N := N__law_slot_delays) (sc := defScope s__law_slot_delays) (own := [("at", 5)]) (by decide +kernel)) (by decide) (fun _ _ _ _ _ => (dg_name (i := 5) sc__law_slot_delays.nd)) (fun _ _ _ _ _ => (d_ct (K := K) (hK := rfl) rc_int call_int1 T.z_int (by decide +kernel) (da_cons (d_add (d_var 4) (d_var 5)) da_nil)))))))) ss_nil)
    (ss_cons (s_if (t_w (w_or (t_not (t_val (d_isi (K := K) (hK := rfl) (T := .tuple) (d_var 3) T.z_isinstance (by decide +kernel) T.z_tuple (by decide +kernel)))) (w_or1 (t_cmp op_gt rd_b (d_cb (K := K) (hK := rfl) rc_len call_len_seq T.z_len (by decide +kernel) (da_cons (d_var 3) da_nil)) (d_ix (K := K) (hK := rfl) (d_var 0) d_int) (nomark _))))) (ss_one s_nev) ss_nil)
    (ss_one (s_ret (d_ct (K := K) (hK := rfl) rc_list call_list_of T.z_list (by decide +kernel) (da_cons (d_var 3) da_nil))))))⟩
theorem sc_is_service : FnScope N_is_service ["value"] (defScope s_is_service) := ⟨rfl, rfl, rfl, by decide +kernel, rfl, by decide +kernel, by decide +kernel⟩
theorem ok_is_service (T : Tx K mg) : FnOk P w K mg base CX0 3 T.f_is_service T.d_is_service ["value"] (spD K 1 S_is_service) := fnDF (as := A_is_service) T.F_is_service sc_is_service rfl law_is_service fun cdv A outer s H E hr => ⟨_,
    (ss_cons (s_if (t_w (w_or (t_not (t_val (d_isi (K := K) (hK := rfl) (T := .tuple) (d_var 0) T.z_isinstance (by decide +kernel) T.z_tuple (by decide +kernel)))) (w_or (t_cmp op_ne rd_ne (d_cb (K := K) (hK := rfl) rc_len call_len_seq T.z_len (by decide +kernel) (da_cons (d_var 0) da_nil)) (d_gint T.c_PAIR) (nomark _)) (w_or (t_not (t_val (d_isi (K := K) (hK := rfl) (T := .str) (d_ix (K := K) (hK := rfl) (d_var 0) d_int) T.z_isinstance (by decide +kernel) T.z_str (by decide +kernel)))) (w_or1 (t_nin (K := K) (hK := rfl) (d_ix (K := K) (hK := rfl) (d_var 0) d_int) (d_gtup T.c_WORDS T.t_WORDS T.e_WORDS))))))) (ss_one (s_ret d_bl)) ss_nil)
    (ss_one (s_ret (d_callF (K := K) (hK := rfl) (ok_is_within T) (hr.mono (by decide)) T.g_is_within T.F_is_within.kp T.b_is_within (da_cons (d_ix (K := K) (hK := rfl) (d_var 0) d_int) (da_cons d_int (da_cons (d_gint T.c_MOST_COME) da_nil)))))))⟩
theorem sc_check_size : FnScope N_check_size ["size"] (defScope s_check_size) := ⟨rfl, rfl, rfl, by decide +kernel, rfl, by decide +kernel, by decide +kernel⟩
theorem ok_check_size (T : Tx K mg) : FnOk P w K mg base CX0 3 T.f_check_size T.d_check_size ["size"] (spD K 1 S_check_size) := fnDF (as := A_check_size) T.F_check_size sc_check_size rfl law_check_size fun cdv A outer s H E hr => ⟨_,
    (ss_one (s_if (t_not (t_val (d_callF (K := K) (hK := rfl) (ok_is_within T) (hr.mono (by decide)) T.g_is_within T.F_is_within.kp T.b_is_within (da_cons (d_var 0) (da_cons d_int (da_cons (d_gint T.c_MOST_SIZE) da_nil)))))) (ss_one s_nev) ss_nil))⟩
theorem sc_check_pair : FnScope N_check_pair ["pair", "size"] (defScope s_check_pair) := ⟨rfl, rfl, rfl, by decide +kernel, rfl, by decide +kernel, by decide +kernel⟩
theorem ok_check_pair (T : Tx K mg) : FnOk P w K mg base CX0 3 T.f_check_pair T.d_check_pair ["pair", "size"] (spD K 2 S_check_pair) := fnDF (as := A_check_pair) T.F_check_pair sc_check_pair rfl law_check_pair fun cdv A outer s H E hr => ⟨_,
    (ss_cons (s_if (t_w (w_or (t_not (t_val (d_isi (K := K) (hK := rfl) (T := .tuple) (d_var 0) T.z_isinstance (by decide +kernel) T.z_tuple (by decide +kernel)))) (w_or1 (t_cmp op_ne rd_ne (d_cb (K := K) (hK := rfl) rc_len call_len_seq T.z_len (by decide +kernel) (da_cons (d_var 0) da_nil)) (d_gint T.c_TRIPLE) (nomark _))))) (ss_one s_nev) ss_nil)
    (ss_one (s_if (t_w (w_or (t_not (t_val (d_cb (K := K) (hK := rfl) rc_all (cr_all rfl) T.z_all (by decide +kernel) (da_cons (d_lc (own := [("delay", 2)]) rfl sc_check_pair.nd (di_tup (K := K) (hK := rfl) (d_slT (K := K) (hK := rfl) (d_var 0) do_no (do_so (d_neg d_int)))) (blkOk_by (N := N_check_pair) (sc := defScope s_check_pair) (own := [("delay", 2)]) (by decide +kernel)) (by decide) (fun _ _ _ _ _ => (dg_name (i := 2) sc_check_pair.nd)) (fun _ _ _ _ _ => (d_callF (K := K) (hK := rfl) (ok_is_within T) (hr.mono (by decide)) T.g_is_within T.F_is_within.kp T.b_is_within (da_cons (d_var 2) (da_cons d_int (da_cons (d_var 1) da_nil)))))) da_nil)))) (w_or1 (t_not (t_val (d_callF (K := K) (hK := rfl) (ok_is_within T) (hr.mono (by decide)) T.g_is_within T.F_is_within.kp T.b_is_within (da_cons (d_ix (K := K) (hK := rfl) (d_var 0) (d_neg d_int)) (da_cons d_int (da_cons (d_gint T.c_MOST_SLOTS_BEHIND) da_nil))))))))) (ss_one s_nev) ss_nil)))⟩
theorem sc__law_can_stand : FnScope N__law_can_stand ["service", "size", "packets", "slot", "value"] (defScope s__law_can_stand) := ⟨rfl, rfl, rfl, by decide +kernel, rfl, by decide +kernel, by decide +kernel⟩
theorem ok__law_can_stand (T : Tx K mg) : FnOk P w K mg base CX0 3 T.f__law_can_stand T.d__law_can_stand ["service", "size", "packets", "slot", "value"] (spD K 5 S__law_can_stand) := fnDF (as := A__law_can_stand) T.F__law_can_stand sc__law_can_stand rfl law__law_can_stand fun cdv A outer s H E hr => ⟨_,
    (ss_cons (s_set (i := 5) sc__law_can_stand.nd (d_callF (K := K) (hK := rfl) (ok__law_slot_delays T) (hr.mono (by decide)) T.g__law_slot_delays T.F__law_slot_delays.kp T.b__law_slot_delays (da_cons (d_var 0) (da_cons (d_var 2) (da_cons (d_var 3) (da_cons (d_var 4) da_nil))))))
    (ss_cons (s_if (t_w (w_or (t_cmp op_isN rd_isN (d_var 5) d_non (nomark _)) (w_or1 (t_not (t_val (d_cb (K := K) (hK := rfl) rc_all (cr_all rfl) T.z_all (by decide +kernel) (da_cons (d_lc (own := [("delay", 10)]) rfl sc__law_can_stand.nd (di_list (K := K) (hK := rfl) (d_var 5)) (blkOk_by (N := N__law_can_stand) (sc := defScope s__law_can_stand) (own := [("delay", 10)]) (by decide +kernel)) (by decide) (fun _ _ _ _ _ => (dg_name (i := 10) sc__law_can_stand.nd)) (fun _ _ _ _ _ => (d_callF (K := K) (hK := rfl) (ok__law_is_int T) (hr.mono (by decide)) T.g__law_is_int T.F__law_is_int.kp T.b__law_is_int (da_cons (d_var 10) (da_cons d_int (da_cons (d_var 1) da_nil)))))) da_nil))))))) (ss_one (s_ret d_bl)) ss_nil)
    (ss_cons (s_par (i := 6) (j := 7) rfl sc__law_can_stand.nd (d_lc (own := [("one", 9), ("delay", 10)]) rfl sc__law_can_stand.nd (di_list (K := K) (hK := rfl) (d_var 2)) (blkOk_by (N := N__law_can_stand) (sc := defScope s__law_can_stand) (own := [("one", 9), ("delay", 10)]) (by decide +kernel)) (by decide) (fun _ _ _ _ _ => (dg_tup (K := K) (hK := rfl) rfl (dgs_cons (dg_name (i := 9) sc__law_can_stand.nd) (dgs_cons (dg_name (i := 10) sc__law_can_stand.nd) dgs_nil)))) (fun _ _ _ _ _ => (d_add (d_var 9) (d_var 10)))) (d_lc (own := [("delay", 10)]) rfl sc__law_can_stand.nd (di_list (K := K) (hK := rfl) (d_var 5)) (blkOk_by (N := N__law_can_stand) (sc := defScope s__law_can_stand) (own := [("delay", 10)]) (by decide +kernel)) (by decide) (fun _ _ _ _ _ => (dg_name (i := 10) sc__law_can_stand.nd)) (fun _ _ _ _ _ => (d_add (d_var 3) (d_var 10)))) (by decide) (by rfl))
    (ss_cons (s_if (t_cmp op_eq rd_eq (d_ix (K := K) (hK := rfl) (d_var 0) d_int) d_str (nomark _)) (ss_one (s_ret (d_cmp op_eq rd_eq (d_lenSetL (K := K) (hK := rfl) T.z_len T.z_set (d_cat_lst (d_var 6) (d_var 7))) (d_add (d_cb (K := K) (hK := rfl) rc_len call_len_seq T.z_len (by decide +kernel) (da_cons (d_var 6) da_nil)) (d_cb (K := K) (hK := rfl) rc_len call_len_seq T.z_len (by decide +kernel) (da_cons (d_var 7) da_nil))) (nomark _)))) ss_nil)
    (ss_cons (s_set (i := 8) sc__law_can_stand.nd (d_cb (K := K) (hK := rfl) rc_max (cr_max rfl) T.z_max (by decide +kernel) (da_cons (d_cat_lst (d_lst (da_cons (d_neg d_int) da_nil)) (d_var 6)) da_nil)))
    (ss_one (s_ret (d_cb (K := K) (hK := rfl) rc_all (cr_all rfl) T.z_all (by decide +kernel) (da_cons (d_lc (own := [("one", 9), ("other", 11)]) rfl sc__law_can_stand.nd (di_zip (K := K) (hK := rfl) T.z_zip (da_cons (d_cat_lst (d_lst (da_cons (d_var 8) da_nil)) (d_var 7)) (da_cons (d_var 7) da_nil))) (blkOk_by (N := N__law_can_stand) (sc := defScope s__law_can_stand) (own := [("one", 9), ("other", 11)]) (by decide +kernel)) (by decide) (fun _ _ _ _ _ => (dg_tup (K := K) (hK := rfl) rfl (dgs_cons (dg_name (i := 9) sc__law_can_stand.nd) (dgs_cons (dg_name (i := 11) sc__law_can_stand.nd) dgs_nil)))) (fun _ _ _ _ _ => (d_cmp op_lt rd_b (d_var 9) (d_var 11) (nomark _)))) da_nil)))))))))⟩
theorem sc__law_packets : FnScope N__law_packets ["service", "script"] (defScope s__law_packets) := ⟨rfl, rfl, rfl, by decide +kernel, rfl, by decide +kernel, by decide +kernel⟩
theorem ok__law_packets (T : Tx K mg) : FnOk P w K mg base CX0 3 T.f__law_packets T.d__law_packets ["service", "script"] (spD K 2 S__law_packets) := fnDF (as := A__law_packets) T.F__law_packets sc__law_packets rfl law__law_packets fun cdv A outer s H E hr => ⟨_,
    (ss_cons (s_set (i := 2) sc__law_packets.nd (d_lst da_nil))
    (ss_cons (s_for PassesOwn.never rfl (di_enumerateT (K := K) (hK := rfl) T.z_enumerate (da_cons (d_var 1) da_nil)) (dg_tup (K := K) (hK := rfl) rfl (dgs_cons (dg_name (i := 3) sc__law_packets.nd) (dgs_cons (dg_name (i := 4) sc__law_packets.nd) dgs_nil))) (ss_one (s_ext (i := 2) (d_lc (own := [("delay", 5)]) rfl sc__law_packets.nd (di_list (K := K) (hK := rfl) (d_callBoF (K := K) (hK := rfl) (i := 2) (ok__law_slot_delays T) (hr.mono (by decide)) T.g__law_slot_delays T.F__law_slot_delays.kp T.b__law_slot_delays (dab_cons (d_var 0) (dab_here (d_var 2) (da_cons (d_var 3) (da_cons (d_var 4) da_nil)))))) (blkOk_by (N := N__law_packets) (sc := defScope s__law_packets) (own := [("delay", 5)]) (by decide +kernel)) (by decide) (fun _ _ _ _ _ => (dg_name (i := 5) sc__law_packets.nd)) (fun _ _ _ _ _ => (d_tup (da_cons (d_ct (K := K) (hK := rfl) rc_int call_int1 T.z_int (by decide +kernel) (da_cons (d_var 3) da_nil)) (da_cons (d_ct (K := K) (hK := rfl) rc_int call_int1 T.z_int (by decide +kernel) (da_cons (d_var 5) da_nil)) da_nil))))) (d_var 2))))
    (ss_one (s_ret (d_var 2)))))⟩
theorem sc__law_small_world : FnScope N__law_small_world ["pot"] (defScope s__law_small_world) := ⟨rfl, rfl, rfl, by decide +kernel, rfl, by decide +kernel, by decide +kernel⟩
theorem ok__law_small_world (T : Tx K mg) : FnOk P w K mg base CX0 3 T.f__law_small_world T.d__law_small_world ["pot"] (spM K 1 S__law_small_world) := fnMF (as := A__law_small_world) T.F__law_small_world sc__law_small_world rfl law__law_small_world fun cdv A outer s H E hr => ⟨_,
    (ss_cons (s_par (i := 1) (j := 2) rfl sc__law_small_world.nd (d_callMF (K := K) (hK := rfl) (j := 0) (ok__law_of T) (hr.mono (by decide)) T.g__law_of T.F__law_of.kp T.b__law_of (d_var 0) (da_cons (d_lst (da_cons d_str (da_cons d_str (da_cons d_str (da_cons d_str da_nil))))) da_nil)) (d_add d_int (d_callMF (K := K) (hK := rfl) (j := 0) (ok__law_take T) (hr.mono (by decide)) T.g__law_take T.F__law_take.kp T.b__law_take (d_var 0) (da_cons d_int da_nil))) (by decide) (by rfl))
    (ss_cons (s_if (t_cmp op_eq rd_eq (d_var 1) d_str (nomark _)) (ss_cons (s_set (i := 3) sc__law_small_world.nd (d_add d_int (d_callMF (K := K) (hK := rfl) (j := 0) (ok__law_take T) (hr.mono (by decide)) T.g__law_take T.F__law_take.kp T.b__law_take (d_var 0) (da_cons (d_if (t_cmp op_eq rd_eq (d_var 2) d_int (nomark _)) d_int d_int) da_nil))))
    (ss_cons (s_set (i := 4) sc__law_small_world.nd (d_if (t_cmp op_eq rd_eq (d_var 2) d_int (nomark _)) d_int (d_fdiv (d_sub (d_add (d_var 3) (d_var 2)) d_int) (d_sub (d_var 2) d_int))))
    (ss_one (s_ret (d_tup (da_cons (d_tup (da_cons (d_var 1) (da_cons (d_ct (K := K) (hK := rfl) rc_int call_int1 T.z_int (by decide +kernel) (da_cons (d_var 2) da_nil)) da_nil))) (da_cons (d_ct (K := K) (hK := rfl) rc_int call_int1 T.z_int (by decide +kernel) (da_cons (d_var 3) da_nil)) (da_cons (d_ct (K := K) (hK := rfl) rc_int call_int1 T.z_int (by decide +kernel) (da_cons (d_add (d_var 4) d_int) da_nil)) (da_cons d_int da_nil))))))))) ss_nil)
    (ss_cons (s_if (t_cmp op_gt rd_b (d_var 2) d_int (nomark _)) (ss_one (s_ret (d_tup (da_cons (d_tup (da_cons (d_var 1) (da_cons (d_ct (K := K) (hK := rfl) rc_int call_int1 T.z_int (by decide +kernel) (da_cons (d_var 2) da_nil)) da_nil))) (da_cons (d_add d_int (d_callMF (K := K) (hK := rfl) (j := 0) (ok__law_take T) (hr.mono (by decide)) T.g__law_take T.F__law_take.kp T.b__law_take (d_var 0) (da_cons d_int da_nil))) (da_cons d_int (da_cons d_int da_nil))))))) ss_nil)
    (ss_one (s_ret (d_tup (da_cons (d_tup (da_cons (d_var 1) (da_cons (d_ct (K := K) (hK := rfl) rc_int call_int1 T.z_int (by decide +kernel) (da_cons (d_var 2) da_nil)) da_nil))) (da_cons (d_add d_int (d_callMF (K := K) (hK := rfl) (j := 0) (ok__law_take T) (hr.mono (by decide)) T.g__law_take T.F__law_take.kp T.b__law_take (d_var 0) (da_cons (d_if (t_cmp op_eq rd_eq (d_var 2) d_int (nomark _)) d_int d_int) da_nil))) (da_cons d_int (da_cons d_int da_nil))))))))))⟩
theorem sc_check_service : FnScope N_check_service ["service"] (defScope s_check_service) := ⟨rfl, rfl, rfl, by decide +kernel, rfl, by decide +kernel, by decide +kernel⟩
theorem ok_check_service (T : Tx K mg) : FnOk P w K mg base CX0 4 T.f_check_service T.d_check_service ["service"] (spD K 1 S_check_service) := fnDF (as := A_check_service) T.F_check_service sc_check_service rfl law_check_service fun cdv A outer s H E hr => ⟨_,
    (ss_one (s_if (t_not (t_val (d_callF (K := K) (hK := rfl) (ok_is_service T) (hr.mono (by decide)) T.g_is_service T.F_is_service.kp T.b_is_service (da_cons (d_var 0) da_nil)))) (ss_one s_nev) ss_nil))⟩
theorem sc__law_all_scripts : FnScope N__law_all_scripts ["service", "size", "slots"] (defScope s__law_all_scripts) := ⟨rfl, rfl, rfl, by decide +kernel, rfl, by decide +kernel, by decide +kernel⟩
theorem ok__law_all_scripts (T : Tx K mg) : FnOk P w K mg base CX0 4 T.f__law_all_scripts T.d__law_all_scripts ["service", "size", "slots"] (spD K 3 S__law_all_scripts) := fnDF (as := A__law_all_scripts) T.F__law_all_scripts sc__law_all_scripts rfl law__law_all_scripts fun cdv A outer s H E hr => ⟨_,
    (ss_cons (s_set (i := 3) sc__law_all_scripts.nd (d_lst (da_cons (d_tup da_nil) da_nil)))
    (ss_cons (s_for PassesOwn.never rfl (di_rng1 T.z_range (da_cons (d_var 2) da_nil)) (dg_name (i := 4) sc__law_all_scripts.nd) (ss_cons (s_set (i := 5) sc__law_all_scripts.nd (d_lst da_nil))
    (ss_cons (s_for PassesOwn.never rfl (di_list (K := K) (hK := rfl) (d_var 3)) (dg_name (i := 6) sc__law_all_scripts.nd) (ss_cons (s_set (i := 7) sc__law_all_scripts.nd (d_callF (K := K) (hK := rfl) (ok__law_packets T) (hr.mono (by decide)) T.g__law_packets T.F__law_packets.kp T.b__law_packets (da_cons (d_var 0) (da_cons (d_var 6) da_nil))))
    (ss_one (s_for PassesOwn.never rfl (di_list (K := K) (hK := rfl) (d_callF (K := K) (hK := rfl) (ok__law_slot_values T) (hr.mono (by decide)) T.g__law_slot_values T.F__law_slot_values.kp T.b__law_slot_values (da_cons (d_var 0) (da_cons (d_var 1) da_nil)))) (dg_name (i := 8) sc__law_all_scripts.nd) (ss_one (s_if (t_val (d_callF (K := K) (hK := rfl) (ok__law_can_stand T) (hr.mono (by decide)) T.g__law_can_stand T.F__law_can_stand.kp T.b__law_can_stand (da_cons (d_var 0) (da_cons (d_var 1) (da_cons (d_var 7) (da_cons (d_var 4) (da_cons (d_var 8) da_nil))))))) (ss_one (s_app (i := 5) (d_cat_tup (K := K) (hK := rfl) (d_var 6) (d_tup (da_cons (d_var 8) da_nil))) (d_var 5))) ss_nil))))))
    (ss_one (s_set (i := 3) sc__law_all_scripts.nd (d_var 5))))))
    (ss_one (s_ret (d_var 3)))))⟩
theorem sc_can_be : FnScope N_can_be ["service", "size", "pair"] (defScope s_can_be) := ⟨rfl, rfl, rfl, by decide +kernel, rfl, by decide +kernel, by decide +kernel⟩
theorem ok_can_be (T : Tx K mg) : FnOk P w K mg base CX0 5 T.f_can_be T.d_can_be ["service", "size", "pair"] (spD K 3 S_can_be) := fnDF (as := A_can_be) T.F_can_be sc_can_be rfl law_can_be fun cdv A outer s H E hr => ⟨_,
    (ss_cons (s_expr (d_callF (K := K) (hK := rfl) (ok_check_service T) (hr.mono (by decide)) T.g_check_service T.F_check_service.kp T.b_check_service (da_cons (d_var 0) da_nil)))
    (ss_cons (s_expr (d_callF (K := K) (hK := rfl) (ok_check_size T) (hr.mono (by decide)) T.g_check_size T.F_check_size.kp T.b_check_size (da_cons (d_var 1) da_nil)))
    (ss_cons (s_expr (d_callF (K := K) (hK := rfl) (ok_check_pair T) (hr.mono (by decide)) T.g_check_pair T.F_check_pair.kp T.b_check_pair (da_cons (d_var 2) (da_cons (d_var 1) da_nil))))
    (ss_one (s_ret (d_callF (K := K) (hK := rfl) (ok_is_possible T) (hr.mono (by decide)) T.g_is_possible T.F_is_possible.kp T.b_is_possible (da_cons (d_var 0) (da_cons (d_var 2) da_nil))))))))⟩
theorem sc__law_right : FnScope N__law_right ["pot"] (defScope s__law_right) := ⟨rfl, rfl, rfl, by decide +kernel, rfl, by decide +kernel, by decide +kernel⟩
theorem ok__law_right (T : Tx K mg) : GnOk P w K mg base CX0 6 T.f__law_right T.d__law_right ["pot"] (spM K 1 S__law_right) := fnM (as := A__law_right) T.F__law_right sc__law_right rfl law__law_right fun cdv A outer s H E hg hr => ⟨_,
    (ss_cons (s_for PassesOwn.never rfl (di_rng1 T.z_range (da_cons d_int da_nil)) (dg_name (i := 1) sc__law_right.nd) (ss_cons (s_asg (d_callM (K := K) (hK := rfl) (j := 0) (gn_of (ok__law_small_world T)) hg (hr.mono (by decide)) T.g__law_small_world T.F__law_small_world.kp T.b__law_small_world (d_var 0) da_nil) (dg_tup (K := K) (hK := rfl) rfl (dgs_cons (dg_name (i := 2) sc__law_right.nd) (dgs_cons (dg_name (i := 3) sc__law_right.nd) (dgs_cons (dg_name (i := 4) sc__law_right.nd) (dgs_cons (dg_name (i := 5) sc__law_right.nd) dgs_nil))))))
    (ss_cons (s_set (i := 6) sc__law_right.nd d_dicT)
    (ss_cons (s_for PassesOwn.never rfl (di_list (K := K) (hK := rfl) (d_call (K := K) (hK := rfl) (gn_of (ok__law_all_scripts T)) hg (hr.mono (by decide)) T.g__law_all_scripts T.F__law_all_scripts.kp T.b__law_all_scripts (da_cons (d_var 2) (da_cons (d_var 3) (da_cons (d_var 4) da_nil))))) (dg_name (i := 7) sc__law_right.nd) (ss_one (s_updT (K := K) (hK := rfl) (i := 6) (path := []) hr.units (d_var 6).pe fok_nil (d_call (K := K) (hK := rfl) (gn_of (ok__law_pairs_in T)) hg (hr.mono (by decide)) T.g__law_pairs_in T.F__law_pairs_in.kp T.b__law_pairs_in (da_cons (d_call (K := K) (hK := rfl) (gn_of (ok__law_packets T)) hg (hr.mono (by decide)) T.g__law_packets T.F__law_packets.kp T.b__law_packets (da_cons (d_var 2) (da_cons (d_var 7) da_nil))) da_nil)))))
    (ss_cons (s_for PassesOwn.never rfl (di_rng1 T.z_range (da_cons (d_add (d_var 3) d_int) da_nil)) (dg_name (i := 8) sc__law_right.nd) (ss_one (s_for PassesOwn.never rfl (di_rng1 T.z_range (da_cons (d_add (d_var 3) d_int) da_nil)) (dg_name (i := 9) sc__law_right.nd) (ss_one (s_for PassesOwn.never rfl (di_rng1 T.z_range (da_cons (d_add (d_var 5) d_int) da_nil)) (dg_name (i := 10) sc__law_right.nd) (ss_one (s_if (t_cmp op_ne rd_ne (d_cb (K := K) (hK := rfl) rc_repr (cr_repr hg hr) T.z_repr (by decide +kernel) (da_cons (d_call (K := K) (hK := rfl) (gn_of (ok_can_be T)) hg (hr.mono (by decide)) T.g_can_be T.F_can_be.kp T.b_can_be (da_cons (d_var 2) (da_cons (d_ct (K := K) (hK := rfl) rc_int call_int1 T.z_int (by decide +kernel) (da_cons (d_var 3) da_nil)) (da_cons (d_tup (da_cons (d_var 8) (da_cons (d_var 9) (da_cons (d_var 10) da_nil)))) da_nil)))) da_nil)) (d_cb (K := K) (hK := rfl) rc_repr (cr_repr hg hr) T.z_repr (by decide +kernel) (da_cons (d_inTP (K := K) (hK := rfl) (i := 6) (path := []) hr.units (da_cons (d_var 8) (da_cons (d_var 9) (da_cons (d_var 10) da_nil))) (d_var 6).pe fok_nil) da_nil)) (nomark _)) (ss_one (s_ret d_bl)) ss_nil)))))))
    (ss_cons (s_set (i := 3) sc__law_right.nd (d_ct (K := K) (hK := rfl) rc_int call_int1 T.z_int (by decide +kernel) (da_cons (d_add (d_var 3) (d_callM (K := K) (hK := rfl) (j := 0) (gn_of (ok__law_take T)) hg (hr.mono (by decide)) T.g__law_take T.F__law_take.kp T.b__law_take (d_var 0) (da_cons d_int da_nil))) da_nil)))
    (ss_one (s_for PassesOwn.never rfl (di_rng1 T.z_range (da_cons d_int da_nil)) (dg_name (i := 11) sc__law_right.nd) (ss_cons (s_par (i := 8) (j := 9) rfl sc__law_right.nd (d_callM (K := K) (hK := rfl) (j := 0) (gn_of (ok__law_take T)) hg (hr.mono (by decide)) T.g__law_take T.F__law_take.kp T.b__law_take (d_var 0) (da_cons (d_add (d_var 3) d_int) da_nil)) (d_callM (K := K) (hK := rfl) (j := 0) (gn_of (ok__law_take T)) hg (hr.mono (by decide)) T.g__law_take T.F__law_take.kp T.b__law_take (d_var 0) (da_cons (d_add (d_var 3) d_int) da_nil)) (by decide) (by rfl))
    (ss_cons (s_set (i := 12) sc__law_right.nd (d_cb (K := K) (hK := rfl) rc_i2 (cr_max2 rfl) T.z_max (by decide +kernel) (da_cons d_int (da_cons (d_sub (d_add (d_sub (d_var 8) (d_var 9)) (d_callM (K := K) (hK := rfl) (j := 0) (gn_of (ok__law_take T)) hg (hr.mono (by decide)) T.g__law_take T.F__law_take.kp T.b__law_take (d_var 0) (da_cons d_int da_nil))) d_int) da_nil))))
    (ss_cons (s_set (i := 10) sc__law_right.nd (d_cb (K := K) (hK := rfl) rc_i2 (cr_min2 rfl) T.z_min (by decide +kernel) (da_cons d_int (da_cons (d_ct (K := K) (hK := rfl) rc_int call_int1 T.z_int (by decide +kernel) (da_cons (d_callM (K := K) (hK := rfl) (j := 0) (gn_of (ok__law_of T)) hg (hr.mono (by decide)) T.g__law_of T.F__law_of.kp T.b__law_of (d_var 0) (da_cons (d_lst (da_cons (d_var 12) (da_cons (d_var 12) (da_cons (d_callM (K := K) (hK := rfl) (j := 0) (gn_of (ok__law_take T)) hg (hr.mono (by decide)) T.g__law_take T.F__law_take.kp T.b__law_take (d_var 0) (da_cons (d_add (d_var 3) d_int) da_nil)) (da_cons d_int (da_cons d_int da_nil)))))) da_nil)) da_nil)) da_nil))))
    (ss_cons (s_set (i := 13) sc__law_right.nd (d_call (K := K) (hK := rfl) (gn_of (ok__law_can_be T)) hg (hr.mono (by decide)) T.g__law_can_be T.F__law_can_be.kp T.b__law_can_be (da_cons (d_var 2) (da_cons (d_var 3) (da_cons (d_tup (da_cons (d_var 8) (da_cons (d_var 9) (da_cons (d_var 10) da_nil)))) da_nil)))))
    (ss_one (s_if (t_cmp op_ne rd_ne (d_cb (K := K) (hK := rfl) rc_repr (cr_repr hg hr) T.z_repr (by decide +kernel) (da_cons (d_callK (K := K) (hK := rfl) (gn_of (ok_can_be T)) hg (hr.mono (by decide)) T.g_can_be T.F_can_be.kp T.kb_0 (dk_cons (d_tup (da_cons (d_ct (K := K) (hK := rfl) rc_int call_int1 T.z_int (by decide +kernel) (da_cons (d_var 8) da_nil)) (da_cons (d_ct (K := K) (hK := rfl) rc_int call_int1 T.z_int (by decide +kernel) (da_cons (d_var 9) da_nil)) (da_cons (d_var 10) da_nil)))) (dk_cons (d_var 2) (dk_cons (d_var 3) dk_nil)))) da_nil)) (d_cb (K := K) (hK := rfl) rc_repr (cr_repr hg hr) T.z_repr (by decide +kernel) (da_cons (d_var 13) da_nil)) (nomark _)) (ss_one (s_ret d_bl)) ss_nil))))))))))))))
    (ss_one (s_ret d_bl)))⟩
theorem sc_law : FnScope N_law ["script"] (defScope s_law) := ⟨rfl, rfl, rfl, by decide +kernel, rfl, by decide +kernel, by decide +kernel⟩
theorem ok_law (T : Tx K mg) : GnOk P w K mg base CX0 7 T.f_law T.d_law ["script"] (spD K 1 S_law) := fnD (as := A_law) T.F_law sc_law rfl law_law fun cdv A outer s H E hg hr => ⟨_,
    (ss_one (s_ret (d_cb (K := K) (hK := rfl) rc_all (cr_all rfl) T.z_all (by decide +kernel) (da_cons (d_lc (own := [("place", 1)]) rfl sc_law.nd (di_list (K := K) (hK := rfl) (d_call (K := K) (hK := rfl) (gn_of (ok__law_cells T)) hg (hr.mono (by decide)) T.g__law_cells T.F__law_cells.kp T.b__law_cells (da_cons (d_var 0) (da_cons d_int da_nil)))) (blkOk_by (N := N_law) (sc := defScope s_law) (own := [("place", 1)]) (by decide +kernel)) (by decide) (fun _ _ _ _ _ => (dg_name (i := 1) sc_law.nd)) (fun _ _ _ _ _ => (d_callT (K := K) (hK := rfl) (ok__law_right T) hg (hr.mono (by decide)) T.g__law_right T.F__law_right.kp T.b__law_right (d_call (K := K) (hK := rfl) (gn_of (ok__law_pot T)) hg (hr.mono (by decide)) T.g__law_pot T.F__law_pot.kp T.b__law_pot (da_cons (d_var 0) (da_cons (d_var 1) da_nil))) da_nil))) da_nil))))⟩
end
theorem all_mk {l : PySem.W.OpenLaw} {w : World} {K : PySem.W.Frag} {h : Heap} {mg : Str → Option Value} {fa a_is_integer a_gap_of a__law_pot a__law_take a__law_cells a__law_is_int a__law_can_be a__law_slot_values a__law_pairs_in a_is_within a_is_possible a__law_of a__law_slot_delays a_is_service a_check_size a_check_pair a__law_can_stand a__law_packets a__law_small_world a_check_service a__law_all_scripts a_can_be a__law_right a_law : Addr} (X : K.In h) (G : h.Ns mainGlobals mg) (hfa : mg "law" = some (.ref fa))
    {od0 an0 : Option Addr} {sl0 : Array (Option Value)} {oc0 kV0 dc0 pm0 cd0 ct0 : Value}
    {od1 an1 : Option Addr} {sl1 : Array (Option Value)} {oc1 kV1 dc1 pm1 cd1 ct1 : Value}
    {od2 an2 : Option Addr} {sl2 : Array (Option Value)} {oc2 kV2 dc2 pm2 cd2 ct2 : Value}
    {od3 an3 : Option Addr} {sl3 : Array (Option Value)} {oc3 kV3 dc3 pm3 cd3 ct3 : Value}
    {od4 an4 : Option Addr} {sl4 : Array (Option Value)} {oc4 kV4 dc4 pm4 cd4 ct4 : Value}
    {od5 an5 : Option Addr} {sl5 : Array (Option Value)} {oc5 kV5 dc5 pm5 cd5 ct5 : Value}
    {od6 an6 : Option Addr} {sl6 : Array (Option Value)} {oc6 kV6 dc6 pm6 cd6 ct6 : Value}
    {od7 an7 : Option Addr} {sl7 : Array (Option Value)} {oc7 kV7 dc7 pm7 cd7 ct7 : Value}
    {od8 an8 : Option Addr} {sl8 : Array (Option Value)} {oc8 kV8 dc8 pm8 cd8 ct8 : Value}
    {od9 an9 : Option Addr} {sl9 : Array (Option Value)} {oc9 kV9 dc9 pm9 cd9 ct9 : Value}
    {od10 an10 : Option Addr} {sl10 : Array (Option Value)} {oc10 kV10 dc10 pm10 cd10 ct10 : Value}
    {od11 an11 : Option Addr} {sl11 : Array (Option Value)} {oc11 kV11 dc11 pm11 cd11 ct11 : Value}
    {od12 an12 : Option Addr} {sl12 : Array (Option Value)} {oc12 kV12 dc12 pm12 cd12 ct12 : Value}
    {od13 an13 : Option Addr} {sl13 : Array (Option Value)} {oc13 kV13 dc13 pm13 cd13 ct13 : Value}
    {od14 an14 : Option Addr} {sl14 : Array (Option Value)} {oc14 kV14 dc14 pm14 cd14 ct14 : Value}
    {od15 an15 : Option Addr} {sl15 : Array (Option Value)} {oc15 kV15 dc15 pm15 cd15 ct15 : Value}
    {od16 an16 : Option Addr} {sl16 : Array (Option Value)} {oc16 kV16 dc16 pm16 cd16 ct16 : Value}
    {od17 an17 : Option Addr} {sl17 : Array (Option Value)} {oc17 kV17 dc17 pm17 cd17 ct17 : Value}
    {od18 an18 : Option Addr} {sl18 : Array (Option Value)} {oc18 kV18 dc18 pm18 cd18 ct18 : Value}
    {od19 an19 : Option Addr} {sl19 : Array (Option Value)} {oc19 kV19 dc19 pm19 cd19 ct19 : Value}
    {od20 an20 : Option Addr} {sl20 : Array (Option Value)} {oc20 kV20 dc20 pm20 cd20 ct20 : Value}
    {od21 an21 : Option Addr} {sl21 : Array (Option Value)} {oc21 kV21 dc21 pm21 cd21 ct21 : Value}
    {od22 an22 : Option Addr} {sl22 : Array (Option Value)} {oc22 kV22 dc22 pm22 cd22 ct22 : Value}
    {od23 an23 : Option Addr} {sl23 : Array (Option Value)} {oc23 kV23 dc23 pm23 cd23 ct23 : Value}
    {tk_MOST_COME : Tok}
    {tk_MOST_SIZE : Tok}
    {tk_MOST_SLOTS_BEHIND : Tok}
    {tk_ORDER : Tok}
    {tk_PAIR : Tok}
    {tk_QUEUE : Tok}
    {tk_TRIPLE : Tok}
    {q_WORDS : Addr} {tk_WORDS_0 tk_WORDS_1 tk_WORDS_2 : Tok} {n_WORDS : Nat} {od_WORDS : Option Addr} {sl_WORDS : Array (Option Value)}
    (a0 : PySem.W.nsIn K mainGlobals "is_integer" = some (some (.ref a_is_integer))) (l0 : K.lookup a_is_integer = some ⟨oc0, od0, .func (PySem.W.fnOf "is_integer" "is_integer" (defArgs s_is_integer) (defBody s_is_integer) (defScope s_is_integer) .none kV0 dc0 pm0 an0 cd0 ct0), sl0⟩) (c0 : PySem.W.codeIn K cd0 "is_integer" = true) (k0 : PySem.W.keepIn K (.ref a_is_integer) = true)
    (a1 : PySem.W.nsIn K mainGlobals "gap_of" = some (some (.ref a_gap_of))) (l1 : K.lookup a_gap_of = some ⟨oc1, od1, .func (PySem.W.fnOf "gap_of" "gap_of" (defArgs s_gap_of) (defBody s_gap_of) (defScope s_gap_of) .none kV1 dc1 pm1 an1 cd1 ct1), sl1⟩) (c1 : PySem.W.codeIn K cd1 "gap_of" = true) (k1 : PySem.W.keepIn K (.ref a_gap_of) = true)
    (a2 : PySem.W.nsIn K mainGlobals "_law_pot" = some (some (.ref a__law_pot))) (l2 : K.lookup a__law_pot = some ⟨oc2, od2, .func (PySem.W.fnOf "_law_pot" "_law_pot" (defArgs s__law_pot) (defBody s__law_pot) (defScope s__law_pot) .none kV2 dc2 pm2 an2 cd2 ct2), sl2⟩) (c2 : PySem.W.codeIn K cd2 "_law_pot" = true) (k2 : PySem.W.keepIn K (.ref a__law_pot) = true)
    (a3 : PySem.W.nsIn K mainGlobals "_law_take" = some (some (.ref a__law_take))) (l3 : K.lookup a__law_take = some ⟨oc3, od3, .func (PySem.W.fnOf "_law_take" "_law_take" (defArgs s__law_take) (defBody s__law_take) (defScope s__law_take) .none kV3 dc3 pm3 an3 cd3 ct3), sl3⟩) (c3 : PySem.W.codeIn K cd3 "_law_take" = true) (k3 : PySem.W.keepIn K (.ref a__law_take) = true)
    (a4 : PySem.W.nsIn K mainGlobals "_law_cells" = some (some (.ref a__law_cells))) (l4 : K.lookup a__law_cells = some ⟨oc4, od4, .func (PySem.W.fnOf "_law_cells" "_law_cells" (defArgs s__law_cells) (defBody s__law_cells) (defScope s__law_cells) .none kV4 dc4 pm4 an4 cd4 ct4), sl4⟩) (c4 : PySem.W.codeIn K cd4 "_law_cells" = true) (k4 : PySem.W.keepIn K (.ref a__law_cells) = true)
    (a5 : PySem.W.nsIn K mainGlobals "_law_is_int" = some (some (.ref a__law_is_int))) (l5 : K.lookup a__law_is_int = some ⟨oc5, od5, .func (PySem.W.fnOf "_law_is_int" "_law_is_int" (defArgs s__law_is_int) (defBody s__law_is_int) (defScope s__law_is_int) .none kV5 dc5 pm5 an5 cd5 ct5), sl5⟩) (c5 : PySem.W.codeIn K cd5 "_law_is_int" = true) (k5 : PySem.W.keepIn K (.ref a__law_is_int) = true)
    (a6 : PySem.W.nsIn K mainGlobals "_law_can_be" = some (some (.ref a__law_can_be))) (l6 : K.lookup a__law_can_be = some ⟨oc6, od6, .func (PySem.W.fnOf "_law_can_be" "_law_can_be" (defArgs s__law_can_be) (defBody s__law_can_be) (defScope s__law_can_be) .none kV6 dc6 pm6 an6 cd6 ct6), sl6⟩) (c6 : PySem.W.codeIn K cd6 "_law_can_be" = true) (k6 : PySem.W.keepIn K (.ref a__law_can_be) = true)
    (a7 : PySem.W.nsIn K mainGlobals "_law_slot_values" = some (some (.ref a__law_slot_values))) (l7 : K.lookup a__law_slot_values = some ⟨oc7, od7, .func (PySem.W.fnOf "_law_slot_values" "_law_slot_values" (defArgs s__law_slot_values) (defBody s__law_slot_values) (defScope s__law_slot_values) .none kV7 dc7 pm7 an7 cd7 ct7), sl7⟩) (c7 : PySem.W.codeIn K cd7 "_law_slot_values" = true) (k7 : PySem.W.keepIn K (.ref a__law_slot_values) = true)
    (a8 : PySem.W.nsIn K mainGlobals "_law_pairs_in" = some (some (.ref a__law_pairs_in))) (l8 : K.lookup a__law_pairs_in = some ⟨oc8, od8, .func (PySem.W.fnOf "_law_pairs_in" "_law_pairs_in" (defArgs s__law_pairs_in) (defBody s__law_pairs_in) (defScope s__law_pairs_in) .none kV8 dc8 pm8 an8 cd8 ct8), sl8⟩) (c8 : PySem.W.codeIn K cd8 "_law_pairs_in" = true) (k8 : PySem.W.keepIn K (.ref a__law_pairs_in) = true)
    (a9 : PySem.W.nsIn K mainGlobals "is_within" = some (some (.ref a_is_within))) (l9 : K.lookup a_is_within = some ⟨oc9, od9, .func (PySem.W.fnOf "is_within" "is_within" (defArgs s_is_within) (defBody s_is_within) (defScope s_is_within) .none kV9 dc9 pm9 an9 cd9 ct9), sl9⟩) (c9 : PySem.W.codeIn K cd9 "is_within" = true) (k9 : PySem.W.keepIn K (.ref a_is_within) = true)
    (a10 : PySem.W.nsIn K mainGlobals "is_possible" = some (some (.ref a_is_possible))) (l10 : K.lookup a_is_possible = some ⟨oc10, od10, .func (PySem.W.fnOf "is_possible" "is_possible" (defArgs s_is_possible) (defBody s_is_possible) (defScope s_is_possible) .none kV10 dc10 pm10 an10 cd10 ct10), sl10⟩) (c10 : PySem.W.codeIn K cd10 "is_possible" = true) (k10 : PySem.W.keepIn K (.ref a_is_possible) = true)
    (a11 : PySem.W.nsIn K mainGlobals "_law_of" = some (some (.ref a__law_of))) (l11 : K.lookup a__law_of = some ⟨oc11, od11, .func (PySem.W.fnOf "_law_of" "_law_of" (defArgs s__law_of) (defBody s__law_of) (defScope s__law_of) .none kV11 dc11 pm11 an11 cd11 ct11), sl11⟩) (c11 : PySem.W.codeIn K cd11 "_law_of" = true) (k11 : PySem.W.keepIn K (.ref a__law_of) = true)
    (a12 : PySem.W.nsIn K mainGlobals "_law_slot_delays" = some (some (.ref a__law_slot_delays))) (l12 : K.lookup a__law_slot_delays = some ⟨oc12, od12, .func (PySem.W.fnOf "_law_slot_delays" "_law_slot_delays" (defArgs s__law_slot_delays) (defBody s__law_slot_delays) (defScope s__law_slot_delays) .none kV12 dc12 pm12 an12 cd12 ct12), sl12⟩) (c12 : PySem.W.codeIn K cd12 "_law_slot_delays" = true) (k12 : PySem.W.keepIn K (.ref a__law_slot_delays) = true)
    (a13 : PySem.W.nsIn K mainGlobals "is_service" = some (some (.ref a_is_service))) (l13 : K.lookup a_is_service = some ⟨oc13, od13, .func (PySem.W.fnOf "is_service" "is_service" (defArgs s_is_service) (defBody s_is_service) (defScope s_is_service) .none kV13 dc13 pm13 an13 cd13 ct13), sl13⟩) (c13 : PySem.W.codeIn K cd13 "is_service" = true) (k13 : PySem.W.keepIn K (.ref a_is_service) = true)
    (a14 : PySem.W.nsIn K mainGlobals "check_size" = some (some (.ref a_check_size))) (l14 : K.lookup a_check_size = some ⟨oc14, od14, .func (PySem.W.fnOf "check_size" "check_size" (defArgs s_check_size) (defBody s_check_size) (defScope s_check_size) .none kV14 dc14 pm14 an14 cd14 ct14), sl14⟩) (c14 : PySem.W.codeIn K cd14 "check_size" = true) (k14 : PySem.W.keepIn K (.ref a_check_size) = true)
    (a15 : PySem.W.nsIn K mainGlobals "check_pair" = some (some (.ref a_check_pair))) (l15 : K.lookup a_check_pair = some ⟨oc15, od15, .func (PySem.W.fnOf "check_pair" "check_pair" (defArgs s_check_pair) (defBody s_check_pair) (defScope s_check_pair) .none kV15 dc15 pm15 an15 cd15 ct15), sl15⟩) (c15 : PySem.W.codeIn K cd15 "check_pair" = true) (k15 : PySem.W.keepIn K (.ref a_check_pair) = true)
    (a16 : PySem.W.nsIn K mainGlobals "_law_can_stand" = some (some (.ref a__law_can_stand))) (l16 : K.lookup a__law_can_stand = some ⟨oc16, od16, .func (PySem.W.fnOf "_law_can_stand" "_law_can_stand" (defArgs s__law_can_stand) (defBody s__law_can_stand) (defScope s__law_can_stand) .none kV16 dc16 pm16 an16 cd16 ct16), sl16⟩) (c16 : PySem.W.codeIn K cd16 "_law_can_stand" = true) (k16 : PySem.W.keepIn K (.ref a__law_can_stand) = true)
    (a17 : PySem.W.nsIn K mainGlobals "_law_packets" = some (some (.ref a__law_packets))) (l17 : K.lookup a__law_packets = some ⟨oc17, od17, .func (PySem.W.fnOf "_law_packets" "_law_packets" (defArgs s__law_packets) (defBody s__law_packets) (defScope s__law_packets) .none kV17 dc17 pm17 an17 cd17 ct17), sl17⟩) (c17 : PySem.W.codeIn K cd17 "_law_packets" = true) (k17 : PySem.W.keepIn K (.ref a__law_packets) = true)
    (a18 : PySem.W.nsIn K mainGlobals "_law_small_world" = some (some (.ref a__law_small_world))) (l18 : K.lookup a__law_small_world = some ⟨oc18, od18, .func (PySem.W.fnOf "_law_small_world" "_law_small_world" (defArgs s__law_small_world) (defBody s__law_small_world) (defScope s__law_small_world) .none kV18 dc18 pm18 an18 cd18 ct18), sl18⟩) (c18 : PySem.W.codeIn K cd18 "_law_small_world" = true) (k18 : PySem.W.keepIn K (.ref a__law_small_world) = true)
    (a19 : PySem.W.nsIn K mainGlobals "check_service" = some (some (.ref a_check_service))) (l19 : K.lookup a_check_service = some ⟨oc19, od19, .func (PySem.W.fnOf "check_service" "check_service" (defArgs s_check_service) (defBody s_check_service) (defScope s_check_service) .none kV19 dc19 pm19 an19 cd19 ct19), sl19⟩) (c19 : PySem.W.codeIn K cd19 "check_service" = true) (k19 : PySem.W.keepIn K (.ref a_check_service) = true)
    (a20 : PySem.W.nsIn K mainGlobals "_law_all_scripts" = some (some (.ref a__law_all_scripts))) (l20 : K.lookup a__law_all_scripts = some ⟨oc20, od20, .func (PySem.W.fnOf "_law_all_scripts" "_law_all_scripts" (defArgs s__law_all_scripts) (defBody s__law_all_scripts) (defScope s__law_all_scripts) .none kV20 dc20 pm20 an20 cd20 ct20), sl20⟩) (c20 : PySem.W.codeIn K cd20 "_law_all_scripts" = true) (k20 : PySem.W.keepIn K (.ref a__law_all_scripts) = true)
    (a21 : PySem.W.nsIn K mainGlobals "can_be" = some (some (.ref a_can_be))) (l21 : K.lookup a_can_be = some ⟨oc21, od21, .func (PySem.W.fnOf "can_be" "can_be" (defArgs s_can_be) (defBody s_can_be) (defScope s_can_be) .none kV21 dc21 pm21 an21 cd21 ct21), sl21⟩) (c21 : PySem.W.codeIn K cd21 "can_be" = true) (k21 : PySem.W.keepIn K (.ref a_can_be) = true)
    (a22 : PySem.W.nsIn K mainGlobals "_law_right" = some (some (.ref a__law_right))) (l22 : K.lookup a__law_right = some ⟨oc22, od22, .func (PySem.W.fnOf "_law_right" "_law_right" (defArgs s__law_right) (defBody s__law_right) (defScope s__law_right) .none kV22 dc22 pm22 an22 cd22 ct22), sl22⟩) (c22 : PySem.W.codeIn K cd22 "_law_right" = true) (k22 : PySem.W.keepIn K (.ref a__law_right) = true)
    (a23 : PySem.W.nsIn K mainGlobals "law" = some (some (.ref a_law))) (l23 : K.lookup a_law = some ⟨oc23, od23, .func (PySem.W.fnOf "law" "law" (defArgs s_law) (defBody s_law) (defScope s_law) .none kV23 dc23 pm23 an23 cd23 ct23), sl23⟩) (c23 : PySem.W.codeIn K cd23 "law" = true) (k23 : PySem.W.keepIn K (.ref a_law) = true)
    (z_abs : PySem.W.nsIn K mainGlobals "abs" = some none)
    (z_all : PySem.W.nsIn K mainGlobals "all" = some none)
    (z_bool : PySem.W.nsIn K mainGlobals "bool" = some none)
    (z_enumerate : PySem.W.nsIn K mainGlobals "enumerate" = some none)
    (z_int : PySem.W.nsIn K mainGlobals "int" = some none)
    (z_isinstance : PySem.W.nsIn K mainGlobals "isinstance" = some none)
    (z_len : PySem.W.nsIn K mainGlobals "len" = some none)
    (z_list : PySem.W.nsIn K mainGlobals "list" = some none)
    (z_max : PySem.W.nsIn K mainGlobals "max" = some none)
    (z_min : PySem.W.nsIn K mainGlobals "min" = some none)
    (z_range : PySem.W.nsIn K mainGlobals "range" = some none)
    (z_repr : PySem.W.nsIn K mainGlobals "repr" = some none)
    (z_set : PySem.W.nsIn K mainGlobals "set" = some none)
    (z_str : PySem.W.nsIn K mainGlobals "str" = some none)
    (z_sum : PySem.W.nsIn K mainGlobals "sum" = some none)
    (z_tuple : PySem.W.nsIn K mainGlobals "tuple" = some none)
    (z_zip : PySem.W.nsIn K mainGlobals "zip" = some none)
    (c_MOST_COME : PySem.W.nsIn K mainGlobals "MOST_COME" = some (some (.int 4 tk_MOST_COME)))
    (c_MOST_SIZE : PySem.W.nsIn K mainGlobals "MOST_SIZE" = some (some (.int 400 tk_MOST_SIZE)))
    (c_MOST_SLOTS_BEHIND : PySem.W.nsIn K mainGlobals "MOST_SLOTS_BEHIND" = some (some (.int 400 tk_MOST_SLOTS_BEHIND)))
    (c_ORDER : PySem.W.nsIn K mainGlobals "ORDER" = some (some (.str "order" tk_ORDER)))
    (c_PAIR : PySem.W.nsIn K mainGlobals "PAIR" = some (some (.int 2 tk_PAIR)))
    (c_QUEUE : PySem.W.nsIn K mainGlobals "QUEUE" = some (some (.str "queue" tk_QUEUE)))
    (c_TRIPLE : PySem.W.nsIn K mainGlobals "TRIPLE" = some (some (.int 3 tk_TRIPLE)))
    (c_WORDS : PySem.W.nsIn K mainGlobals "WORDS" = some (some (.ref q_WORDS))) (l_WORDS : K.lookup q_WORDS = some ⟨.type "tuple", od_WORDS, .seq #[.str "queue" tk_WORDS_0, .str "order" tk_WORDS_1, .str "any" tk_WORDS_2] n_WORDS, sl_WORDS⟩) :
    ∃ fd : FuncData, (∀ (s : Shared) (v : Value), BindsTo s fd ⟨[v], []⟩ [("script", v)]) ∧ ∀ base : Heap, K.In base → base.Ns mainGlobals mg → GnOk l.prog w K mg base CX0 7 fa fd ["script"] (spLaw K) := by
  have e := hfa.symm.trans (PySem.W.mg_of X G a23)
  cases e
  let T : Tx K mg := { f_is_integer := a_is_integer, d_is_integer := _, F_is_integer := fun_mk (st := s_is_integer) l0 c0 k0, b_is_integer := (fun_mk (st := s_is_integer) l0 c0 k0).binds (fun _ _ _ _ _ _ us hl => match us, hl with | [_], _ => rfl), g_is_integer := PySem.W.mg_of X G a0, f_gap_of := a_gap_of, d_gap_of := _, F_gap_of := fun_mk (st := s_gap_of) l1 c1 k1, b_gap_of := (fun_mk (st := s_gap_of) l1 c1 k1).binds (fun _ _ _ _ _ _ us hl => match us, hl with | [_], _ => rfl), g_gap_of := PySem.W.mg_of X G a1, f__law_pot := a__law_pot, d__law_pot := _, F__law_pot := fun_mk (st := s__law_pot) l2 c2 k2, b__law_pot := (fun_mk (st := s__law_pot) l2 c2 k2).binds (fun _ _ _ _ _ _ us hl => match us, hl with | [_, _], _ => rfl), g__law_pot := PySem.W.mg_of X G a2, f__law_take := a__law_take, d__law_take := _, F__law_take := fun_mk (st := s__law_take) l3 c3 k3, b__law_take := (fun_mk (st := s__law_take) l3 c3 k3).binds (fun _ _ _ _ _ _ us hl => match us, hl with | [_, _], _ => rfl), g__law_take := PySem.W.mg_of X G a3, f__law_cells := a__law_cells, d__law_cells := _, F__law_cells := fun_mk (st := s__law_cells) l4 c4 k4, b__law_cells := (fun_mk (st := s__law_cells) l4 c4 k4).binds (fun _ _ _ _ _ _ us hl => match us, hl with | [_, _], _ => rfl), g__law_cells := PySem.W.mg_of X G a4, f__law_is_int := a__law_is_int, d__law_is_int := _, F__law_is_int := fun_mk (st := s__law_is_int) l5 c5 k5, b__law_is_int := (fun_mk (st := s__law_is_int) l5 c5 k5).binds (fun _ _ _ _ _ _ us hl => match us, hl with | [_, _, _], _ => rfl), g__law_is_int := PySem.W.mg_of X G a5, f__law_can_be := a__law_can_be, d__law_can_be := _, F__law_can_be := fun_mk (st := s__law_can_be) l6 c6 k6, b__law_can_be := (fun_mk (st := s__law_can_be) l6 c6 k6).binds (fun _ _ _ _ _ _ us hl => match us, hl with | [_, _, _], _ => rfl), g__law_can_be := PySem.W.mg_of X G a6, f__law_slot_values := a__law_slot_values, d__law_slot_values := _, F__law_slot_values := fun_mk (st := s__law_slot_values) l7 c7 k7, b__law_slot_values := (fun_mk (st := s__law_slot_values) l7 c7 k7).binds (fun _ _ _ _ _ _ us hl => match us, hl with | [_, _], _ => rfl), g__law_slot_values := PySem.W.mg_of X G a7, f__law_pairs_in := a__law_pairs_in, d__law_pairs_in := _, F__law_pairs_in := fun_mk (st := s__law_pairs_in) l8 c8 k8, b__law_pairs_in := (fun_mk (st := s__law_pairs_in) l8 c8 k8).binds (fun _ _ _ _ _ _ us hl => match us, hl with | [_], _ => rfl), g__law_pairs_in := PySem.W.mg_of X G a8, f_is_within := a_is_within, d_is_within := _, F_is_within := fun_mk (st := s_is_within) l9 c9 k9, b_is_within := (fun_mk (st := s_is_within) l9 c9 k9).binds (fun _ _ _ _ _ _ us hl => match us, hl with | [_, _, _], _ => rfl), g_is_within := PySem.W.mg_of X G a9, f_is_possible := a_is_possible, d_is_possible := _, F_is_possible := fun_mk (st := s_is_possible) l10 c10 k10, b_is_possible := (fun_mk (st := s_is_possible) l10 c10 k10).binds (fun _ _ _ _ _ _ us hl => match us, hl with | [_, _], _ => rfl), g_is_possible := PySem.W.mg_of X G a10, f__law_of := a__law_of, d__law_of := _, F__law_of := fun_mk (st := s__law_of) l11 c11 k11, b__law_of := (fun_mk (st := s__law_of) l11 c11 k11).binds (fun _ _ _ _ _ _ us hl => match us, hl with | [_, _], _ => rfl), g__law_of := PySem.W.mg_of X G a11, f__law_slot_delays := a__law_slot_delays, d__law_slot_delays := _, F__law_slot_delays := fun_mk (st := s__law_slot_delays) l12 c12 k12, b__law_slot_delays := (fun_mk (st := s__law_slot_delays) l12 c12 k12).binds (fun _ _ _ _ _ _ us hl => match us, hl with | [_, _, _, _], _ => rfl), g__law_slot_delays := PySem.W.mg_of X G a12, f_is_service := a_is_service, d_is_service := _, F_is_service := fun_mk (st := s_is_service) l13 c13 k13, b_is_service := (fun_mk (st := s_is_service) l13 c13 k13).binds (fun _ _ _ _ _ _ us hl => match us, hl with | [_], _ => rfl), g_is_service := PySem.W.mg_of X G a13, f_check_size := a_check_size, d_check_size := _, F_check_size := fun_mk (st := s_check_size) l14 c14 k14, b_check_size := (fun_mk (st := s_check_size) l14 c14 k14).binds (fun _ _ _ _ _ _ us hl => match us, hl with | [_], _ => rfl), g_check_size := PySem.W.mg_of X G a14, f_check_pair := a_check_pair, d_check_pair := _, F_check_pair := fun_mk (st := s_check_pair) l15 c15 k15, b_check_pair := (fun_mk (st := s_check_pair) l15 c15 k15).binds (fun _ _ _ _ _ _ us hl => match us, hl with | [_, _], _ => rfl), g_check_pair := PySem.W.mg_of X G a15, f__law_can_stand := a__law_can_stand, d__law_can_stand := _, F__law_can_stand := fun_mk (st := s__law_can_stand) l16 c16 k16, b__law_can_stand := (fun_mk (st := s__law_can_stand) l16 c16 k16).binds (fun _ _ _ _ _ _ us hl => match us, hl with | [_, _, _, _, _], _ => rfl), g__law_can_stand := PySem.W.mg_of X G a16, f__law_packets := a__law_packets, d__law_packets := _, F__law_packets := fun_mk (st := s__law_packets) l17 c17 k17, b__law_packets := (fun_mk (st := s__law_packets) l17 c17 k17).binds (fun _ _ _ _ _ _ us hl => match us, hl with | [_, _], _ => rfl), g__law_packets := PySem.W.mg_of X G a17, f__law_small_world := a__law_small_world, d__law_small_world := _, F__law_small_world := fun_mk (st := s__law_small_world) l18 c18 k18, b__law_small_world := (fun_mk (st := s__law_small_world) l18 c18 k18).binds (fun _ _ _ _ _ _ us hl => match us, hl with | [_], _ => rfl), g__law_small_world := PySem.W.mg_of X G a18, f_check_service := a_check_service, d_check_service := _, F_check_service := fun_mk (st := s_check_service) l19 c19 k19, b_check_service := (fun_mk (st := s_check_service) l19 c19 k19).binds (fun _ _ _ _ _ _ us hl => match us, hl with | [_], _ => rfl), g_check_service := PySem.W.mg_of X G a19, f__law_all_scripts := a__law_all_scripts, d__law_all_scripts := _, F__law_all_scripts := fun_mk (st := s__law_all_scripts) l20 c20 k20, b__law_all_scripts := (fun_mk (st := s__law_all_scripts) l20 c20 k20).binds (fun _ _ _ _ _ _ us hl => match us, hl with | [_, _, _], _ => rfl), g__law_all_scripts := PySem.W.mg_of X G a20, f_can_be := a_can_be, d_can_be := _, F_can_be := fun_mk (st := s_can_be) l21 c21 k21, b_can_be := (fun_mk (st := s_can_be) l21 c21 k21).binds (fun _ _ _ _ _ _ us hl => match us, hl with | [_, _, _], _ => rfl), g_can_be := PySem.W.mg_of X G a21, f__law_right := a__law_right, d__law_right := _, F__law_right := fun_mk (st := s__law_right) l22 c22 k22, b__law_right := (fun_mk (st := s__law_right) l22 c22 k22).binds (fun _ _ _ _ _ _ us hl => match us, hl with | [_], _ => rfl), g__law_right := PySem.W.mg_of X G a22, f_law := fa, d_law := _, F_law := fun_mk (st := s_law) l23 c23 k23, b_law := (fun_mk (st := s_law) l23 c23 k23).binds (fun _ _ _ _ _ _ us hl => match us, hl with | [_], _ => rfl), g_law := PySem.W.mg_of X G a23, kb_0 := kbinds_fun (fun_mk (st := s_can_be) l21 c21 k21) (by decide) (fun _ _ _ _ _ _ us hl => match us, hl with | [_, _, _], _ => rfl), z_abs := PySem.W.mg_none_of X G z_abs, z_all := PySem.W.mg_none_of X G z_all, z_bool := PySem.W.mg_none_of X G z_bool, z_enumerate := PySem.W.mg_none_of X G z_enumerate, z_int := PySem.W.mg_none_of X G z_int, z_isinstance := PySem.W.mg_none_of X G z_isinstance, z_len := PySem.W.mg_none_of X G z_len, z_list := PySem.W.mg_none_of X G z_list, z_max := PySem.W.mg_none_of X G z_max, z_min := PySem.W.mg_none_of X G z_min, z_range := PySem.W.mg_none_of X G z_range, z_repr := PySem.W.mg_none_of X G z_repr, z_set := PySem.W.mg_none_of X G z_set, z_str := PySem.W.mg_none_of X G z_str, z_sum := PySem.W.mg_none_of X G z_sum, z_tuple := PySem.W.mg_none_of X G z_tuple, z_zip := PySem.W.mg_none_of X G z_zip, c_MOST_COME := ⟨_, PySem.W.mg_of X G c_MOST_COME⟩, c_MOST_SIZE := ⟨_, PySem.W.mg_of X G c_MOST_SIZE⟩, c_MOST_SLOTS_BEHIND := ⟨_, PySem.W.mg_of X G c_MOST_SLOTS_BEHIND⟩, c_ORDER := ⟨_, PySem.W.mg_of X G c_ORDER⟩, c_PAIR := ⟨_, PySem.W.mg_of X G c_PAIR⟩, c_QUEUE := ⟨_, PySem.W.mg_of X G c_QUEUE⟩, c_TRIPLE := ⟨_, PySem.W.mg_of X G c_TRIPLE⟩, q_WORDS := q_WORDS, c_WORDS := PySem.W.mg_of X G c_WORDS, t_WORDS := fun F => .inr ⟨_, _, _, l_WORDS, rfl, rfl, (by show 3 ≤ sizeLine; decide), .cons ⟨_, rfl⟩ (.cons ⟨_, rfl⟩ (.cons ⟨_, rfl⟩ (.nil)))⟩, e_WORDS := fun F => ⟨_, _, rfl, rfl, ⟨_, _, rfl, rfl, ⟨_, _, rfl, rfl, rfl⟩⟩⟩ }
  refine ⟨T.d_law, fun s v => .of_eq rfl, fun base _ _ => (ok_law T).imp spLaw_D⟩
end K16
open PySem PySem.W PyProof.Rows
set_option maxRecDepth 100000 in
set_option maxHeartbeats 0 in
theorem PySem.Challenge.cw_queueloops_k16_whole_pairs_that_can_be_holds : PySem.Challenge.rw_queueloops_k16_whole_pairs_that_can_be.Holds := by
  w_on; o_law; k_head; (case hw => w_witness2)
  k_fill
  refine DL.walk_g (l := PySem.Challenge.rw_queueloops_k16_whole_pairs_that_can_be) (n := 63) (k := 7) (x := "script") (CX := fun _ => L2.CX0) (sp := fun w => DL.spLaw _) rfl (by decide) rfl ⟨rfl, by decide, by decide⟩ (fun w h Y => PySem.W.kIn_of Y) ?F (fun _ _ a ns hl hS => ⟨a, ns, rfl, hS, hl, ⟨fun p hp => (by cases hp), fun _ => rfl⟩⟩) (fun _ _ _ _ _ h => h)
  case F =>
    intro w mg fa h KX G hmg
    refine' K16.all_mk KX G hmg ?a0 ?l0 ?c0 ?k0 ?a1 ?l1 ?c1 ?k1 ?a2 ?l2 ?c2 ?k2 ?a3 ?l3 ?c3 ?k3 ?a4 ?l4 ?c4 ?k4 ?a5 ?l5 ?c5 ?k5 ?a6 ?l6 ?c6 ?k6 ?a7 ?l7 ?c7 ?k7 ?a8 ?l8 ?c8 ?k8 ?a9 ?l9 ?c9 ?k9 ?a10 ?l10 ?c10 ?k10 ?a11 ?l11 ?c11 ?k11 ?a12 ?l12 ?c12 ?k12 ?a13 ?l13 ?c13 ?k13 ?a14 ?l14 ?c14 ?k14 ?a15 ?l15 ?c15 ?k15 ?a16 ?l16 ?c16 ?k16 ?a17 ?l17 ?c17 ?k17 ?a18 ?l18 ?c18 ?k18 ?a19 ?l19 ?c19 ?k19 ?a20 ?l20 ?c20 ?k20 ?a21 ?l21 ?c21 ?k21 ?a22 ?l22 ?c22 ?k22 ?a23 ?l23 ?c23 ?k23 ?z_abs ?z_all ?z_bool ?z_enumerate ?z_int ?z_isinstance ?z_len ?z_list ?z_max ?z_min ?z_range ?z_repr ?z_set ?z_str ?z_sum ?z_tuple ?z_zip ?c_MOST_COME ?c_MOST_SIZE ?c_MOST_SLOTS_BEHIND ?c_ORDER ?c_PAIR ?c_QUEUE ?c_TRIPLE ?c_WORDS ?l_WORDS
    (case a0 => k_is)
    (case l0 => k_is)
    (case c0 => k_is)
    (case k0 => k_is)
    (case a1 => k_is)
    (case l1 => k_is)
    (case c1 => k_is)
    (case k1 => k_is)
    (case a2 => k_is)
    (case l2 => k_is)
    (case c2 => k_is)
    (case k2 => k_is)
    (case a3 => k_is)
    (case l3 => k_is)
    (case c3 => k_is)
    (case k3 => k_is)
    (case a4 => k_is)
    (case l4 => k_is)
    (case c4 => k_is)
    (case k4 => k_is)
    (case a5 => k_is)
    (case l5 => k_is)
    (case c5 => k_is)
    (case k5 => k_is)
    (case a6 => k_is)
    (case l6 => k_is)
    (case c6 => k_is)
    (case k6 => k_is)
    (case a7 => k_is)
    (case l7 => k_is)
    (case c7 => k_is)
    (case k7 => k_is)
    (case a8 => k_is)
    (case l8 => k_is)
    (case c8 => k_is)
    (case k8 => k_is)
    (case a9 => k_is)
    (case l9 => k_is)
    (case c9 => k_is)
    (case k9 => k_is)
    (case a10 => k_is)
    (case l10 => k_is)
    (case c10 => k_is)
    (case k10 => k_is)
    (case a11 => k_is)
    (case l11 => k_is)
    (case c11 => k_is)
    (case k11 => k_is)
    (case a12 => k_is)
    (case l12 => k_is)
    (case c12 => k_is)
    (case k12 => k_is)
    (case a13 => k_is)
    (case l13 => k_is)
    (case c13 => k_is)
    (case k13 => k_is)
    (case a14 => k_is)
    (case l14 => k_is)
    (case c14 => k_is)
    (case k14 => k_is)
    (case a15 => k_is)
    (case l15 => k_is)
    (case c15 => k_is)
    (case k15 => k_is)
    (case a16 => k_is)
    (case l16 => k_is)
    (case c16 => k_is)
    (case k16 => k_is)
    (case a17 => k_is)
    (case l17 => k_is)
    (case c17 => k_is)
    (case k17 => k_is)
    (case a18 => k_is)
    (case l18 => k_is)
    (case c18 => k_is)
    (case k18 => k_is)
    (case a19 => k_is)
    (case l19 => k_is)
    (case c19 => k_is)
    (case k19 => k_is)
    (case a20 => k_is)
    (case l20 => k_is)
    (case c20 => k_is)
    (case k20 => k_is)
    (case a21 => k_is)
    (case l21 => k_is)
    (case c21 => k_is)
    (case k21 => k_is)
    (case a22 => k_is)
    (case l22 => k_is)
    (case c22 => k_is)
    (case k22 => k_is)
    (case a23 => k_is)
    (case l23 => k_is)
    (case c23 => k_is)
    (case k23 => k_is)
    (case z_abs => k_is)
    (case z_all => k_is)
    (case z_bool => k_is)
    (case z_enumerate => k_is)
    (case z_int => k_is)
    (case z_isinstance => k_is)
    (case z_len => k_is)
    (case z_list => k_is)
    (case z_max => k_is)
    (case z_min => k_is)
    (case z_range => k_is)
    (case z_repr => k_is)
    (case z_set => k_is)
    (case z_str => k_is)
    (case z_sum => k_is)
    (case z_tuple => k_is)
    (case z_zip => k_is)
    (case c_MOST_COME => k_is)
    (case c_MOST_SIZE => k_is)
    (case c_MOST_SLOTS_BEHIND => k_is)
    (case c_ORDER => k_is)
    (case c_PAIR => k_is)
    (case c_QUEUE => k_is)
    (case c_TRIPLE => k_is)
    (case c_WORDS => k_is)
    (case l_WORDS => k_is)
#print axioms PySem.Challenge.cw_queueloops_k16_whole_pairs_that_can_be_holds
