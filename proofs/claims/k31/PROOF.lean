import PyProof.Rows.All
import Wide.All
import OpenK.AllK
import Wide.FinOn
import HandS.ForMost
import HandS.ForExc
import HandS.Deep
import HandS.TupAny
import HandS.Gcd
import HandS.IsInst
import HandS.Zip
import HandS.Star
import HandS.Small
import HandS.Flow
import HandS.Style
import KE.DataMinMax
import KE.GoesMore
import KE.GoesEnum
import HandS.TupMul
import HandS.HeadHook2
import PySem.Challenge.RW_likecuts_k31_whole_idle_hard_rules
import HandS.Defaults
import HandS.ExcIs
import HandS.HeadHook1
import HandS.Head0
import HandS.Head1
import HandS.Head2
import HandS.Head3
import HandS.HeadEnd
import HandS.HeadHook3
import HandS.HeadHook4
import KE.SortData
import KE.DatumOrd
import HandS.ExcBuiltin
import PyProof.TupleCall
import HandS.Base
import HandS.Call
import HandS.Set
import HandS.SetFor
import HandS.Strs
set_option Elab.async false
set_option linter.all false
set_option maxRecDepth 100000
set_option maxHeartbeats 4000000
/-! A layer of data over HandS: what stands in a slot is a PyData (immutable, told by Dp) or an object of our own that nothing else names. -/
namespace Dw
open PySem PySem.Spec PyProof.Rows L2

abbrev Fg := PySem.W.Frag
section
variable {K : Fg} {H H' : Hp}
theorem seqT_up {a : Addr} {xs : List V} (e : Same H H') (h : SqT K H a xs) : SqT K H' a xs := by
  rcases h with (h | ⟨o, h⟩) | h
  · exact Or.inl (Or.inl (e _ _ h))
  · exact Or.inl (Or.inr ⟨o, e _ _ h⟩)
  · exact Or.inr h
mutual
theorem dp_up (e : Same H H') : ∀ (d : PyData) (v : V), Dp K H v d → Dp K H' v d
  | .none, _, h => by
    cases h
    exact Dp.non
  | .bool b, _, h => by
    cases h
    exact Dp.bl b
  | .int i, _, h => by
    cases h
    exact Dp.int i
  | .str x, _, h => by
    cases h
    exact Dp.str x
  | .list ds, _, h => by
    cases h with
    | lst hs ha => exact Dp.lst (e.seq hs) (dps_up e ds _ ha)
  | .tuple ds, _, h => by
    cases h with
    | tup hs ha => exact Dp.tup (seqT_up e hs) (dps_up e ds _ ha)
  | .dict _, _, h => by cases h
theorem dps_up (e : Same H H') : ∀ (ds : List PyData) (vs : List V), DpAll K H vs ds → DpAll K H' vs ds
  | [], _, h => by
    cases h
    exact DpAll.nil
  | d :: ds, _, h => by
    cases h with
    | cons a b => exact DpAll.cons (dp_up e d _ a) (dps_up e ds _ b)
end
theorem Dps.len : ∀ {vs : List V} {ds : List PyData}, DpAll K H vs ds → vs.length = ds.length
  | _, _, .nil => rfl
  | _, _, .cons _ t => congrArg (· + 1) (Dps.len t)
theorem Dps.get : ∀ {vs : List V} {ds : List PyData} {i : Nat} {d : PyData}, DpAll K H vs ds → ds[i]? = some d → ∃ v, vs[i]? = some v ∧ Dp K H v d
  | _, _, _, _, .nil, e => by simp at e
  | _, _, 0, _, .cons h _, e => by
    simp at e
    subst e
    exact ⟨_, rfl, h⟩
  | _, _, i + 1, d, .cons _ t, e => by
    obtain ⟨v, h1, h2⟩ := Dps.get (i := i) (d := d) t (by simpa using e)
    exact ⟨v, by simpa using h1, h2⟩
theorem Dps.getV : ∀ {vs : List V} {ds : List PyData} {i : Nat} {v : V}, DpAll K H vs ds → vs[i]? = some v → ∃ d, ds[i]? = some d ∧ Dp K H v d
  | _, _, _, _, .nil, e => by simp at e
  | _, _, 0, _, .cons h _, e => by
    simp at e
    subst e
    exact ⟨_, rfl, h⟩
  | _, _, i + 1, v, .cons _ t, e => by
    obtain ⟨d, h1, h2⟩ := Dps.getV (i := i) (v := v) t (by simpa using e)
    exact ⟨d, by simpa using h1, h2⟩
theorem Dps.app : ∀ {vs ws : List V} {ds es : List PyData}, DpAll K H vs ds → DpAll K H ws es → DpAll K H (vs ++ ws) (ds ++ es)
  | _, _, _, _, .nil, h => h
  | _, _, _, _, .cons a b, h => .cons a (Dps.app b h)
theorem Dps.set {v : V} {d : PyData} (h : Dp K H v d) : ∀ {vs : List V} {ds : List PyData} (i : Nat), DpAll K H vs ds → DpAll K H (vs.set i v) (ds.set i d)
  | _, _, _, .nil => .nil
  | _, _, 0, .cons _ t => .cons h t
  | _, _, i + 1, .cons a t => .cons a (Dps.set h i t)
theorem Dps.take : ∀ {vs : List V} {ds : List PyData} (n : Nat), DpAll K H vs ds → DpAll K H (vs.take n) (ds.take n)
  | _, _, 0, _ => .nil
  | _, _, _ + 1, .nil => .nil
  | _, _, n + 1, .cons a t => .cons a (Dps.take n t)
theorem Dps.drop : ∀ {vs : List V} {ds : List PyData} (n : Nat), DpAll K H vs ds → DpAll K H (vs.drop n) (ds.drop n)
  | _, _, 0, h => h
  | _, _, _ + 1, .nil => .nil
  | _, _, n + 1, .cons _ t => Dps.drop n t
theorem Dps.rev : ∀ {vs : List V} {ds : List PyData}, DpAll K H vs ds → DpAll K H vs.reverse ds.reverse
  | _, _, .nil => .nil
  | _, _, .cons a t => by
    rw [List.reverse_cons, List.reverse_cons]
    exact Dps.app (Dps.rev t) (.cons a .nil)
theorem Dps.rep {vs : List V} {ds : List PyData} (h : DpAll K H vs ds) : ∀ k : Nat, DpAll K H (List.replicate k vs).flatten (List.replicate k ds).flatten
  | 0 => .nil
  | k + 1 => by
    rw [List.replicate_succ, List.replicate_succ, List.flatten_cons, List.flatten_cons]
    exact Dps.app h (Dps.rep h k)
end

/-! ### the state -/
inductive Ob where
  | lst (xs : List PyData)
  | dct (kvs : List (Int × PyData))
  | fix (l0 : Addr) (xs : List PyData)
structure DSt where
  d : List (Option PyData)
  o : List (Option Ob)
/-- a datum into a slot -/
abbrev DSt.setD (S : DSt) (i : Nat) (x : PyData) : DSt := ⟨S.d.set i (some x), S.o.set i none⟩
/-- an object of our own into a slot -/
abbrev DSt.setO (S : DSt) (i : Nat) (x : Ob) : DSt := ⟨S.d.set i none, S.o.set i (some x)⟩
/-- what stood ahead: the heap, what was known, which objects may be changed -/
structure Gh where
  He : Hp
  H0e : Hp
  M : Addr → Prop
def KvR (K : Fg) (H0 : Hp) : List (Key × V) → List (Int × PyData) → Prop := Paired fun p q => p.1 = Sum.inl q.1 ∧ Dp K H0 p.2 q.2
def ObR (K : Fg) (G : Gh) (H0 H : Hp) (l : Addr) : Ob → Prop
  | .lst ds => (G.He l = none ∨ G.M l) ∧ ∃ vs, H l = some (.lst vs) ∧ DpAll K H0 vs ds
  | .dct kvs => (G.He l = none ∨ G.M l) ∧ ∃ ws, H l = some (.dK ws) ∧ KvR K H0 ws kvs
  | .fix l0 ds => (G.He l = none ∨ G.M l) ∧ l = l0 ∧ ∃ vs, H l = some (.lst vs) ∧ DpAll K H0 vs ds
structure SR (K : Fg) (G : Gh) (H0 H : Hp) (σ : L2.St) (S : DSt) : Prop where
  le : Same H0 H
  fr : ∀ b o, G.He b = some o → ¬ G.M b → H b = some o
  lv : ∀ b, G.He b ≠ none → H b ≠ none
  e0 : Same G.H0e H0
  nw : ∀ b o, H0 b = some o → G.H0e b = some o ∨ G.He b = none ∨ G.M b
  ln : σ.length = S.d.length
  lo : S.o.length = S.d.length
  dat : ∀ (i : Nat) (d : PyData), S.d[i]? = some (some d) → ∃ v, σ[i]? = some (some v) ∧ Dp K H0 v d
  own : ∀ (i : Nat) (ob : Ob), S.o[i]? = some (some ob) → ∃ l, σ[i]? = some (some (V.ref l)) ∧ H0 l = none ∧ ObR K G H0 H l ob
  ne : ∀ (i j : Nat) (a b : Ob) (l : Addr), i ≠ j → S.o[i]? = some (some a) → S.o[j]? = some (some b) → σ[i]? = some (some (V.ref l)) → σ[j]? = some (some (V.ref l)) → False
section
variable {K : Fg} {G : Gh} {H0 H H0' H' : Hp} {σ : L2.St} {S : DSt} {l p : Addr} {ob : Ob}
theorem KvR.up (e : Same H0 H0') {ws : List (Key × V)} {kvs : List (Int × PyData)} (h : KvR K H0 ws kvs) : KvR K H0' ws kvs :=
  Paired.mapP h fun _ _ q => ⟨q.1, dp_up e _ _ q.2⟩
theorem ObR.ex (h : ObR K G H0 H l ob) : ∃ o, H l = some o := by
  cases ob with
  | lst ds => exact let ⟨_, _, e, _⟩ := h; ⟨_, e⟩
  | dct ds => exact let ⟨_, _, e, _⟩ := h; ⟨_, e⟩
  | fix l0 ds => exact let ⟨_, _, _, e, _⟩ := h; ⟨_, e⟩
theorem ObR.up (e : Same H0 H0') (k : ∀ o, H l = some o → H' l = some o) (h : ObR K G H0 H l ob) : ObR K G H0' H' l ob := by
  cases ob with
  | lst ds =>
    obtain ⟨a, vs, b, c⟩ := h
    exact ⟨a, vs, k _ b, dps_up e _ _ c⟩
  | dct ds =>
    obtain ⟨a, vs, b, c⟩ := h
    exact ⟨a, vs, k _ b, KvR.up e c⟩
  | fix l0 ds =>
    obtain ⟨a, e, vs, b, c⟩ := h
    exact ⟨a, e, vs, k _ b, dps_up ‹Same H0 H0'› _ _ c⟩
theorem ObR.mine (h : ObR K G H0 H l ob) : G.He l = none ∨ G.M l := by
  cases ob with
  | lst ds => exact h.1
  | dct ds => exact h.1
  | fix l0 ds => exact h.1
theorem SR.fresh (R : SR K G H0 H σ S) (h : H p = none) : H0 p = none ∧ G.He p = none := by
  constructor
  · cases e : H0 p with
    | none => rfl
    | some o =>
      rw [R.le p o e] at h
      cases h
  · cases e : G.He p with
    | none => rfl
    | some o => exact absurd h (R.lv p (by rw [e]; exact fun z => nomatch z))
/-- both heaps grow: what is known of new is new -/
theorem SR.ext (R : SR K G H0 H σ S) (e0 : Same H0 H0') (le : Same H0' H') (e : Same H H') (nw : ∀ b o, H0' b = some o → H0 b = some o ∨ H b = none) : SR K G H0' H' σ S where
  le := le
  fr := fun b o h n => e b o (R.fr b o h n)
  lv := fun b h => by
    cases q : H b with
    | none => exact absurd q (R.lv b h)
    | some o =>
      rw [e b o q]
      exact fun z => nomatch z
  e0 := R.e0.trans e0
  nw := fun b o h => by
    rcases nw b o h with h1 | h1
    · exact R.nw b o h1
    · exact Or.inr (Or.inl (R.fresh h1).2)
  ln := R.ln
  lo := R.lo
  dat := fun i d h => let ⟨v, a, b⟩ := R.dat i d h; ⟨v, a, dp_up e0 _ _ b⟩
  own := fun i ob h => by
    obtain ⟨l, a, b, c⟩ := R.own i ob h
    refine ⟨l, a, ?_, c.up e0 fun o => e l o⟩
    cases q : H0' l with
    | none => rfl
    | some o =>
      rcases nw l o q with h1 | h1
      · rw [b] at h1
        cases h1
      · obtain ⟨o2, h2⟩ := c.ex
        rw [h1] at h2
        cases h2
  ne := R.ne
theorem same_new {o : HO} (h : H p = none) : Same H (upd H p o) := fun b x e => by
  rw [upd_ne (ne_of_none e h)]
  exact e
/-- a new object, known -/
theorem SR.alloc {o : HO} (R : SR K G H0 H σ S) (h : H p = none) : SR K G (upd H0 p o) (upd H p o) σ S :=
  R.ext (same_new (R.fresh h).1) (fun b x e => by
    by_cases hb : b = p
    · subst hb
      rw [upd_same] at e ⊢
      exact e
    · rw [upd_ne hb] at e ⊢
      exact R.le b x e) (same_new h) fun b x e => by
    by_cases hb : b = p
    · subst hb
      exact Or.inr h
    · rw [upd_ne hb] at e
      exact Or.inl e
/-- a new list that nobody names -/
structure New (K : Fg) (G : Gh) (H0 H : Hp) (σ : L2.St) (S : DSt) (p : Addr) : Prop where
  n0 : H0 p = none
  ne : G.He p = none
  ns : ∀ (i : Nat) (ob : Ob), S.o[i]? = some (some ob) → σ[i]? ≠ some (some (V.ref p))
theorem SR.allocN {o : HO} (R : SR K G H0 H σ S) (h : H p = none) : SR K G H0 (upd H p o) σ S ∧ New K G H0 (upd H p o) σ S p := by
  refine ⟨R.ext (Same.refl _) (fun b x e => same_new h b x (R.le b x e)) (same_new h) (fun b x e => Or.inl e), (R.fresh h).1, (R.fresh h).2, fun i ob hi z => ?_⟩
  obtain ⟨l, a, _, c⟩ := R.own i ob hi
  rw [a] at z
  cases z
  obtain ⟨o2, h2⟩ := c.ex
  rw [h] at h2
  cases h2
/-- from now on it is data -/
theorem SR.freeze {vs : List V} {ds : List PyData} (R : SR K G H0 H σ S) (N : New K G H0 H σ S p) (hp : H p = some (.lst vs)) (h : DpAll K H0 vs ds) :
    SR K G (upd H0 p (.lst vs)) H σ S ∧ Same H0 (upd H0 p (.lst vs)) ∧ Dp K (upd H0 p (.lst vs)) (.ref p) (.list ds) := by
  have e0 : Same H0 (upd H0 p (.lst vs)) := same_new N.n0
  refine ⟨⟨fun b x e => ?_, R.fr, R.lv, R.e0.trans e0, fun b x e => ?_, R.ln, R.lo, fun i d q => ?_, fun i ob q => ?_, R.ne⟩, e0, Dp.lst (SqL.of upd_same) (dps_up e0 _ _ h)⟩
  · by_cases hb : b = p
    · subst hb
      rw [upd_same] at e
      cases e
      exact hp
    · rw [upd_ne hb] at e
      exact R.le b x e
  · by_cases hb : b = p
    · subst hb
      exact Or.inr (Or.inl N.ne)
    · rw [upd_ne hb] at e
      exact R.nw b x e
  · obtain ⟨v, a, b⟩ := R.dat i d q
    exact ⟨v, a, dp_up e0 _ _ b⟩
  · obtain ⟨l, a, b, c⟩ := R.own i ob q
    have hl : l ≠ p := fun z => N.ns i ob q (by rw [a, z])
    exact ⟨l, a, by rw [upd_ne hl]; exact b, c.up e0 fun _ z => z⟩
theorem gs_ne {α : Type} {xs : List α} {i j : Nat} {x : α} (h : j ≠ i) : (xs.set i x)[j]? = xs[j]? := List.getElem?_set_ne (Ne.symm h)
theorem gs_eq {α : Type} {xs : List α} {i : Nat} {x : α} (h : i < xs.length) : (xs.set i x)[i]? = some x := List.getElem?_set_self h
theorem gs_none {xs : List (Option Ob)} {i : Nat} {z : Ob} : (xs.set i none)[i]? ≠ some (some z) := fun e => by
  by_cases h : i < xs.length
  · rw [gs_eq h] at e
    cases e
  · rw [List.getElem?_eq_none (by rw [List.length_set]; omega)] at e
    cases e
theorem gs_noneD {xs : List (Option PyData)} {i : Nat} {z : PyData} : (xs.set i none)[i]? ≠ some (some z) := fun e => by
  by_cases h : i < xs.length
  · rw [gs_eq h] at e
    cases e
  · rw [List.getElem?_eq_none (by rw [List.length_set]; omega)] at e
    cases e
/-- a datum into a slot -/
theorem SR.asg {i : Nat} {v : V} {d : PyData} (R : SR K G H0 H σ S) (h : Dp K H0 v d) : SR K G H0 H (σ.set i (some v)) (S.setD i d) where
  le := R.le
  fr := R.fr
  lv := R.lv
  e0 := R.e0
  nw := R.nw
  ln := by rw [List.length_set, List.length_set]; exact R.ln
  lo := by rw [List.length_set, List.length_set]; exact R.lo
  dat := fun j x q => by
    by_cases hj : j = i
    · subst hj
      have hl : j < S.d.length := by
        have z := (List.getElem?_eq_some_iff.mp q).1
        rw [List.length_set] at z
        exact z
      rw [gs_eq hl] at q
      cases q
      exact ⟨v, gs_eq (by rw [R.ln]; exact hl), h⟩
    · rw [gs_ne hj] at q
      rw [gs_ne hj]
      exact R.dat j x q
  own := fun j x q => by
    by_cases hj : j = i
    · subst hj
      exact absurd q gs_none
    · rw [gs_ne hj] at q
      rw [gs_ne hj]
      exact R.own j x q
  ne := fun j k a b l hjk h1 h2 h3 h4 => by
    by_cases hj : j = i
    · subst hj
      exact absurd h1 gs_none
    · by_cases hk : k = i
      · subst hk
        exact absurd h2 gs_none
      · rw [gs_ne hj] at h1 h3
        rw [gs_ne hk] at h2 h4
        exact R.ne j k a b l hjk h1 h2 h3 h4
/-- a new object into a slot -/
theorem SR.asgN {i : Nat} (R : SR K G H0 H σ S) (N : New K G H0 H σ S p) (h : ObR K G H0 H p ob) : SR K G H0 H (σ.set i (some (.ref p))) (S.setO i ob) where
  le := R.le
  fr := R.fr
  lv := R.lv
  e0 := R.e0
  nw := R.nw
  ln := by rw [List.length_set, List.length_set]; exact R.ln
  lo := by rw [List.length_set, List.length_set]; exact R.lo
  dat := fun j x q => by
    by_cases hj : j = i
    · subst hj
      exact absurd q gs_noneD
    · rw [gs_ne hj] at q
      rw [gs_ne hj]
      exact R.dat j x q
  own := fun j x q => by
    by_cases hj : j = i
    · subst hj
      have hl : j < S.o.length := by
        have z := (List.getElem?_eq_some_iff.mp q).1
        rw [List.length_set] at z
        exact z
      rw [gs_eq hl] at q
      cases q
      exact ⟨p, gs_eq (by rw [R.ln, ← R.lo]; exact hl), N.n0, h⟩
    · rw [gs_ne hj] at q
      rw [gs_ne hj]
      exact R.own j x q
  ne := fun j k a b l hjk h1 h2 h3 h4 => by
    have key : ∀ {m : Nat} {c : Ob}, m ≠ i → (S.setO i ob).o[m]? = some (some c) → (σ.set i (some (V.ref p)))[m]? = some (some (.ref l)) → (σ.set i (some (V.ref p)))[i]? = some (some (.ref l)) → False := fun {m c} hm g1 g2 g3 => by
      have hl : i < σ.length := by
        have z := (List.getElem?_eq_some_iff.mp g3).1
        rw [List.length_set] at z
        exact z
      rw [gs_eq hl] at g3
      cases g3
      rw [gs_ne hm] at g1 g2
      exact N.ns m c g1 g2
    by_cases hj : j = i
    · subst hj
      exact key (Ne.symm hjk) h2 h4 h3
    · by_cases hk : k = i
      · subst hk
        exact key hjk h1 h3 h4
      · rw [gs_ne hj] at h1 h3
        rw [gs_ne hk] at h2 h4
        exact R.ne j k a b l hjk h1 h2 h3 h4
/-- an object of our own changes -/
theorem SR.mut {i : Nat} {o' : HO} {ob' : Ob} (R : SR K G H0 H σ S) (hi : S.o[i]? = some (some ob)) (hl : σ[i]? = some (some (V.ref l))) (h : ObR K G H0 (upd H l o') l ob') : SR K G H0 (upd H l o') σ (S.setO i ob') := by
  obtain ⟨l', a, b, c⟩ := R.own i ob hi
  rw [hl] at a
  cases a
  have hm := c.mine
  have hlen : i < S.o.length := (List.getElem?_eq_some_iff.mp hi).1
  have hne : ∀ (j : Nat) (x : Ob) (l2 : Addr), j ≠ i → S.o[j]? = some (some x) → σ[j]? = some (some (.ref l2)) → l2 ≠ l := fun j x l2 hj h1 h2 z => by
    subst z
    exact R.ne j i x ob _ hj h1 hi h2 hl
  refine ⟨fun x y e => ?_, fun x y e n => ?_, fun x e => ?_, R.e0, R.nw, by rw [List.length_set]; exact R.ln, by rw [List.length_set, List.length_set]; exact R.lo, fun j x q => ?_, fun j x q => ?_, fun j k x y l2 hjk h1 h2 h3 h4 => ?_⟩
  · have hx : x ≠ l := fun z => by
      rw [z, b] at e
      cases e
    rw [upd_ne hx]
    exact R.le x y e
  · by_cases hx : x = l
    · subst hx
      rcases hm with z | z
      · rw [z] at e
        cases e
      · exact absurd z n
    · rw [upd_ne hx]
      exact R.fr x y e n
  · by_cases hx : x = l
    · subst hx
      rw [upd_same]
      exact fun z => nomatch z
    · rw [upd_ne hx]
      exact R.lv x e
  · by_cases hj : j = i
    · subst hj
      exact absurd q gs_noneD
    · rw [gs_ne hj] at q
      exact R.dat j x q
  · by_cases hj : j = i
    · subst hj
      rw [gs_eq hlen] at q
      cases q
      exact ⟨l, hl, b, h⟩
    · rw [gs_ne hj] at q
      obtain ⟨l2, a2, b2, c2⟩ := R.own j x q
      refine ⟨l2, a2, b2, c2.up (Same.refl _) fun o z => ?_⟩
      rw [upd_ne (hne j x l2 hj q a2)]
      exact z
  · have keep : ∀ {m : Nat} {x : Ob}, (S.setO i ob').o[m]? = some (some x) → ∃ y, S.o[m]? = some (some y) := fun {m x} q => by
      by_cases hj : m = i
      · subst hj
        exact ⟨ob, hi⟩
      · rw [gs_ne hj] at q
        exact ⟨x, q⟩
    obtain ⟨x', q1⟩ := keep h1
    obtain ⟨y', q2⟩ := keep h2
    exact R.ne j k x' y' l2 hjk q1 q2 h3 h4
/-- an object of our own that is data from now on -/
theorem SR.frz {i : Nat} {vs : List V} {ds : List PyData} (R : SR K G H0 H σ S) (hi : S.o[i]? = some (some (.lst ds))) (hl : σ[i]? = some (some (V.ref l))) (hv : H l = some (.lst vs)) (h : DpAll K H0 vs ds) :
    SR K G (upd H0 l (.lst vs)) H σ (S.setD i (.list ds)) ∧ Same H0 (upd H0 l (.lst vs)) ∧ Dp K (upd H0 l (.lst vs)) (.ref l) (.list ds) := by
  obtain ⟨l', a, b, c⟩ := R.own i _ hi
  rw [hl] at a
  cases a
  have hm := c.mine
  have e0 : Same H0 (upd H0 l (.lst vs)) := same_new b
  have hd : Dp K (upd H0 l (.lst vs)) (.ref l) (.list ds) := Dp.lst (SqL.of upd_same) (dps_up e0 _ _ h)
  refine ⟨⟨fun x y e => ?_, R.fr, R.lv, R.e0.trans e0, fun x y e => ?_, by rw [List.length_set]; exact R.ln, by rw [List.length_set, List.length_set]; exact R.lo, fun j x q => ?_, fun j x q => ?_, fun j k x y l2 hjk h1 h2 h3 h4 => ?_⟩, e0, hd⟩
  · by_cases hb : x = l
    · subst hb
      rw [upd_same] at e
      cases e
      exact hv
    · rw [upd_ne hb] at e
      exact R.le x y e
  · by_cases hb : x = l
    · subst hb
      exact Or.inr hm
    · rw [upd_ne hb] at e
      exact R.nw x y e
  · by_cases hj : j = i
    · subst hj
      have hlen : j < S.d.length := by
        have z := (List.getElem?_eq_some_iff.mp q).1
        rw [List.length_set] at z
        exact z
      rw [gs_eq hlen] at q
      cases q
      exact ⟨_, hl, hd⟩
    · rw [gs_ne hj] at q
      obtain ⟨v, a, b⟩ := R.dat j x q
      exact ⟨v, a, dp_up e0 _ _ b⟩
  · by_cases hj : j = i
    · subst hj
      exact absurd q gs_none
    · rw [gs_ne hj] at q
      obtain ⟨l2, a2, b2, c2⟩ := R.own j x q
      have hne : l2 ≠ l := fun z => R.ne j i x _ l2 hj q hi a2 (by rw [z]; exact hl)
      exact ⟨l2, a2, by rw [upd_ne hne]; exact b2, c2.up e0 fun _ z => z⟩
  · have keep : ∀ {m : Nat} {x : Ob}, (S.setD i (.list ds)).o[m]? = some (some x) → S.o[m]? = some (some x) := fun {m x} q => by
      by_cases hj : m = i
      · subst hj
        exact absurd q gs_none
      · rw [gs_ne hj] at q
        exact q
    exact R.ne j k x y l2 hjk (keep h1) (keep h2) h3 h4
/-- the ghost of a state that is reached on the way -/
def Gh.at (H0 H : Hp) (σ : L2.St) (S : DSt) : Gh := ⟨H, H0, fun b => ∃ (i : Nat) (ob : Ob), S.o[i]? = some (some ob) ∧ σ[i]? = some (some (V.ref b))⟩
theorem SR.self (R : SR K G H0 H σ S) : SR K (Gh.at H0 H σ S) H0 H σ S :=
  ⟨R.le, fun _ _ h _ => h, fun _ h => h, Same.refl _, fun _ _ h => Or.inl h, R.ln, R.lo, R.dat, fun i ob h => by
    obtain ⟨l, a, b, c⟩ := R.own i ob h
    refine ⟨l, a, b, ?_⟩
    cases ob with
    | lst ds => exact ⟨Or.inr ⟨i, _, h, a⟩, c.2⟩
    | dct ds => exact ⟨Or.inr ⟨i, _, h, a⟩, c.2⟩
    | fix l0 ds => exact ⟨Or.inr ⟨i, _, h, a⟩, c.2⟩, R.ne⟩
theorem SR.trans {σ' : L2.St} {S' : DSt} (R : SR K G H0 H σ S) (R' : SR K (Gh.at H0 H σ S) H0' H' σ' S') : SR K G H0' H' σ' S' := by
  have own : ∀ b, (Gh.at H0 H σ S).M b → G.He b = none ∨ G.M b := fun b ⟨i, ob, h1, h2⟩ => by
    obtain ⟨l, a, _, c⟩ := R.own i ob h1
    rw [h2] at a
    cases a
    exact c.mine
  have dead : ∀ b, H b = none → G.He b = none := fun b h => (R.fresh h).2
  refine ⟨R'.le, fun b o e n => ?_, fun b e => R'.lv b (R.lv b e), R.e0.trans R'.e0, fun b o e => ?_, R'.ln, R'.lo, R'.dat, fun i ob h => ?_, R'.ne⟩
  · refine R'.fr b o (R.fr b o e n) fun z => ?_
    rcases own b z with q | q
    · rw [q] at e
      cases e
    · exact n q
  · rcases R'.nw b o e with q | q | q
    · exact R.nw b o q
    · exact Or.inr (Or.inl (dead b q))
    · exact Or.inr (own b q)
  · obtain ⟨l, a, b, c⟩ := R'.own i ob h
    refine ⟨l, a, b, ?_⟩
    have m : G.He l = none ∨ G.M l := by
      rcases c.mine with q | q
      · exact Or.inl (dead l q)
      · exact own l q
    cases ob with
    | lst ds => exact ⟨m, c.2⟩
    | dct ds => exact ⟨m, c.2⟩
    | fix l0 ds => exact ⟨m, c.2⟩
end
end Dw
set_option maxRecDepth 100000
set_option maxHeartbeats 4000000
/-! The layer's judgements and the rules of expressions. -/
namespace Dw
open PySem PySem.Spec PyProof.Rows L2

abbrev DE := DSt → (PyData → DSt → Prop) → Prop
abbrev DT := DSt → (Bool → DSt → Prop) → Prop
abbrev DA := DSt → (List PyData → DSt → Prop) → Prop
abbrev DG := PyData → DSt → (DSt → Prop) → Prop
abbrev DGs := List PyData → DSt → (DSt → Prop) → Prop
structure DEnds where
  nx : DSt → Prop
  rt : PyData → DSt → Prop
  bk : DSt → Prop := fun _ => False
  ct : DSt → Prop := fun _ => False
abbrev DS := DEnds → DSt → Prop

def SE (K : Fg) (te : TE) (T : DE) : Prop := ∀ (G : Gh) (H0 H : Hp) (σ : L2.St) (S : DSt) (Ψ : PyData → DSt → Prop) (Q : VK), SR K G H0 H σ S → T S Ψ →
  (∀ v d H' H0' S', Same H0 H0' → SR K G H0' H' σ S' → Dp K H0' v d → Ψ d S' → Q v H') → te σ H Q
def ST (K : Fg) (tt : TT) (T : DT) : Prop := ∀ (G : Gh) (H0 H : Hp) (σ : L2.St) (S : DSt) (Ψ : Bool → DSt → Prop) (Q : Bool → Hp → Prop), SR K G H0 H σ S → T S Ψ →
  (∀ b H' H0' S', Same H0 H0' → SR K G H0' H' σ S' → Ψ b S' → Q b H') → tt σ H Q
def SA (K : Fg) (ta : TA) (T : DA) : Prop := ∀ (G : Gh) (H0 H : Hp) (σ : L2.St) (S : DSt) (Ψ : List PyData → DSt → Prop) (Q : List V → Hp → Prop), SR K G H0 H σ S → T S Ψ →
  (∀ vs ds H' H0' S', Same H0 H0' → SR K G H0' H' σ S' → DpAll K H0' vs ds → Ψ ds S' → Q vs H') → ta σ H Q
/-- a new list that nothing names -/
def SN (K : Fg) (te : TE) (T : DA) : Prop := ∀ (G : Gh) (H0 H : Hp) (σ : L2.St) (S : DSt) (Ψ : List PyData → DSt → Prop) (Q : VK), SR K G H0 H σ S → T S Ψ →
  (∀ p vs ds H' H0' S', Same H0 H0' → SR K G H0' H' σ S' → New K G H0' H' σ S' p → H' p = some (.lst vs) → DpAll K H0' vs ds → Ψ ds S' → Q (.ref p) H') → te σ H Q
def S1 (K : Fg) (r : V → Hp → VK → Prop) (ρ : PyData → (PyData → Prop) → Prop) : Prop := ∀ (G : Gh) (H0 H : Hp) (σ : L2.St) (S : DSt) (x : V) (d : PyData) (Ψ : PyData → Prop) (Q : VK), SR K G H0 H σ S → Dp K H0 x d → ρ d Ψ →
  (∀ v c H' H0', Same H0 H0' → SR K G H0' H' σ S → Dp K H0' v c → Ψ c → Q v H') → r x H Q
def S2 (K : Fg) (r : R2) (ρ : PyData → PyData → (PyData → Prop) → Prop) : Prop := ∀ (G : Gh) (H0 H : Hp) (σ : L2.St) (S : DSt) (x y : V) (d e : PyData) (Ψ : PyData → Prop) (Q : VK), SR K G H0 H σ S → Dp K H0 x d → Dp K H0 y e → ρ d e Ψ →
  (∀ v c H' H0', Same H0 H0' → SR K G H0' H' σ S → Dp K H0' v c → Ψ c → Q v H') → r x y H Q
def SC (K : Fg) (r : List V → Hp → VK → Prop) (ρ : List PyData → (PyData → Prop) → Prop) : Prop := ∀ (G : Gh) (H0 H : Hp) (σ : L2.St) (S : DSt) (xs : List V) (ds : List PyData) (Ψ : PyData → Prop) (Q : VK), SR K G H0 H σ S → DpAll K H0 xs ds → ρ ds Ψ →
  (∀ v c H' H0', Same H0 H0' → SR K G H0' H' σ S → Dp K H0' v c → Ψ c → Q v H') → r xs H Q

/-! ### looking at data -/
def onI (d : PyData) (k : Int → Prop) : Prop := match d with
  | .int i => k i
  | _ => False
def onB (d : PyData) (k : Bool → Prop) : Prop := match d with
  | .bool i => k i
  | _ => False
def onT (d : PyData) (k : List PyData → Prop) : Prop := match d with
  | .tuple i => k i
  | _ => False
def onL (d : PyData) (k : List PyData → Prop) : Prop := match d with
  | .list i => k i
  | _ => False
def onS (d : PyData) (k : List PyData → Prop) : Prop := match d with
  | .tuple i => k i
  | .list i => k i
  | _ => False
def onO {α : Type} (o : Option α) (k : α → Prop) : Prop := match o with
  | some x => k x
  | none => False
def onD (S : DSt) (i : Nat) (k : PyData → Prop) : Prop := match S.d[i]? with
  | some (some x) => k x
  | _ => False
def onOL (S : DSt) (i : Nat) (k : List PyData → Prop) : Prop := match S.o[i]? with
  | some (some (.lst x)) => k x
  | _ => False
def onOD (S : DSt) (i : Nat) (k : List (Int × PyData) → Prop) : Prop := match S.o[i]? with
  | some (some (.dct x)) => k x
  | _ => False
theorem onI_of {d : PyData} {k : Int → Prop} (h : onI d k) : ∃ i, d = .int i ∧ k i := by
  cases d with
  | int i => exact ⟨i, rfl, h⟩
  | _ => exact h.elim
theorem onB_of {d : PyData} {k : Bool → Prop} (h : onB d k) : ∃ i, d = .bool i ∧ k i := by
  cases d with
  | bool i => exact ⟨i, rfl, h⟩
  | _ => exact h.elim
theorem onT_of {d : PyData} {k : List PyData → Prop} (h : onT d k) : ∃ i, d = .tuple i ∧ k i := by
  cases d with
  | tuple i => exact ⟨i, rfl, h⟩
  | _ => exact h.elim
theorem onL_of {d : PyData} {k : List PyData → Prop} (h : onL d k) : ∃ i, d = .list i ∧ k i := by
  cases d with
  | list i => exact ⟨i, rfl, h⟩
  | _ => exact h.elim
theorem onS_of {d : PyData} {k : List PyData → Prop} (h : onS d k) : ∃ i, (d = .tuple i ∨ d = .list i) ∧ k i := by
  cases d with
  | tuple i => exact ⟨i, Or.inl rfl, h⟩
  | list i => exact ⟨i, Or.inr rfl, h⟩
  | _ => exact h.elim
theorem onO_of {α : Type} {o : Option α} {k : α → Prop} (h : onO o k) : ∃ x, o = some x ∧ k x := by
  cases o with
  | some x => exact ⟨x, rfl, h⟩
  | none => exact h.elim
theorem onD_of {S : DSt} {i : Nat} {k : PyData → Prop} (h : onD S i k) : ∃ x, S.d[i]? = some (some x) ∧ k x := by
  unfold onD at h
  split at h
  · exact ⟨_, by assumption, h⟩
  · exact h.elim
theorem onOL_of {S : DSt} {i : Nat} {k : List PyData → Prop} (h : onOL S i k) : ∃ x, S.o[i]? = some (some (.lst x)) ∧ k x := by
  unfold onOL at h
  split at h
  · exact ⟨_, by assumption, h⟩
  · exact h.elim
theorem onOD_of {S : DSt} {i : Nat} {k : List (Int × PyData) → Prop} (h : onOD S i k) : ∃ x, S.o[i]? = some (some (.dct x)) ∧ k x := by
  unfold onOD at h
  split at h
  · exact ⟨_, by assumption, h⟩
  · exact h.elim
theorem sizeI {n : Nat} (h : n ≤ 100000) : n ≤ sizeLine := Nat.le_trans h (by decide)
theorem sizeLt {n : Nat} (h : n < 100000) : n < sizeLine := Nat.lt_of_lt_of_le h (by decide)
section
variable {K : Fg} {G : Gh} {H0 H H0' H' : Hp} {σ : L2.St} {S : DSt}
theorem dp_refL {v : V} {ds : List PyData} (h : Dp K H v (.list ds)) : ∃ a xs, v = .ref a ∧ SqL K H a xs ∧ DpAll K H xs ds := by
  cases h with
  | lst a b => exact ⟨_, _, rfl, a, b⟩
theorem dp_refT {v : V} {ds : List PyData} (h : Dp K H v (.tuple ds)) : ∃ a xs, v = .ref a ∧ SqT K H a xs ∧ DpAll K H xs ds := by
  cases h with
  | tup a b => exact ⟨_, _, rfl, a, b⟩
theorem dp_intV {v : V} {i : Int} (h : Dp K H v (.int i)) : v = .int i := by
  cases h
  rfl
theorem dp_blV {v : V} {i : Bool} (h : Dp K H v (.bool i)) : v = .bl i := by
  cases h
  rfl
theorem dp_strV {v : V} {i : Str} (h : Dp K H v (.str i)) : v = .str i := by
  cases h
  rfl
theorem dp_nonV {v : V} (h : Dp K H v .none) : v = .non := by
  cases h
  rfl
/-- a new tuple -/
theorem SR.tup {p : Addr} {vs : List V} {ds : List PyData} (R : SR K G H0 H σ S) (h : DpAll K H0 vs ds) (hp : H p = none) :
    SR K G (upd H0 p (.tup vs)) (upd H p (.tup vs)) σ S ∧ Same H0 (upd H0 p (.tup vs)) ∧ Dp K (upd H0 p (.tup vs)) (.ref p) (.tuple ds) :=
  ⟨R.alloc hp, same_new (R.fresh hp).1, Dp.tup (SqT.of upd_same) (dps_up (same_new (R.fresh hp).1) _ _ h)⟩
theorem SR.lst {p : Addr} {vs : List V} {ds : List PyData} (R : SR K G H0 H σ S) (h : DpAll K H0 vs ds) (hp : H p = none) :
    SR K G (upd H0 p (.lst vs)) (upd H p (.lst vs)) σ S ∧ Same H0 (upd H0 p (.lst vs)) ∧ Dp K (upd H0 p (.lst vs)) (.ref p) (.list ds) :=
  ⟨R.alloc hp, same_new (R.fresh hp).1, Dp.lst (SqL.of upd_same) (dps_up (same_new (R.fresh hp).1) _ _ h)⟩
theorem SR.dpH {v : V} {d : PyData} (R : SR K G H0 H σ S) (h : Dp K H0 v d) : Dp K H v d := dp_up R.le _ _ h
theorem SR.seqL {a : Addr} {xs : List V} (R : SR K G H0 H σ S) (h : SqL K H0 a xs) : SqL K H a xs := R.le.seq h
theorem SR.seqT {a : Addr} {xs : List V} (R : SR K G H0 H σ S) (h : SqT K H0 a xs) : SqT K H a xs := seqT_up R.le h
end

/-! ### the readings' twins -/
def dC (d : PyData) : DE := fun S Ψ => Ψ d S
def dVar (i : Nat) : DE := fun S Ψ => onD S i fun d => Ψ d S
/-- a list of our own, data from here on -/
def dFrz (i : Nat) : DE := fun S Ψ => onOL S i fun xs => Ψ (.list xs) (S.setD i (.list xs))
def dNew (T : DA) : DE := fun S Ψ => T S fun xs S' => Ψ (.list xs) S'
def dNil : DA := fun S Ψ => Ψ [] S
def dCons (T : DE) (U : DA) : DA := fun S Ψ => T S fun x S1 => U S1 fun xs S2 => Ψ (x :: xs) S2
def dStar (T : DE) (U : DA) : DA := fun S Ψ => T S fun x S1 => onS x fun xs => U S1 fun ys S2 => Ψ (xs ++ ys) S2
def dTup (T : DA) : DE := fun S Ψ => T S fun xs S' => xs.length ≤ 100000 ∧ Ψ (.tuple xs) S'
def dLst (T : DA) : DA := fun S Ψ => T S fun xs S' => xs.length ≤ 100000 ∧ Ψ xs S'
def dOp (ρ : PyData → PyData → (PyData → Prop) → Prop) (T U : DE) : DE := fun S Ψ => T S fun x S1 => U S1 fun y S2 => ρ x y fun z => Ψ z S2
def dUn (ρ : PyData → (PyData → Prop) → Prop) (T : DE) : DE := fun S Ψ => T S fun x S1 => ρ x fun z => Ψ z S1
def dCB (ρ : List PyData → (PyData → Prop) → Prop) (T : DA) : DE := fun S Ψ => T S fun xs S1 => ρ xs fun z => Ψ z S1
def dIf (C : DT) (T U : DE) : DE := fun S Ψ => C S fun b S1 => if b = true then T S1 Ψ else U S1 Ψ
def dAndV (T U : DE) : DE := fun S Ψ => T S fun x S1 => onB x fun b => if b = true then U S1 Ψ else Ψ (.bool false) S1
def dOrV (T U : DE) : DE := fun S Ψ => T S fun x S1 => onB x fun b => if b = true then Ψ (.bool true) S1 else U S1 Ψ
def dNotV (T : DE) : DE := fun S Ψ => T S fun x S1 => onB x fun b => Ψ (.bool (!b)) S1
def isNon : PyData → Bool
  | .none => true
  | _ => false
def dIsN (T : DE) : DE := fun S Ψ => T S fun x S1 => Ψ (.bool (isNon x)) S1
def dNotN (T : DE) : DE := fun S Ψ => T S fun x S1 => Ψ (.bool (!isNon x)) S1
def dTst (T : DE) : DT := fun S Ψ => T S fun x S1 => onB x fun b => Ψ b S1
def dAnd (T U : DT) : DT := fun S Ψ => T S fun b S1 => if b = true then U S1 Ψ else Ψ false S1
def dOr (T U : DT) : DT := fun S Ψ => T S fun b S1 => if b = true then Ψ true S1 else U S1 Ψ
def dNot (T : DT) : DT := fun S Ψ => T S fun b S1 => Ψ (!b) S1
def dChain (ρ ρ' : PyData → PyData → (PyData → Prop) → Prop) (T U W : DE) : DE := fun S Ψ => T S fun x S1 => U S1 fun y S2 => ρ x y fun z => onB z fun b => if b = true then W S2 fun w S3 => ρ' y w fun u => Ψ u S3 else Ψ (.bool false) S2
section
variable {K : Fg} {te ta tb tc : TE} {t u : TT} {tr : TA} {T U W : DE} {C E : DT} {L : DA}
theorem se_c {v : V} {d : PyData} (h : ∀ H, Dp K H v d) : SE K (tC v) (dC d) := fun G H0 H σ S Ψ Q R p k => k v d H H0 S (Same.refl _) R (h _) p
theorem se_var {i : Nat} : SE K (tVar i) (dVar i) := fun G H0 H σ S Ψ Q R p k => by
  obtain ⟨d, h1, h2⟩ := onD_of p
  obtain ⟨v, a, b⟩ := R.dat i d h1
  exact ⟨v, a, k v d H H0 S (Same.refl _) R b h2⟩
theorem se_frz {i : Nat} : SE K (tVar i) (dFrz i) := fun G H0 H σ S Ψ Q R p k => by
  obtain ⟨xs, h1, h2⟩ := onOL_of p
  obtain ⟨l, a, b, _, vs, c, e⟩ := R.own i _ h1
  obtain ⟨R', e0, d⟩ := R.frz h1 a c e
  exact ⟨_, a, k _ _ H _ _ e0 R' d h2⟩
theorem se_new (h : SN K te L) : SE K te (dNew L) := fun G H0 H σ S Ψ Q R p k => h G H0 H σ S _ Q R p fun p vs ds H' H0' S' e0 R' N hp hd q => by
  obtain ⟨R2, e2, d2⟩ := R'.freeze N hp hd
  exact k _ _ H' _ S' (e0.trans e2) R2 d2 q
theorem sa_nil : SA K tNil dNil := fun G H0 H σ S Ψ Q R p k => k [] [] H H0 S (Same.refl _) R .nil p
theorem sa_cons (h : SE K te T) (h2 : SA K tr L) : SA K (tCons te tr) (dCons T L) := fun G H0 H σ S Ψ Q R p k =>
  h G H0 H σ S _ _ R p fun v d H1 H01 S1 e1 R1 hd p1 => h2 G H01 H1 σ S1 _ _ R1 p1 fun vs ds H2 H02 S2 e2 R2 hds p2 => k _ _ H2 H02 S2 (e1.trans e2) R2 (.cons (dp_up e2 _ _ hd) hds) p2
theorem dp_refS {H : Hp} {v : V} {d : PyData} {ds : List PyData} (h : Dp K H v d) (e : d = .tuple ds ∨ d = .list ds) : ∃ a xs, v = .ref a ∧ (SqT K H a xs ∨ SqL K H a xs) ∧ DpAll K H xs ds := by
  rcases e with e | e
  · subst e
    obtain ⟨a, xs, e1, e2, e3⟩ := dp_refT h
    exact ⟨a, xs, e1, Or.inl e2, e3⟩
  · subst e
    obtain ⟨a, xs, e1, e2, e3⟩ := dp_refL h
    exact ⟨a, xs, e1, Or.inr e2, e3⟩
theorem sa_star (h : SE K te T) (h2 : SA K tr L) : SA K (StX.tStar K te tr) (dStar T L) := fun G H0 H σ S Ψ Q R p k =>
  h G H0 H σ S _ _ R p fun v d H1 H01 S1 e1 R1 hd p1 => by
    obtain ⟨es, ed, p2⟩ := onS_of p1
    obtain ⟨a, xs, ev, hs, hx⟩ := dp_refS hd ed
    exact ⟨a, xs, ev, hs.imp R1.seqT R1.seqL, h2 G H01 H1 σ S1 _ _ R1 p2 fun vs ds H2 H02 S2 e2 R2 hds p2 => k _ _ H2 H02 S2 (e1.trans e2) R2 (Dps.app (dps_up e2 _ _ hx) hds) p2⟩
theorem se_tup (h : SA K tr L) : SE K (tTup tr) (dTup L) := fun G H0 H σ S Ψ Q R p k =>
  h G H0 H σ S _ _ R p fun vs ds H1 H01 S1 e1 R1 hd ⟨hz, p1⟩ => by
    refine ⟨by rw [Dps.len hd]; exact sizeI hz, fun a ha => ?_⟩
    obtain ⟨R2, e2, d2⟩ := R1.tup hd ha
    exact k _ _ _ _ S1 (e1.trans e2) R2 d2 p1
theorem sn_lst (h : SA K tr L) : SN K (tLst tr) (dLst L) := fun G H0 H σ S Ψ Q R p k =>
  h G H0 H σ S _ _ R p fun vs ds H1 H01 S1 e1 R1 hd ⟨hz, p1⟩ => by
    refine ⟨by rw [Dps.len hd]; exact sizeI hz, fun a ha => ?_⟩
    obtain ⟨R2, N⟩ := R1.allocN (o := .lst vs) ha
    exact k _ _ _ _ _ S1 e1 R2 N upd_same hd p1
theorem se_op {r : R2} {ρ : PyData → PyData → (PyData → Prop) → Prop} (hr : S2 K r ρ) (ha : SE K ta T) (hb : SE K tb U) : SE K (tOp r ta tb) (dOp ρ T U) := fun G H0 H σ S Ψ Q R p k =>
  ha G H0 H σ S _ _ R p fun x d H1 H01 S1 e1 R1 hx p1 => hb G H01 H1 σ S1 _ _ R1 p1 fun y e H2 H02 S2 e2 R2 hy p2 =>
    hr G H02 H2 σ S2 x y d e _ _ R2 (dp_up e2 _ _ hx) hy p2 fun v c H3 H03 e3 R3 hv p3 => k v c H3 H03 S2 ((e1.trans e2).trans e3) R3 hv p3
theorem se_un {r : V → Hp → VK → Prop} {ρ : PyData → (PyData → Prop) → Prop} (hr : S1 K r ρ) (ha : SE K ta T) : SE K (tUn r ta) (dUn ρ T) := fun G H0 H σ S Ψ Q R p k =>
  ha G H0 H σ S _ _ R p fun x d H1 H01 S1 e1 R1 hx p1 => hr G H01 H1 σ S1 x d _ _ R1 hx p1 fun v c H3 H03 e3 R3 hv p3 => k v c H3 H03 S1 (e1.trans e3) R3 hv p3
theorem se_cb {r : List V → Hp → VK → Prop} {ρ : List PyData → (PyData → Prop) → Prop} (hr : SC K r ρ) (ha : SA K tr L) : SE K (tCB r tr) (dCB ρ L) := fun G H0 H σ S Ψ Q R p k =>
  ha G H0 H σ S _ _ R p fun x d H1 H01 S1 e1 R1 hx p1 => hr G H01 H1 σ S1 x d _ _ R1 hx p1 fun v c H3 H03 e3 R3 hv p3 => k v c H3 H03 S1 (e1.trans e3) R3 hv p3
theorem se_if (hc : ST K t C) (ha : SE K ta T) (hb : SE K tb U) : SE K (tIf t ta tb) (dIf C T U) := fun G H0 H σ S Ψ Q R p k =>
  hc G H0 H σ S _ _ R p fun b H1 H01 S1 e1 R1 p1 => by
    cases b with
    | true => exact ha G H01 H1 σ S1 _ _ R1 p1 fun v d H2 H02 S2 e2 R2 hv p2 => k v d H2 H02 S2 (e1.trans e2) R2 hv p2
    | false => exact hb G H01 H1 σ S1 _ _ R1 p1 fun v d H2 H02 S2 e2 R2 hv p2 => k v d H2 H02 S2 (e1.trans e2) R2 hv p2
theorem se_andV (ha : SE K ta T) (hb : SE K tb U) : SE K (tAndV ta tb) (dAndV T U) := fun G H0 H σ S Ψ Q R p k =>
  ha G H0 H σ S _ _ R p fun x d H1 H01 S1 e1 R1 hx p1 => by
    obtain ⟨b, rfl, p2⟩ := onB_of p1
    refine ⟨b, dp_blV hx, ?_⟩
    cases b with
    | true => exact hb G H01 H1 σ S1 _ _ R1 p2 fun v d H2 H02 S2 e2 R2 hv p3 => k v d H2 H02 S2 (e1.trans e2) R2 hv p3
    | false => exact k _ _ H1 H01 S1 e1 R1 (.bl false) p2
theorem se_orV (ha : SE K ta T) (hb : SE K tb U) : SE K (tOrV ta tb) (dOrV T U) := fun G H0 H σ S Ψ Q R p k =>
  ha G H0 H σ S _ _ R p fun x d H1 H01 S1 e1 R1 hx p1 => by
    obtain ⟨b, rfl, p2⟩ := onB_of p1
    refine ⟨b, dp_blV hx, ?_⟩
    cases b with
    | false => exact hb G H01 H1 σ S1 _ _ R1 p2 fun v d H2 H02 S2 e2 R2 hv p3 => k v d H2 H02 S2 (e1.trans e2) R2 hv p3
    | true => exact k _ _ H1 H01 S1 e1 R1 (.bl true) p2
theorem se_notV (ha : SE K ta T) : SE K (tNotV ta) (dNotV T) := fun G H0 H σ S Ψ Q R p k =>
  ha G H0 H σ S _ _ R p fun x d H1 H01 S1 e1 R1 hx p1 => by
    obtain ⟨b, rfl, p2⟩ := onB_of p1
    exact ⟨b, dp_blV hx, k _ _ H1 H01 S1 e1 R1 (.bl _) p2⟩
theorem isNon_of {H : Hp} {v : V} {d : PyData} (h : Dp K H v d) : decide (v = .non) = isNon d := by
  cases h <;> rfl
theorem se_isN (ha : SE K ta T) : SE K (tIsN ta) (dIsN T) := fun G H0 H σ S Ψ Q R p k =>
  ha G H0 H σ S _ _ R p fun x d H1 H01 S1 e1 R1 hx p1 => by
    show Q (.bl (decide (x = .non))) H1
    rw [isNon_of hx]
    exact k _ _ H1 H01 S1 e1 R1 (.bl _) p1
theorem se_notN (ha : SE K ta T) : SE K (tNotN ta) (dNotN T) := fun G H0 H σ S Ψ Q R p k =>
  ha G H0 H σ S _ _ R p fun x d H1 H01 S1 e1 R1 hx p1 => by
    show Q (.bl (!decide (x = .non))) H1
    rw [isNon_of hx]
    exact k _ _ H1 H01 S1 e1 R1 (.bl _) p1
theorem st_test (ha : SE K ta T) : ST K (tTest ta) (dTst T) := fun G H0 H σ S Ψ Q R p k =>
  ha G H0 H σ S _ _ R p fun x d H1 H01 S1 e1 R1 hx p1 => by
    obtain ⟨b, rfl, p2⟩ := onB_of p1
    exact ⟨b, dp_blV hx, k _ H1 H01 S1 e1 R1 p2⟩
theorem st_B (ha : SE K ta T) : ST K (tB ta) (dTst T) := fun G H0 H σ S Ψ Q R p k =>
  ha G H0 H σ S _ _ R p fun x d H1 H01 S1 e1 R1 hx p1 => by
    obtain ⟨b, rfl, p2⟩ := onB_of p1
    exact ⟨b, dp_blV hx, k _ H1 H01 S1 e1 R1 p2⟩
theorem st_and (ha : ST K t C) (hb : ST K u E) : ST K (tAnd t u) (dAnd C E) := fun G H0 H σ S Ψ Q R p k =>
  ha G H0 H σ S _ _ R p fun b H1 H01 S1 e1 R1 p1 => by
    cases b with
    | true => exact hb G H01 H1 σ S1 _ _ R1 p1 fun c H2 H02 S2 e2 R2 p2 => k c H2 H02 S2 (e1.trans e2) R2 p2
    | false => exact k false H1 H01 S1 e1 R1 p1
theorem st_or (ha : ST K t C) (hb : ST K u E) : ST K (tOr t u) (dOr C E) := fun G H0 H σ S Ψ Q R p k =>
  ha G H0 H σ S _ _ R p fun b H1 H01 S1 e1 R1 p1 => by
    cases b with
    | false => exact hb G H01 H1 σ S1 _ _ R1 p1 fun c H2 H02 S2 e2 R2 p2 => k c H2 H02 S2 (e1.trans e2) R2 p2
    | true => exact k true H1 H01 S1 e1 R1 p1
theorem st_not (ha : ST K t C) : ST K (tNot t) (dNot C) := fun G H0 H σ S Ψ Q R p k =>
  ha G H0 H σ S _ _ R p fun b H1 H01 S1 e1 R1 p1 => k _ H1 H01 S1 e1 R1 p1
theorem se_chain {r r' : R2} {ρ ρ' : PyData → PyData → (PyData → Prop) → Prop} (hr : S2 K r ρ) (hr' : S2 K r' ρ') (ha : SE K ta T) (hb : SE K tb U) (hc : SE K tc W) : SE K (tChain r r' ta tb tc) (dChain ρ ρ' T U W) := by
  intro G H0 H σ S Ψ Q R p k
  refine ha G H0 H σ S _ _ R p fun x d H1 H01 S1 e1 R1 hx p1 => ?_
  refine hb G H01 H1 σ S1 _ _ R1 p1 fun y e H2 H02 S2 e2 R2 hy p2 => ?_
  refine hr G H02 H2 σ S2 x y d e _ _ R2 (dp_up e2 _ _ hx) hy p2 fun v c H3 H03 e3 R3 hv p3 => ?_
  obtain ⟨b, rfl, p4⟩ := onB_of p3
  refine ⟨b, dp_blV hv, ?_⟩
  cases b with
  | false => exact k _ _ H3 H03 S2 ((e1.trans e2).trans e3) R3 (.bl false) p4
  | true =>
    refine hc G H03 H3 σ S2 _ _ R3 p4 fun w f H4 H04 S4 e4 R4 hw p5 => ?_
    refine hr' G H04 H4 σ S4 y w e f _ _ R4 (dp_up (e3.trans e4) _ _ hy) hw p5 fun v c H5 H05 e5 R5 hv p6 => ?_
    exact k v c H5 H05 S4 ((((e1.trans e2).trans e3).trans e4).trans e5) R5 hv p6
end

/-! ### operators -/
def oI (f : Int → Int → PyData) : PyData → PyData → (PyData → Prop) → Prop := fun d e Φ => onI d fun i => onI e fun j => Φ (f i j)
def oIp (p : Int → Int → Prop) (f : Int → Int → PyData) : PyData → PyData → (PyData → Prop) → Prop := fun d e Φ => onI d fun i => onI e fun j => p i j ∧ Φ (f i j)
def oEq : PyData → PyData → (PyData → Prop) → Prop := fun d e Φ => SeqAt.shaped d = true ∧ SeqAt.shaped e = true ∧ Φ (.bool (PyData.eqv d e))
def oNe : PyData → PyData → (PyData → Prop) → Prop := fun d e Φ => SeqAt.shaped d = true ∧ SeqAt.shaped e = true ∧ Φ (.bool (!PyData.eqv d e))
def oIn : PyData → PyData → (PyData → Prop) → Prop := fun d e Φ => onS e fun ds => SeqAt.shaped d = true ∧ SeqAt.shaped (.list ds) = true ∧ Φ (.bool (ds.any fun z => PyData.eqv z d))
def oNin : PyData → PyData → (PyData → Prop) → Prop := fun d e Φ => onS e fun ds => SeqAt.shaped d = true ∧ SeqAt.shaped (.list ds) = true ∧ Φ (.bool (!ds.any fun z => PyData.eqv z d))
def oIx : PyData → PyData → (PyData → Prop) → Prop := fun d e Φ => onS d fun ds => onI e fun i => onO (atI ds i) Φ
def oCatT : PyData → PyData → (PyData → Prop) → Prop := fun d e Φ => onT d fun xs => onT e fun ys => xs.length + ys.length ≤ 100000 ∧ Φ (.tuple (xs ++ ys))
section
variable {K : Fg}
theorem s2_I {g : Int → Int → V} {f : Int → Int → PyData} (h : ∀ H i j, Dp K H (g i j) (f i j)) : S2 K (rI0 g) (oI f) := fun G H0 H σ S x y d e Ψ Q R hx hy p k => by
  obtain ⟨i, rfl, p1⟩ := onI_of p
  obtain ⟨j, rfl, p2⟩ := onI_of p1
  exact ⟨i, j, dp_intV hx, dp_intV hy, k _ _ H H0 (Same.refl _) R (h _ _ _) p2⟩
theorem s2_Ip {c : Int → Int → Prop} {g : Int → Int → V} {f : Int → Int → PyData} (h : ∀ H i j, Dp K H (g i j) (f i j)) : S2 K (rI c g) (oIp c f) := fun G H0 H σ S x y d e Ψ Q R hx hy p k => by
  obtain ⟨i, rfl, p1⟩ := onI_of p
  obtain ⟨j, rfl, hc, p2⟩ := onI_of p1
  exact ⟨i, j, dp_intV hx, dp_intV hy, hc, k _ _ H H0 (Same.refl _) R (h _ _ _) p2⟩
theorem s2_eq : S2 K (rEqD K) oEq := fun G H0 H σ S x y d e Ψ Q R hx hy ⟨h1, h2, p⟩ k => ⟨d, e, R.dpH hx, R.dpH hy, h1, h2, k _ _ H H0 (Same.refl _) R (.bl _) p⟩
theorem s2_ne : S2 K (rNeD K) oNe := fun G H0 H σ S x y d e Ψ Q R hx hy ⟨h1, h2, p⟩ k => ⟨d, e, R.dpH hx, R.dpH hy, h1, h2, k _ _ H H0 (Same.refl _) R (.bl _) p⟩
/-- in, not in: a list or a tuple -/
def rInS (K : Fg) : R2 := fun x y H Q => ∃ d e ds, (e = .tuple ds ∨ e = .list ds) ∧ Dp K H x d ∧ Dp K H y e ∧ SeqAt.shaped d = true ∧ SeqAt.shaped (.list ds) = true ∧ Q (.bl (ds.any fun z => PyData.eqv z d)) H
def rNinS (K : Fg) : R2 := fun x y H Q => ∃ d e ds, (e = .tuple ds ∨ e = .list ds) ∧ Dp K H x d ∧ Dp K H y e ∧ SeqAt.shaped d = true ∧ SeqAt.shaped (.list ds) = true ∧ Q (.bl (!ds.any fun z => PyData.eqv z d)) H
theorem s2_in : S2 K (rInS K) oIn := fun G H0 H σ S x y d e Ψ Q R hx hy p k => by
  obtain ⟨ds, he, h1, h2, p⟩ := onS_of p
  exact ⟨d, e, ds, he, R.dpH hx, R.dpH hy, h1, h2, k _ _ H H0 (Same.refl _) R (.bl _) p⟩
theorem s2_nin : S2 K (rNinS K) oNin := fun G H0 H σ S x y d e Ψ Q R hx hy p k => by
  obtain ⟨ds, he, h1, h2, p⟩ := onS_of p
  exact ⟨d, e, ds, he, R.dpH hx, R.dpH hy, h1, h2, k _ _ H H0 (Same.refl _) R (.bl _) p⟩
def rIxD (K : Fg) : R2 := fun x y H Q => rIxL K x y H Q ∨ rIxT K x y H Q
theorem atI_dps {H : Hp} {xs : List V} {ds : List PyData} {i : Int} {d : PyData} (h : DpAll K H xs ds) (e : atI ds i = some d) : ∃ v, atI xs i = some v ∧ Dp K H v d := by
  unfold atI at e ⊢
  rw [Dps.len h]
  cases q : ixN ds.length i with
  | none =>
    rw [q] at e
    cases e
  | some j =>
    rw [q] at e
    exact Dps.get h e
theorem s2_ix : S2 K (rIxD K) oIx := fun G H0 H σ S x y d e Ψ Q R hx hy p k => by
  obtain ⟨ds, he, p1⟩ := onS_of p
  obtain ⟨i, rfl, p2⟩ := onI_of p1
  obtain ⟨c, hc, p3⟩ := onO_of p2
  obtain ⟨a, xs, rfl, hs, hd⟩ := dp_refS hx he
  obtain ⟨v, hv, hvc⟩ := atI_dps hd hc
  have fin := k v c H H0 (Same.refl _) R hvc p3
  rcases hs with hs | hs
  · exact Or.inr ⟨a, xs, i, v, rfl, dp_intV hy, R.seqT hs, hv, fin⟩
  · exact Or.inl ⟨a, xs, i, v, rfl, dp_intV hy, R.seqL hs, hv, fin⟩
theorem s2_catT : S2 K (rCatA K) oCatT := fun G H0 H σ S x y d e Ψ Q R hx hy p k => by
  obtain ⟨ds, rfl, p1⟩ := onT_of p
  obtain ⟨es, rfl, hz, p2⟩ := onT_of p1
  obtain ⟨a, xs, rfl, hs, hd⟩ := dp_refT hx
  obtain ⟨b, ys, rfl, ht, he⟩ := dp_refT hy
  have l1 := Dps.len hd
  have l2 := Dps.len he
  refine ⟨a, b, xs, ys, rfl, rfl, R.seqT hs, R.seqT ht, by rw [l1, l2]; exact sizeI hz, fun e1 => ?_, fun e1 e2 => ?_, fun e1 e2 q hq => ?_⟩
  · have z : ds = [] := List.eq_nil_of_length_eq_zero (by rw [← l1, e1]; rfl)
    subst z
    exact k _ _ H H0 (Same.refl _) R hy p2
  · have z : es = [] := List.eq_nil_of_length_eq_zero (by rw [← l2, e2]; rfl)
    subst z
    rw [List.append_nil] at p2
    exact k _ _ H H0 (Same.refl _) R hx p2
  · obtain ⟨R2, e0, hv⟩ := R.tup (Dps.app hd he) hq
    exact k _ _ _ _ e0 R2 hv p2
end
end Dw
set_option maxRecDepth 100000
set_option maxHeartbeats 4000000
/-! Objects of our own, targets, statements, loops, comprehensions. -/
namespace Dw
open PySem PySem.Spec PyProof.Rows L2

/-! ### dicts whose keys are ints -/
def lkD (kvs : List (Int × PyData)) (k : Int) : Option PyData := (kvs.find? fun p => decide (p.1 = k)).map (·.2)
def putD (kvs : List (Int × PyData)) (k : Int) (d : PyData) : List (Int × PyData) :=
  if (kvs.any fun p => decide (p.1 = k)) = true then kvs.map (fun p => if p.1 = k then (p.1, d) else p) else kvs ++ [(k, d)]
section
variable {K : Fg} {H : Hp}
theorem KvR.len {ws : List (Key × V)} {kvs : List (Int × PyData)} (h : KvR K H ws kvs) : ws.length = kvs.length := Paired.length h
theorem inl_iff {a : Key} {b k : Int} (e : a = Sum.inl b) : (a = Sum.inl k) ↔ b = k := by
  rw [e]
  exact ⟨fun z => Sum.inl.inj z, fun z => congrArg _ z⟩
theorem KvR.any {k : Int} : ∀ {ws : List (Key × V)} {kvs : List (Int × PyData)}, KvR K H ws kvs → (ws.any fun p => decide (p.1 = Sum.inl k)) = (kvs.any fun p => decide (p.1 = k))
  | _, _, .nil => rfl
  | _, _, .cons a t => by
    rw [List.any_cons, List.any_cons, KvR.any t]
    congr 1
    exact decide_eq_decide.mpr (inl_iff a.1)
theorem KvR.look {k : Int} {d : PyData} : ∀ {ws : List (Key × V)} {kvs : List (Int × PyData)}, KvR K H ws kvs → lkD kvs k = some d → ∃ v, valV ws (Sum.inl k) = some v ∧ Dp K H v d
  | _, _, .nil, h => by cases h
  | _, _, .cons (a := p) (b := q) (l₁ := ws) (l₂ := kvs) a t, h => by
    by_cases e : q.1 = k
    · have h2 : lkD (q :: kvs) k = some q.2 := by simp [lkD, List.find?_cons, e]
      rw [h2] at h
      cases h
      exact ⟨p.2, valV_pos ((inl_iff a.1).mpr e), a.2⟩
    · have h2 : lkD (q :: kvs) k = lkD kvs k := by simp [lkD, List.find?_cons, e]
      rw [h2] at h
      obtain ⟨v, h3, h4⟩ := KvR.look t h
      exact ⟨v, by rw [valV_neg (fun z => e ((inl_iff a.1).mp z))]; exact h3, h4⟩
theorem KvR.map {k : Int} {v : V} {d : PyData} (hv : Dp K H v d) : ∀ {ws : List (Key × V)} {kvs : List (Int × PyData)}, KvR K H ws kvs →
    KvR K H (ws.map fun p => if p.1 = Sum.inl k then (p.1, v) else p) (kvs.map fun p => if p.1 = k then (p.1, d) else p)
  | _, _, .nil => .nil
  | _, _, .cons (a := p) (b := q) a t => by
    rw [List.map_cons, List.map_cons]
    refine .cons ?_ (KvR.map hv t)
    by_cases e : q.1 = k
    · rw [if_pos e, if_pos ((inl_iff a.1).mpr e)]
      exact ⟨a.1, hv⟩
    · rw [if_neg e, if_neg (fun z => e ((inl_iff a.1).mp z))]
      exact a
theorem KvR.snoc {k : Int} {v : V} {d : PyData} (hv : Dp K H v d) : ∀ {ws : List (Key × V)} {kvs : List (Int × PyData)}, KvR K H ws kvs → KvR K H (ws ++ [(Sum.inl k, v)]) (kvs ++ [(k, d)])
  | _, _, .nil => .cons ⟨rfl, hv⟩ .nil
  | _, _, .cons a t => .cons a (KvR.snoc hv t)
theorem KvR.put {k : Int} {v : V} {d : PyData} (hv : Dp K H v d) {ws : List (Key × V)} {kvs : List (Int × PyData)} (h : KvR K H ws kvs) : KvR K H (putK ws (Sum.inl k) v) (putD kvs k d) := by
  unfold putK putD
  rw [h.any]
  by_cases e : (kvs.any fun p => decide (p.1 = k)) = true
  · rw [if_pos e, if_pos e]
    exact KvR.map hv h
  · rw [if_neg e, if_neg e]
    exact KvR.snoc hv h
end

/-! ### reading what is our own -/
def dIxO (i : Nat) (U : DE) : DE := fun S Ψ => onOL S i fun _ => U S fun y S1 => onOL S1 i fun xs => onI y fun j => onO (atI xs j) fun d => Ψ d S1
def dInO (T : DE) (i : Nat) : DE := fun S Ψ => T S fun d S1 => onOL S1 i fun ds => SeqAt.shaped d = true ∧ SeqAt.shaped (.list ds) = true ∧ Ψ (.bool (ds.any fun z => PyData.eqv z d)) S1
def dIxK (i : Nat) (U : DE) : DE := fun S Ψ => onOD S i fun _ => U S fun y S1 => onOD S1 i fun kvs => onI y fun j => onO (lkD kvs j) fun d => Ψ d S1
def dLenK (i : Nat) : DE := fun S Ψ => onOD S i fun kvs => Ψ (.int (kvs.length : Nat)) S
section
variable {K : Fg} {G : Gh} {H0 H H0' H' : Hp} {σ : L2.St} {S : DSt} {ta tb te : TE} {T U : DE} {L : DA}
theorem SR.ownL {i : Nat} {xs : List PyData} (R : SR K G H0 H σ S) (h : S.o[i]? = some (some (.lst xs))) : ∃ l vs, σ[i]? = some (some (V.ref l)) ∧ H l = some (.lst vs) ∧ DpAll K H0 vs xs ∧ H0 l = none :=
  let ⟨l, a, b, _, vs, c, d⟩ := R.own i _ h
  ⟨l, vs, a, c, d, b⟩
theorem SR.ownD {i : Nat} {xs : List (Int × PyData)} (R : SR K G H0 H σ S) (h : S.o[i]? = some (some (.dct xs))) : ∃ l ws, σ[i]? = some (some (V.ref l)) ∧ H l = some (.dK ws) ∧ KvR K H0 ws xs ∧ H0 l = none :=
  let ⟨l, a, b, _, vs, c, d⟩ := R.own i _ h
  ⟨l, vs, a, c, d, b⟩
theorem se_ixO {i : Nat} (hb : SE K tb U) : SE K (tOp (rIxL K) (tVar i) tb) (dIxO i U) := fun G H0 H σ S Ψ Q R p k => by
  obtain ⟨xs, h1, p1⟩ := onOL_of p
  obtain ⟨l, vs, a, _⟩ := R.ownL h1
  refine ⟨_, a, hb G H0 H σ S _ _ R p1 fun y e H1 H01 S1 e1 R1 hy p2 => ?_⟩
  obtain ⟨zs, h2, p3⟩ := onOL_of p2
  obtain ⟨l2, ws, a2, b2, c2, _⟩ := R1.ownL h2
  rw [a] at a2
  cases a2
  obtain ⟨j, rfl, p4⟩ := onI_of p3
  obtain ⟨d, hd, p5⟩ := onO_of p4
  obtain ⟨v, hv, hvd⟩ := atI_dps c2 hd
  exact ⟨l, ws, j, v, rfl, dp_intV hy, SqL.of b2, hv, k v d H1 H01 S1 e1 R1 hvd p5⟩
theorem se_inO {i : Nat} (ha : SE K ta T) : SE K (tOp (rInS K) ta (tVar i)) (dInO T i) := fun G H0 H σ S Ψ Q R p k => by
  refine ha G H0 H σ S _ _ R p fun x d H1 H01 S1 e1 R1 hx p1 => ?_
  obtain ⟨zs, h2, q1, q2, p2⟩ := onOL_of p1
  obtain ⟨l, ws, a, b, c, _⟩ := R1.ownL h2
  exact ⟨_, a, d, _, zs, Or.inr rfl, R1.dpH hx, Dp.lst (SqL.of b) (dps_up R1.le _ _ c), q1, q2, k _ _ H1 H01 S1 e1 R1 (.bl _) p2⟩
theorem se_ixK {i : Nat} (hb : SE K tb U) : SE K (tDGet (tVar i) tb) (dIxK i U) := fun G H0 H σ S Ψ Q R p k => by
  obtain ⟨xs, h1, p1⟩ := onOD_of p
  obtain ⟨l, vs, a, _⟩ := R.ownD h1
  refine ⟨_, a, hb G H0 H σ S _ _ R p1 fun y e H1 H01 S1 e1 R1 hy p2 => ?_⟩
  obtain ⟨zs, h2, p3⟩ := onOD_of p2
  obtain ⟨l2, ws, a2, b2, c2, _⟩ := R1.ownD h2
  rw [a] at a2
  cases a2
  obtain ⟨j, rfl, p4⟩ := onI_of p3
  obtain ⟨d, hd, p5⟩ := onO_of p4
  obtain ⟨v, hv, hvd⟩ := KvR.look c2 hd
  refine ⟨l, v, rfl, ?_, k v d H1 H01 S1 e1 R1 hvd p5⟩
  rw [dp_intV hy, ← hv]
  exact DGet.k (k := Sum.inl j) b2
def rLenD : List V → Hp → VK → Prop := fun xs H Q => ∃ a kvs, xs = [V.ref a] ∧ H a = some (.dK kvs) ∧ Q (.int (kvs.length : Nat)) H
theorem se_lenK {i : Nat} : SE K (tCB rLenD (tCons (tVar i) tNil)) (dLenK i) := fun G H0 H σ S Ψ Q R p k => by
  obtain ⟨xs, h1, p1⟩ := onOD_of p
  obtain ⟨l, ws, a, b, c, _⟩ := R.ownD h1
  refine ⟨_, a, l, ws, rfl, b, ?_⟩
  rw [c.len]
  exact k _ _ H H0 S (Same.refl _) R (.int _) p1
/-! ### new lists -/
def dRep (T : DA) (U : DE) : DA := fun S Ψ => T S fun xs S1 => U S1 fun y S2 => onI y fun n => -1000 ≤ n ∧ n ≤ 1000 ∧ xs.length ≤ 100 ∧ Ψ (List.replicate n.toNat xs).flatten S2
theorem New.keep' {p : Addr} {o : HO} {S' : DSt} {σ' : L2.St} (N : New K G H0 H σ S p) (hp : H p = some o) (R' : SR K (Gh.at H0 H σ S) H0' H' σ' S') : H' p = some o ∧ New K G H0' H' σ' S' p := by
  have nm : ¬ (Gh.at H0 H σ S).M p := fun ⟨i, ob, h1, h2⟩ => N.ns i ob h1 h2
  refine ⟨R'.fr p o hp nm, ?_, N.ne, fun i ob h z => ?_⟩
  · cases q : H0' p with
    | none => rfl
    | some o2 =>
      rcases R'.nw p o2 q with z | z | z
      · have z' : H0 p = some o2 := z
        rw [N.n0] at z'
        cases z'
      · have z' : H p = none := z
        rw [hp] at z'
        cases z'
      · exact absurd z nm
  · obtain ⟨l, a, _, c⟩ := R'.own i ob h
    rw [z] at a
    cases a
    rcases c.mine with q | q
    · have q' : H p = none := q
      rw [hp] at q'
      cases q'
    · exact nm q
theorem New.keep {p : Addr} {o : HO} {S' : DSt} (N : New K G H0 H σ S p) (hp : H p = some o) (R' : SR K (Gh.at H0 H σ S) H0' H' σ S') : H' p = some o ∧ New K G H0' H' σ S' p := N.keep' hp R'
theorem sn_rep (ha : SN K ta L) (hb : SE K tb U) : SN K (tOp rRep ta tb) (dRep L U) := fun G H0 H σ S Ψ Q R p k => by
  refine ha G H0 H σ S _ _ R p fun l vs ds H1 H01 S1 e1 R1 N hl hd p1 => ?_
  refine hb (Gh.at H01 H1 σ S1) H01 H1 σ S1 _ _ R1.self p1 fun y e H2 H02 S2 e2 R2 hy p2 => ?_
  obtain ⟨n, rfl, n1, n2, n3, p3⟩ := onI_of p2
  obtain ⟨hl2, N2⟩ := N.keep hl R2
  have len := Dps.len hd
  refine ⟨l, n, vs, rfl, dp_intV hy, hl2, by omega, by omega, ?_, fun q hq => ?_⟩
  · rw [len]
    have h1 : ds.length * n.toNat ≤ 100 * 1000 := Nat.mul_le_mul n3 (by omega)
    exact sizeI (by omega)
  · have R3 := R1.trans R2
    obtain ⟨R4, N4⟩ := R3.allocN (o := .lst (List.replicate n.toNat vs).flatten) hq
    exact k _ _ _ _ _ S2 (e1.trans e2) R4 N4 upd_same (Dps.rep (dps_up e2 _ _ hd) _) p3
end

/-! ### targets -/
/-- no slot but these changes -/
def Off (ws : List Nat) (σ σ' : L2.St) : Prop := σ'.length = σ.length ∧ ∀ j : Nat, j ∉ ws → σ'[j]? = σ[j]?
def SG (K : Fg) (g : TG) (Γ : DG) (ws : List Nat) : Prop := ∀ (G : Gh) (H0 H : Hp) (σ : L2.St) (S : DSt) (v : V) (d : PyData) (Ψ : DSt → Prop) (Q : L2.St → Hp → Prop), SR K G H0 H σ S → Dp K H0 v d → Γ d S Ψ →
  (∀ H' H0' (σ' : L2.St) S', Same H0 H0' → SR K G H0' H' σ' S' → Off ws σ σ' → Ψ S' → Q σ' H') → g v σ H Q
def SGs (K : Fg) (g : TGs) (Γ : DGs) (ws : List Nat) : Prop := ∀ (G : Gh) (H0 H : Hp) (σ : L2.St) (S : DSt) (vs : List V) (ds : List PyData) (Ψ : DSt → Prop) (Q : L2.St → Hp → Prop), SR K G H0 H σ S → DpAll K H0 vs ds → Γ ds S Ψ →
  (∀ H' H0' (σ' : L2.St) S', Same H0 H0' → SR K G H0' H' σ' S' → Off ws σ σ' → Ψ S' → Q σ' H') → g vs σ H Q
def dgN (i : Nat) : DG := fun d S Ψ => Ψ (S.setD i d)
def dgNil : DGs := fun ds S Ψ => match ds with
  | [] => Ψ S
  | _ :: _ => False
def dgCons (Γ : DG) (Δ : DGs) : DGs := fun ds S Ψ => match ds with
  | [] => False
  | d :: r => Γ d S fun S1 => Δ r S1 Ψ
def dgTup (n : Nat) (Δ : DGs) : DG := fun d S Ψ => onT d fun ds => ds.length = n ∧ Δ ds S Ψ
/-- x[..] = d, x a list of our own; a dict of our own -/
def dgL (i : Nat) (U : DE) : DG := fun d S Ψ => onOL S i fun _ => U S fun y S1 => onI y fun j => onOL S1 i fun xs => onO (ixN xs.length j) fun m => Ψ (S1.setO i (.lst (xs.set m d)))
def dgK (i : Nat) (U : DE) : DG := fun d S Ψ => onOD S i fun _ => U S fun y S1 => onI y fun j => onOD S1 i fun kvs => kvs.length < 100000 ∧ Ψ (S1.setO i (.dct (putD kvs j d)))
section
variable {K : Fg} {tb : TE} {U : DE} {g : TG} {gs : TGs} {Γ : DG} {Δ : DGs} {ws us : List Nat}
theorem sg_name {i : Nat} : SG K (gName i) (dgN i) [i] := fun G H0 H σ S v d Ψ Q R hv p k =>
  k H H0 _ _ (Same.refl _) (R.asg hv) ⟨List.length_set .., fun j hj => gs_ne (fun e => hj (by simp [e]))⟩ p
theorem sgs_nil : SGs K gNil dgNil [] := fun G H0 H σ S vs ds Ψ Q R hv p k => by
  cases hv with
  | nil => exact ⟨rfl, k H H0 σ S (Same.refl _) R ⟨rfl, fun _ _ => rfl⟩ p⟩
  | cons a b => exact p.elim
theorem sgs_cons (h : SG K g Γ ws) (h2 : SGs K gs Δ us) : SGs K (gCons g gs) (dgCons Γ Δ) (ws ++ us) := fun G H0 H σ S vs ds Ψ Q R hv p k => by
  cases hv with
  | nil => exact p.elim
  | cons a b => exact ⟨_, _, rfl, h G H0 H σ S _ _ _ _ R a p fun H1 H01 σ1 S1 e1 R1 w1 p1 => h2 G H01 H1 σ1 S1 _ _ _ _ R1 (dps_up e1 _ _ b) p1 fun H2 H02 σ2 S2 e2 R2 w2 p2 =>
      k H2 H02 σ2 S2 (e1.trans e2) R2 ⟨w2.1.trans w1.1, fun j hj => (w2.2 j fun z => hj (List.mem_append_right _ z)).trans (w1.2 j fun z => hj (List.mem_append_left _ z))⟩ p2⟩
theorem sg_tup {n : Nat} (h : SGs K gs Δ ws) : SG K (gTup K n gs) (dgTup n Δ) ws := fun G H0 H σ S v d Ψ Q R hv p k => by
  obtain ⟨ds, rfl, hl, p1⟩ := onT_of p
  obtain ⟨a, xs, rfl, hs, hd⟩ := dp_refT hv
  exact ⟨a, xs, rfl, R.seqT hs, by rw [Dps.len hd]; exact hl, h G H0 H σ S xs ds _ _ R hd p1 k⟩
theorem sg_setL {i : Nat} (hb : SE K tb U) : SG K (gSub (tVar i) tb rSetL) (dgL i U) [] := fun G H0 H σ S v d Ψ Q R hv p k => by
  obtain ⟨xs, h1, p1⟩ := onOL_of p
  obtain ⟨l, vs, a, _⟩ := R.ownL h1
  refine ⟨_, a, hb G H0 H σ S _ _ R p1 fun y e H1 H01 S1 e1 R1 hy p2 => ?_⟩
  obtain ⟨j, rfl, p3⟩ := onI_of p2
  obtain ⟨zs, h2, p4⟩ := onOL_of p3
  obtain ⟨m, hm, p5⟩ := onO_of p4
  obtain ⟨l2, ws, a2, b2, c2, _⟩ := R1.ownL h2
  rw [a] at a2
  cases a2
  refine ⟨l, ws, j, m, rfl, dp_intV hy, b2, by rw [Dps.len c2]; exact hm, ?_⟩
  obtain ⟨l3, a3, b3, c3⟩ := R1.own i _ h2
  rw [a] at a3
  cases a3
  exact k _ H01 σ _ e1 (R1.mut (o' := .lst (ws.set m v)) (ob' := .lst (zs.set m d)) h2 a ⟨c3.mine, _, upd_same, Dps.set (dp_up e1 _ _ hv) m c2⟩) ⟨rfl, fun _ _ => rfl⟩ p5
theorem sg_setK {i : Nat} (hb : SE K tb U) : SG K (gSub (tVar i) tb rSetD) (dgK i U) [] := fun G H0 H σ S v d Ψ Q R hv p k => by
  obtain ⟨xs, h1, p1⟩ := onOD_of p
  obtain ⟨l, vs, a, _⟩ := R.ownD h1
  refine ⟨_, a, hb G H0 H σ S _ _ R p1 fun y e H1 H01 S1 e1 R1 hy p2 => ?_⟩
  obtain ⟨j, rfl, p3⟩ := onI_of p2
  obtain ⟨zs, h2, hz, p5⟩ := onOD_of p3
  obtain ⟨l2, ws, a2, b2, c2, _⟩ := R1.ownD h2
  rw [a] at a2
  cases a2
  refine ⟨l, upd H1 l (.dK (putK ws (Sum.inl j) v)), rfl, ?_, ?_⟩
  · rw [dp_intV hy]
    exact DPut.k (k := Sum.inl j) b2 (by rw [c2.len]; exact sizeLt hz)
  · obtain ⟨l3, a3, b3, c3⟩ := R1.own i _ h2
    rw [a] at a3
    cases a3
    exact k _ H01 σ _ e1 (R1.mut (o' := .dK (putK ws (Sum.inl j) v)) (ob' := .dct (putD zs j d)) h2 a ⟨c3.mine, _, upd_same, c2.put (dp_up e1 _ _ hv)⟩) ⟨rfl, fun _ _ => rfl⟩ p5
end

/-! ### statements -/
structure EndsR (K : Fg) (G : Gh) (H0 : Hp) (D : DEnds) (D' : Ends) : Prop where
  nx : ∀ H' H0' σ' S', Same H0 H0' → SR K G H0' H' σ' S' → D.nx S' → D'.nx σ' H'
  rt : ∀ v d H' H0' σ' S', Same H0 H0' → SR K G H0' H' σ' S' → Dp K H0' v d → D.rt d S' → D'.rt v H'
  bk : ∀ H' H0' σ' S', Same H0 H0' → SR K G H0' H' σ' S' → D.bk S' → D'.bk σ' H'
  ct : ∀ H' H0' σ' S', Same H0 H0' → SR K G H0' H' σ' S' → D.ct S' → D'.ct σ' H'
theorem EndsR.up {K : Fg} {G : Gh} {H0 H0' : Hp} {D : DEnds} {D' : Ends} (e : Same H0 H0') (k : EndsR K G H0 D D') : EndsR K G H0' D D' :=
  ⟨fun a b c d f => k.nx a b c d (e.trans f), fun a b c d g h f => k.rt a b c d g h (e.trans f), fun a b c d f => k.bk a b c d (e.trans f), fun a b c d f => k.ct a b c d (e.trans f)⟩
def SS (K : Fg) (ts : TS) (T : DS) : Prop := ∀ (G : Gh) (H0 H : Hp) (σ : L2.St) (S : DSt) (D : DEnds) (D' : Ends), SR K G H0 H σ S → T D S → EndsR K G H0 D D' → ts D' σ H
def dNext : DS := fun D S => D.nx S
def dSeq (T U : DS) : DS := fun D S => T { D with nx := U D } S
def dDrop (T : DE) : DS := fun D S => T S fun _ S1 => D.nx S1
def dRet (T : DE) : DS := fun D S => T S fun d S1 => D.rt d S1
def dBreak : DS := fun D S => D.bk S
def dCont : DS := fun D S => D.ct S
def dNever : DS := fun _ _ => False
def dIfS (C : DT) (T U : DS) : DS := fun D S => C S fun b S1 => if b = true then T D S1 else U D S1
def dAsg (T : DE) (Γ : DG) : DS := fun D S => T S fun d S1 => Γ d S1 D.nx
def dAsgN (L : DA) (i : Nat) : DS := fun D S => L S fun xs S1 => D.nx (S1.setO i (.lst xs))
def dPar (i j : Nat) (T U : DE) : DS := fun D S => T S fun x S1 => U S1 fun y S2 => D.nx ((S2.setD i x).setD j y)
def dParN (i j : Nat) (L : DA) (U : DE) : DS := fun D S => L S fun xs S1 => U S1 fun y S2 => D.nx ((S2.setO i (.lst xs)).setD j y)
def dParM (i j : Nat) (T : DE) (L : DA) : DS := fun D S => T S fun x S1 => L S1 fun ys S2 => D.nx ((S2.setD i x).setO j (.lst ys))
def dApp (i : Nat) (T : DE) : DS := fun D S => onOL S i fun _ => T S fun d S1 => onOL S1 i fun xs => xs.length < 100000 ∧ D.nx (S1.setO i (.lst (xs ++ [d])))
section
variable {K : Fg} {ts tu : TS} {te tf : TE} {t : TT} {g : TG} {T U : DS} {E F : DE} {C : DT} {L : DA} {Γ : DG} {ws : List Nat}
theorem ss_next : SS K tNext dNext := fun G H0 H σ S D D' R p k => k.nx H H0 σ S (Same.refl _) R p
theorem ss_break : SS K tBreak dBreak := fun G H0 H σ S D D' R p k => k.bk H H0 σ S (Same.refl _) R p
theorem ss_cont : SS K tCont dCont := fun G H0 H σ S D D' R p k => k.ct H H0 σ S (Same.refl _) R p
theorem ss_never : SS K tNever dNever := fun G H0 H σ S D D' R p k => p
theorem ss_seq (h : SS K ts T) (h2 : SS K tu U) : SS K (tSeq ts tu) (dSeq T U) := fun G H0 H σ S D D' R p k =>
  h G H0 H σ S _ _ R p ⟨fun H1 H01 σ1 S1 e1 R1 p1 => h2 G H01 H1 σ1 S1 D D' R1 p1 (k.up e1), k.rt, k.bk, k.ct⟩
theorem ss_drop (h : SE K te E) : SS K (tDrop te) (dDrop E) := fun G H0 H σ S D D' R p k =>
  h G H0 H σ S _ _ R p fun v d H1 H01 S1 e1 R1 hv p1 => k.nx H1 H01 σ S1 e1 R1 p1
theorem ss_ret (h : SE K te E) : SS K (tRet te) (dRet E) := fun G H0 H σ S D D' R p k =>
  h G H0 H σ S _ _ R p fun v d H1 H01 S1 e1 R1 hv p1 => k.rt v d H1 H01 σ S1 e1 R1 hv p1
theorem ss_if (hc : ST K t C) (h : SS K ts T) (h2 : SS K tu U) : SS K (tIfS t ts tu) (dIfS C T U) := fun G H0 H σ S D D' R p k =>
  hc G H0 H σ S _ _ R p fun b H1 H01 S1 e1 R1 p1 => by
    cases b with
    | true => exact h G H01 H1 σ S1 D D' R1 p1 (k.up e1)
    | false => exact h2 G H01 H1 σ S1 D D' R1 p1 (k.up e1)
theorem ss_asg (h : SE K te E) (hg : SG K g Γ ws) : SS K (tAsg te g) (dAsg E Γ) := fun G H0 H σ S D D' R p k =>
  h G H0 H σ S _ _ R p fun v d H1 H01 S1 e1 R1 hv p1 => hg G H01 H1 σ S1 v d _ _ R1 hv p1 fun H2 H02 σ2 S2 e2 R2 _ p2 => k.nx H2 H02 σ2 S2 (e1.trans e2) R2 p2
theorem ss_asgN {i : Nat} (h : SN K te L) : SS K (tAsg te (gName i)) (dAsgN L i) := fun G H0 H σ S D D' R p k =>
  h G H0 H σ S _ _ R p fun l vs ds H1 H01 S1 e1 R1 N hl hd p1 => k.nx H1 H01 _ _ e1 (R1.asgN (ob := .lst ds) N ⟨Or.inl N.ne, vs, hl, hd⟩) p1
theorem ss_par {i j : Nat} (h : SE K te E) (h2 : SE K tf F) : SS K (tPar i j (tCons te (tCons tf tNil))) (dPar i j E F) := fun G H0 H σ S D D' R p k =>
  h G H0 H σ S _ _ R p fun v d H1 H01 S1 e1 R1 hv p1 => h2 G H01 H1 σ S1 _ _ R1 p1 fun w e H2 H02 S2 e2 R2 hw p2 =>
    ⟨v, w, rfl, k.nx H2 H02 _ _ (e1.trans e2) ((R2.asg (dp_up e2 _ _ hv)).asg hw) p2⟩
theorem ss_parN {i j : Nat} (h : SN K te L) (h2 : SE K tf F) : SS K (tPar i j (tCons te (tCons tf tNil))) (dParN i j L F) := fun G H0 H σ S D D' R p k =>
  h G H0 H σ S _ _ R p fun l vs ds H1 H01 S1 e1 R1 N hl hd p1 => h2 (Gh.at H01 H1 σ S1) H01 H1 σ S1 _ _ R1.self p1 fun w e H2 H02 S2 e2 R2 hw p2 => by
    obtain ⟨hl2, N2⟩ := N.keep hl R2
    exact ⟨_, w, rfl, k.nx H2 H02 _ _ (e1.trans e2) (((R1.trans R2).asgN (ob := .lst ds) N2 ⟨Or.inl N2.ne, vs, hl2, dps_up e2 _ _ hd⟩).asg hw) p2⟩
theorem ss_parM {i j : Nat} (h : SE K te E) (h2 : SN K tf L) : SS K (tPar i j (tCons te (tCons tf tNil))) (dParM i j E L) := fun G H0 H σ S D D' R p k =>
  h G H0 H σ S _ _ R p fun v d H1 H01 S1 e1 R1 hv p1 => h2 G H01 H1 σ S1 _ _ R1 p1 fun l vs ds H2 H02 S2 e2 R2 N hl hd p2 => by
    have R3 := R2.asg (i := i) (dp_up e2 _ _ hv)
    have N3 : New K G H02 H2 (σ.set i (some v)) (S2.setD i d) l := ⟨N.n0, N.ne, fun m ob hm z => by
      by_cases hj : m = i
      · subst hj
        exact absurd hm gs_none
      · rw [gs_ne hj] at hm z
        exact N.ns m ob hm z⟩
    exact ⟨v, _, rfl, k.nx H2 H02 _ _ (e1.trans e2) (R3.asgN (ob := .lst ds) N3 ⟨Or.inl N3.ne, vs, hl, hd⟩) p2⟩
theorem ss_app {i : Nat} (h : SE K te E) : SS K (tDrop (tBM K "list" rAppend (tVar i) (tCons te tNil))) (dApp i E) := fun G H0 H σ S D D' R p k => by
  obtain ⟨xs, h1, p1⟩ := onOL_of p
  obtain ⟨l, vs, a, b, _⟩ := R.ownL h1
  refine ⟨_, a, Or.inl ⟨rfl, _, SqL.of b⟩, h G H0 H σ S _ _ R p1 fun y e H1 H01 S1 e1 R1 hy p2 => ?_⟩
  obtain ⟨zs, h2, hz, p3⟩ := onOL_of p2
  obtain ⟨l2, ws, a2, b2, c2, _⟩ := R1.ownL h2
  rw [a] at a2
  cases a2
  refine ⟨l, ws, y, rfl, rfl, b2, by rw [Dps.len c2]; exact sizeLt hz, ?_⟩
  obtain ⟨l3, a3, b3, c3⟩ := R1.own i _ h2
  rw [a] at a3
  cases a3
  exact k.nx _ H01 σ _ e1 (R1.mut (o' := .lst (ws ++ [y])) (ob' := .lst (zs ++ [e])) h2 a ⟨c3.mine, _, upd_same, Dps.app c2 (.cons hy .nil)⟩) p3
end
end Dw
set_option maxRecDepth 100000
set_option maxHeartbeats 4000000
/-! What is walked, loops, comprehensions, defs. -/
namespace Dw
open PySem PySem.Spec PyProof.Rows L2

/-! ### what is walked -/
structure ItR (K : Fg) (J : It) (items : List PyData) (H0 : Hp) : Prop where
  go : ∀ i H1, i < items.length → Same H0 H1 → J.go i H1
  stop : ∀ H1, Same H0 H1 → J.stop items.length H1
  yld : ∀ i H01 H1 x H1' d, Same H0 H01 → Same H01 H1 → J.yld i H1 x H1' → items[i]? = some d →
    ∃ H01', Same H01 H01' ∧ Same H01' H1' ∧ Same H1 H1' ∧ (∀ b o, H01' b = some o → H01 b = some o ∨ H1 b = none) ∧ Dp K H01' x d
def SI (K : Fg) (wi : TI) (T : DA) : Prop := ∀ (G : Gh) (H0 H : Hp) (σ : L2.St) (S : DSt) (Ψ : List PyData → DSt → Prop) (R : It → Hp → Prop), SR K G H0 H σ S → T S Ψ →
  (∀ J items H' H0' S', Same H0 H0' → SR K G H0' H' σ S' → ItR K J items H0' → Ψ items S' → R J H') → wi σ H R
def dItS (T : DE) : DA := fun S Ψ => T S fun x S1 => onS x fun xs => Ψ xs S1
def rangeD (n : Int) : List PyData := (List.range n.toNat).map fun (i : Nat) => .int i
def dItR (L : DA) : DA := fun S Ψ => L S fun xs S1 => match xs with
  | [d] => onI d fun n => -100000 ≤ n ∧ n ≤ 100000 ∧ Ψ (rangeD n) S1
  | _ => False
def enumD : Nat → List PyData → List PyData
  | _, [] => []
  | k, x :: xs => .tuple [.int (k : Nat), x] :: enumD (k + 1) xs
def zipD : List PyData → List PyData → List PyData
  | x :: xs, y :: ys => .tuple [x, y] :: zipD xs ys
  | _, _ => []
def dItE (L : DA) : DA := fun S Ψ => L S fun xs S1 => match xs with
  | [d] => onS d fun xs => Ψ (enumD 0 xs) S1
  | _ => False
def dItZ (L : DA) : DA := fun S Ψ => L S fun xs S1 => match xs with
  | [.list a, .list b] => Ψ (zipD a b) S1
  | [.tuple a, .tuple b] => Ψ (zipD a b) S1
  | _ => False
theorem enum_get : ∀ (xs : List PyData) (k i : Nat), (enumD k xs)[i]? = xs[i]?.map fun x => PyData.tuple [.int ((k + i : Nat) : Int), x]
  | [], _, _ => by simp [enumD]
  | x :: xs, k, 0 => by simp [enumD]
  | x :: xs, k, i + 1 => by
    have ih := enum_get xs (k + 1) i
    show (enumD (k + 1) xs)[i]? = _
    rw [ih, List.getElem?_cons_succ]
    have e : k + 1 + i = k + (i + 1) := by omega
    rw [e]
theorem enum_len : ∀ (xs : List PyData) (k : Nat), (enumD k xs).length = xs.length
  | [], _ => rfl
  | x :: xs, k => congrArg (· + 1) (enum_len xs (k + 1))
theorem zip_get : ∀ (xs ys : List PyData) (i : Nat) (d : PyData), (zipD xs ys)[i]? = some d → ∃ x y, xs[i]? = some x ∧ ys[i]? = some y ∧ d = .tuple [x, y]
  | [], _, _, _, h => by simp [zipD] at h
  | _ :: _, [], _, _, h => by simp [zipD] at h
  | x :: xs, y :: ys, 0, d, h => by
    simp [zipD] at h
    exact ⟨x, y, rfl, rfl, h.symm⟩
  | x :: xs, y :: ys, i + 1, d, h => zip_get xs ys i d (by simpa [zipD] using h)
theorem zip_len : ∀ (xs ys : List PyData), (zipD xs ys).length = min xs.length ys.length
  | [], _ => by simp [zipD]
  | _ :: _, [] => by simp [zipD]
  | x :: xs, y :: ys => by
    have := zip_len xs ys
    simp only [zipD, List.length_cons, this]
    omega
section
variable {K : Fg} {H0 : Hp}
theorem it_list {a : Addr} {xs : List V} {ds : List PyData} (hs : SqL K H0 a xs) (hd : DpAll K H0 xs ds) : ItR K (Itl K a) ds H0 where
  go := fun i H1 hi e => by
    obtain ⟨v, hv, _⟩ := Dps.get hd (List.getElem?_eq_getElem hi)
    exact ⟨xs, v, e.seq hs, hv⟩
  stop := fun H1 e => ⟨xs, e.seq hs, by rw [Dps.len hd]; exact Nat.le_refl _⟩
  yld := fun i H01 H1 x H1' d e e1 h hd2 => by
    obtain ⟨rfl, h⟩ := h
    obtain ⟨v, hv, hvd⟩ := Dps.get hd hd2
    have z := h xs ((e.trans e1).seq hs)
    rw [hv] at z
    cases z
    exact ⟨H01, Same.refl _, e1, Same.refl _, fun _ _ q => Or.inl q, dp_up e _ _ hvd⟩
theorem it_tup {a : Addr} {xs : List V} {ds : List PyData} (hs : SqT K H0 a xs) (hd : DpAll K H0 xs ds) : ItR K (Itt K a) ds H0 where
  go := fun i H1 hi e => by
    obtain ⟨v, hv, _⟩ := Dps.get hd (List.getElem?_eq_getElem hi)
    exact ⟨xs, v, seqT_up e hs, hv⟩
  stop := fun H1 e => ⟨xs, seqT_up e hs, by rw [Dps.len hd]; exact Nat.le_refl _⟩
  yld := fun i H01 H1 x H1' d e e1 h hd2 => by
    obtain ⟨rfl, h⟩ := h
    obtain ⟨v, hv, hvd⟩ := Dps.get hd hd2
    have z := h xs (seqT_up (e.trans e1) hs)
    rw [hv] at z
    cases z
    exact ⟨H01, Same.refl _, e1, Same.refl _, fun _ _ q => Or.inl q, dp_up e _ _ hvd⟩
theorem it_range {n : Int} : ItR K (Itr 0 n.toNat) (rangeD n) H0 where
  go := fun i H1 hi e => by
    unfold rangeD at hi
    rw [List.length_map, List.length_range] at hi
    exact hi
  stop := fun H1 e => by
    show n.toNat ≤ (rangeD n).length
    unfold rangeD
    rw [List.length_map, List.length_range]
    exact Nat.le_refl _
  yld := fun i H01 H1 x H1' d e e1 h hd2 => by
    obtain ⟨rfl, rfl⟩ := h
    refine ⟨H01, Same.refl _, e1, Same.refl _, fun _ _ q => Or.inl q, ?_⟩
    unfold rangeD at hd2
    rw [List.getElem?_map] at hd2
    cases q : (List.range n.toNat)[i]? with
    | none =>
      rw [q] at hd2
      cases hd2
    | some j =>
      rw [q] at hd2
      obtain ⟨hj, ej⟩ := List.getElem?_eq_some_iff.mp q
      rw [List.getElem_range] at ej
      subst ej
      have e2 : d = .int ((i : Nat) : Int) := (Option.some.inj hd2).symm
      rw [e2, Int.zero_add]
      exact .int _
/-- a pair that is laid at each turn -/
theorem pair_yld {T : Addr} {x y : V} {d e : PyData} {H01 H1 : Hp} (e1 : Same H01 H1) (hT : H1 T = none) (hx : Dp K H01 x d) (hy : Dp K H01 y e) :
    ∃ H01', Same H01 H01' ∧ Same H01' (upd H1 T (.tup [x, y])) ∧ Same H1 (upd H1 T (.tup [x, y])) ∧ (∀ b o, H01' b = some o → H01 b = some o ∨ H1 b = none) ∧ Dp K H01' (.ref T) (.tuple [d, e]) := by
  have n0 : H01 T = none := e1.free hT
  refine ⟨upd H01 T (.tup [x, y]), same_new n0, fun b o q => ?_, same_new hT, fun b o q => ?_, Dp.tup (SqT.of upd_same) (.cons (dp_up (same_new n0) _ _ hx) (.cons (dp_up (same_new n0) _ _ hy) .nil))⟩
  · by_cases hb : b = T
    · subst hb
      rw [upd_same] at q ⊢
      exact q
    · rw [upd_ne hb] at q ⊢
      exact e1 b o q
  · by_cases hb : b = T
    · subst hb
      exact Or.inr hT
    · rw [upd_ne hb] at q
      exact Or.inl q
theorem it_enumL {a : Addr} {xs : List V} {ds : List PyData} (hs : SqL K H0 a xs) (hd : DpAll K H0 xs ds) : ItR K (Ite K a) (enumD 0 ds) H0 where
  go := fun i H1 hi e => by
    rw [enum_len] at hi
    obtain ⟨v, hv, _⟩ := Dps.get hd (List.getElem?_eq_getElem hi)
    exact ⟨xs, v, e.seq hs, hv⟩
  stop := fun H1 e => ⟨xs, e.seq hs, by rw [Dps.len hd, enum_len]; exact Nat.le_refl _⟩
  yld := fun i H01 H1 x H1' d e e1 h hd2 => by
    obtain ⟨T, y, rfl, hT, rfl, h⟩ := h
    rw [enum_get] at hd2
    cases q : ds[i]? with
    | none =>
      rw [q] at hd2
      cases hd2
    | some c =>
      rw [q] at hd2
      obtain ⟨v, hv, hvd⟩ := Dps.get hd q
      have z := h xs ((e.trans e1).seq hs)
      rw [hv] at z
      cases z
      have e2 : d = .tuple [.int ((0 + i : Nat) : Int), c] := (Option.some.inj hd2).symm
      rw [e2, Nat.zero_add]
      exact pair_yld e1 hT (.int _) (dp_up e _ _ hvd)
/-- enumerate over a tuple -/
def IteT (K : Fg) (a : Addr) : It :=
  ⟨fun i H => ∃ (xs : List V) (x : V), SqT K H a xs ∧ xs[i]? = some x,
   fun i H v H' => ∃ T x, v = .ref T ∧ H T = none ∧ H' = upd H T (.tup [.int ((i : Nat) : Int), x]) ∧ ∀ xs, SqT K H a xs → xs[i]? = some x,
   fun i H => ∃ xs : List V, SqT K H a xs ∧ xs.length = i⟩
theorem it_enumT {a : Addr} {xs : List V} {ds : List PyData} (hs : SqT K H0 a xs) (hd : DpAll K H0 xs ds) : ItR K (IteT K a) (enumD 0 ds) H0 where
  go := fun i H1 hi e => by
    rw [enum_len] at hi
    obtain ⟨v, hv, _⟩ := Dps.get hd (List.getElem?_eq_getElem hi)
    exact ⟨xs, v, seqT_up e hs, hv⟩
  stop := fun H1 e => ⟨xs, seqT_up e hs, by rw [Dps.len hd, enum_len]⟩
  yld := fun i H01 H1 x H1' d e e1 h hd2 => by
    obtain ⟨T, y, rfl, hT, rfl, h⟩ := h
    rw [enum_get] at hd2
    cases q : ds[i]? with
    | none =>
      rw [q] at hd2
      cases hd2
    | some c =>
      rw [q] at hd2
      obtain ⟨v, hv, hvd⟩ := Dps.get hd q
      have z := h xs (seqT_up (e.trans e1) hs)
      rw [hv] at z
      cases z
      have e2 : d = .tuple [.int ((0 + i : Nat) : Int), c] := (Option.some.inj hd2).symm
      rw [e2, Nat.zero_add]
      exact pair_yld e1 hT (.int _) (dp_up e _ _ hvd)
theorem it_zipL {a b : Addr} {xs ys : List V} {ds es : List PyData} (hs : SqL K H0 a xs) (hd : DpAll K H0 xs ds) (ht : SqL K H0 b ys) (he : DpAll K H0 ys es) : ItR K (Itz K a b) (zipD ds es) H0 where
  go := fun i H1 hi e => by
    rw [zip_len] at hi
    obtain ⟨v, hv, _⟩ := Dps.get hd (List.getElem?_eq_getElem (show i < ds.length by omega))
    obtain ⟨w, hw, _⟩ := Dps.get he (List.getElem?_eq_getElem (show i < es.length by omega))
    exact ⟨xs, ys, v, w, e.seq hs, e.seq ht, hv, hw⟩
  stop := fun H1 e => ⟨xs, ys, e.seq hs, e.seq ht, by rw [zip_len, Dps.len hd, Dps.len he]; omega⟩
  yld := fun i H01 H1 x H1' d e e1 h hd2 => by
    obtain ⟨T, u, w, rfl, hT, rfl, h, h2⟩ := h
    obtain ⟨c, c2, q1, q2, rfl⟩ := zip_get _ _ _ _ hd2
    obtain ⟨v, hv, hvd⟩ := Dps.get hd q1
    obtain ⟨v2, hv2, hvd2⟩ := Dps.get he q2
    have z := h xs ((e.trans e1).seq hs)
    rw [hv] at z
    cases z
    have z := h2 ys ((e.trans e1).seq ht)
    rw [hv2] at z
    cases z
    exact pair_yld e1 hT (dp_up e _ _ hvd) (dp_up e _ _ hvd2)
theorem it_zipT {a b : Addr} {xs ys : List V} {ds es : List PyData} (hs : SqT K H0 a xs) (hd : DpAll K H0 xs ds) (ht : SqT K H0 b ys) (he : DpAll K H0 ys es) : ItR K (RZ.ItzT K a b) (zipD ds es) H0 where
  go := fun i H1 hi e => by
    rw [zip_len] at hi
    obtain ⟨v, hv, _⟩ := Dps.get hd (List.getElem?_eq_getElem (show i < ds.length by omega))
    obtain ⟨w, hw, _⟩ := Dps.get he (List.getElem?_eq_getElem (show i < es.length by omega))
    exact ⟨xs, ys, v, w, seqT_up e hs, seqT_up e ht, hv, hw⟩
  stop := fun H1 e => ⟨xs, ys, seqT_up e hs, seqT_up e ht, by rw [zip_len, Dps.len hd, Dps.len he]; omega⟩
  yld := fun i H01 H1 x H1' d e e1 h hd2 => by
    obtain ⟨T, u, w, rfl, hT, rfl, h, h2⟩ := h
    obtain ⟨c, c2, q1, q2, rfl⟩ := zip_get _ _ _ _ hd2
    obtain ⟨v, hv, hvd⟩ := Dps.get hd q1
    obtain ⟨v2, hv2, hvd2⟩ := Dps.get he q2
    have z := h xs (seqT_up (e.trans e1) hs)
    rw [hv] at z
    cases z
    have z := h2 ys (seqT_up (e.trans e1) ht)
    rw [hv2] at z
    cases z
    exact pair_yld e1 hT (dp_up e _ _ hvd) (dp_up e _ _ hvd2)
end
/-- a list or a tuple -/
def iSeq (K : Fg) (tl : TE) : TI := fun σ H R => tl σ H fun x H1 => ∃ a, x = .ref a ∧ ((∃ xs, SqL K H1 a xs ∧ R (Itl K a) H1) ∨ ∃ xs, SqT K H1 a xs ∧ R (Itt K a) H1)
def iEnumS (K : Fg) (ta : TA) : TI := fun σ H R => ta σ H fun vs H1 => ∃ a, vs = [.ref a] ∧ ((∃ xs, SqL K H1 a xs ∧ R (Ite K a) H1) ∨ ∃ xs, SqT K H1 a xs ∧ R (IteT K a) H1)
section
variable {K : Fg} {te : TE} {ta : TA} {T : DE} {L : DA}
theorem si_seq (h : SE K te T) : SI K (iSeq K te) (dItS T) := fun G H0 H σ S Ψ Q R p k => by
  refine h G H0 H σ S _ _ R p fun x d H1 H01 S1 e1 R1 hx p1 => ?_
  obtain ⟨ds, he, p2⟩ := onS_of p1
  rcases he with he | he
  · subst he
    obtain ⟨a, xs, rfl, hs, hd⟩ := dp_refT hx
    exact ⟨a, rfl, Or.inr ⟨xs, R1.seqT hs, k _ ds H1 H01 S1 e1 R1 (it_tup hs hd) p2⟩⟩
  · subst he
    obtain ⟨a, xs, rfl, hs, hd⟩ := dp_refL hx
    exact ⟨a, rfl, Or.inl ⟨xs, R1.seqL hs, k _ ds H1 H01 S1 e1 R1 (it_list hs hd) p2⟩⟩
theorem dps_one {H : Hp} {vs : List V} {d : PyData} (h : DpAll K H vs [d]) : ∃ v, vs = [v] ∧ Dp K H v d := by
  cases h with
  | cons a b =>
    cases b
    exact ⟨_, rfl, a⟩
theorem dps_two {H : Hp} {vs : List V} {d e : PyData} (h : DpAll K H vs [d, e]) : ∃ v w, vs = [v, w] ∧ Dp K H v d ∧ Dp K H w e := by
  cases h with
  | cons a b =>
    obtain ⟨w, rfl, hw⟩ := dps_one b
    exact ⟨_, w, rfl, a, hw⟩
theorem si_range (h : SA K ta L) : SI K (iRng1 ta) (dItR L) := fun G H0 H σ S Ψ Q R p k => by
  refine h G H0 H σ S _ _ R p fun vs ds H1 H01 S1 e1 R1 hx p1 => ?_
  match ds, hx, p1 with
  | [d], hx, p1 =>
    obtain ⟨v, rfl, hv⟩ := dps_one hx
    obtain ⟨n, rfl, n1, n2, p2⟩ := onI_of p1
    exact ⟨n, by rw [dp_intV hv], by omega, by omega, k _ _ H1 H01 S1 e1 R1 it_range p2⟩
theorem si_enum (h : SA K ta L) : SI K (iEnumS K ta) (dItE L) := fun G H0 H σ S Ψ Q R p k => by
  refine h G H0 H σ S _ _ R p fun vs ds H1 H01 S1 e1 R1 hx p1 => ?_
  match ds, hx, p1 with
  | [d], hx, p1 =>
    obtain ⟨v, rfl, hv⟩ := dps_one hx
    obtain ⟨es, he, p2⟩ := onS_of p1
    rcases he with he | he
    · subst he
      obtain ⟨a, xs, rfl, hs, hd⟩ := dp_refT hv
      exact ⟨a, rfl, Or.inr ⟨xs, R1.seqT hs, k _ _ H1 H01 S1 e1 R1 (it_enumT hs hd) p2⟩⟩
    · subst he
      obtain ⟨a, xs, rfl, hs, hd⟩ := dp_refL hv
      exact ⟨a, rfl, Or.inl ⟨xs, R1.seqL hs, k _ _ H1 H01 S1 e1 R1 (it_enumL hs hd) p2⟩⟩
theorem si_zip (h : SA K ta L) : SI K (RZ.iZipA K ta) (dItZ L) := fun G H0 H σ S Ψ Q R p k => by
  refine h G H0 H σ S _ _ R p fun vs ds H1 H01 S1 e1 R1 hx p1 => ?_
  match ds, hx, p1 with
  | [.list x, .list y], hx, p1 =>
    obtain ⟨v, w, rfl, hv, hw⟩ := dps_two hx
    obtain ⟨a, xs, rfl, hs, hd⟩ := dp_refL hv
    obtain ⟨b, ys, rfl, ht, he⟩ := dp_refL hw
    exact ⟨a, b, xs, ys, rfl, Or.inl ⟨R1.seqL hs, R1.seqL ht, k _ _ H1 H01 S1 e1 R1 (it_zipL hs hd ht he) p1⟩⟩
  | [.tuple x, .tuple y], hx, p1 =>
    obtain ⟨v, w, rfl, hv, hw⟩ := dps_two hx
    obtain ⟨a, xs, rfl, hs, hd⟩ := dp_refT hv
    obtain ⟨b, ys, rfl, ht, he⟩ := dp_refT hw
    exact ⟨a, b, xs, ys, rfl, Or.inr ⟨R1.seqT hs, R1.seqT ht, k _ _ H1 H01 S1 e1 R1 (it_zipT hs hd ht he) p1⟩⟩
end

/-! ### for, while -/
def dForGo (Γ : DG) (B : DS) (D : DEnds) : List PyData → DSt → Prop
  | [], S => D.nx S
  | x :: xs, S => Γ x S fun S1 => B { D with nx := dForGo Γ B D xs, ct := dForGo Γ B D xs, bk := D.nx } S1
def dFor (I : DA) (Γ : DG) (B : DS) : DS := fun D S => I S fun items S1 => dForGo Γ B D items S1
def dWhile (C : DT) (B : DS) : DS := fun D S => ∃ W : Nat → DSt → Prop, (∃ m, W m S) ∧ ∀ m S, W m S → C S fun b S1 =>
  if b = true then B { D with nx := fun S2 => ∃ m', m' < m ∧ W m' S2, ct := fun S2 => ∃ m', m' < m ∧ W m' S2, bk := D.nx } S1 else D.nx S1
section
variable {K : Fg} {wi : TI} {g : TG} {tb : TS} {t : TT} {I : DA} {Γ : DG} {B : DS} {C : DT} {ws : List Nat}
theorem ss_for (hi : SI K wi I) (hg : SG K g Γ ws) (hb : SS K tb B) : SS K (tFor wi g tb) (dFor I Γ B) := by
  intro G H0 H σ S D D' R p k
  refine hi G H0 H σ S _ _ R p fun J items H1 H01 S1 e1 R1 it p1 => ?_
  refine ⟨fun i m σ' H' => ∃ H0' S', Same H01 H0' ∧ SR K G H0' H' σ' S' ∧ i ≤ items.length ∧ m = items.length - i ∧ dForGo Γ B D (items.drop i) S',
    ⟨items.length, H01, S1, Same.refl _, R1, Nat.zero_le _, rfl, p1⟩, fun i m σ' H' hW => ?_⟩
  obtain ⟨H0', S', e2, R2, hi, rfl, p2⟩ := hW
  by_cases hlt : i < items.length
  · rw [List.drop_eq_getElem_cons hlt] at p2
    refine Or.inr ⟨it.go i H' hlt (e2.trans R2.le), fun σ2 H2 => ∃ H02 S2, Same H01 H02 ∧ SR K G H02 H2 σ2 S2 ∧ dForGo Γ B D (items.drop (i + 1)) S2, fun σ2 H2 hN => ?_, fun x H2 hy => ?_⟩
    · obtain ⟨H02, S2, e3, R3, p3⟩ := hN
      exact ⟨items.length - (i + 1), by omega, H02, S2, e3, R3, hlt, rfl, p3⟩
    · obtain ⟨H02, f1, f2, f3, f4, hx⟩ := it.yld i H0' H' x H2 _ e2 R2.le hy (List.getElem?_eq_getElem hlt)
      have R3 := R2.ext f1 f2 f3 f4
      refine hg G H02 H2 σ' S' x _ _ _ R3 hx p2 fun H3 H03 σ3 S3 e3 R4 _ p3 => ?_
      have kk := k.up (((e1.trans e2).trans f1).trans e3)
      refine hb G H03 H3 σ3 S3 _ _ R4 p3 ⟨fun H4 H04 σ4 S4 e4 R5 p4 => ?_, kk.rt, kk.nx, fun H4 H04 σ4 S4 e4 R5 p4 => ?_⟩
      · exact ⟨H04, S4, ((e2.trans f1).trans e3).trans e4, R5, p4⟩
      · exact ⟨H04, S4, ((e2.trans f1).trans e3).trans e4, R5, p4⟩
  · have e : i = items.length := by omega
    subst e
    rw [List.drop_length] at p2
    exact Or.inl ⟨it.stop H' (e2.trans R2.le), k.nx H' H0' σ' S' (e1.trans e2) R2 p2⟩
theorem ss_while (hc : ST K t C) (hb : SS K tb B) : SS K (tWhile t tb) (dWhile C B) := by
  intro G H0 H σ S D D' R p k
  obtain ⟨W, ⟨m0, w0⟩, turn⟩ := p
  refine ⟨fun m σ' H' => ∃ H0' S', Same H0 H0' ∧ SR K G H0' H' σ' S' ∧ W m S', ⟨m0, H0, S, Same.refl _, R, w0⟩, fun m σ' H' hW => ?_⟩
  obtain ⟨H0', S', e1, R1, w1⟩ := hW
  refine hc G H0' H' σ' S' _ _ R1 (turn m S' w1) fun b H2 H02 S2 e2 R2 p2 => ?_
  have kk := k.up (e1.trans e2)
  cases b with
  | false => exact kk.nx H2 H02 σ' S2 (Same.refl _) R2 p2
  | true =>
    refine ⟨fun σ3 H3 => ∃ H03 S3, Same H0 H03 ∧ SR K G H03 H3 σ3 S3 ∧ ∃ m', m' < m ∧ W m' S3, fun σ3 H3 hN => ?_, ?_⟩
    · obtain ⟨H03, S3, e3, R3, m', hm, w3⟩ := hN
      exact ⟨m', hm, H03, S3, e3, R3, w3⟩
    · refine hb G H02 H2 σ' S2 _ _ R2 p2 ⟨fun H4 H04 σ4 S4 e4 R5 p4 => ?_, kk.rt, kk.nx, fun H4 H04 σ4 S4 e4 R5 p4 => ?_⟩
      · exact ⟨H04, S4, (e1.trans e2).trans e4, R5, p4⟩
      · exact ⟨H04, S4, (e1.trans e2).trans e4, R5, p4⟩
end
end Dw
set_option maxRecDepth 100000
set_option maxHeartbeats 4000000
/-! Comprehensions; defs by their contracts. -/
namespace Dw
open PySem PySem.Spec PyProof.Rows L2

/-! ### comprehensions -/
def okS (vs : List Nat) (o : List (Option Ob)) : Bool := vs.all fun v => match o[v]? with
  | some (some _) => false
  | _ => true
def wipeD (d : List (Option PyData)) : List Nat → List (Option PyData)
  | [] => d
  | v :: vs => (wipeD d vs).set v none
theorem wipeD_len (d : List (Option PyData)) : ∀ vs, (wipeD d vs).length = d.length
  | [] => rfl
  | v :: vs => by
    show ((wipeD d vs).set v none).length = _
    rw [List.length_set, wipeD_len d vs]
theorem wipeD_some {d : List (Option PyData)} {i : Nat} {x : PyData} : ∀ {vs : List Nat}, (wipeD d vs)[i]? = some (some x) → d[i]? = some (some x) ∧ i ∉ vs
  | [], h => ⟨h, by simp⟩
  | v :: vs, h => by
    have h' : ((wipeD d vs).set v none)[i]? = some (some x) := h
    by_cases hv : i = v
    · subst hv
      exact absurd h' gs_noneD
    · rw [gs_ne hv] at h'
      obtain ⟨a, b⟩ := wipeD_some h'
      exact ⟨a, by simp only [List.mem_cons, not_or]; exact ⟨hv, b⟩⟩
theorem wipe_off (σ : L2.St) : ∀ (vs : List Nat) (i : Nat), i ∉ vs → (wipe σ vs)[i]? = σ[i]?
  | [], _, _ => rfl
  | v :: vs, i, h => by
    simp only [List.mem_cons, not_or] at h
    show ((wipe σ vs).set v none)[i]? = _
    rw [gs_ne h.1]
    exact wipe_off σ vs i h.2
theorem wipe_on (σ : L2.St) : ∀ (vs : List Nat) (i : Nat), i ∈ vs → (wipe σ vs)[i]? = if i < σ.length then some none else none
  | v :: vs, i, h => by
    show ((wipe σ vs).set v none)[i]? = _
    by_cases e : i = v
    · subst e
      by_cases hl : i < σ.length
      · rw [gs_eq (by rw [wipe_length]; exact hl), if_pos hl]
      · rw [if_neg hl]
        exact List.getElem?_eq_none (by rw [List.length_set, wipe_length]; omega)
    · rw [gs_ne e]
      exact wipe_on σ vs i ((List.mem_cons.mp h).resolve_left e)
theorem wipe_eq {σ σ' : L2.St} {vs : List Nat} (h : Off vs (wipe σ vs) σ') : wipe σ' vs = wipe σ vs := by
  refine List.ext_getElem? fun i => ?_
  by_cases hi : i ∈ vs
  · rw [wipe_on _ _ _ hi, wipe_on _ _ _ hi, h.1, wipe_length]
  · rw [wipe_off _ _ _ hi]
    exact h.2 i hi
theorem Off.mono {ws vs : List Nat} {σ σ' : L2.St} (h : Off ws σ σ') (s : ∀ j ∈ ws, j ∈ vs) : Off vs σ σ' := ⟨h.1, fun j hj => h.2 j fun z => hj (s j z)⟩
theorem okS_at {vs : List Nat} {o : List (Option Ob)} (h : okS vs o = true) {v : Nat} (hv : v ∈ vs) : ∀ ob, o[v]? ≠ some (some ob) := fun ob e => by
  have z := List.all_eq_true.mp h v hv
  rw [e] at z
  cases z
section
variable {K : Fg} {G : Gh} {H0 H H0' H' : Hp} {σ σ' : L2.St} {S S' : DSt}
theorem SR.reslot (R : SR K G H0 H σ S) (ln : σ'.length = S'.d.length) (lo : S'.o.length = S'.d.length) (dat : ∀ (i : Nat) (d : PyData), S'.d[i]? = some (some d) → ∃ v, σ'[i]? = some (some v) ∧ Dp K H0 v d)
    (own : ∀ (i : Nat) (ob : Ob), S'.o[i]? = some (some ob) → S.o[i]? = some (some ob) ∧ σ'[i]? = σ[i]?) : SR K G H0 H σ' S' :=
  ⟨R.le, R.fr, R.lv, R.e0, R.nw, ln, lo, dat, fun i ob h => by
    obtain ⟨a, b⟩ := own i ob h
    rw [b]
    exact R.own i ob a, fun i j a b l hij h1 h2 h3 h4 => by
    obtain ⟨a1, b1⟩ := own i a h1
    obtain ⟨a2, b2⟩ := own j b h2
    rw [b1] at h3
    rw [b2] at h4
    exact R.ne i j a b l hij a1 a2 h3 h4⟩
theorem SR.wiped {vs : List Nat} {d : List (Option PyData)} {o : List (Option Ob)} (R : SR K G H0 H σ ⟨d, o⟩) (ok : okS vs o = true) : SR K G H0 H (wipe σ vs) ⟨wipeD d vs, o⟩ :=
  R.reslot (by rw [wipe_length, wipeD_len]; exact R.ln) (by rw [wipeD_len]; exact R.lo) (fun i x h => by
    obtain ⟨a, b⟩ := wipeD_some h
    rw [wipe_off _ _ _ b]
    exact R.dat i x a) fun i ob h => ⟨h, wipe_off _ _ _ fun z => okS_at ok z ob h⟩
/-- a new object changes -/
theorem SR.updN {p : Addr} {o : HO} (R : SR K G H0 H σ S) (N : New K G H0 H σ S p) : SR K G H0 (upd H p o) σ S := by
  refine ⟨fun b x e => ?_, fun b x e n => ?_, fun b e => ?_, R.e0, R.nw, R.ln, R.lo, R.dat, fun i ob h => ?_, R.ne⟩
  · have hb : b ≠ p := fun z => by
      rw [z, N.n0] at e
      cases e
    rw [upd_ne hb]
    exact R.le b x e
  · have hb : b ≠ p := fun z => by
      rw [z, N.ne] at e
      cases e
    rw [upd_ne hb]
    exact R.fr b x e n
  · have hb : b ≠ p := fun z => by
      rw [z, N.ne] at e
      exact e rfl
    rw [upd_ne hb]
    exact R.lv b e
  · obtain ⟨l, a, b, c⟩ := R.own i ob h
    have hl : l ≠ p := fun z => N.ns i ob h (by rw [a, z])
    exact ⟨l, a, b, c.up (Same.refl _) fun q z => by rw [upd_ne hl]; exact z⟩
end
def dLcGo (Γ : DG) (C : DT) (E : DE) (vs : List Nat) (d0 : List (Option PyData)) (Ψ : List PyData → List (Option Ob) → Prop) : List PyData → List PyData → List (Option Ob) → Prop
  | [], acc, o => Ψ acc o
  | x :: xs, acc, o => Γ x ⟨wipeD d0 vs, o⟩ fun S1 => C S1 fun b S2 =>
      if b = true then E S2 fun d S3 => okS vs S3.o = true ∧ dLcGo Γ C E vs d0 Ψ xs (acc ++ [d]) S3.o
      else okS vs S2.o = true ∧ dLcGo Γ C E vs d0 Ψ xs acc S2.o
def dLc (I : DA) (Γ : DG) (C : DT) (E : DE) (vs : List Nat) : DA := fun S Ψ => I S fun items S1 => items.length < 100000 ∧ okS vs S1.o = true ∧ dLcGo Γ C E vs S1.d (fun acc o => Ψ acc ⟨S1.d, o⟩) items [] S1.o
def dYes : DT := fun S Ψ => Ψ true S
section
variable {K : Fg} {wi : TI} {g : TG} {te : TE} {t : TT} {I : DA} {Γ : DG} {E : DE} {C : DT} {ws vs : List Nat}
theorem st_yes : ST K tYes dYes := fun G H0 H σ S Ψ Q R p k => k true H H0 S (Same.refl _) R p
theorem sn_lc (hi : SI K wi I) (hg : SG K g Γ ws) (hw : ∀ j ∈ ws, j ∈ vs) (hc : ST K t C) (he : SE K te E) : SN K (tLc wi g t te vs) (dLc I Γ C E vs) := by
  intro G H0 H σ S Ψ Q R p k
  refine hi G H0 H σ S _ _ R p fun J items H1 H01 S1 e1 R1 it p1 => ?_
  obtain ⟨hz, ok1, p1⟩ := p1
  intro D hD
  obtain ⟨RD, ND⟩ := R1.allocN (o := .lst []) hD
  refine ⟨fun i m H' => ∃ H0' o acc vacc, Same H01 H0' ∧ SR K G H0' H' σ ⟨S1.d, o⟩ ∧ New K G H0' H' σ ⟨S1.d, o⟩ D ∧ H' D = some (.lst vacc) ∧ DpAll K H0' vacc acc ∧ acc.length ≤ i ∧ i ≤ items.length ∧ m = items.length - i ∧ okS vs o = true ∧
      dLcGo Γ C E vs S1.d (fun acc o => Ψ acc ⟨S1.d, o⟩) (items.drop i) acc o,
    ⟨items.length, H01, S1.o, [], [], Same.refl _, RD, ND, upd_same, .nil, Nat.le_refl _, Nat.zero_le _, rfl, ok1, p1⟩, fun i m H' hW => ?_⟩
  obtain ⟨H0', o, acc, vacc, e2, R2, N2, hd2, da2, la, hi2, rfl, ok2, p2⟩ := hW
  by_cases hlt : i < items.length
  · rw [List.drop_eq_getElem_cons hlt] at p2
    refine Or.inr ⟨it.go i H' hlt (e2.trans R2.le), fun H3 => ∃ H03 o3 acc3 vacc3, Same H01 H03 ∧ SR K G H03 H3 σ ⟨S1.d, o3⟩ ∧ New K G H03 H3 σ ⟨S1.d, o3⟩ D ∧ H3 D = some (.lst vacc3) ∧ DpAll K H03 vacc3 acc3 ∧ acc3.length ≤ i + 1 ∧ okS vs o3 = true ∧
        dLcGo Γ C E vs S1.d (fun acc o => Ψ acc ⟨S1.d, o⟩) (items.drop (i + 1)) acc3 o3, fun H3 h => ?_, fun x H3 hy => ?_⟩
    · obtain ⟨H03, o3, acc3, vacc3, q1, q2, q3, q4, q5, q6, q7, q8⟩ := h
      exact ⟨items.length - (i + 1), by omega, H03, o3, acc3, vacc3, q1, q2, q3, q4, q5, q6, hlt, rfl, q7, q8⟩
    · obtain ⟨H03, f1, f2, f3, f4, hx⟩ := it.yld i H0' H' x H3 _ e2 R2.le hy (List.getElem?_eq_getElem hlt)
      have R3 := R2.ext f1 f2 f3 f4
      have N3 : New K G H03 H3 σ ⟨S1.d, o⟩ D := by
        refine ⟨?_, N2.ne, N2.ns⟩
        cases q : H03 D with
        | none => rfl
        | some u =>
          rcases f4 D u q with z | z
          · rw [N2.n0] at z
            cases z
          · rw [hd2] at z
            cases z
      have hd3 : H3 D = some (.lst vacc) := f3 D _ hd2
      have Rw := R3.wiped ok2
      have Nw : New K G H03 H3 (wipe σ vs) ⟨wipeD S1.d vs, o⟩ D := ⟨N3.n0, N3.ne, fun j ob h z => by
        by_cases hj : j ∈ vs
        · exact okS_at ok2 hj ob h
        · rw [wipe_off _ _ _ hj] at z
          exact N3.ns j ob h z⟩
      -- the state behind a turn, seen from the def's slots
      have back : ∀ {H04 H4 : Hp} {σ4 : L2.St} {S4 : DSt}, Same H03 H04 → SR K (Gh.at H03 H3 (wipe σ vs) ⟨wipeD S1.d vs, o⟩) H04 H4 σ4 S4 → Off vs (wipe σ vs) σ4 → okS vs S4.o = true →
          SR K G H04 H4 σ ⟨S1.d, S4.o⟩ ∧ New K G H04 H4 σ ⟨S1.d, S4.o⟩ D ∧ H4 D = some (.lst vacc) := fun {H04 H4 σ4 S4} e4 R4 of ok4 => by
        obtain ⟨hd4, N4⟩ := Nw.keep' hd3 R4
        have R5 := Rw.trans R4
        have off : ∀ j : Nat, j ∉ vs → σ4[j]? = σ[j]? := fun j hj => (of.2 j hj).trans (wipe_off _ _ _ hj)
        refine ⟨R5.reslot R2.ln ?_ (fun j d h => ?_) fun j ob h => ⟨h, (off j fun z => okS_at ok4 z ob h).symm⟩, ⟨N4.n0, N4.ne, fun j ob h z => ?_⟩, hd4⟩
        · have l1 := R5.lo
          have l2 := R5.ln
          have l3 := of.1
          rw [wipe_length] at l3
          have l4 : σ.length = S1.d.length := R2.ln
          show S4.o.length = S1.d.length
          omega
        · obtain ⟨v, a, b⟩ := R1.dat j d h
          exact ⟨v, a, dp_up ((e2.trans f1).trans e4) _ _ b⟩
        · have hj : j ∉ vs := fun z => okS_at ok4 z ob h
          rw [← off j hj] at z
          exact N4.ns j ob h z
      refine hg (Gh.at H03 H3 (wipe σ vs) ⟨wipeD S1.d vs, o⟩) H03 H3 (wipe σ vs) ⟨wipeD S1.d vs, o⟩ x _ _ _ Rw.self hx p2 fun H4 H04 σ4 S4 e4 R4 of p4 => ?_
      have of' : Off vs (wipe σ vs) σ4 := of.mono hw
      refine ⟨wipe_eq of', hc _ H04 H4 σ4 S4 _ _ R4 p4 fun b H5 H05 S5 e5 R5 p5 => ?_⟩
      cases b with
      | false =>
        obtain ⟨ok5, p5⟩ := p5
        obtain ⟨R6, N6, hd6⟩ := back (e4.trans e5) R5 of' ok5
        exact ⟨H05, S5.o, acc, vacc, ((e2.trans f1).trans e4).trans e5, R6, N6, hd6, dps_up ((f1.trans e4).trans e5) _ _ da2, Nat.le_succ_of_le la, ok5, p5⟩
      | true =>
        refine he _ H05 H5 σ4 S5 _ _ R5 p5 fun y d H6 H06 S6 e6 R6 hy6 p6 => ?_
        obtain ⟨ok6, p6⟩ := p6
        obtain ⟨R7, N7, hd7⟩ := back ((e4.trans e5).trans e6) R6 of' ok6
        have R8 := R7.updN (o := .lst (vacc ++ [y])) N7
        refine ⟨vacc, hd7, by rw [Dps.len da2]; exact sizeLt (by omega), H06, S6.o, acc ++ [d], vacc ++ [y], (((e2.trans f1).trans e4).trans e5).trans e6, R8, ⟨N7.n0, N7.ne, N7.ns⟩, upd_same,
          Dps.app (dps_up (((f1.trans e4).trans e5).trans e6) _ _ da2) (.cons hy6 .nil), by rw [List.length_append]; exact Nat.succ_le_succ la, ok6, p6⟩
  · have e : i = items.length := by omega
    subst e
    rw [List.drop_length] at p2
    exact Or.inl ⟨it.stop H' (e2.trans R2.le), k D vacc acc H' H0' ⟨S1.d, o⟩ (e1.trans e2) R2 N2 hd2 da2 p2⟩
end

/-! ### defs -/
/-- a contract: the arguments' data, what is wanted of the answer's -/
abbrev Ct := List PyData → (PyData → Prop) → Prop
def spD (K : Fg) (ρ : Ct) : Sp := fun vs H Q _ => ∃ H0 ds Φ, Same H0 H ∧ DpAll K H0 vs ds ∧ ρ ds Φ ∧
  ∀ v d H' H0', Same H H' → Same H0 H0' → Same H0' H' → (∀ b o, H0' b = some o → H0 b = some o ∨ H b = none) → Dp K H0' v d → Φ d → Q v H'
def dCall (ρ : Ct) (L : DA) : DE := fun S Ψ => L S fun ds S1 => ρ ds fun d => Ψ d S1
theorem se_call {K : Fg} {ta : TA} {L : DA} {ρ : Ct} {E : XK} (h : SA K ta L) : SE K (tCall (spD K ρ) [] E ta) (dCall ρ L) := fun G H0 H σ S Ψ Q R p k => by
  refine h G H0 H σ S _ _ R p fun vs ds H1 H01 S1 e1 R1 hx p1 => ?_
  refine ⟨H01, ds, _, R1.le, by rw [List.append_nil]; exact hx, p1, fun v d H' H0' f1 f2 f3 f4 hv q => ?_⟩
  exact k v d H' H0' S1 (e1.trans f2) (R1.ext f2 f3 f1 f4) hv q
structure OkD (P : Program) (w : World) (K : Fg) (mg : Str → Option Value) (base : Heap) (CX : CXT) (k : Nat) (x : Str) (ps : List Str) (sp : Sp) : Prop where
  ex : ∃ f fd, mg x = some (.ref f) ∧ PySem.W.keepIn K (.ref f) = true ∧ Binds K fd ps [] ∧ FnOk P w K mg base CX k f fd ps sp
def endsD (Φ : PyData → Prop) : DEnds := { nx := fun _ => Φ .none, rt := fun d _ => Φ d }
def startD (N : List Str) (ds : List PyData) : DSt := ⟨ds.map some ++ List.replicate (N.length - ds.length) none, List.replicate N.length none⟩
/-! ### expressions, statements of the text -/
structure PDx (X : Cx) (e : Expr) (te : TE) (T : DE) : Prop where
  pe : PE X e te
  sn : SE X.K te T
structure PNx (X : Cx) (e : Expr) (te : TE) (L : DA) : Prop where
  pe : PE X e te
  sn : SN X.K te L
structure PTx (X : Cx) (e : Expr) (tt : TT) (T : DT) : Prop where
  pt : PT X e tt
  sn : ST X.K tt T
structure PWx (X : Cx) (e : Expr) (tt : TT) (T : DT) : Prop where
  pw : PW X e tt
  sn : ST X.K tt T
structure PAx (X : Cx) (es : List Expr) (ta : TA) (L : DA) : Prop where
  pa : PA X es ta
  sn : SA X.K ta L
structure PIx (X : Cx) (tg e : Expr) (wi : TI) (L : DA) : Prop where
  pi : PI X tg e wi
  sn : SI X.K wi L
structure PGx (X : Cx) (e : Expr) (g : TG) (Γ : DG) (ws : List Nat) : Prop where
  pg : PG X e g
  sn : SG X.K g Γ ws
structure PGsx (X : Cx) (es : List Expr) (g : TGs) (Γ : DGs) (ws : List Nat) : Prop where
  pg : PGs X es g
  sn : SGs X.K g Γ ws
structure PSx (X : Cx) (s : Stmt) (ts : TS) (T : DS) : Prop where
  ps : PS X s ts
  sn : SS X.K ts T
structure PBx (X : Cx) (b : List Stmt) (ts : TS) (T : DS) : Prop where
  ps : PSs X b ts
  sn : SS X.K ts T
section
variable {P : Program} {w : World} {K : Fg} {mg : Str → Option Value} {base : Heap}
theorem start_sr {H0 H : Hp} {N : List Str} {vs : List V} {ds : List PyData} (e : Same H0 H) (h : DpAll K H0 vs ds) (hl : ds.length ≤ N.length) : SR K ⟨H, H0, fun _ => False⟩ H0 H (L2.start N vs) (startD N ds) where
  le := e
  fr := fun _ _ q _ => q
  lv := fun _ q => q
  e0 := Same.refl _
  nw := fun _ _ q => Or.inl q
  ln := by
    unfold L2.start startD
    simp only [List.length_append, List.length_map, List.length_replicate, Dps.len h]
  lo := by
    unfold startD
    simp only [List.length_append, List.length_map, List.length_replicate]
    omega
  dat := fun i d q => by
    have q' : (ds.map some ++ List.replicate (N.length - ds.length) none)[i]? = some (some d) := q
    have hi : i < ds.length := by
      refine Nat.lt_of_not_le fun z => ?_
      rw [List.getElem?_append_right (by rw [List.length_map]; exact z), List.getElem?_replicate] at q'
      split at q' <;> cases q'
    rw [List.getElem?_append_left (by rw [List.length_map]; exact hi), List.getElem?_map] at q'
    have q2 : ds[i]? = some d := by
      cases z : ds[i]? with
      | none =>
        rw [z] at q'
        cases q'
      | some c =>
        rw [z] at q'
        exact Option.some.inj q'
    obtain ⟨v, hv, hvd⟩ := Dps.get h q2
    refine ⟨v, ?_, hvd⟩
    unfold L2.start
    rw [List.getElem?_append_left (by rw [List.length_map, Dps.len h]; exact hi), List.getElem?_map, hv]
    rfl
  own := fun i ob q => by
    have q' : (List.replicate N.length (none : Option Ob))[i]? = some (some ob) := q
    rw [List.getElem?_replicate] at q'
    split at q' <;> cases q'
  ne := fun i j a b l _ q => by
    have q' : (List.replicate N.length (none : Option Ob))[i]? = some (some a) := q
    rw [List.getElem?_replicate] at q'
    split at q' <;> cases q'
/-- a def's body keeps its contract -/
theorem ok_body {x qual : Str} {st : Stmt} {f : Addr} {fd : FuncData} {N ps : List Str} {k : Nat} {ρ : Ct} (F : Fun K x qual st f fd) (Sc : FnScope N ps (defScope st)) (hps : ps.length ≤ N.length) (len : ∀ ds Φ, ρ ds Φ → ds.length = ps.length)
    (body : ∀ (cdv : Value) (A : Around) (outer : List Env) (s : Shared) (H : Hp) (E : XK), Room k (A.deeper (envOfC qual (defScope st) s.heap.objs.size f cdv)) →
      ∃ ts T, PBx (cxOf CX0 P w K mg base N qual (defScope st) f cdv A outer s H E).nox (defBody st) ts T ∧ ∀ ds Φ, ρ ds Φ → T (endsD Φ) (startD N ds)) :
    FnOk P w K mg base CX0 (k + 1) f fd ps (spD K ρ) := by
  refine F.ok Sc (fun vs H Q E h => ?_) (fun cdv A outer s H vs Q E hr h => ?_)
  · obtain ⟨H0, ds, Φ, _, hd, r, _⟩ := h
    rw [Dps.len hd]
    exact len ds Φ r
  · obtain ⟨H0, ds, Φ, e0, hd, r, kk⟩ := h
    obtain ⟨ts, T, hb, ht⟩ := body cdv A outer s H E hr
    refine ⟨ts, hb.ps, hb.sn ⟨H, H0, fun _ => False⟩ H0 H _ (startD N ds) (endsD Φ) _ (start_sr e0 hd (by rw [len ds Φ r]; exact hps)) (ht ds Φ r) ?_⟩
    have out : ∀ {H' H0' : Hp} {σ' : L2.St} {S' : DSt} {v : V} {d : PyData}, SR K ⟨H, H0, fun _ => False⟩ H0' H' σ' S' → Dp K H0' v d → Φ d → Q v H' := fun {H' H0' σ' S' v d} R hv q =>
      kk v d H' H0' (fun b o z => R.fr b o z fun z => z) R.e0 R.le (fun b o z => by
        rcases R.nw b o z with a | a | a
        · exact Or.inl a
        · exact Or.inr a
        · exact a.elim) hv q
    exact ⟨fun H' H0' σ' S' _ R q => out R .non q, fun v d H' H0' σ' S' _ R hv q => out R hv q, fun _ _ _ _ _ _ q => q.elim, fun _ _ _ _ _ _ q => q.elim⟩
end
end Dw
set_option maxRecDepth 100000
set_option maxHeartbeats 4000000
/-! Built-ins over data; the rules of the text. -/
namespace Dw
open PySem PySem.Spec PyProof.Rows L2

/-! ### built-ins -/
def tyN : PyData → String
  | .none => "NoneType"
  | .bool _ => "bool"
  | .int _ => "int"
  | .str _ => "str"
  | .list _ => "list"
  | .tuple _ => "tuple"
  | .dict _ => "dict"
/-- isinstance of data -/
def isA : PyData → String → Bool
  | .none, _ => false
  | .bool _, T => T == "bool" || T == "int"
  | .int _, T => T == "int"
  | .str _, T => T == "str"
  | .list _, T => T == "list"
  | .tuple _, T => T == "tuple"
  | .dict _, T => T == "dict"
theorem kit_isA : ∀ T ∈ (["bool", "int", "str", "list", "tuple"] : List String), ∀ d : PyData, kitB (tyN d) T = some (isA d T) := by
  have key : ∀ T ∈ (["bool", "int", "str", "list", "tuple"] : List String), kitB "NoneType" T = some false ∧ kitB "bool" T = some (T == "bool" || T == "int") ∧ kitB "int" T = some (T == "int") ∧ kitB "str" T = some (T == "str") ∧
      kitB "list" T = some (T == "list") ∧ kitB "tuple" T = some (T == "tuple") ∧ kitB "dict" T = some (T == "dict") := by decide +kernel
  intro T hT d
  obtain ⟨h1, h2, h3, h4, h5, h6, h7⟩ := key T hT
  cases d with
  | none => exact h1
  | bool b => exact h2
  | int i => exact h3
  | str x => exact h4
  | list xs => exact h5
  | tuple xs => exact h6
  | dict kvs => exact h7
section
variable {K : Fg} {H : Hp} {te ta tb : TE} {tr : TA} {T U : DE} {L : DA}
theorem tyx_of {v : V} {d : PyData} (h : Dp K H v d) : TyX K H v (.type (tyN d)) := by
  cases h with
  | non => exact .base .non
  | bl b => exact .base (.bl b)
  | int i => exact .base (.int i)
  | str x => exact .base (.str x)
  | lst hs ha =>
    rcases hs with (h | ⟨o, h⟩) | ⟨o, its, n, h1, h2, _⟩
    · exact .base (.lst h)
    · exact .base (.frz h)
    · exact .kList h1 h2
  | tup hs ha =>
    rcases hs with (h | ⟨o, h⟩) | ⟨o, its, n, h1, h2, _⟩
    · exact .base (.tup h)
    · exact .fTuple h
    · exact .kTuple h1 h2
def dIsi (A : String) (T : DE) : DE := fun S Ψ => T S fun x S1 => Ψ (.bool (isA x A)) S1
def dIsi2 (A B : String) (T : DE) : DE := fun S Ψ => T S fun x S1 => Ψ (.bool (isA x A || isA x B)) S1
theorem se_isi {A : String} (hA : A ∈ (["bool", "int", "str", "list", "tuple"] : List String)) (h : SE K te T) : SE K (tCB (rIsi K) (tCons te (tCons (tC (.ty A)) tNil))) (dIsi A T) := fun G H0 H σ S Ψ Q R p k => by
  refine h G H0 H σ S _ _ R p fun v d H1 H01 S1 e1 R1 hx p1 => ?_
  exact ⟨v, .ty A, _, _, isA d A, rfl, .ty A, tyx_of (R1.dpH hx), kit_ty (kit_isA A hA d), k _ _ H1 H01 S1 e1 R1 (.bl _) p1⟩
theorem se_isi2 {A B : String} (hA : A ∈ (["bool", "int", "str", "list", "tuple"] : List String)) (hB : B ∈ (["bool", "int", "str", "list", "tuple"] : List String)) (h : SE K te T) :
    SE K (tCB (rIsiT K) (tCons te (tCons (tTup (tCons (tC (.ty A)) (tCons (tC (.ty B)) tNil))) tNil))) (dIsi2 A B T) := fun G H0 H σ S Ψ Q R p k => by
  refine h G H0 H σ S _ _ R p fun v d H1 H01 S1 e1 R1 hx p1 => ?_
  refine ⟨by show 2 ≤ sizeLine; decide, fun q hq => ?_⟩
  have R2 := R1.alloc (o := .tup [.ty A, .ty B]) hq
  have e2 := same_new (o := .tup [.ty A, .ty B]) (R1.fresh hq).1
  refine ⟨v, q, [.ty A, .ty B], _, [.type A, .type B], isA d A || isA d B, rfl, upd_same, .cons (.ty A) (.cons (.ty B) .nil), tyx_of (R2.dpH (dp_up e2 _ _ hx)), ?_, k _ _ _ _ S1 (e1.trans e2) R2 (.bl _) p1⟩
  refine kitAny_cons (kit_ty (kit_isA A hA d)) (fun h => ?_) (fun h => by rw [h]; rfl)
  rw [h, Bool.false_or]
  exact kitAny_cons (kit_ty (kit_isA B hB d)) (fun h2 => by rw [h2]; exact kitAny_nil) (fun h2 => h2)
/-- the contracts of built-ins of one argument -/
def c1 (f : PyData → (PyData → Prop) → Prop) : Ct := fun ds Φ => match ds with
  | [d] => f d Φ
  | _ => False
def cLen : Ct := c1 fun d Φ => onS d fun xs => Φ (.int (xs.length : Nat))
def cTuple : Ct := c1 fun d Φ => onS d fun xs => Φ (.tuple xs)
def cList : Ct := c1 fun d Φ => onS d fun xs => Φ (.list xs)
def cAbs : Ct := c1 fun d Φ => onI d fun i => Φ (.int (if i < 0 then -i else i))
def cInt : Ct := c1 fun d Φ => match d with
  | .int i => Φ (.int i)
  | .bool b => Φ (.int (if b then 1 else 0))
  | _ => False
def boolsD : List PyData → Option (List Bool)
  | [] => some []
  | .bool b :: r => (boolsD r).map (b :: ·)
  | _ :: _ => none
def cAll : Ct := c1 fun d Φ => onL d fun xs => onO (boolsD xs) fun bs => Φ (.bool (bs.all id))
def cGcd : Ct := fun ds Φ => match ds with
  | [.int a, .int b] => Φ (.int ((Nat.gcd a.natAbs b.natAbs : Nat) : Int))
  | _ => False
theorem c1_of {f : PyData → (PyData → Prop) → Prop} {ds : List PyData} {Φ : PyData → Prop} (h : c1 f ds Φ) : ∃ d, ds = [d] ∧ f d Φ := by
  match ds, h with
  | [d], h => exact ⟨d, rfl, h⟩
def rLen (K : Fg) : List V → Hp → VK → Prop := fun xs H Q => ∃ p ys, xs = [.ref p] ∧ (SqL K H p ys ∨ SqT K H p ys) ∧ Q (.int (ys.length : Nat)) H
theorem sc_len : SC K (rLen K) cLen := fun G H0 H σ S xs ds Ψ Q R hd p k => by
  obtain ⟨d, rfl, p1⟩ := c1_of p
  obtain ⟨v, rfl, hv⟩ := dps_one hd
  obtain ⟨es, he, p2⟩ := onS_of p1
  obtain ⟨a, ys, rfl, hs, hh⟩ := dp_refS hv he
  refine ⟨a, ys, rfl, ?_, ?_⟩
  · rcases hs with hs | hs
    · exact Or.inr (R.seqT hs)
    · exact Or.inl (R.seqL hs)
  · rw [Dps.len hh]
    exact k _ _ H H0 (Same.refl _) R (.int _) p2
def rTuple (K : Fg) : List V → Hp → VK → Prop := fun xs H Q => ∃ p ys, xs = [.ref p] ∧ ((SqL K H p ys ∧ ∀ l, H l = none → Q (.ref l) (upd H l (.tup ys))) ∨ (SqT K H p ys ∧ Q (.ref p) H))
theorem sc_tuple : SC K (rTuple K) cTuple := fun G H0 H σ S xs ds Ψ Q R hd p k => by
  obtain ⟨d, rfl, p1⟩ := c1_of p
  obtain ⟨v, rfl, hv⟩ := dps_one hd
  obtain ⟨es, he, p2⟩ := onS_of p1
  rcases he with he | he
  · subst he
    obtain ⟨a, ys, rfl, hs, hh⟩ := dp_refT hv
    exact ⟨a, ys, rfl, Or.inr ⟨R.seqT hs, k _ _ H H0 (Same.refl _) R hv p2⟩⟩
  · subst he
    obtain ⟨a, ys, rfl, hs, hh⟩ := dp_refL hv
    refine ⟨a, ys, rfl, Or.inl ⟨R.seqL hs, fun l hl => ?_⟩⟩
    obtain ⟨R2, e2, d2⟩ := R.tup hh hl
    exact k _ _ _ _ e2 R2 d2 p2
def rList (K : Fg) : List V → Hp → VK → Prop := fun xs H Q => ∃ p ys, xs = [.ref p] ∧ (SqL K H p ys ∨ SqT K H p ys) ∧ ∀ l, H l = none → Q (.ref l) (upd H l (.lst ys))
theorem sc_list : SC K (rList K) cList := fun G H0 H σ S xs ds Ψ Q R hd p k => by
  obtain ⟨d, rfl, p1⟩ := c1_of p
  obtain ⟨v, rfl, hv⟩ := dps_one hd
  obtain ⟨es, he, p2⟩ := onS_of p1
  obtain ⟨a, ys, rfl, hs, hh⟩ := dp_refS hv he
  refine ⟨a, ys, rfl, ?_, fun l hl => ?_⟩
  · rcases hs with hs | hs
    · exact Or.inr (R.seqT hs)
    · exact Or.inl (R.seqL hs)
  · obtain ⟨R2, e2, d2⟩ := R.lst hh hl
    exact k _ _ _ _ e2 R2 d2 p2
def rAbs : List V → Hp → VK → Prop := fun xs H Q => ∃ i, xs = [.int i] ∧ Q (.int (if i < 0 then -i else i)) H
theorem sc_abs : SC K rAbs cAbs := fun G H0 H σ S xs ds Ψ Q R hd p k => by
  obtain ⟨d, rfl, p1⟩ := c1_of p
  obtain ⟨v, rfl, hv⟩ := dps_one hd
  obtain ⟨i, rfl, p2⟩ := onI_of p1
  exact ⟨i, by rw [dp_intV hv], k _ _ H H0 (Same.refl _) R (.int _) p2⟩
def rInt : List V → Hp → VK → Prop := fun xs H Q => (∃ i, xs = [.int i] ∧ Q (.int i) H) ∨ ∃ k, xs = [.bl k] ∧ Q (.int (if k then 1 else 0)) H
theorem sc_int : SC K rInt cInt := fun G H0 H σ S xs ds Ψ Q R hd p k => by
  obtain ⟨d, rfl, p1⟩ := c1_of p
  obtain ⟨v, rfl, hv⟩ := dps_one hd
  match d, hv, p1 with
  | .int i, hv, p1 => exact Or.inl ⟨i, by rw [dp_intV hv], k _ _ H H0 (Same.refl _) R (.int _) p1⟩
  | .bool b, hv, p1 => exact Or.inr ⟨b, by rw [dp_blV hv], k _ _ H H0 (Same.refl _) R (.int _) p1⟩
theorem bools_of : ∀ {ds : List PyData} {bs : List Bool} {vs : List V}, boolsD ds = some bs → DpAll K H vs ds → vs = bs.map V.bl
  | [], _, _, h, hd => by
    cases hd
    cases h
    rfl
  | d :: r, bs, _, h, hd => by
    cases hd with
    | cons a b =>
      cases a with
      | bl x =>
        have h' : (boolsD r).map (x :: ·) = some bs := h
        cases q : boolsD r with
        | none =>
          rw [q] at h'
          cases h'
        | some cs =>
          rw [q] at h'
          cases h'
          rw [bools_of q b]
          rfl
      | _ => cases h
theorem sc_all : SC K (rAll K) cAll := fun G H0 H σ S xs ds Ψ Q R hd p k => by
  obtain ⟨d, rfl, p1⟩ := c1_of p
  obtain ⟨v, rfl, hv⟩ := dps_one hd
  obtain ⟨es, rfl, p2⟩ := onL_of p1
  obtain ⟨bs, hb, p3⟩ := onO_of p2
  obtain ⟨a, ys, rfl, hs, hh⟩ := dp_refL hv
  have e := bools_of hb hh
  subst e
  exact ⟨a, bs, rfl, R.seqL hs, k _ _ H H0 (Same.refl _) R (.bl _) p3⟩
theorem sc_gcd : SC K rGcd cGcd := fun G H0 H σ S xs ds Ψ Q R hd p k => by
  match ds, hd, p with
  | [.int a, .int b], hd, p =>
    obtain ⟨v, w, rfl, hv, hw⟩ := dps_two hd
    exact ⟨a, b, by rw [dp_intV hv, dp_intV hw], k _ _ H H0 (Same.refl _) R (.int _) p⟩
/-- min of a list of alike data -/
def rMinD (K : Fg) : List V → Hp → VK → Prop := fun vs H Q => ∃ (a : Addr) (xs : List V) (d : PyData) (ds : List PyData), vs = [.ref a] ∧ SqL K H a xs ∧ DpAll K H xs (d :: ds) ∧ PySem.W.AlikeAll (d :: ds) ∧ PyData.depthAll (d :: ds) ≤ 64 ∧
  ∀ (i : Nat) (v : V) (c : PyData), xs[i]? = some v → (d :: ds)[i]? = some c → c = PySem.W.minD d ds → Q v H
def cMin : Ct := c1 fun d Φ => onL d fun xs => match xs with
  | [] => False
  | x :: xs => PySem.W.AlikeAll (x :: xs) ∧ PyData.depthAll (x :: xs) ≤ 64 ∧ Φ (PySem.W.minD x xs)
theorem sc_min : SC K (rMinD K) cMin := fun G H0 H σ S xs ds Ψ Q R hd p k => by
  obtain ⟨d, rfl, p1⟩ := c1_of p
  obtain ⟨v, rfl, hv⟩ := dps_one hd
  obtain ⟨es, rfl, p2⟩ := onL_of p1
  obtain ⟨a, ys, rfl, hs, hh⟩ := dp_refL hv
  match es, hh, p2 with
  | x :: es, hh, ⟨q1, q2, q3⟩ =>
    refine ⟨a, ys, x, es, rfl, R.seqL hs, dps_up R.le _ _ hh, q1, q2, fun i v c h1 h2 h3 => ?_⟩
    obtain ⟨c2, h4, h5⟩ := Dps.getV hh h1
    rw [h2] at h4
    cases h4
    exact k _ _ H H0 (Same.refl _) R h5 (by rw [h3]; exact q3)
end

/-! ### rules of values that the kit lacks -/
section
variable {X : Cx}
theorem op_inS (hu : X.A.units + 65 < cLine) : OpR X (compareOp .In) (rInS X.K) := by
  intro pins s σ H x y v u Q I rx ry h
  obtain ⟨d, e, ds, he, hd, hde, sd, se, q⟩ := h
  obtain ⟨as, r1⟩ := Dp.reads I d x v hd rx
  have c2 : PyData.canLayAll0 ds = true := SeqAt.canLay_of_shaped se
  rcases he with he | he
  · subst he
    obtain ⟨bs, r2⟩ := Dp.reads I _ y u hde ry
    exact SeqAt.in_tuple_reads r2 r1 c2 (SeqAt.canLay_of_shaped sd) (room_in_shaped sd hu) ⟨.bl _, H, I, rfl, q⟩
  · subst he
    obtain ⟨bs, r2⟩ := Dp.reads I _ y u hde ry
    exact SeqAt.in_list_reads r2 r1 c2 (SeqAt.canLay_of_shaped sd) (room_in_shaped sd hu) ⟨.bl _, H, I, rfl, q⟩
theorem op_ninS (hu : X.A.units + 65 < cLine) : OpR X (compareOp .NotIn) (rNinS X.K) := by
  intro pins s σ H x y v u Q I rx ry h
  obtain ⟨d, e, ds, he, hd, hde, sd, se, q⟩ := h
  obtain ⟨as, r1⟩ := Dp.reads I d x v hd rx
  have c2 : PyData.canLayAll0 ds = true := SeqAt.canLay_of_shaped se
  rcases he with he | he
  · subst he
    obtain ⟨bs, r2⟩ := Dp.reads I _ y u hde ry
    exact SeqAt.notIn_tuple_reads r2 r1 c2 (SeqAt.canLay_of_shaped sd) (room_in_shaped sd hu) ⟨.bl _, H, I, rfl, q⟩
  · subst he
    obtain ⟨bs, r2⟩ := Dp.reads I _ y u hde ry
    exact SeqAt.notIn_list_reads r2 r1 c2 (SeqAt.canLay_of_shaped sd) (room_in_shaped sd hu) ⟨.bl _, H, I, rfl, q⟩
theorem cr_minD (hc : X.calm = true) (hr : X.A.units + 100 < cLine) : CallR X (.builtin "min") (rMinD X.K) := by
  intro pins s σ H vs us Q I r h
  obtain ⟨a, xs, d, ds, rfl, hs, hd, al, dep, q⟩ := h
  obtain ⟨u, rfl, ru⟩ := vals1 r
  cases (show u = Value.ref a from ru)
  obtain ⟨its, rv, p, hz⟩ := I.list hs
  obtain ⟨as, hr2⟩ := Dp.readsAll I (d :: ds) xs its hd rv
  refine PySem.W.min_list_data (I.ok.hd hc) p.isList hr2 al (by omega) fun i v h' tk bs hv hrd keep => ?_
  have hv' : its[i]? = some v := by simpa using hv
  obtain ⟨hi, _⟩ := List.getElem?_eq_some_iff.mp hv'
  have l1 := rv.length
  have l2 := Dps.len hd
  obtain ⟨x, hx⟩ : ∃ x, xs[i]? = some x := ⟨_, List.getElem?_eq_getElem (by omega)⟩
  obtain ⟨u2, hu2, rx⟩ := rv.get hx
  rw [hv'] at hu2
  cases hu2
  obtain ⟨c, hc2, hcd⟩ := Dps.getV hd hx
  have I2 : Inv X pins σ H { s with heap := h', toks := tk } := I.kept keep
  refine ⟨x, H, I2, rx, q i x c hx hc2 ?_⟩
  obtain ⟨bs2, hr3⟩ := Dp.reads I2 c x v hcd rx
  have cm : c ∈ d :: ds := List.mem_of_getElem? hc2
  have ac : PySem.W.alike c c = true := al.1 c cm c cm
  have mm : ∀ (zs : List PyData) (z : PyData), z ∈ d :: ds → (∀ y ∈ zs, y ∈ d :: ds) → PySem.W.minD z zs ∈ d :: ds := by
    intro zs
    induction zs with
    | nil => exact fun z hz _ => hz
    | cons y r ih =>
      intro z hz hy
      show PySem.W.minD (if PySem.W.dataLt y z then y else z) r ∈ d :: ds
      refine ih _ ?_ fun w hw => hy w (List.mem_cons_of_mem _ hw)
      split
      · exact hy y List.mem_cons_self
      · exact hz
  exact PySem.W.alike_unique c _ v _ _ (al.1 c cm _ (mm ds d List.mem_cons_self fun y hy => List.mem_cons_of_mem _ hy)) hr3 hrd
end
end Dw
set_option maxRecDepth 100000
set_option maxHeartbeats 4000000
/-! Walks of the model's own built-ins that the kit lacks. -/
namespace Dw
open PySem PySem.Spec PyProof.Rows L2
/-! ### enumerate of a tuple -/
theorem enum_newT (t : Addr) (items : Array Value) (n : Nat) (dct : Option Addr) (sl : Array (Option Value)) :
    Meets (Builtin.«enumerate.__new__» ⟨[.type "enumerate", .ref t], []⟩) (fun _ R s => s.heap.get? t = some { cls := .type "tuple", dict := dct, data := .seq items n, slots := sl } ∧
      R (.ok (.ret (.ref (s.heap.push { cls := .type "tuple_iterator", data := .fields #[.ref t, .int 0 0] }).objs.size)))
        { s with heap := (s.heap.push { cls := .type "tuple_iterator", data := .fields #[.ref t, .int 0 0] }).push { cls := .type "enumerate", data := .fields #[.none, .bool false, .ref s.heap.objs.size, rawInt 0, .none, .none] } }) :=
  .of_wp fun prog w A R s h => by
    obtain ⟨hp, g, d, tk, os⟩ := s
    obtain ⟨hl, h⟩ := h
    have hsub := sub_enumerate
    have hT : (Shared.heap ⟨hp, g, d, tk, os⟩).IsTuple t items := ⟨_, hl, rfl, n, rfl⟩
    wp_walk using AutoSeq1.wpAny_loadPart' hl
    refine wpAny_stack_any fun st => wpAny_pure ?_
    split
    · rename_i c _ _ _ _ _
      cases (c == Value.type "enumerate") <;>
      · wp_walk using AutoSeq1.wpAny_loadPart' hl, wpAny_pyIter_tuple hT
        exact ⟨_, rfl, h⟩
    · wp_walk using AutoSeq1.wpAny_loadPart' hl, wpAny_pyIter_tuple hT
      exact ⟨_, rfl, h⟩
end Dw
set_option maxRecDepth 100000
set_option maxHeartbeats 4000000
/-! Rules of the model that the kit lacks: a walk over a list or a tuple, enumerate of a tuple, list + list, t[::-1], a tuple no times or once. -/
namespace Dw
open PySem PySem.Spec PyProof.Rows L2
section
variable {X : Cx} {tg : Expr}
theorem pi_seq {l : Expr} {tl : TE} (hl : PE X l tl) : PI X tg l (iSeq X.K tl) := by
  refine ⟨fun pins s σ H R I h => thn (hl.run pins s σ H _ I h) fun v s1 hh => ?_⟩
  obtain ⟨x, H1, I1, r1, a, ea, q1⟩ := hh
  subst ea
  cases r1
  have one : ∀ {o : Obj}, ∀ b ∈ [s1.heap.objs.size], FpOk X pins H1 b := fun {o} b hb => by
    rw [List.mem_singleton.mp hb]
    exact I1.fpOk (Nat.le_refl _) (I1.hok.fresh (Nat.le_refl _))
  rcases q1 with ⟨xs, hq, q⟩ | ⟨xs, hq, q⟩
  · obtain ⟨its, rv, p, hz⟩ := I1.list hq
    exact wpAny_pyIter_list p.isList ⟨_, [s1.heap.objs.size], _, _, H1, rfl, I1.kept (t' := s1.toks) fun _ _ e => Heap.get?_push_of_some _ e, turn_list a _, ⟨_, Heap.get?_push_size _ rfl, rfl, rfl⟩, one (o := default), q⟩
  · obtain ⟨its, rv, p, hz⟩ := I1.tuple hq
    exact wpAny_pyIter_tuple (show s1.heap.IsTuple a its.toArray from p) ⟨_, [s1.heap.objs.size], _, _, H1, rfl, I1.kept (t' := s1.toks) fun _ _ e => Heap.get?_push_of_some _ e, turn_tuple a _, ⟨_, Heap.get?_push_size _ rfl, rfl, rfl⟩, one (o := default), q⟩
end

/-! ### enumerate of a tuple -/
section
variable {prog : Program} {w : World} {A : Around} {E : Value → Shared → Prop} {s : Shared}
theorem call_enumT {t : Addr} {items : Array Value} {Q : Value → Shared → Prop} (ht : s.heap.IsTuple t items)
    (h : ∀ h', IsEnum h' (s.heap.objs.size + 1) s.heap.objs.size 0 .none → h'.IsTupleIter s.heap.objs.size t 0 → (∀ b o, s.heap.get? b = some o → h'.get? b = some o) → Q (.ref (s.heap.objs.size + 1)) { s with heap := h' }) :
    wpAny (model prog w) A (call (.type "enumerate") [.ref t]) Q E s := by
  obtain ⟨⟨c, dct, dt, sl⟩, hl, hc, n, hd⟩ := ht
  have hc' : c = .type "tuple" := hc
  have hd' : dt = .seq items n := hd
  subst hc' hd'
  have sz : ∀ o : Obj, (s.heap.push o).objs.size = s.heap.objs.size + 1 := fun o => Heap.size_push ..
  refine callType_new F.called_enumerate (by decide) (F.typeCall_enumerate_1 _) (F.newCall_enumerate_1 _) (fun obj => F.args_object_init_2 obj _) F.entry_enumerate_new (enum_newT t items n dct sl) ⟨hl, ?_⟩
  show _ ∧ _
  rw [sz]
  have he : IsEnum ((s.heap.push { cls := .type "tuple_iterator", data := .fields #[.ref t, .int 0 0] }).push { cls := .type "enumerate", data := .fields #[.none, .bool false, .ref s.heap.objs.size, rawInt 0, .none, .none] }) (s.heap.objs.size + 1) s.heap.objs.size 0 .none := by
    have z := Heap.get?_push_size (s.heap.push { cls := .type "tuple_iterator", data := .fields #[.ref t, .int 0 0] }) (o := { cls := .type "enumerate", data := .fields #[.none, .bool false, .ref s.heap.objs.size, rawInt 0, .none, .none] }) rfl
    rw [sz] at z
    exact z
  exact ⟨⟨_, he, rfl⟩, h _ he ⟨_, Heap.get?_push_of_some _ (Heap.get?_push_size _ rfl), rfl, rfl⟩ fun b o x => Heap.get?_push_of_some _ (Heap.get?_push_of_some _ x)⟩
end
theorem turn_enumT {P : Program} {w : World} {K : Fg} {elts : List Expr} {kk : Nat} {tpos : Pos} (a e it : Addr) (hea : e ≠ a) (hia : it ≠ a) :
    Turn P w K (.Tuple elts kk tpos) (IteT K a) [e, it] e (fun i h => (∃ old, IsEnum h e it ((i : Nat) : Int) old) ∧ h.IsTupleIter it a i ∧ e ≠ it) where
  mem := List.mem_cons_self
  obj := fun i h st b hb => by
    obtain ⟨⟨old, he⟩, ⟨o, ho, hc, hd⟩, _⟩ := st
    rcases List.mem_cons.mp hb with z | z
    · subst z
      exact ⟨_, he, fun v q => nomatch q⟩
    · rw [List.mem_singleton.mp z]
      exact ⟨o, ho, fun v q => by rw [hd] at q; cases q⟩
  keep := fun i h h' st k => by
    obtain ⟨⟨old, he⟩, hi, hne⟩ := st
    exact ⟨⟨old, k e (by simp) _ he⟩, hi.at fun o q => k it (by simp) o q, hne⟩
  item := by
    intro X hP hw hK hc i pins s σ H E I hf st hg
    subst hP hw hK
    obtain ⟨⟨old, he⟩, hit, hne⟩ := st
    obtain ⟨xs, x, hq, hx⟩ := hg
    obtain ⟨its, rv, p, hz⟩ := I.tuple hq
    obtain ⟨u, hu, ru⟩ := rv.get hx
    have hel : e < s.heap.objs.size := Heap.lt_size he
    have hil : it < s.heap.objs.size := let ⟨_, q, _⟩ := hit; Heap.lt_size q
    have hi : i < its.toArray.size := by
      obtain ⟨z, _⟩ := List.getElem?_eq_some_iff.mp hu
      simpa using z
    have D := Draws.tuple (prog := X.prog) (w := X.w) (A := X.A.in1) (I.ok.hd hc) it a (Ne.symm hia) its.toArray
    refine wpAny_pyNext_enum_itemD D he ⟨hit, show s.heap.IsTuple a its.toArray from p⟩ hi hne (by simp only [List.mem_cons, List.not_mem_nil, or_false, not_or]; exact ⟨hne, hea⟩) fun y h' tk hy ho hit' hT hsz hk => ?_
    have ey : y = u := by
      have hy' : its[i]? = some y := by simpa using hy
      rw [hu] at hy'
      exact (Option.some.inj hy').symm
    subst ey
    refine ⟨_, rfl, wpAny_letOwnedTupleGo_enum (s := { s with heap := h', toks := tk + 1 }) ho fun h2 he' sb => ?_⟩
    have hT2 : h2.get? s.heap.objs.size = some { cls := .type "tuple", data := .seq #[.int i tk, y] } := (sb.2 _ (Nat.ne_of_gt hel)).trans hT
    have new : ObjOk X.prog X.w (upd H s.heap.objs.size (.tup [.int ((i : Nat) : Int), x])) h2 s.heap.objs.size (.tup [.int ((i : Nat) : Int), x]) :=
      ⟨by show 2 ≤ sizeLine; decide, [.int i tk, y], .cons ⟨_, rfl⟩ (.cons ru .nil), ⟨_, hT2, rfl, _, rfl⟩⟩
    have I1 : Inv X pins σ (upd H s.heap.objs.size (.tup [.int ((i : Nat) : Int), x])) { s with heap := h2, toks := tk + 1 } :=
      I.turnedNew (ch := [e, it]) (fun b o hb q => (sb.2 b (fun z => hb (by simp [z]))).trans (hk b o (fun z => hb (by simp [z])) (fun z => hb (by simp [z])) q)) hf (Nat.le_refl _) new
    refine ⟨.ref s.heap.objs.size, _, I1, rfl, ⟨_, x, rfl, I.hok.fresh (Nat.le_refl _), rfl, fun ys hy2 => by rw [I.tuple_inj hy2 hq]; exact hx⟩, ⟨⟨y, by rw [show ((i + 1 : Nat) : Int) = (i : Int) + 1 by omega]; exact he'⟩, hit'.1.at fun o q => (sb.2 it (Ne.symm hne)).trans q, hne⟩, fun b hb => ?_⟩
    have hb' : b < s.heap.objs.size := by
      rcases List.mem_cons.mp hb with z | z
      · rw [z]; exact hel
      · rw [List.mem_singleton.mp z]; exact hil
    rw [upd_ne (Nat.ne_of_lt hb')]
    exact (hf b hb).1
  done := by
    intro X hP hw hK hc i pins s σ H E I hf st hg
    subst hP hw hK
    obtain ⟨⟨old, he⟩, hit, hne⟩ := st
    obtain ⟨xs, hq, hx⟩ := hg
    obtain ⟨its, rv, p, hz⟩ := I.tuple hq
    obtain ⟨f0, f1, f2, f3, f4, f5⟩ := hf it (by simp)
    have hl := rv.length
    have D := Draws.tuple (prog := X.prog) (w := X.w) (A := X.A.in1) (I.ok.hd hc) it a (Ne.symm hia) its.toArray
    have hn : i = its.toArray.size := by
      rw [List.size_toArray]
      omega
    subst hn
    exact wpAny_pyNext_enum_endD D he ⟨hit, show s.heap.IsTuple a its.toArray from p⟩ fun h' eb => ⟨rfl, I.turned (t' := s.toks) (fun b o hb q => eb b o hb q) f0 f1 f3 f4 f5⟩
  self := fun A i s Q E st h => let ⟨⟨_, he⟩, _⟩ := st; wpAny_pyIter_enum he h
section
variable {X : Cx}
theorem pi_enumS {e : Expr} {ta : TA} {p pos tpos : Pos} {elts : List Expr} {kk : Nat} (hg : Gl X "enumerate") (hm : X.mg "enumerate" = none) (ha : PA X [e] ta) (hs : starEach [e] X.env = [(false, eval e X.env)] := by rfl) :
    PI X (.Tuple elts kk tpos) (.Call (.Name "enumerate" p) [e] [] pos) (iEnumS X.K ta) := by
  refine ⟨fun pins s σ H R I h => Call_ (ld_blt I hg hm boot_enumerate (PyProof.Rows.callWith_type1 (thn (ha.run pos pins s σ H _ I h) fun us s1 hh => ?_) hs rfl))⟩
  obtain ⟨vs, H1, I1, r1, a, ea, q1⟩ := hh
  subst ea
  obtain ⟨u, rfl, ru⟩ := vals1 r1
  cases (show u = Value.ref a from ru)
  have two : ∀ b ∈ [s1.heap.objs.size + 1, s1.heap.objs.size], FpOk X pins H1 b := fun b hb => by
    have hle : s1.heap.objs.size ≤ b := by
      rcases List.mem_cons.mp hb with z | z
      · omega
      · have := List.mem_singleton.mp z
        omega
    exact I1.fpOk hle (I1.hok.fresh hle)
  rcases q1 with ⟨xs, hq, q⟩ | ⟨xs, hq, q⟩
  · obtain ⟨its, rv, pl, hz⟩ := I1.list hq
    refine call_enumerate_list pl.isList fun h' he hit hsz hk => wpAny_pyIter_enum he ?_
    have I2 : Inv X pins σ H1 { s1 with heap := h' } := I1.kept (t' := s1.toks) hk
    exact ⟨_, _, _, _, H1, rfl, I2, turn_enum a (s1.heap.objs.size + 1) s1.heap.objs.size, ⟨⟨.none, he⟩, hit, Nat.succ_ne_self _⟩, two, q⟩
  · obtain ⟨its, rv, pt, hz⟩ := I1.tuple hq
    have lt : a < s1.heap.objs.size := let ⟨_, o, _⟩ := pt; Heap.lt_size o
    have n1 : s1.heap.objs.size + 1 ≠ a := Nat.ne_of_gt (Nat.lt_succ_of_lt lt)
    have n2 : s1.heap.objs.size ≠ a := Nat.ne_of_gt lt
    refine call_enumT (show s1.heap.IsTuple a its.toArray from pt) fun h' he hit hk => wpAny_pyIter_enum he ?_
    have I2 : Inv X pins σ H1 { s1 with heap := h' } := I1.kept (t' := s1.toks) hk
    exact ⟨_, _, _, _, H1, rfl, I2, turn_enumT a (s1.heap.objs.size + 1) s1.heap.objs.size n1 n2, ⟨⟨.none, he⟩, hit, Nat.succ_ne_self _⟩, two, q⟩

/-! ### list + list, of any lists -/
def rCatL (K : Fg) : R2 := fun x y H Q => ∃ l b xs zs, x = .ref l ∧ y = .ref b ∧ SqL K H l xs ∧ SqL K H b zs ∧ xs.length + zs.length ≤ sizeLine ∧ ∀ p, H p = none → Q (.ref p) (upd H p (.lst (xs ++ zs)))
theorem op_catL : OpR X (binaryOp .Add) (rCatL X.K) := by
  intro pins s σ H x y v u Q I rx ry h
  obtain ⟨l, b, xs, zs, rfl, rfl, hx, hy, hz, q⟩ := h
  cases rx
  cases ry
  obtain ⟨its, r, ⟨⟨c, dd, dt, sl⟩, n, ho, hc, hd, hs⟩, _⟩ := I.list hx
  obtain ⟨its2, r2, ⟨⟨c2, dd2, dt2, sl2⟩, n2, ho2, hc2, hd2, hs2⟩, _⟩ := I.list hy
  simp only at hc hd hs hc2 hd2 hs2
  subst hc hd hs hc2 hd2 hs2
  have l1 := r.length
  have l2 := r2.length
  have sz : its.toArray.size + its2.toArray.size ≤ sizeLine := by
    rw [List.size_toArray, List.size_toArray]
    omega
  have M := PyProof.Rows.list_addW l b its.toArray its2.toArray n n2 none none sl sl2 sz
  refine PySem.concat_meets ⟨_, ho, rfl⟩ ⟨_, ho2, rfl⟩ noFill_list_add seq_list_add PySem.F.slot_list_add
    PySem.F.entry_list_add (PySem.F.args_list_add_2 _ _) M ⟨ho, ho2, ?_⟩
  rw [show its.toArray ++ its2.toArray = (its ++ its2).toArray by simp]
  exact ⟨.ref _, _, I.lnew (t' := s.toks) (r.append r2) (by rw [List.length_append]; omega), rfl, q _ I.fresh⟩
def oCatL : PyData → PyData → (PyData → Prop) → Prop := fun d e Φ => onL d fun xs => onL e fun ys => xs.length + ys.length ≤ 100000 ∧ Φ (.list (xs ++ ys))
theorem s2_catL {K : Fg} : S2 K (rCatL K) oCatL := fun G H0 H σ S x y d e Ψ Q R hx hy p k => by
  obtain ⟨ds, rfl, p1⟩ := onL_of p
  obtain ⟨es, rfl, hz, p2⟩ := onL_of p1
  obtain ⟨a, xs, rfl, hs, hd⟩ := dp_refL hx
  obtain ⟨b, ys, rfl, ht, he⟩ := dp_refL hy
  refine ⟨a, b, xs, ys, rfl, rfl, R.seqL hs, R.seqL ht, by rw [Dps.len hd, Dps.len he]; exact sizeI hz, fun q hq => ?_⟩
  obtain ⟨R2, e0, hv⟩ := R.lst (Dps.app hd he) hq
  exact k _ _ _ _ e0 R2 hv p2
end
end Dw
set_option maxRecDepth 100000
set_option maxHeartbeats 4000000
/-! t[::-1] of a tuple; a tuple no times or once. -/
namespace Dw
open PySem PySem.Spec PyProof.Rows L2 HT
theorem fm_congr {α β : Type} {f g : α → Option β} : ∀ {l : List α}, (∀ x ∈ l, f x = g x) → l.filterMap f = l.filterMap g
  | [], _ => rfl
  | a :: r, h => by
    rw [List.filterMap_cons, List.filterMap_cons, h a List.mem_cons_self, fm_congr fun x hx => h x (List.mem_cons_of_mem _ hx)]
theorem back_pick (xs : Array Value) : ((List.range xs.size).filterMap fun (k : Nat) => xs[(((xs.size : Int) - 1) + (k : Int) * (-1)).toNat]?) = xs.toList.reverse := by
  have e : ∀ (l : List Value), (List.range l.length).filterMap (fun k => l[k]?) = l := by
    intro l
    induction l with
    | nil => rfl
    | cons a r ih =>
      rw [List.length_cons, List.range_succ_eq_map, List.filterMap_cons]
      show a :: ((List.range r.length).map Nat.succ).filterMap (fun k => (a :: r)[k]?) = a :: r
      rw [List.filterMap_map]
      exact congrArg (a :: ·) ih
  have e2 := e xs.toList.reverse
  rw [List.length_reverse, Array.length_toList] at e2
  refine Eq.trans ?_ e2
  refine fm_congr fun k hk => ?_
  have hk' : k < xs.size := List.mem_range.mp hk
  have h1 : (((xs.size : Int) - 1) + (k : Int) * (-1)).toNat = xs.size - 1 - k := by omega
  rw [h1, List.getElem?_reverse (by rw [Array.length_toList]; exact hk'), Array.length_toList, ← Array.getElem?_toList]
section
variable {prog : Program} {w : World} {A : Around} {E : Value → Shared → Prop} {s : Shared}
theorem applied_back {sl : Addr} {n : Nat} {tk : Tok} {Q : Int × Int × Nat → Shared → Prop} (hs : s.heap.IsSliceOf sl .none .none (.int (-1) tk)) (h : Q ((n : Int) - 1, -1, n) s) :
    wpAny (model prog w) A (Builtin.Slice.sliceApplied (.ref sl) (pure (n : Int))) Q E s := by
  obtain ⟨os, hos, hcs, hds⟩ := id hs
  unfold Builtin.Slice.sliceApplied Builtin.Slice.sliceFields
  refine wpAny_bind (wpAny_bind (wpAny_field hos hds (x := .none) rfl (wpAny_bind (wpAny_field hos hds (x := .none) rfl (wpAny_bind (wpAny_field hos hds (x := .int (-1) tk) rfl (wpAny_pure ?_)))))))
  refine wpAny_bind (slicePart_int ?_)
  show wpAny _ _ (if ((-1 : Int) == 0) = true then _ else _) _ _ s
  rw [if_neg (by decide)]
  refine wpAny_bind (slicePart_none (wpAny_bind (slicePart_none (wpAny_bind (wpAny_pure ?_)))))
  have e1 : Builtin.Slice.sliceAdjust none none (-1) (n : Int) = ((n : Int) - 1, -1) := rfl
  have e2 : Builtin.Slice.slicePlaces ((n : Int) - 1) (-1) (-1) = n := by
    unfold Builtin.Slice.slicePlaces
    rw [if_neg (by decide)]
    by_cases hn : ((n : Int) - 1) > -1
    · rw [if_pos hn, show (-(-1) : Int) = 1 from rfl, Int.ediv_one]
      omega
    · rw [if_neg hn]
      omega
  show wpAny _ _ (match Builtin.Slice.sliceAdjust none none (-1) (n : Int) with | (lo, hi) => pure (lo, (-1 : Int), Builtin.Slice.slicePlaces lo hi (-1))) _ _ s
  rw [e1]
  show wpAny _ _ (pure ((n : Int) - 1, (-1 : Int), Builtin.Slice.slicePlaces ((n : Int) - 1) (-1) (-1))) _ _ s
  rw [e2]
  exact wpAny_pure h
theorem getItem_back {t sl : Addr} {items : Array Value} {tk : Tok} {Q : Value → Shared → Prop} (ht : IsTup s.heap t items) (hs : s.heap.IsSliceOf sl .none .none (.int (-1) tk)) (hsz : items.size ≤ sizeLine)
    (h : Q (.ref s.heap.objs.size) { s with heap := s.heap.push { cls := .type "tuple", data := .seq items.toList.reverse.toArray } }) : wpAny (model prog w) A (getItem (.ref t) (.ref sl)) Q E s := by
  have fits : sizeOk (.seq items.toList.reverse.toArray) := by
    show items.toList.reverse.toArray.size ≤ sizeLine
    rw [List.size_toArray, List.length_reverse, Array.length_toList]
    exact hsz
  obtain ⟨os, hos, hcs, hds⟩ := id hs
  unfold getItem
  try with_reducible refine wpAny_holding ?_
  first | refine wpAny_bind (wpAny_pure ?_) | skip
  refine wpAny_bind (wpAny_sequenceKey ht.typeIs (by decide) (wpAny_bind (wpAny_callSpecial?_slot (name := Str.ofString "__getitem__") ht.typeIs PyProof.Rows.slot_tuple_getitem
    (wpAny_call_entry PyProof.Rows.slot_tuple_getitem ht.typeIs entry_tuple_getitem ?_ (args_tuple_getitem _ _)))))
  show wpAny _ _ (Builtin.Tuple.tupleItemsOf (.ref t) >>= _) _ _ s
  refine wpAny_bind (tupleItemsOf_ ht (wpAny_bind (wpAny_typeOf (show s.TypeIs (.ref sl) "slice" from ⟨os, hos, hcs⟩) ?_)))
  rw [if_pos (by decide)]
  refine wpAny_bind (applied_back hs ?_)
  have no : ¬ ((((items.size : Int) - 1) == 0 && (-1 : Int) == 1 && items.size == items.size) = true) := by
    rw [show ((-1 : Int) == 1) = false from rfl, Bool.and_false, Bool.false_and]
    exact Bool.false_ne_true
  show wpAny _ _ (if (((items.size : Int) - 1) == 0 && (-1 : Int) == 1 && items.size == items.size) = true then _ else _) _ _ s
  rw [if_neg no, back_pick]
  first
    | exact wpAny_bind (m := Builtin.Tuple.tupleExact _) (wpAny_newObj_type (wpAny_pure ⟨_, rfl, wpAny_pure h⟩) fits)
    | exact wpAny_bind (m := Builtin.Tuple.tupleExact _) (wpAny_newObj_type (wpAny_bind (wpAny_pure (wpAny_pure ⟨_, rfl, wpAny_pure h⟩))) fits)
    | exact wpAny_bind (wpAny_bind (m := Builtin.Tuple.tupleExact _) (wpAny_newObj_type (wpAny_pure (wpAny_pure ⟨_, rfl, wpAny_pure h⟩)) fits))
    | exact wpAny_bind (wpAny_bind (m := Builtin.Tuple.tupleExact _) (wpAny_newObj_type (wpAny_pure ⟨_, rfl, wpAny_pure h⟩) fits))
end
section
variable {X : Cx}
def tRevT (K : Fg) (te : TE) : TE := fun σ H Q => te σ H fun x H1 => ∃ a xs, x = .ref a ∧ SqT K H1 a xs ∧ ∀ p, H1 p = none → Q (.ref p) (upd H1 p (.tup xs.reverse))
/-- the key of t[::-1] -/
theorem key_back {pins : List (Addr × Obj)} {s : Shared} {σ : L2.St} {H : Hp} {k : Nat} {p1 p2 p3 : Pos} {Ψ : Value → Shared → Prop} (I : Inv X pins σ H s)
    (h : ∀ (z : Shared) (b : Addr) (tk : Tok), Inv X pins σ H z → z.heap.IsSliceOf b .none .none (.int (-1) tk) → Ψ (.ref b) z) : wpAny (model X.prog X.w) X.A (eval (.Slice none none (some (.UnaryOp .USub (.Constant (.int 1) k p1) p2)) p3) X.env) Ψ X.xe s := by
  have nothing : ∀ {z : Shared} {Φ : Value → Shared → Prop}, Inv X pins σ H z → (∀ y, Inv X pins σ H y → Φ .none y) → wpAny (model X.prog X.w) X.A (evalPart none X.env) Φ X.xe z := fun J g =>
    thn (po_none.run pins _ σ H (fun o G => o = none ∧ G = H) J ⟨rfl, rfl⟩) fun v y ⟨o, G, J', pv, eo, eg⟩ => by
      subst eo eg
      cases pv
      exact g y J'
  refine wpAny_Slice (nothing I fun s1 I1 => nothing I1 fun s2 I2 => thn ((po_some (pe_un un_neg pe_int)).run pins s2 σ H (fun o G => o = some (-1) ∧ G = H) I2 ⟨1, rfl, -1, rfl, rfl, rfl⟩) fun v s3 ⟨o, G, I3, pv, eo, eg⟩ => ?_)
  subst eo eg
  cases pv with
  | int _ tk => exact h _ _ tk (I3.kept (t' := s3.toks) fun b ob q => Heap.get?_push_of_some _ q) (Heap.IsSliceOf.new _ .none .none (.int (-1) tk))
theorem pe_revT {e : Expr} {te : TE} {k : Nat} {p1 p2 p3 pos : Pos} (he : PE X e te) : PE X (.Subscript e (.Slice none none (some (.UnaryOp .USub (.Constant (.int 1) k p1) p2)) p3) pos) (tRevT X.K te) := by
  refine ⟨fun pins s σ H Q I h => Subscript_ (thn (he.run pins s σ H _ I h) fun v s1 hh => ?_)⟩
  obtain ⟨x, H1, I1, r1, a, xs, ex, hx, q⟩ := hh
  subst ex
  cases r1
  refine key_back I1 fun z b tk J sl => ?_
  obtain ⟨its, r, ht, hz⟩ := J.tuple hx
  have hlen := r.length
  refine tail_any (ops := [.ref a, .ref b]) ht.typeIs PyProof.Rows.slot_tuple_getitem.lookup (getItem_back ht sl (by rw [List.size_toArray]; omega) ?_) (by with_unfolding_all rfl)
  exact ⟨.ref _, _, J.laid (t' := z.toks) (o := .tup xs.reverse) (fun b ob q => Heap.get?_push_of_some _ q) (Nat.le_refl _) ⟨by rw [List.length_reverse]; exact hz, its.reverse, r.reverse, _, Heap.get?_push_size _ rfl, rfl, 0, by simp⟩, rfl, q _ (J.hok.fresh (Nat.le_refl _))⟩
end
def dRevT (T : DE) : DE := fun S Ψ => T S fun x S1 => onT x fun xs => Ψ (.tuple xs.reverse) S1
theorem se_revT {K : Fg} {te : TE} {T : DE} (h : SE K te T) : SE K (tRevT K te) (dRevT T) := fun G H0 H σ S Ψ Q R p k => by
  refine h G H0 H σ S _ _ R p fun x d H1 H01 S1 e1 R1 hx p1 => ?_
  obtain ⟨es, rfl, p2⟩ := onT_of p1
  obtain ⟨a, xs, rfl, hs, hd⟩ := dp_refT hx
  refine ⟨a, xs, rfl, R1.seqT hs, fun q hq => ?_⟩
  obtain ⟨R2, e0, hv⟩ := R1.tup (Dps.rev hd) hq
  exact k _ _ _ _ S1 (e1.trans e0) R2 hv p2

/-! ### a tuple no times, or once -/
theorem mul_one (l : Addr) (items : Array Value) (n : Nat) (dd : Option Addr) (sl : Array (Option Value)) (u : Tok) :
    Meets (Builtin.«tuple.__mul__» ⟨[.ref l, .int 1 u], []⟩) (fun _ R s => s.heap.get? l = some { cls := .type "tuple", dict := dd, data := .seq items n, slots := sl } ∧ R (.ok (.ret (Value.ref l))) s) :=
  .of_wp fun prog w A R s h => by
    obtain ⟨hp, g, d, tk, os⟩ := s
    obtain ⟨hl, h⟩ := h
    have f1 := AutoSeq1.idx_int
    wp_walk using AutoSeq1.wpAny_loadPart' hl
    repeat (first
      | (refine wpAny_ite_true (decide_eq_true (by rw [show ((1 : Int) == 1) = true from rfl, Bool.or_true])) ?_; wp_walk using AutoSeq1.wpAny_loadPart' hl))
    exact ⟨_, rfl, h⟩
theorem mul_none (l : Addr) (items : Array Value) (n : Nat) (dd : Option Addr) (sl : Array (Option Value)) (u : Tok) (hi : items.isEmpty = false) :
    Meets (Builtin.«tuple.__mul__» ⟨[.ref l, .int 0 u], []⟩) (fun _ R s => s.heap.get? l = some { cls := .type "tuple", dict := dd, data := .seq items n, slots := sl } ∧
      R (.ok (.ret (Value.ref s.heap.objs.size))) { s with heap := s.heap.push { cls := Value.type "tuple", data := Data.seq #[] }, toks := s.toks }) :=
  .of_wp fun prog w A R s h => by
    obtain ⟨hp, g, d, tk, os⟩ := s
    obtain ⟨hl, h⟩ := h
    have f1 := AutoSeq1.idx_int
    wp_walk using AutoSeq1.wpAny_loadPart' hl
    exact ⟨_, rfl, h⟩
def rRep01 (K : Fg) : R2 := fun x y H Q => ∃ l k xs, x = .ref l ∧ y = .int k ∧ SqT K H l xs ∧ xs ≠ [] ∧ ((k = 1 ∧ Q (.ref l) H) ∨ (k = 0 ∧ ∀ p, H p = none → Q (.ref p) (upd H p (.tup []))))
section
variable {X : Cx}
theorem op_rep01 : OpR X (binaryOp .Mult) (rRep01 X.K) := by
  intro pins s σ H x y v u Q I rx ry h
  obtain ⟨l, k, xs, rfl, rfl, hT, hne, q⟩ := h
  cases rx
  obtain ⟨t, rfl⟩ := ry
  obtain ⟨its, r, ⟨⟨cls, dd, data, sl⟩, ho, hc, n, hd⟩, hs⟩ := I.tuple hT
  simp only at hc hd
  subst hc hd
  have hi : its.toArray.isEmpty = false := by
    cases r with
    | nil => exact absurd rfl hne
    | cons a b => rfl
  rcases q with ⟨rfl, q⟩ | ⟨rfl, q⟩
  · refine wpAny_binaryOp_repeat_ref (T := "tuple") (U := "int") (by decide) ⟨_, ho, rfl⟩ (fun s' => typeIs_int s' 1 t) noFill_tuple_mul F.fills_int_mul F.slot_int_rmul repeat_tuple F.slot_int_index.lookup ?_
    have m2 := mul_one l its.toArray n dd sl t
    refine call_meets F.slot_int_rmul (typeIs_int s 1 t) F.entry_int_rmul (F.args_int_rmul_2 _ _) (int_rmul_tuple 1 t l its.toArray n dd sl) ⟨ho, rfl, ⟨_, ho, rfl⟩, ?_⟩
    exact call_meets F.slot_tuple_mul ⟨_, ho, rfl⟩ F.entry_tuple_mul (F.args_tuple_mul_2 _ _) m2 ⟨ho, .ref l, H, I, rfl, q⟩
  · refine wpAny_binaryOp_repeat_ref (T := "tuple") (U := "int") (by decide) ⟨_, ho, rfl⟩ (fun s' => typeIs_int s' 0 t) noFill_tuple_mul F.fills_int_mul F.slot_int_rmul repeat_tuple F.slot_int_index.lookup ?_
    have m2 := mul_none l its.toArray n dd sl t hi
    refine call_meets F.slot_int_rmul (typeIs_int s 0 t) F.entry_int_rmul (F.args_int_rmul_2 _ _) (int_rmul_tuple 0 t l its.toArray n dd sl) ⟨ho, rfl, ⟨_, ho, rfl⟩, ?_⟩
    refine call_meets F.slot_tuple_mul ⟨_, ho, rfl⟩ F.entry_tuple_mul (F.args_tuple_mul_2 _ _) m2 ⟨ho, .ref s.heap.objs.size, _, I.laid (t' := s.toks) (o := .tup []) (fun b ob q => Heap.get?_push_of_some _ q) (Nat.le_refl _) ?_, rfl, q _ (I.hok.fresh (Nat.le_refl _))⟩
    exact ⟨Nat.zero_le _, [], .nil, _, Heap.get?_push_size _ rfl, rfl, 0, rfl⟩
end
def oRep01 : PyData → PyData → (PyData → Prop) → Prop := fun d e Φ => onT d fun xs => xs ≠ [] ∧ onI e fun k => (k = 0 ∨ k = 1) ∧ Φ (.tuple (List.replicate k.toNat xs).flatten)
theorem s2_rep01 {K : Fg} : S2 K (rRep01 K) oRep01 := fun G H0 H σ S x y d e Ψ Q R hx hy p k => by
  obtain ⟨ds, rfl, hne, p1⟩ := onT_of p
  obtain ⟨n, rfl, hn, p2⟩ := onI_of p1
  obtain ⟨a, xs, rfl, hs, hd⟩ := dp_refT hx
  have hne2 : xs ≠ [] := fun z => hne (by
    have l := Dps.len hd
    rw [z] at l
    exact List.eq_nil_of_length_eq_zero l.symm)
  refine ⟨a, n, xs, rfl, dp_intV hy, R.seqT hs, hne2, ?_⟩
  rcases hn with rfl | rfl
  · refine Or.inr ⟨rfl, fun q hq => ?_⟩
    obtain ⟨R2, e0, hv⟩ := R.tup DpAll.nil hq
    exact k _ _ _ _ e0 R2 hv p2
  · refine Or.inl ⟨rfl, k _ _ H H0 (Same.refl _) R hx ?_⟩
    have e2 : (List.replicate (1 : Int).toNat ds).flatten = ds := by simp
    rw [e2] at p2
    exact p2
end Dw
set_option maxRecDepth 100000
set_option maxHeartbeats 4000000
/-! The rules of the text, each with its reading over data. -/
namespace Dw
open PySem PySem.Spec PyProof.Rows L2

/-! ### slices -/
abbrev DO := DSt → (Option Int → DSt → Prop) → Prop
def SO (K : Fg) (to : TO) (T : DO) : Prop := ∀ (G : Gh) (H0 H : Hp) (σ : L2.St) (S : DSt) (Ψ : Option Int → DSt → Prop) (Q : Option Int → Hp → Prop), SR K G H0 H σ S → T S Ψ →
  (∀ o H' H0' S', Same H0 H0' → SR K G H0' H' σ S' → Ψ o S' → Q o H') → to σ H Q
def doNone : DO := fun S Ψ => Ψ none S
def doSome (T : DE) : DO := fun S Ψ => T S fun x S1 => onI x fun i => Ψ (some i) S1
/-- xs[lo:hi] -/
def cutP {α : Type} (xs : List α) (lo hi : Option Int) : List α := (xs.drop (HT.sIx xs.length 0 lo)).take (HT.sIx xs.length xs.length hi - HT.sIx xs.length 0 lo)
def dSlT (T : DE) (A B : DO) : DE := fun S Ψ => T S fun x S1 => A S1 fun lo S2 => B S2 fun hi S3 => onT x fun xs => Ψ (.tuple (cutP xs lo hi)) S3
def dSlL (T : DE) (A B : DO) : DE := fun S Ψ => T S fun x S1 => A S1 fun lo S2 => B S2 fun hi S3 => onL x fun xs => Ψ (.list (cutP xs lo hi)) S3
section
variable {K : Fg} {te : TE} {tl th : TO} {T : DE} {A B : DO}
theorem so_none : SO K tNoPart doNone := fun G H0 H σ S Ψ Q R p k => k none H H0 S (Same.refl _) R p
theorem so_some (h : SE K te T) : SO K (tPart te) (doSome T) := fun G H0 H σ S Ψ Q R p k => by
  refine h G H0 H σ S _ _ R p fun x d H1 H01 S1 e1 R1 hx p1 => ?_
  obtain ⟨i, rfl, p2⟩ := onI_of p1
  exact ⟨i, dp_intV hx, k _ H1 H01 S1 e1 R1 p2⟩
theorem cut_dps {H : Hp} {xs : List V} {ds : List PyData} {lo hi : Option Int} (h : DpAll K H xs ds) : DpAll K H (cutV xs lo hi) (cutP ds lo hi) := by
  have e := Dps.len h
  unfold cutV cutP
  rw [e]
  exact Dps.take _ (Dps.drop _ h)
theorem se_slT (h : SE K te T) (ha : SO K tl A) (hb : SO K th B) : SE K (tSl (rSlA K) te tl th) (dSlT T A B) := fun G H0 H σ S Ψ Q R p k => by
  refine h G H0 H σ S _ _ R p fun x d H1 H01 S1 e1 R1 hx p1 => ?_
  refine ha G H01 H1 σ S1 _ _ R1 p1 fun lo H2 H02 S2 e2 R2 p2 => ?_
  refine hb G H02 H2 σ S2 _ _ R2 p2 fun hi H3 H03 S3 e3 R3 p3 => ?_
  obtain ⟨es, rfl, p4⟩ := onT_of p3
  obtain ⟨a, xs, rfl, hs, hd⟩ := dp_refT (dp_up (e2.trans e3) _ _ hx)
  have len := Dps.len hd
  refine ⟨a, xs, rfl, R3.seqT hs, fun hw => ?_, fun hw q hq => ?_⟩
  · have e : cutP es lo hi = es := by
      unfold cutP
      rw [← len, hw.1, hw.2, len, List.drop_zero, Nat.sub_zero, List.take_length]
    rw [e] at p4
    exact k _ _ H3 H03 S3 ((e1.trans e2).trans e3) R3 (dp_up (e2.trans e3) _ _ hx) p4
  · obtain ⟨R4, e4, hv⟩ := R3.tup (cut_dps (lo := lo) (hi := hi) hd) hq
    exact k _ _ _ _ S3 (((e1.trans e2).trans e3).trans e4) R4 hv p4
theorem se_slL (h : SE K te T) (ha : SO K tl A) (hb : SO K th B) : SE K (tSl (rSlL K) te tl th) (dSlL T A B) := fun G H0 H σ S Ψ Q R p k => by
  refine h G H0 H σ S _ _ R p fun x d H1 H01 S1 e1 R1 hx p1 => ?_
  refine ha G H01 H1 σ S1 _ _ R1 p1 fun lo H2 H02 S2 e2 R2 p2 => ?_
  refine hb G H02 H2 σ S2 _ _ R2 p2 fun hi H3 H03 S3 e3 R3 p3 => ?_
  obtain ⟨es, rfl, p4⟩ := onL_of p3
  obtain ⟨a, xs, rfl, hs, hd⟩ := dp_refL (dp_up (e2.trans e3) _ _ hx)
  refine ⟨a, xs, rfl, R3.seqL hs, fun q hq => ?_⟩
  obtain ⟨R4, e4, hv⟩ := R3.lst (cut_dps (lo := lo) (hi := hi) hd) hq
  exact k _ _ _ _ S3 (((e1.trans e2).trans e3).trans e4) R4 hv p4
end
structure POx (X : Cx) (e : Option Expr) (to : TO) (T : DO) : Prop where
  po : PO X e to
  sn : SO X.K to T

/-! ### the contracts of operators -/
abbrev oAdd := oI fun i j => .int (i + j)
abbrev oSub := oI fun i j => .int (i - j)
abbrev oMul := oIp CMul fun i j => .int (i * j)
abbrev oDiv := oIp CDivN fun i j => .int (i.fdiv j)
abbrev oMod := oIp (fun _ j => j ≠ 0) fun i j => .int (i.fmod j)
abbrev oPow := oIp CPow fun i j => .int (i ^ j.toNat)
abbrev oLt := oI fun i j => .bool (decide (i < j))
abbrev oLe := oI fun i j => .bool (decide (i ≤ j))
abbrev oGt := oI fun i j => .bool (decide (j < i))
abbrev oGe := oI fun i j => .bool (decide (j ≤ i))
def oNeg : PyData → (PyData → Prop) → Prop := fun d Φ => onI d fun i => Φ (.int (-i))
theorem s1_neg {K : Fg} : S1 K (rU fun i => .int (-i)) oNeg := fun G H0 H σ S x d Ψ Q R hx p k => by
  obtain ⟨i, rfl, p1⟩ := onI_of p
  exact ⟨i, dp_intV hx, k _ _ H H0 (Same.refl _) R (.int _) p1⟩
/-- x or y, x and y by truth: x a list -/
def dOrL (T U : DE) : DE := fun S Ψ => T S fun x S1 => onL x fun xs => if xs = [] then U S1 Ψ else Ψ (.list xs) S1
theorem se_orL {K : Fg} {ta tb : TE} {T U : DE} (ha : SE K ta T) (hb : SE K tb U) : SE K (tOrT K ta tb) (dOrL T U) := fun G H0 H σ S Ψ Q R p k => by
  refine ha G H0 H σ S _ _ R p fun x d H1 H01 S1 e1 R1 hx p1 => ?_
  obtain ⟨es, rfl, p2⟩ := onL_of p1
  obtain ⟨a, xs, rfl, hs, hd⟩ := dp_refL hx
  have len := Dps.len hd
  refine ⟨!xs.isEmpty, Or.inl ⟨xs, R1.seqL hs, rfl⟩, ?_⟩
  by_cases he : es = []
  · rw [if_pos he] at p2
    have hx0 : xs = [] := List.eq_nil_of_length_eq_zero (by rw [len, he]; rfl)
    subst hx0
    exact hb G H01 H1 σ S1 _ _ R1 p2 fun v d H2 H02 S2 e2 R2 hv p3 => k v d H2 H02 S2 (e1.trans e2) R2 hv p3
  · rw [if_neg he] at p2
    cases xs with
    | nil => exact absurd (List.eq_nil_of_length_eq_zero len.symm) he
    | cons y ys => exact k _ _ H1 H01 S1 e1 R1 hx p2

section
variable {X : Cx} {e a b c : Expr} {es rest : List Expr} {te ta tb tc : TE} {t u : TT} {tr : TA} {T U W : DE} {C E : DT} {L M : DA} {pos : Pos}
theorem pd_var (i : Nat) {x : Str} (hN : X.N[i]? = some x := by rfl) (hv : Vis X.env.scope x := by first | exact Or.inl rfl | exact Or.inr (Or.inl rfl) | exact Or.inr (Or.inr rfl)) (hd : (x == ("__debug__" : Str)) = false := by decide)
    (hcd : (x == ("__classdict__" : Str)) = false := by decide) : PDx X (.Name x pos) (tVar i) (dVar i) := ⟨pe_var hN hv hd hcd, se_var⟩
theorem pd_frz (i : Nat) {x : Str} (hN : X.N[i]? = some x := by rfl) (hv : Vis X.env.scope x := by first | exact Or.inl rfl | exact Or.inr (Or.inl rfl) | exact Or.inr (Or.inr rfl)) (hd : (x == ("__debug__" : Str)) = false := by decide)
    (hcd : (x == ("__classdict__" : Str)) = false := by decide) : PDx X (.Name x pos) (tVar i) (dFrz i) := ⟨pe_var hN hv hd hcd, se_frz⟩
theorem pd_int {i : Int} {j : Nat} : PDx X (.Constant (.int i) j pos) (tC (.int i)) (dC (.int i)) := ⟨pe_int, se_c fun _ => .int i⟩
theorem pd_str {x : Str} {j : Nat} : PDx X (.Constant (.str x) j pos) (tC (.str x)) (dC (.str x)) := ⟨pe_str, se_c fun _ => .str x⟩
theorem pd_bl {i : Bool} {j : Nat} : PDx X (.Constant (.bool i) j pos) (tC (.bl i)) (dC (.bool i)) := ⟨pe_bl, se_c fun _ => .bl i⟩
theorem pd_non {j : Nat} : PDx X (.Constant .none j pos) (tC .non) (dC .none) := ⟨pe_non, se_c fun _ => .non⟩
theorem pd_cst {x : Str} {v : V} {w : Value} {d : PyData} (hm : X.mg x = some w) (r : RelV v w) (h : ∀ H, Dp X.K H v d) (hg : Gl X x := by rfl) (hd : (x == ("__debug__" : Str)) = false := by decide) : PDx X (.Name x pos) (tC v) (dC d) := ⟨pe_glob hg hm r hd, se_c h⟩
theorem pd_new (h : PNx X e te L) : PDx X e te (dNew L) := ⟨h.pe, se_new h.sn⟩
theorem pa_no : PAx X [] tNil dNil := ⟨pa_nil, sa_nil⟩
theorem pa_co (h : PDx X e te T) (hr : PAx X es tr L) (hs : starEach (e :: es) X.env = (false, eval e X.env) :: starEach es X.env := by rfl) : PAx X (e :: es) (tCons te tr) (dCons T L) := ⟨pa_cons h.pe hr.pa hs, sa_cons h.sn hr.sn⟩
theorem pa_st {p : Pos} (h : PDx X e te T) (hr : PAx X es tr L) (hs : starEach (.Starred e p :: es) X.env = (true, eval e X.env) :: starEach es X.env := by rfl) : PAx X (.Starred e p :: es) (StX.tStar X.K te tr) (dStar T L) := ⟨StX.pa_star h.pe hr.pa hs, sa_star h.sn hr.sn⟩
theorem pd_tup {k : Nat} (h : PAx X es tr L) : PDx X (.Tuple es k pos) (tTup tr) (dTup L) := ⟨pe_tup h.pa, se_tup h.sn⟩
theorem pn_lst (h : PAx X es tr L) : PNx X (.List es pos) (tLst tr) (dLst L) := ⟨pe_lst h.pa, sn_lst h.sn⟩
theorem pn_rep (h : PNx X a ta L) (h2 : PDx X b tb U) : PNx X (.BinOp a .Mult b pos) (tOp rRep ta tb) (dRep L U) := ⟨pe_op op_rep h.pe h2.pe, sn_rep h.sn h2.sn⟩
theorem pd_add (h : PDx X a ta T) (h2 : PDx X b tb U) : PDx X (.BinOp a .Add b pos) (tOp (rI0 fun i j => .int (i + j)) ta tb) (dOp oAdd T U) := ⟨pe_op op_add h.pe h2.pe, se_op (s2_I fun _ _ _ => .int _) h.sn h2.sn⟩
theorem pd_sub (h : PDx X a ta T) (h2 : PDx X b tb U) : PDx X (.BinOp a .Sub b pos) (tOp (rI0 fun i j => .int (i - j)) ta tb) (dOp oSub T U) := ⟨pe_op op_sub h.pe h2.pe, se_op (s2_I fun _ _ _ => .int _) h.sn h2.sn⟩
theorem pd_mul (h : PDx X a ta T) (h2 : PDx X b tb U) : PDx X (.BinOp a .Mult b pos) (tOp (rI CMul fun i j => .int (i * j)) ta tb) (dOp oMul T U) := ⟨pe_op op_mul h.pe h2.pe, se_op (s2_Ip fun _ _ _ => .int _) h.sn h2.sn⟩
theorem pd_div (h : PDx X a ta T) (h2 : PDx X b tb U) : PDx X (.BinOp a .FloorDiv b pos) (tOp (rI CDivN fun i j => .int (i.fdiv j)) ta tb) (dOp oDiv T U) := ⟨pe_op op_fdivN h.pe h2.pe, se_op (s2_Ip fun _ _ _ => .int _) h.sn h2.sn⟩
theorem pd_mod (h : PDx X a ta T) (h2 : PDx X b tb U) : PDx X (.BinOp a .Mod b pos) (tOp (rI (fun _ j => j ≠ 0) fun i j => .int (i.fmod j)) ta tb) (dOp oMod T U) := ⟨pe_op op_modN h.pe h2.pe, se_op (s2_Ip fun _ _ _ => .int _) h.sn h2.sn⟩
theorem pd_pow (h : PDx X a ta T) (h2 : PDx X b tb U) : PDx X (.BinOp a .Pow b pos) (tOp (rI CPow fun i j => .int (i ^ j.toNat)) ta tb) (dOp oPow T U) := ⟨pe_op op_pow h.pe h2.pe, se_op (s2_Ip fun _ _ _ => .int _) h.sn h2.sn⟩
theorem pd_catT (h : PDx X a ta T) (h2 : PDx X b tb U) : PDx X (.BinOp a .Add b pos) (tOp (rCatA X.K) ta tb) (dOp oCatT T U) := ⟨pe_op op_catA h.pe h2.pe, se_op s2_catT h.sn h2.sn⟩
theorem pd_catL (h : PDx X a ta T) (h2 : PDx X b tb U) : PDx X (.BinOp a .Add b pos) (tOp (rCatL X.K) ta tb) (dOp oCatL T U) := ⟨pe_op op_catL h.pe h2.pe, se_op s2_catL h.sn h2.sn⟩
theorem pd_rep01 (h : PDx X a ta T) (h2 : PDx X b tb U) : PDx X (.BinOp a .Mult b pos) (tOp (rRep01 X.K) ta tb) (dOp oRep01 T U) := ⟨pe_op op_rep01 h.pe h2.pe, se_op s2_rep01 h.sn h2.sn⟩
theorem pd_neg (h : PDx X a ta T) : PDx X (.UnaryOp .USub a pos) (tUn (rU fun i => .int (-i)) ta) (dUn oNeg T) := ⟨pe_un un_neg h.pe, se_un s1_neg h.sn⟩
theorem pd_lt (h : PDx X a ta T) (h2 : PDx X b tb U) : PDx X (.Compare a [.Lt] [b] pos) (tOp (rI0 fun i j => .bl (decide (i < j))) ta tb) (dOp oLt T U) := ⟨pe_cmpR op_lt h.pe h2.pe (nomark _), se_op (s2_I fun _ _ _ => .bl _) h.sn h2.sn⟩
theorem pd_le (h : PDx X a ta T) (h2 : PDx X b tb U) : PDx X (.Compare a [.LtE] [b] pos) (tOp (rI0 fun i j => .bl (decide (i ≤ j))) ta tb) (dOp oLe T U) := ⟨pe_cmpR op_le h.pe h2.pe (nomark _), se_op (s2_I fun _ _ _ => .bl _) h.sn h2.sn⟩
theorem pd_gt (h : PDx X a ta T) (h2 : PDx X b tb U) : PDx X (.Compare a [.Gt] [b] pos) (tOp (rI0 fun i j => .bl (decide (j < i))) ta tb) (dOp oGt T U) := ⟨pe_cmpR op_gt h.pe h2.pe (nomark _), se_op (s2_I fun _ _ _ => .bl _) h.sn h2.sn⟩
theorem pd_ge (h : PDx X a ta T) (h2 : PDx X b tb U) : PDx X (.Compare a [.GtE] [b] pos) (tOp (rI0 fun i j => .bl (decide (j ≤ i))) ta tb) (dOp oGe T U) := ⟨pe_cmpR op_ge h.pe h2.pe (nomark _), se_op (s2_I fun _ _ _ => .bl _) h.sn h2.sn⟩
theorem pt_lt (h : PDx X a ta T) (h2 : PDx X b tb U) : PTx X (.Compare a [.Lt] [b] pos) (tTest (tOp (rI0 fun i j => .bl (decide (i < j))) ta tb)) (dTst (dOp oLt T U)) := ⟨pt_cmpR op_lt h.pe h2.pe (nomark _), st_test (se_op (s2_I fun _ _ _ => .bl _) h.sn h2.sn)⟩
theorem pt_le (h : PDx X a ta T) (h2 : PDx X b tb U) : PTx X (.Compare a [.LtE] [b] pos) (tTest (tOp (rI0 fun i j => .bl (decide (i ≤ j))) ta tb)) (dTst (dOp oLe T U)) := ⟨pt_cmpR op_le h.pe h2.pe (nomark _), st_test (se_op (s2_I fun _ _ _ => .bl _) h.sn h2.sn)⟩
theorem pt_gt (h : PDx X a ta T) (h2 : PDx X b tb U) : PTx X (.Compare a [.Gt] [b] pos) (tTest (tOp (rI0 fun i j => .bl (decide (j < i))) ta tb)) (dTst (dOp oGt T U)) := ⟨pt_cmpR op_gt h.pe h2.pe (nomark _), st_test (se_op (s2_I fun _ _ _ => .bl _) h.sn h2.sn)⟩
theorem pt_ge (h : PDx X a ta T) (h2 : PDx X b tb U) : PTx X (.Compare a [.GtE] [b] pos) (tTest (tOp (rI0 fun i j => .bl (decide (j ≤ i))) ta tb)) (dTst (dOp oGe T U)) := ⟨pt_cmpR op_ge h.pe h2.pe (nomark _), st_test (se_op (s2_I fun _ _ _ => .bl _) h.sn h2.sn)⟩
variable {k : Nat}
theorem pd_eq (hr : Room k X.A) (h : PDx X a ta T) (h2 : PDx X b tb U) : PDx X (.Compare a [.Eq] [b] pos) (tOp (rEqD X.K) ta tb) (dOp oEq T U) := ⟨pe_cmpR (op_eqD hr.units) h.pe h2.pe (nomark _), se_op s2_eq h.sn h2.sn⟩
theorem pd_ne (hr : Room k X.A) (h : PDx X a ta T) (h2 : PDx X b tb U) : PDx X (.Compare a [.NotEq] [b] pos) (tOp (rNeD X.K) ta tb) (dOp oNe T U) := ⟨pe_cmpR (op_neD hr.units) h.pe h2.pe (nomark _), se_op s2_ne h.sn h2.sn⟩
theorem pt_eq (hr : Room k X.A) (h : PDx X a ta T) (h2 : PDx X b tb U) : PTx X (.Compare a [.Eq] [b] pos) (tTest (tOp (rEqD X.K) ta tb)) (dTst (dOp oEq T U)) := ⟨pt_cmpR (op_eqD hr.units) h.pe h2.pe (nomark _), st_test (se_op s2_eq h.sn h2.sn)⟩
theorem pt_ne (hr : Room k X.A) (h : PDx X a ta T) (h2 : PDx X b tb U) : PTx X (.Compare a [.NotEq] [b] pos) (tTest (tOp (rNeD X.K) ta tb)) (dTst (dOp oNe T U)) := ⟨pt_cmpR (op_neD hr.units) h.pe h2.pe (nomark _), st_test (se_op s2_ne h.sn h2.sn)⟩
theorem u65 (hr : Room k X.A) : X.A.units + 65 < cLine := by
  have := hr.un
  omega
theorem u100 (hr : Room k X.A) : X.A.units + 100 < cLine := by
  have := hr.un
  omega
theorem pd_in (hr : Room k X.A) (h : PDx X a ta T) (h2 : PDx X b tb U) (hm : behindInMarks .In b = false := by with_unfolding_all rfl) : PDx X (.Compare a [.In] [b] pos) (tOp (rInS X.K) ta tb) (dOp oIn T U) := ⟨pe_cmpR (op_inS (u65 hr)) h.pe h2.pe hm, se_op s2_in h.sn h2.sn⟩
theorem pd_nin (hr : Room k X.A) (h : PDx X a ta T) (h2 : PDx X b tb U) (hm : behindInMarks .NotIn b = false := by with_unfolding_all rfl) : PDx X (.Compare a [.NotIn] [b] pos) (tOp (rNinS X.K) ta tb) (dOp oNin T U) := ⟨pe_cmpR (op_ninS (u65 hr)) h.pe h2.pe hm, se_op s2_nin h.sn h2.sn⟩
theorem pt_in (hr : Room k X.A) (h : PDx X a ta T) (h2 : PDx X b tb U) (hm : behindInMarks .In b = false := by with_unfolding_all rfl) : PTx X (.Compare a [.In] [b] pos) (tTest (tOp (rInS X.K) ta tb)) (dTst (dOp oIn T U)) := ⟨pt_cmpR (op_inS (u65 hr)) h.pe h2.pe hm, st_test (se_op s2_in h.sn h2.sn)⟩
theorem pt_nin (hr : Room k X.A) (h : PDx X a ta T) (h2 : PDx X b tb U) (hm : behindInMarks .NotIn b = false := by with_unfolding_all rfl) : PTx X (.Compare a [.NotIn] [b] pos) (tTest (tOp (rNinS X.K) ta tb)) (dTst (dOp oNin T U)) := ⟨pt_cmpR (op_ninS (u65 hr)) h.pe h2.pe hm, st_test (se_op s2_nin h.sn h2.sn)⟩
/-- x in xs, xs a list of our own -/
theorem pt_inO (i : Nat) {x : Str} {p2 : Pos} (hr : Room k X.A) (h : PDx X a ta T) (hN : X.N[i]? = some x := by rfl) (hv : Vis X.env.scope x := by first | exact Or.inl rfl | exact Or.inr (Or.inl rfl) | exact Or.inr (Or.inr rfl)) (hd : (x == ("__debug__" : Str)) = false := by decide)
    (hcd : (x == ("__classdict__" : Str)) = false := by decide) : PTx X (.Compare a [.In] [.Name x p2] pos) (tTest (tOp (rInS X.K) ta (tVar i))) (dTst (dInO T i)) := ⟨pt_cmpR (op_inS (u65 hr)) h.pe (pe_var hN hv hd hcd) rfl, st_test (se_inO h.sn)⟩
/-- 0 <= a < b -/
theorem pd_ch (h : PDx X a ta T) (h2 : PDx X b tb U) (h3 : PDx X c tc W) (hm : lastMarks [.LtE, .Lt] [b, c] = false := by with_unfolding_all rfl) :
    PDx X (.Compare a [.LtE, .Lt] [b, c] pos) (tChain (rI0 fun i j => .bl (decide (i ≤ j))) (rI0 fun i j => .bl (decide (i < j))) ta tb tc) (dChain oLe oLt T U W) := ⟨pe_chain op_le op_lt h.pe h2.pe h3.pe hm, se_chain (s2_I fun _ _ _ => .bl _) (s2_I fun _ _ _ => .bl _) h.sn h2.sn h3.sn⟩
theorem pt_ch (h : PDx X a ta T) (h2 : PDx X b tb U) (h3 : PDx X c tc W) (hm : lastMarks [.LtE, .Lt] [b, c] = false := by with_unfolding_all rfl) :
    PTx X (.Compare a [.LtE, .Lt] [b, c] pos) (tTest (tChain (rI0 fun i j => .bl (decide (i ≤ j))) (rI0 fun i j => .bl (decide (i < j))) ta tb tc)) (dTst (dChain oLe oLt T U W)) :=
  ⟨pt_chain op_le op_lt h.pe h2.pe h3.pe hm, st_test (se_chain (s2_I fun _ _ _ => .bl _) (s2_I fun _ _ _ => .bl _) h.sn h2.sn h3.sn)⟩
theorem pd_isN {j : Nat} {p2 : Pos} (h : PDx X a ta T) : PDx X (.Compare a [.Is] [.Constant .none j p2] pos) (tIsN ta) (dIsN T) := ⟨pe_cmp (pc_isN h.pe) rfl, se_isN h.sn⟩
theorem pd_notN {j : Nat} {p2 : Pos} (h : PDx X a ta T) : PDx X (.Compare a [.IsNot] [.Constant .none j p2] pos) (tNotN ta) (dNotN T) := ⟨pe_cmp (pc_notN h.pe) rfl, se_notN h.sn⟩
theorem pt_isN {j : Nat} {p2 : Pos} (h : PDx X a ta T) : PTx X (.Compare a [.Is] [.Constant .none j p2] pos) (tB (tIsN ta)) (dTst (dIsN T)) := ⟨pt_cmp (pc_isN h.pe) rfl, st_B (se_isN h.sn)⟩
theorem pt_notN {j : Nat} {p2 : Pos} (h : PDx X a ta T) : PTx X (.Compare a [.IsNot] [.Constant .none j p2] pos) (tB (tNotN ta)) (dTst (dNotN T)) := ⟨pt_cmp (pc_notN h.pe) rfl, st_B (se_notN h.sn)⟩
theorem pd_ix (h : PDx X a ta T) (h2 : PDx X b tb U) (hs : PlainIx b := by exact fun _ _ => rfl) : PDx X (.Subscript a b pos) (tOp (rIxD X.K) ta tb) (dOp oIx T U) := ⟨pe_ix (ix_list.or ix_tup) h.pe h2.pe hs, se_op s2_ix h.sn h2.sn⟩
theorem pd_ixO (i : Nat) {x : Str} {p2 : Pos} (h2 : PDx X b tb U) (hs : PlainIx b := by exact fun _ _ => rfl) (hN : X.N[i]? = some x := by rfl) (hv : Vis X.env.scope x := by first | exact Or.inl rfl | exact Or.inr (Or.inl rfl) | exact Or.inr (Or.inr rfl)) (hd : (x == ("__debug__" : Str)) = false := by decide)
    (hcd : (x == ("__classdict__" : Str)) = false := by decide) : PDx X (.Subscript (.Name x p2) b pos) (tOp (rIxL X.K) (tVar i) tb) (dIxO i U) := ⟨pe_ix ix_list (pe_var hN hv hd hcd) h2.pe hs, se_ixO h2.sn⟩
theorem pd_ixK (i : Nat) {x : Str} {p2 : Pos} (hr : Room k X.A) (h2 : PDx X b tb U) (hs : NoSl b := by exact fun _ _ => rfl) (hN : X.N[i]? = some x := by rfl) (hv : Vis X.env.scope x := by first | exact Or.inl rfl | exact Or.inr (Or.inl rfl) | exact Or.inr (Or.inr rfl)) (hd : (x == ("__debug__" : Str)) = false := by decide)
    (hcd : (x == ("__classdict__" : Str)) = false := by decide) : PDx X (.Subscript (.Name x p2) b pos) (tDGet (tVar i) tb) (dIxK i U) := ⟨pe_dget (hu_of hr) (pe_var hN hv hd hcd) h2.pe hs, se_ixK h2.sn⟩
theorem po_no : POx X none tNoPart doNone := ⟨po_none, so_none⟩
theorem po_so (h : PDx X e te T) : POx X (some e) (tPart te) (doSome T) := ⟨po_some h.pe, so_some h.sn⟩
variable {lo hi : Option Expr} {tl th : TO} {A B : DO} {p2 : Pos}
theorem pd_slT (h : PDx X e te T) (h1 : POx X lo tl A) (h2 : POx X hi th B) : PDx X (.Subscript e (.Slice lo hi none p2) pos) (tSl (rSlA X.K) te tl th) (dSlT T A B) := ⟨pe_slice sl_tupA h.pe h1.po h2.po, se_slT h.sn h1.sn h2.sn⟩
theorem pd_slL (h : PDx X e te T) (h1 : POx X lo tl A) (h2 : POx X hi th B) : PDx X (.Subscript e (.Slice lo hi none p2) pos) (tSl (rSlL X.K) te tl th) (dSlL T A B) := ⟨pe_slice sl_list h.pe h1.po h2.po, se_slL h.sn h1.sn h2.sn⟩
theorem pd_rev {j : Nat} {p1 p3 : Pos} (h : PDx X e te T) : PDx X (.Subscript e (.Slice none none (some (.UnaryOp .USub (.Constant (.int 1) j p1) p2)) p3) pos) (tRevT X.K te) (dRevT T) := ⟨pe_revT h.pe, se_revT h.sn⟩
theorem pd_if (hc : PTx X c t C) (h : PDx X a ta T) (h2 : PDx X b tb U) : PDx X (.IfExp c a b pos) (tIf t ta tb) (dIf C T U) := ⟨pe_ifExp hc.pt h.pe h2.pe, se_if hc.sn h.sn h2.sn⟩
theorem pd_one {op : PySem.BoolOp} (h : PDx X a ta T) : PDx X (.BoolOp op [a] pos) ta T := ⟨pe_one h.pe, h.sn⟩
theorem pd_and (h : PDx X a ta T) (h2 : PDx X (.BoolOp .And (b :: rest) pos) tb U) : PDx X (.BoolOp .And (a :: b :: rest) pos) (tAndV ta tb) (dAndV T U) := ⟨pe_and h.pe h2.pe, se_andV h.sn h2.sn⟩
theorem pd_or (h : PDx X a ta T) (h2 : PDx X (.BoolOp .Or (b :: rest) pos) tb U) : PDx X (.BoolOp .Or (a :: b :: rest) pos) (tOrV ta tb) (dOrV T U) := ⟨pe_or h.pe h2.pe, se_orV h.sn h2.sn⟩
theorem pd_orL (h : PDx X a ta T) (h2 : PDx X (.BoolOp .Or (b :: rest) pos) tb U) : PDx X (.BoolOp .Or (a :: b :: rest) pos) (tOrT X.K ta tb) (dOrL T U) := ⟨pe_orT h.pe h2.pe, se_orL h.sn h2.sn⟩
theorem pd_not (h : PDx X a ta T) : PDx X (.UnaryOp .Not a pos) (tNotV ta) (dNotV T) := ⟨pe_not h.pe, se_notV h.sn⟩
theorem pt_va (h : PDx X e te T) (he : ∀ whole, isTrue e X.env whole = (do let v ← whole; standAt e.pos; holding [v] (truthy v)) := by intro _; rfl) : PTx X e (tB te) (dTst T) := ⟨pt_val h.pe he, st_B h.sn⟩
theorem pt_no (h : PTx X a t C) : PTx X (.UnaryOp .Not a pos) (tNot t) (dNot C) := ⟨pt_not h.pt, st_not h.sn⟩
theorem pw_a1 (h : PTx X a t C) : PWx X (.BoolOp .And [a] pos) t C := ⟨pw_and1 h.pt, h.sn⟩
theorem pw_o1 (h : PTx X a t C) : PWx X (.BoolOp .Or [a] pos) t C := ⟨pw_or1 h.pt, h.sn⟩
theorem pw_an (h : PTx X a t C) (h2 : PWx X (.BoolOp .And (b :: rest) pos) u E) : PWx X (.BoolOp .And (a :: b :: rest) pos) (tAnd t u) (dAnd C E) := ⟨pw_and h.pt h2.pw, st_and h.sn h2.sn⟩
theorem pw_or' (h : PTx X a t C) (h2 : PWx X (.BoolOp .Or (b :: rest) pos) u E) : PWx X (.BoolOp .Or (a :: b :: rest) pos) (tOr t u) (dOr C E) := ⟨pw_or h.pt h2.pw, st_or h.sn h2.sn⟩
theorem pt_w (h : PWx X e t C) : PTx X e t C := ⟨h.pw.pt, h.sn⟩
end
end Dw
set_option maxRecDepth 100000
set_option maxHeartbeats 4000000
/-! Calls, walks, comprehensions, targets, statements of the text. -/
namespace Dw
open PySem PySem.Spec PyProof.Rows L2

/-! ### the module's constants -/
abbrev freeN : List Str := ["isinstance", "int", "bool", "list", "tuple", "str", "len", "range", "enumerate", "zip", "all", "min", "abs", "sorted", "set", "ValueError"]
/-- what the program's top has written, but the defs -/
structure Mc (K : Fg) (mg : Str → Option Value) : Type where
  none_ : Addr
  none_g : mg "NONE" = some (.ref none_)
  none_t : ∀ H, SqT K H none_ [.int 0, .int 1]
  nought : Addr
  nought_g : mg "NOUGHT" = some (.ref nought)
  nought_t : ∀ H, SqT K H nought [.int 0, .int 1]
  hard : ∃ t, mg "HARD" = some (.str "hard" t)
  ease : ∃ t, mg "EASE" = some (.str "ease" t)
  gcd : mg "gcd" = some (.builtin "math.gcd")
  free : ∀ x ∈ freeN, mg x = none
section
variable {X : Cx} {e a b c : Expr} {es rest : List Expr} {te ta tb tc : TE} {t u : TT} {tr : TA} {T U W : DE} {C E : DT} {L M : DA} {pos p : Pos} {k : Nat}
theorem pd_NONE (m : Mc X.K X.mg) (hg : Gl X "NONE" := by rfl) : PDx X (.Name "NONE" pos) (tC (.ref m.none_)) (dC (.tuple [.int 0, .int 1])) :=
  pd_cst m.none_g rfl (fun H => .tup (m.none_t H) (.cons (.int 0) (.cons (.int 1) .nil))) hg
theorem pd_NOUGHT (m : Mc X.K X.mg) (hg : Gl X "NOUGHT" := by rfl) : PDx X (.Name "NOUGHT" pos) (tC (.ref m.nought)) (dC (.tuple [.int 0, .int 1])) :=
  pd_cst m.nought_g rfl (fun H => .tup (m.nought_t H) (.cons (.int 0) (.cons (.int 1) .nil))) hg
theorem pd_HARD (m : Mc X.K X.mg) (hg : Gl X "HARD" := by rfl) : PDx X (.Name "HARD" pos) (tC (.str "hard")) (dC (.str "hard")) :=
  let ⟨t, h⟩ := m.hard
  pd_cst h ⟨t, rfl⟩ (fun H => .str "hard") hg
theorem pd_EASE (m : Mc X.K X.mg) (hg : Gl X "EASE" := by rfl) : PDx X (.Name "EASE" pos) (tC (.str "ease")) (dC (.str "ease")) :=
  let ⟨t, h⟩ := m.ease
  pd_cst h ⟨t, rfl⟩ (fun H => .str "ease") hg

/-! ### built-ins by name -/
theorem mfree (m : Mc X.K X.mg) (x : Str) (h : x ∈ freeN) : X.mg x = none := m.free x h
theorem pd_len (m : Mc X.K X.mg) (h : PAx X [a] tr L) (hg : Gl X "len" := by rfl) (he : starEach [a] X.env = (false, eval a X.env) :: starEach [] X.env := by rfl) (hpl : (backTo pos (starEach [] X.env)).any (·.1) = false := by rfl) :
    PDx X (.Call (.Name "len" p) [a] [] pos) (tCB (rLen X.K) tr) (dCB cLen L) := ⟨pe_callB call_len_seq hg (mfree m _ (by decide)) PySem.boot_len h.pa (by decide) (by decide) he hpl, se_cb sc_len h.sn⟩
theorem pd_tuple (m : Mc X.K X.mg) (h : PAx X [a] tr L) (hg : Gl X "tuple" := by rfl) (he : starEach [a] X.env = (false, eval a X.env) :: starEach [] X.env := by rfl) (hpl : (backTo pos (starEach [] X.env)).any (·.1) = false := by rfl) :
    PDx X (.Call (.Name "tuple" p) [a] [] pos) (tCB (rTuple X.K) tr) (dCB cTuple L) := ⟨pe_callTy call_tuple_of hg (mfree m _ (by decide)) (by decide +kernel) h.pa (by decide) (by decide) he hpl, se_cb sc_tuple h.sn⟩
theorem pd_list (m : Mc X.K X.mg) (h : PAx X [a] tr L) (hg : Gl X "list" := by rfl) (he : starEach [a] X.env = (false, eval a X.env) :: starEach [] X.env := by rfl) (hpl : (backTo pos (starEach [] X.env)).any (·.1) = false := by rfl) :
    PDx X (.Call (.Name "list" p) [a] [] pos) (tCB (rList X.K) tr) (dCB cList L) := ⟨pe_callTy call_list_of hg (mfree m _ (by decide)) (by decide +kernel) h.pa (by decide) (by decide) he hpl, se_cb sc_list h.sn⟩
theorem pd_abs (m : Mc X.K X.mg) (h : PAx X [a] tr L) (hg : Gl X "abs" := by rfl) (he : starEach [a] X.env = (false, eval a X.env) :: starEach [] X.env := by rfl) (hpl : (backTo pos (starEach [] X.env)).any (·.1) = false := by rfl) :
    PDx X (.Call (.Name "abs" p) [a] [] pos) (tCB rAbs tr) (dCB cAbs L) := ⟨pe_callB call_abs hg (mfree m _ (by decide)) (by decide +kernel) h.pa (by decide) (by decide) he hpl, se_cb sc_abs h.sn⟩
theorem pd_intc (m : Mc X.K X.mg) (h : PAx X [a] tr L) (hg : Gl X "int" := by rfl) (he : starEach [a] X.env = (false, eval a X.env) :: starEach [] X.env := by rfl) (hpl : (backTo pos (starEach [] X.env)).any (·.1) = false := by rfl) :
    PDx X (.Call (.Name "int" p) [a] [] pos) (tCB rInt tr) (dCB cInt L) := ⟨pe_callTy call_int1 hg (mfree m _ (by decide)) (by decide +kernel) h.pa (by decide) (by decide) he hpl, se_cb sc_int h.sn⟩
theorem pd_all (m : Mc X.K X.mg) (h : PAx X [a] tr L) (hc : X.calm = true := by rfl) (hg : Gl X "all" := by rfl) (he : starEach [a] X.env = (false, eval a X.env) :: starEach [] X.env := by rfl) (hpl : (backTo pos (starEach [] X.env)).any (·.1) = false := by rfl) :
    PDx X (.Call (.Name "all" p) [a] [] pos) (tCB (rAll X.K) tr) (dCB cAll L) := ⟨pe_callB (cr_all hc) hg (mfree m _ (by decide)) (by decide +kernel) h.pa (by decide) (by decide) he hpl, se_cb sc_all h.sn⟩
theorem pd_min (m : Mc X.K X.mg) (hr : Room k X.A) (h : PAx X [a] tr L) (hc : X.calm = true := by rfl) (hg : Gl X "min" := by rfl) (he : starEach [a] X.env = (false, eval a X.env) :: starEach [] X.env := by rfl) (hpl : (backTo pos (starEach [] X.env)).any (·.1) = false := by rfl) :
    PDx X (.Call (.Name "min" p) [a] [] pos) (tCB (rMinD X.K) tr) (dCB cMin L) := ⟨pe_callB (cr_minD hc (u100 hr)) hg (mfree m _ (by decide)) (by decide +kernel) h.pa (by decide) (by decide) he hpl, se_cb sc_min h.sn⟩
theorem pd_gcd (m : Mc X.K X.mg) (h : PAx X [a, b] tr L) (hg : Gl X "gcd" := by rfl) (he : starEach [a, b] X.env = (false, eval a X.env) :: starEach [b] X.env := by rfl) (hpl : (backTo pos (starEach [b] X.env)).any (·.1) = false := by rfl) :
    PDx X (.Call (.Name "gcd" p) [a, b] [] pos) (tCB rGcd tr) (dCB cGcd L) := ⟨pe_callBfun cr_gcd hg m.gcd h.pa (by decide) he hpl, se_cb sc_gcd h.sn⟩
theorem pd_lenK (i : Nat) {x : Str} {p2 : Pos} (m : Mc X.K X.mg) (hN : X.N[i]? = some x := by rfl) (hv : Vis X.env.scope x := by first | exact Or.inl rfl | exact Or.inr (Or.inl rfl) | exact Or.inr (Or.inr rfl)) (hd : (x == ("__debug__" : Str)) = false := by decide)
    (hcd : (x == ("__classdict__" : Str)) = false := by decide) (hg : Gl X "len" := by rfl) (he : starEach [.Name x p2] X.env = (false, eval (.Name x p2) X.env) :: starEach [] X.env := by rfl) (hpl : (backTo pos (starEach [] X.env)).any (·.1) = false := by rfl) :
    PDx X (.Call (.Name "len" p) [.Name x p2] [] pos) (tCB rLenD (tCons (tVar i) tNil)) (dLenK i) := ⟨pe_callB call_lenD hg (mfree m _ (by decide)) PySem.boot_len (pa_cons (pe_var hN hv hd hcd) pa_nil he) (by decide) (by decide) he hpl, se_lenK⟩
/-- isinstance(x, A); isinstance(x, (A, B)) -/
theorem pd_isi {A : String} {p2 : Pos} (m : Mc X.K X.mg) (h : PDx X a ta T) (hA : A ∈ (["bool", "int", "str", "list", "tuple"] : List String) := by decide) (hf : Str.ofString A ∈ freeN := by decide) (hb : bootBuiltins (Str.ofString A) = some (.type A) := by decide +kernel)
    (hn : Str.ofString A ≠ "__name__" := by decide) (hdb : (Str.ofString A == ("__debug__" : Str)) = false := by decide)
    (hg : Gl X "isinstance" := by rfl) (hg2 : Gl X (Str.ofString A) := by rfl) (he : starEach [a, .Name (Str.ofString A) p2] X.env = (false, eval a X.env) :: starEach [.Name (Str.ofString A) p2] X.env := by rfl)
    (he2 : starEach [.Name (Str.ofString A) p2] X.env = (false, eval (.Name (Str.ofString A) p2) X.env) :: starEach [] X.env := by rfl) (hpl : (backTo pos (starEach [.Name (Str.ofString A) p2] X.env)).any (·.1) = false := by rfl) :
    PDx X (.Call (.Name "isinstance" p) [a, .Name (Str.ofString A) p2] [] pos) (tCB (rIsi X.K) (tCons ta (tCons (tC (.ty A)) tNil))) (dIsi A T) :=
  ⟨pe_callB call_isi hg (mfree m _ (by decide)) (by decide +kernel) (pa_cons h.pe (pa_cons (pe_bltn hg2 (mfree m _ hf) hb rfl hn hdb) pa_nil he2) he) (by decide) (by decide) he hpl, se_isi hA h.sn⟩
theorem pd_isi2 {A B : String} {p2 p3 p4 : Pos} {kk : Nat} (m : Mc X.K X.mg) (h : PDx X a ta T) (hA : A ∈ (["bool", "int", "str", "list", "tuple"] : List String) := by decide) (hB : B ∈ (["bool", "int", "str", "list", "tuple"] : List String) := by decide)
    (hf : Str.ofString A ∈ freeN := by decide) (hb : bootBuiltins (Str.ofString A) = some (.type A) := by decide +kernel) (hf2 : Str.ofString B ∈ freeN := by decide) (hb2 : bootBuiltins (Str.ofString B) = some (.type B) := by decide +kernel)
    (hn : Str.ofString A ≠ "__name__" := by decide) (hdb : (Str.ofString A == ("__debug__" : Str)) = false := by decide) (hn2 : Str.ofString B ≠ "__name__" := by decide) (hdb2 : (Str.ofString B == ("__debug__" : Str)) = false := by decide)
    (hg : Gl X "isinstance" := by rfl) (hg2 : Gl X (Str.ofString A) := by rfl) (hg3 : Gl X (Str.ofString B) := by rfl)
    (he : starEach [a, .Tuple [.Name (Str.ofString A) p2, .Name (Str.ofString B) p3] kk p4] X.env = (false, eval a X.env) :: starEach [.Tuple [.Name (Str.ofString A) p2, .Name (Str.ofString B) p3] kk p4] X.env := by rfl)
    (he2 : starEach [.Tuple [.Name (Str.ofString A) p2, .Name (Str.ofString B) p3] kk p4] X.env = (false, eval (.Tuple [.Name (Str.ofString A) p2, .Name (Str.ofString B) p3] kk p4) X.env) :: starEach [] X.env := by rfl)
    (he3 : starEach [.Name (Str.ofString A) p2, .Name (Str.ofString B) p3] X.env = (false, eval (.Name (Str.ofString A) p2) X.env) :: starEach [.Name (Str.ofString B) p3] X.env := by rfl)
    (he4 : starEach [.Name (Str.ofString B) p3] X.env = (false, eval (.Name (Str.ofString B) p3) X.env) :: starEach [] X.env := by rfl)
    (hpl : (backTo pos (starEach [.Tuple [.Name (Str.ofString A) p2, .Name (Str.ofString B) p3] kk p4] X.env)).any (·.1) = false := by rfl) :
    PDx X (.Call (.Name "isinstance" p) [a, .Tuple [.Name (Str.ofString A) p2, .Name (Str.ofString B) p3] kk p4] [] pos) (tCB (rIsiT X.K) (tCons ta (tCons (tTup (tCons (tC (.ty A)) (tCons (tC (.ty B)) tNil))) tNil))) (dIsi2 A B T) :=
  ⟨pe_callB call_isiT hg (mfree m _ (by decide)) (by decide +kernel) (pa_cons h.pe (pa_cons (pe_tup (pa_cons (pe_bltn hg2 (mfree m _ hf) hb rfl hn hdb) (pa_cons (pe_bltn hg3 (mfree m _ hf2) hb2 rfl hn2 hdb2) pa_nil he4) he3)) pa_nil he2) he) (by decide) (by decide) he hpl,
    se_isi2 hA hB h.sn⟩

/-! ### defs -/
theorem pd_call {x : Str} {ps : List Str} {ρ : Ct} (G : OkD X.prog X.w X.K X.mg X.base CX0 k x ps (spD X.K ρ)) (hr : Room k X.A) (h : PAx X (e :: es) tr L) (hg : Gl X x := by rfl) (hdb : (x == ("__debug__" : Str)) = false := by decide)
    (he : starEach (e :: es) X.env = (false, eval e X.env) :: starEach es X.env := by rfl) (hpl : (backTo pos (starEach es X.env)).any (·.1) = false := by rfl) :
    PDx X (.Call (.Name x p) (e :: es) [] pos) (tCall (spD X.K ρ) [] E0 tr) (dCall ρ L) := by
  obtain ⟨f, fd, hm, hk, hb, F⟩ := G.ex
  exact ⟨pe_call F hr hg hm hk hb .nil pass0 h.pa hdb he hpl, se_call h.sn⟩
theorem pd_call0 {x : Str} {ps : List Str} {ρ : Ct} (G : OkD X.prog X.w X.K X.mg X.base CX0 k x ps (spD X.K ρ)) (hr : Room k X.A) (hg : Gl X x := by rfl) (hdb : (x == ("__debug__" : Str)) = false := by decide) :
    PDx X (.Call (.Name x p) [] [] pos) (tCall (spD X.K ρ) [] E0 tNil) (dCall ρ dNil) := by
  obtain ⟨f, fd, hm, hk, hb, F⟩ := G.ex
  exact ⟨pe_call0 F hr hg hm hk hb .nil pass0 hdb, se_call sa_nil⟩

/-! ### what is walked -/
variable {tg : Expr}
theorem px_seq (h : PDx X e te T) : PIx X tg e (iSeq X.K te) (dItS T) := ⟨pi_seq h.pe, si_seq h.sn⟩
theorem px_range (m : Mc X.K X.mg) (h : PAx X [a] tr L) (hg : Gl X "range" := by rfl) (hs : starEach [a] X.env = [(false, eval a X.env)] := by rfl) : PIx X tg (.Call (.Name "range" p) [a] [] pos) (iRng1 tr) (dItR L) :=
  ⟨pi_range1 hg (mfree m _ (by decide)) h.pa hs, si_range h.sn⟩
variable {elts : List Expr} {kk : Nat} {tpos : Pos}
theorem px_enum (m : Mc X.K X.mg) (h : PAx X [a] tr L) (hg : Gl X "enumerate" := by rfl) (hs : starEach [a] X.env = [(false, eval a X.env)] := by rfl) : PIx X (.Tuple elts kk tpos) (.Call (.Name "enumerate" p) [a] [] pos) (iEnumS X.K tr) (dItE L) :=
  ⟨pi_enumS hg (mfree m _ (by decide)) h.pa hs, si_enum h.sn⟩
theorem px_zip (m : Mc X.K X.mg) (h : PAx X [a, b] tr L) (hg : Gl X "zip" := by rfl) (hs : starEach [a, b] X.env = (false, eval a X.env) :: starEach [b] X.env := by rfl) (hpl : (backTo pos (starEach [b] X.env)).any (·.1) = false := by rfl) :
    PIx X (.Tuple elts kk tpos) (.Call (.Name "zip" p) [a, b] [] pos) (RZ.iZipA X.K tr) (dItZ L) := ⟨RZ.pi_zipA hg (mfree m _ (by decide)) h.pa hs hpl, si_zip h.sn⟩

/-! ### targets -/
theorem gx_name {i : Nat} {x : Str} (hN : X.N.Nodup) (hi : X.N[i]? = some x := by rfl) (hx : Loc X.env.scope x := by first | exact Or.inl rfl | exact Or.inr rfl) (hf : X.fn x = true ∨ X.env.scope.names.lookup x = some .local := by first | exact Or.inl rfl | exact Or.inr rfl) :
    PGx X (.Name x pos) (gName i) (dgN i) [i] := ⟨pg_name hN hi hx hf, sg_name⟩
variable {g : TG} {gs : TGs} {Γ : DG} {Δ : DGs} {ws vs : List Nat}
theorem gx_nil : PGsx X [] gNil dgNil [] := ⟨pgs_nil, sgs_nil⟩
theorem gx_cons (h : PGx X e g Γ ws) (h2 : PGsx X es gs Δ vs) (hs : (assignEach (e :: es) X.env).map (·.2) = assign e X.env :: (assignEach es X.env).map (·.2) := by rfl) : PGsx X (e :: es) (gCons g gs) (dgCons Γ Δ) (ws ++ vs) := ⟨pgs_cons h.pg h2.pg hs, sgs_cons h.sn h2.sn⟩
theorem gx_tup {n : Nat} (h : PGsx X es gs Δ ws) (hn : (assignEach es X.env).length = n := by rfl) (hst : (assignEach es X.env).findIdx? (·.1) = none := by rfl) (hc : X.calm = true := by rfl) : PGx X (.Tuple es kk pos) (gTup X.K n gs) (dgTup n Δ) ws := ⟨pg_tup hc h.pg hn hst, sg_tup h.sn⟩
theorem gx_setL (i : Nat) {x : Str} {p2 : Pos} (h2 : PDx X b tb U) (hN : X.N[i]? = some x := by rfl) (hv : Vis X.env.scope x := by first | exact Or.inl rfl | exact Or.inr (Or.inl rfl) | exact Or.inr (Or.inr rfl)) (hd : (x == ("__debug__" : Str)) = false := by decide)
    (hcd : (x == ("__classdict__" : Str)) = false := by decide)
    (ha : ∀ v, assign (.Subscript (.Name x p2) b pos) X.env v = (do
      let ov ← holding [v] (eval (.Name x p2) X.env)
      let iv ← holding [v, ov] (eval b X.env)
      standAt pos
      holding [v, ov, iv] (setItem ov iv v)
      release [v, ov, iv] []) := by intro _; rfl) : PGx X (.Subscript (.Name x p2) b pos) (gSub (tVar i) tb rSetL) (dgL i U) [] := ⟨pg_sub (pe_var hN hv hd hcd) h2.pe set_list ha, sg_setL h2.sn⟩
theorem gx_setK (i : Nat) {x : Str} {p2 : Pos} (hr : Room k X.A) (h2 : PDx X b tb U) (hN : X.N[i]? = some x := by rfl) (hv : Vis X.env.scope x := by first | exact Or.inl rfl | exact Or.inr (Or.inl rfl) | exact Or.inr (Or.inr rfl)) (hd : (x == ("__debug__" : Str)) = false := by decide)
    (hcd : (x == ("__classdict__" : Str)) = false := by decide)
    (ha : ∀ v, assign (.Subscript (.Name x p2) b pos) X.env v = (do
      let ov ← holding [v] (eval (.Name x p2) X.env)
      let iv ← holding [v, ov] (eval b X.env)
      standAt pos
      holding [v, ov, iv] (setItem ov iv v)
      release [v, ov, iv] []) := by intro _; rfl) : PGx X (.Subscript (.Name x p2) b pos) (gSub (tVar i) tb rSetD) (dgK i U) [] := ⟨pg_sub (pe_var hN hv hd hcd) h2.pe (set_dict (hu_of hr)) ha, sg_setK h2.sn⟩

/-! ### comprehensions -/
variable {elt iter : Expr} {ifs : List Expr} {scope : Scope} {own : List (Str × Nat)} {wi : TI} {I : DA} {tt : TT}
structure PTsx (X : Cx) (ifs : List Expr) (tt : TT) (T : DT) : Prop where
  pt : PTs X ifs tt
  sn : ST X.K tt T
theorem pt_nil : PTsx X [] tYes dYes := ⟨pts_nil, st_yes⟩
theorem pt_one (h : PTx X c t C) : PTsx X [c] t C := ⟨pts_one h.pt, h.sn⟩
theorem pn_lc0 (hN : X.N.Nodup) (hi : PIx X tg iter wi I) (ok : BlkOk X.N X.env.scope scope own)
    (hg : ∀ (s : Shared) (H : Hp) (C : Addr) (cl : List (Str × Addr)) (fp : List Addr), PGx (X.blk s H scope (compEnvC scope cl C X.env) fp) tg g Γ ws)
    (ht : ∀ (s : Shared) (H : Hp) (C' : Addr) (cl : List (Str × Addr)) (fp : List Addr), PTsx (X.blk s H scope (compEnvC scope cl C' X.env) fp) ifs tt C)
    (he : ∀ (s : Shared) (H : Hp) (C : Addr) (cl : List (Str × Addr)) (fp : List Addr), PDx (X.blk s H scope (compEnvC scope cl C X.env) fp) elt te T)
    (hw : (ws.all fun j => (own.map (·.2)).contains j) = true := by rfl) (hc : X.calm = true := by rfl) (hs : ∀ x, foldedSetIterable iter X.env x = pure x := by intro _; rfl) :
    PNx X (.ListComp elt [⟨tg, iter, ifs, 0⟩] scope pos) (tLc wi g tt te (own.map (·.2))) (dLc I Γ C T (own.map (·.2))) :=
  ⟨pe_lc hc hN hi.pi ok (fun s H C cl fp => (hg s H C cl fp).pg) (fun s H C cl fp => (ht s H C cl fp).pt) (fun s H C cl fp => (he s H C cl fp).pe) hs,
    sn_lc hi.sn (hg X.s_0 X.H_0 0 [] []).sn (fun j hj => by
      have z := List.all_eq_true.mp hw j hj
      simpa using z) (ht X.s_0 X.H_0 0 [] []).sn (he X.s_0 X.H_0 0 [] []).sn⟩

/-- .. where the readings may tell the def's state, as the rules' K does -/
theorem pn_lc {gF : Shared → Hp → Addr → List (Str × Addr) → List Addr → TG} {tF : Shared → Hp → Addr → List (Str × Addr) → List Addr → TT} {eF : Shared → Hp → Addr → List (Str × Addr) → List Addr → TE} (hN : X.N.Nodup) (hi : PIx X tg iter wi I) (ok : BlkOk X.N X.env.scope scope own)
    (hg : ∀ (s : Shared) (H : Hp) (C : Addr) (cl : List (Str × Addr)) (fp : List Addr), PGx (X.blk s H scope (compEnvC scope cl C X.env) fp) tg (gF s H C cl fp) Γ ws)
    (ht : ∀ (s : Shared) (H : Hp) (C' : Addr) (cl : List (Str × Addr)) (fp : List Addr), PTsx (X.blk s H scope (compEnvC scope cl C' X.env) fp) ifs (tF s H C' cl fp) C)
    (he : ∀ (s : Shared) (H : Hp) (C : Addr) (cl : List (Str × Addr)) (fp : List Addr), PDx (X.blk s H scope (compEnvC scope cl C X.env) fp) elt (eF s H C cl fp) T)
    (hw : (ws.all fun j => (own.map (·.2)).contains j) = true := by rfl) (hc : X.calm = true := by rfl) (hs : ∀ x, foldedSetIterable iter X.env x = pure x := by intro _; rfl)
    (eg : ∀ s H C cl fp, gF s H C cl fp = gF X.s_0 X.H_0 0 [] [] := by intros; rfl) (et : ∀ s H C cl fp, tF s H C cl fp = tF X.s_0 X.H_0 0 [] [] := by intros; rfl) (ee : ∀ s H C cl fp, eF s H C cl fp = eF X.s_0 X.H_0 0 [] [] := by intros; rfl) :
    PNx X (.ListComp elt [⟨tg, iter, ifs, 0⟩] scope pos) (tLc wi (gF X.s_0 X.H_0 0 [] []) (tF X.s_0 X.H_0 0 [] []) (eF X.s_0 X.H_0 0 [] []) (own.map (·.2))) (dLc I Γ C T (own.map (·.2))) :=
  pn_lc0 hN hi ok (fun s H C cl fp => eg s H C cl fp ▸ hg s H C cl fp) (fun s H C cl fp => et s H C cl fp ▸ ht s H C cl fp) (fun s H C cl fp => ee s H C cl fp ▸ he s H C cl fp) hw hc hs

/-! ### statements -/
variable {s : Stmt} {b1 b2 : List Stmt} {ts tu : TS} {A B : DS}
theorem b_nil : PBx X [] tNext dNext := ⟨pss_nil, ss_next⟩
theorem b_cons (h : PSx X s ts A) (h2 : PBx X b1 tu B) : PBx X (s :: b1) (tSeq ts tu) (dSeq A B) := ⟨pss_cons h.ps h2.ps, ss_seq h.sn h2.sn⟩
theorem b_one (h : PSx X s ts A) : PBx X [s] ts A := ⟨pss_one h.ps, h.sn⟩
theorem b_never : PBx X b1 tNever dNever := ⟨pss_never, ss_never⟩
theorem s_never : PSx X s tNever dNever := ⟨ps_never, ss_never⟩
theorem s_ret (h : PDx X e te T) : PSx X (.Return (some e) pos) (tRet te) (dRet T) := ⟨ps_ret h.pe, ss_ret h.sn⟩
theorem s_cont : PSx X (.Continue pos) tCont dCont := ⟨ps_continue, ss_cont⟩
theorem s_if (hc : PTx X c t C) (h : PBx X b1 ts A) (h2 : PBx X b2 tu B) : PSx X (.If c b1 b2 pos) (tIfS t ts tu) (dIfS C A B) := ⟨ps_if hc.pt h.ps h2.ps, ss_if hc.sn h.sn h2.sn⟩
theorem s_set {i : Nat} {x : Str} {p2 : Pos} (hN : X.N.Nodup) (h : PDx X e te T) (hi : X.N[i]? = some x := by rfl) (hx : Loc X.env.scope x := by first | exact Or.inl rfl | exact Or.inr rfl) (hs : swapsWith e (some (.Name x p2)) pos.line X.env = pure false := by rfl)
    (hf : X.fn x = true ∨ X.env.scope.names.lookup x = some .local := by first | exact Or.inl rfl | exact Or.inr rfl) : PSx X (.Assign [.Name x p2] e pos) (tAsg te (gName i)) (dAsg T (dgN i)) := ⟨ps_set hN hi hx h.pe hs hf, ss_asg h.sn sg_name⟩
theorem s_setN {i : Nat} {x : Str} {p2 : Pos} (hN : X.N.Nodup) (h : PNx X e te L) (hi : X.N[i]? = some x := by rfl) (hx : Loc X.env.scope x := by first | exact Or.inl rfl | exact Or.inr rfl) (hs : swapsWith e (some (.Name x p2)) pos.line X.env = pure false := by rfl)
    (hf : X.fn x = true ∨ X.env.scope.names.lookup x = some .local := by first | exact Or.inl rfl | exact Or.inr rfl) : PSx X (.Assign [.Name x p2] e pos) (tAsg te (gName i)) (dAsgN L i) := ⟨ps_set hN hi hx h.pe hs hf, ss_asgN h.sn⟩
theorem s_asg {tgt : Expr} (h : PDx X e te T) (hg : PGx X tgt g Γ ws) (hs : swapsWithSole [tgt] e pos.line X.env = pure false := by rfl) (hw : swappedStores [tgt] e X.env = pure none := by rfl)
    (h1 : (assignEach [tgt] X.env).map (·.2) = [assign tgt X.env] := by rfl) : PSx X (.Assign [tgt] e pos) (tAsg te g) (dAsg T Γ) := ⟨ps_asg h.pe hg.pg hs hw h1, ss_asg h.sn hg.sn⟩
/-- y = [.. for ..] on one line -/
theorem s_lc0 {i : Nat} {y : Str} {py spos : Pos} (hN : X.N.Nodup) (hi : PIx X tg iter wi I) (ok : BlkOk X.N X.env.scope scope own)
    (hg : ∀ (s : Shared) (H : Hp) (C : Addr) (cl : List (Str × Addr)) (fp : List Addr), PGx (X.blk s H scope (compEnvC scope cl C X.env) fp) tg g Γ ws)
    (ht : ∀ (s : Shared) (H : Hp) (C' : Addr) (cl : List (Str × Addr)) (fp : List Addr), PTsx (X.blk s H scope (compEnvC scope cl C' X.env) fp) ifs tt C)
    (he : ∀ (s : Shared) (H : Hp) (C : Addr) (cl : List (Str × Addr)) (fp : List Addr), PDx (X.blk s H scope (compEnvC scope cl C X.env) fp) elt te T)
    (hsw : swapsWith (.ListComp elt [⟨tg, iter, ifs, 0⟩] scope pos) (some (.Name y py)) spos.line X.env = pure true)
    (hy : X.N[i]? = some y := by rfl) (hyl : X.env.scope.names.lookup y = some .local := by rfl)
    (hw : (ws.all fun j => (own.map (·.2)).contains j) = true := by rfl) (hc : X.calm = true := by rfl) (hs : ∀ x, foldedSetIterable iter X.env x = pure x := by intro _; rfl) :
    PSx X (.Assign [.Name y py] (.ListComp elt [⟨tg, iter, ifs, 0⟩] scope pos) spos) (tAsg (tLc wi g tt te (own.map (·.2))) (gName i)) (dAsg (dNew (dLc I Γ C T (own.map (·.2)))) (dgN i)) :=
  ⟨ps_setLc hc hN hy hyl hsw hi.pi ok (fun s H C cl fp => (hg s H C cl fp).pg) (fun s H C cl fp => (ht s H C cl fp).pt) (fun s H C cl fp => (he s H C cl fp).pe) hs,
    ss_asg (se_new (pn_lc0 (pos := pos) hN hi ok hg ht he hw hc hs).sn) sg_name⟩
theorem s_lc {gF : Shared → Hp → Addr → List (Str × Addr) → List Addr → TG} {tF : Shared → Hp → Addr → List (Str × Addr) → List Addr → TT} {eF : Shared → Hp → Addr → List (Str × Addr) → List Addr → TE} {i : Nat} {y : Str} {py spos : Pos} (hN : X.N.Nodup) (hi : PIx X tg iter wi I) (ok : BlkOk X.N X.env.scope scope own)
    (hg : ∀ (s : Shared) (H : Hp) (C : Addr) (cl : List (Str × Addr)) (fp : List Addr), PGx (X.blk s H scope (compEnvC scope cl C X.env) fp) tg (gF s H C cl fp) Γ ws)
    (ht : ∀ (s : Shared) (H : Hp) (C' : Addr) (cl : List (Str × Addr)) (fp : List Addr), PTsx (X.blk s H scope (compEnvC scope cl C' X.env) fp) ifs (tF s H C' cl fp) C)
    (he : ∀ (s : Shared) (H : Hp) (C : Addr) (cl : List (Str × Addr)) (fp : List Addr), PDx (X.blk s H scope (compEnvC scope cl C X.env) fp) elt (eF s H C cl fp) T)
    (hsw : swapsWith (.ListComp elt [⟨tg, iter, ifs, 0⟩] scope pos) (some (.Name y py)) spos.line X.env = pure true)
    (hy : X.N[i]? = some y := by rfl) (hyl : X.env.scope.names.lookup y = some .local := by rfl)
    (hw : (ws.all fun j => (own.map (·.2)).contains j) = true := by rfl) (hc : X.calm = true := by rfl) (hs : ∀ x, foldedSetIterable iter X.env x = pure x := by intro _; rfl)
    (eg : ∀ s H C cl fp, gF s H C cl fp = gF X.s_0 X.H_0 0 [] [] := by intros; rfl) (et : ∀ s H C cl fp, tF s H C cl fp = tF X.s_0 X.H_0 0 [] [] := by intros; rfl) (ee : ∀ s H C cl fp, eF s H C cl fp = eF X.s_0 X.H_0 0 [] [] := by intros; rfl) :
    PSx X (.Assign [.Name y py] (.ListComp elt [⟨tg, iter, ifs, 0⟩] scope pos) spos) (tAsg (tLc wi (gF X.s_0 X.H_0 0 [] []) (tF X.s_0 X.H_0 0 [] []) (eF X.s_0 X.H_0 0 [] []) (own.map (·.2))) (gName i)) (dAsg (dNew (dLc I Γ C T (own.map (·.2)))) (dgN i)) :=
  s_lc0 hN hi ok (fun s H C cl fp => eg s H C cl fp ▸ hg s H C cl fp) (fun s H C cl fp => et s H C cl fp ▸ ht s H C cl fp) (fun s H C cl fp => ee s H C cl fp ▸ he s H C cl fp) hsw hy hyl hw hc hs
theorem s_par {i j : Nat} {x y : Str} {px py pt pt2 : Pos} {kt k2 : Nat} (hN : X.N.Nodup) (h : PDx X a ta T) (h2 : PDx X b tb U) (hi : X.N[i]? = some x := by rfl) (hj : X.N[j]? = some y := by rfl) (hij : i ≠ j := by decide)
    (hx : X.env.scope.names.lookup x = some .local := by rfl) (hy : X.env.scope.names.lookup y = some .local := by rfl) (hw : swappedStores [.Tuple [.Name x px, .Name y py] kt pt] (.Tuple [a, b] k2 pt2) X.env = pure (some [x, y]) := by rfl)
    (hs : swapsWithSole [.Tuple [.Name x px, .Name y py] kt pt] (.Tuple [a, b] k2 pt2) pos.line X.env = pure false := by rfl) (hc : X.calm = true := by rfl)
    (he : starEach [a, b] X.env = (false, eval a X.env) :: starEach [b] X.env := by rfl) (he2 : starEach [b] X.env = (false, eval b X.env) :: starEach [] X.env := by rfl) :
    PSx X (.Assign [.Tuple [.Name x px, .Name y py] kt pt] (.Tuple [a, b] k2 pt2) pos) (tPar i j (tCons ta (tCons tb tNil))) (dPar i j T U) :=
  ⟨ps_par hc hN hi hj hij hx hy (pa_cons h.pe (pa_cons h2.pe pa_nil he2) he) hw hs, ss_par h.sn h2.sn⟩
theorem s_parN {i j : Nat} {x y : Str} {px py pt pt2 : Pos} {kt k2 : Nat} (hN : X.N.Nodup) (h : PNx X a ta L) (h2 : PDx X b tb U) (hi : X.N[i]? = some x := by rfl) (hj : X.N[j]? = some y := by rfl) (hij : i ≠ j := by decide)
    (hx : X.env.scope.names.lookup x = some .local := by rfl) (hy : X.env.scope.names.lookup y = some .local := by rfl) (hw : swappedStores [.Tuple [.Name x px, .Name y py] kt pt] (.Tuple [a, b] k2 pt2) X.env = pure (some [x, y]) := by rfl)
    (hs : swapsWithSole [.Tuple [.Name x px, .Name y py] kt pt] (.Tuple [a, b] k2 pt2) pos.line X.env = pure false := by rfl) (hc : X.calm = true := by rfl)
    (he : starEach [a, b] X.env = (false, eval a X.env) :: starEach [b] X.env := by rfl) (he2 : starEach [b] X.env = (false, eval b X.env) :: starEach [] X.env := by rfl) :
    PSx X (.Assign [.Tuple [.Name x px, .Name y py] kt pt] (.Tuple [a, b] k2 pt2) pos) (tPar i j (tCons ta (tCons tb tNil))) (dParN i j L U) :=
  ⟨ps_par hc hN hi hj hij hx hy (pa_cons h.pe (pa_cons h2.pe pa_nil he2) he) hw hs, ss_parN h.sn h2.sn⟩
theorem s_parM {i j : Nat} {x y : Str} {px py pt pt2 : Pos} {kt k2 : Nat} (hN : X.N.Nodup) (h : PDx X a ta T) (h2 : PNx X b tb L) (hi : X.N[i]? = some x := by rfl) (hj : X.N[j]? = some y := by rfl) (hij : i ≠ j := by decide)
    (hx : X.env.scope.names.lookup x = some .local := by rfl) (hy : X.env.scope.names.lookup y = some .local := by rfl) (hw : swappedStores [.Tuple [.Name x px, .Name y py] kt pt] (.Tuple [a, b] k2 pt2) X.env = pure (some [x, y]) := by rfl)
    (hs : swapsWithSole [.Tuple [.Name x px, .Name y py] kt pt] (.Tuple [a, b] k2 pt2) pos.line X.env = pure false := by rfl) (hc : X.calm = true := by rfl)
    (he : starEach [a, b] X.env = (false, eval a X.env) :: starEach [b] X.env := by rfl) (he2 : starEach [b] X.env = (false, eval b X.env) :: starEach [] X.env := by rfl) :
    PSx X (.Assign [.Tuple [.Name x px, .Name y py] kt pt] (.Tuple [a, b] k2 pt2) pos) (tPar i j (tCons ta (tCons tb tNil))) (dParM i j T L) :=
  ⟨ps_par hc hN hi hj hij hx hy (pa_cons h.pe (pa_cons h2.pe pa_nil he2) he) hw hs, ss_parM h.sn h2.sn⟩
theorem s_for (hp : PassesOwn (model X.prog X.w) X.A X.env X.xe) (hi : PIx X tg iter wi I) (hg : PGx X tg g Γ ws) (h : PBx X b1 ts A) (hc : X.calm = true := by rfl) (hs : ∀ x, foldedSetIterable iter X.env x = pure x := by intro _; rfl) : PSx X (.For tg iter b1 [] pos) (tFor wi g ts) (dFor I Γ A) := ⟨ps_for hp hc hi.pi hg.pg h.ps hs, ss_for hi.sn hg.sn h.sn⟩
theorem s_while (hp : PassesOwn (model X.prog X.w) X.A X.env X.xe) (hc : PTx X c t C) (h : PBx X b1 ts A) : PSx X (.While c b1 [] pos) (tWhile t ts) (dWhile C A) := ⟨ps_while hp hc.pt h.ps, ss_while hc.sn h.sn⟩
/-- xs.append(e) -/
theorem s_app (i : Nat) {x : Str} {p1 p2 p3 : Pos} (h : PDx X e te T) (hN : X.N[i]? = some x := by rfl) (hv : Vis X.env.scope x := by first | exact Or.inl rfl | exact Or.inr (Or.inl rfl) | exact Or.inr (Or.inr rfl)) (hd : (x == ("__debug__" : Str)) = false := by decide)
    (hcd : (x == ("__classdict__" : Str)) = false := by decide) (hbase : attributeBase (.Name x p1) "append" X.env (eval (.Name x p1) X.env) = eval (.Name x p1) X.env := by rfl)
    (hfew : ((backTo p3 (starEach [e] X.env)).all (fun x => !x.1) && (backToKw p3 (keywordEach [] X.env)).all (fun x => x.1.isSome)
      && decide ([e].length + ([] : List Keyword).length + (if ([] : List Keyword).isEmpty then 0 else 1) < 30)) = true := by rfl)
    (hline : (p2.endLine == p3.line) = true := by rfl) (he : starEach [e] X.env = (false, eval e X.env) :: starEach [] X.env := by rfl) (hpl : (backTo p3 (starEach [] X.env)).any (·.1) = false := by rfl)
    (hs : swapsWith (.Call (.Attribute (.Name x p1) "append" p2) [e] [] p3) none pos.line X.env = pure false := by rfl) :
    PSx X (.Expr (.Call (.Attribute (.Name x p1) "append" p2) [e] [] p3) pos) (tDrop (tBM X.K "list" rAppend (tVar i) (tCons te tNil))) (dApp i T) :=
  ⟨ps_expr (pe_bm PySem.F.plainAttrs_list PySem.F.slot_list_append PySem.F.type_list_append mt_append (pe_var hN hv hd hcd) (pa_cons h.pe pa_nil he) hbase hfew hline he hpl) hs, ss_app h.sn⟩
end
end Dw
set_option maxRecDepth 100000
set_option maxHeartbeats 4000000
/-! x, y, z = ({}, {}, None). -/
namespace Dw
open PySem PySem.Spec PyProof.Rows L2

def dPar3K (i j l : Nat) : DS := fun D S => D.nx (((S.setO i (.dct [])).setO j (.dct [])).setD l .none)
theorem ss_par3K {K : Fg} {i j l : Nat} : SS K (tPar3 i j l (tCons tDNewK (tCons tDNewK (tCons (tC .non) tNil)))) (dPar3K i j l) := fun G H0 H σ S D D' R p k => by
  intro a ha b hb
  obtain ⟨R1, N1⟩ := R.allocN (o := .dK []) ha
  obtain ⟨R2, N2⟩ := R1.allocN (o := .dK []) hb
  have hab : a ≠ b := fun z => by
    rw [← z, upd_same] at hb
    cases hb
  have la : (upd (upd H a (.dK [])) b (.dK [])) a = some (.dK []) := by
    rw [upd_ne hab, upd_same]
  have N1' : New K G H0 (upd (upd H a (.dK [])) b (.dK [])) σ S a := ⟨N1.n0, N1.ne, N1.ns⟩
  have R3 := R2.asgN (i := i) (ob := .dct []) N1' ⟨Or.inl N1.ne, [], la, .nil⟩
  have N3 : New K G H0 (upd (upd H a (.dK [])) b (.dK [])) (σ.set i (some (.ref a))) (S.setO i (.dct [])) b := ⟨N2.n0, N2.ne, fun m ob hm z => by
    by_cases hj : m = i
    · subst hj
      have hl : m < σ.length := by
        have q := (List.getElem?_eq_some_iff.mp z).1
        rw [List.length_set] at q
        exact q
      rw [gs_eq hl] at z
      cases z
      exact hab rfl
    · rw [gs_ne hj] at hm z
      exact N2.ns m ob hm z⟩
  have R4 := R3.asgN (i := j) (ob := .dct []) N3 ⟨Or.inl N3.ne, [], upd_same, .nil⟩
  exact ⟨_, _, _, rfl, k.nx _ H0 _ _ (Same.refl _) (R4.asg (i := l) .non) p⟩
section
variable {X : Cx} {pos : Pos}
theorem s_par3K {i j l : Nat} {x y z : Str} {px py pz pt pt2 p1 p2 p3 : Pos} {kt k2 n0 : Nat} (hN : X.N.Nodup) (hi : X.N[i]? = some x := by rfl) (hj : X.N[j]? = some y := by rfl) (hl : X.N[l]? = some z := by rfl) (hij : i ≠ j := by decide) (hil : i ≠ l := by decide) (hjl : j ≠ l := by decide)
    (hx : X.env.scope.names.lookup x = some .local := by rfl) (hy : X.env.scope.names.lookup y = some .local := by rfl) (hz : X.env.scope.names.lookup z = some .local := by rfl)
    (hw : swappedStores [.Tuple [.Name x px, .Name y py, .Name z pz] kt pt] (.Tuple [.Dict [] [] p1, .Dict [] [] p2, .Constant .none n0 p3] k2 pt2) X.env = pure (some [x, y, z]) := by rfl)
    (hs : swapsWithSole [.Tuple [.Name x px, .Name y py, .Name z pz] kt pt] (.Tuple [.Dict [] [] p1, .Dict [] [] p2, .Constant .none n0 p3] k2 pt2) pos.line X.env = pure false := by rfl) (hc : X.calm = true := by rfl)
    (he : starEach [.Dict [] [] p1, .Dict [] [] p2, .Constant .none n0 p3] X.env = (false, eval (.Dict [] [] p1) X.env) :: starEach [.Dict [] [] p2, .Constant .none n0 p3] X.env := by rfl)
    (he2 : starEach [.Dict [] [] p2, .Constant .none n0 p3] X.env = (false, eval (.Dict [] [] p2) X.env) :: starEach [.Constant .none n0 p3] X.env := by rfl)
    (he3 : starEach [.Constant .none n0 p3] X.env = (false, eval (.Constant .none n0 p3) X.env) :: starEach [] X.env := by rfl) :
    PSx X (.Assign [.Tuple [.Name x px, .Name y py, .Name z pz] kt pt] (.Tuple [.Dict [] [] p1, .Dict [] [] p2, .Constant .none n0 p3] k2 pt2) pos) (tPar3 i j l (tCons tDNewK (tCons tDNewK (tCons (tC .non) tNil)))) (dPar3K i j l) :=
  ⟨ps_par3 hc hN hi hj hl hij hil hjl hx hy hz (pa_cons pe_dnewK (pa_cons pe_dnewK (pa_cons pe_non pa_nil he3) he2) he) hw hs, ss_par3K⟩
end
end Dw
set_option maxRecDepth 100000
set_option maxHeartbeats 4000000
/-! What the program computes, in plain Lean; the contracts of its defs. -/
namespace Dw
open PySem PySem.Spec PyProof.Rows L2

/-! ### data -/
def fnum (h : Int) : Int := if h % 2 = 0 then h / 2 else h
def fden (h : Int) : Int := if h % 2 = 0 then 1 else 2
/-- the fraction h/2 -/
def fr (h : Int) : PyData := .tuple [.int (fnum h), .int (fden h)]
abbrev Ru := Nat × Nat × Int
def ruD (r : Ru) : PyData := .tuple [.int (r.1 : Nat), .int (r.2.1 : Nat), fr r.2.2]
def hm (k : Nat) : PyData := .tuple [.str "hard", .int (k : Nat)]
def em (k : Nat) : PyData := .tuple [.str "ease", .int (k : Nat)]
def nt (k : Nat) : PyData := .int (k : Nat)
structure Sh where
  n : Nat
  hard : List Ru
  ease : List PyData
def shD (s : Sh) : PyData := .tuple [.int (s.n : Nat), .tuple (s.hard.map ruD), .tuple s.ease]
def Sh.drop (s : Sh) (k : Nat) : Sh := ⟨s.n, s.hard.eraseIdx k, s.ease⟩
mutual
def tuD : PyData → PyData
  | .list ds => .tuple (tuDs ds)
  | .tuple ds => .tuple (tuDs ds)
  | .none => .none
  | .bool b => .bool b
  | .int i => .int i
  | .str x => .str x
  | .dict kvs => .dict kvs
def tuDs : List PyData → List PyData
  | [] => []
  | d :: ds => tuD d :: tuDs ds
end
mutual
def lsD : PyData → PyData
  | .list ds => .list (lsDs ds)
  | .tuple ds => .list (lsDs ds)
  | .none => .none
  | .bool b => .bool b
  | .int i => .int i
  | .str x => .str x
  | .dict kvs => .dict kvs
def lsDs : List PyData → List PyData
  | [] => []
  | d :: ds => lsD d :: lsDs ds
end
abbrev dep (d : PyData) : Nat := PyData.depth d
abbrev deps (d : List PyData) : Nat := PyData.depthAll d
mutual
def fewD : PyData → Bool
  | .list ds => decide (ds.length < 1000) && fewDs ds
  | .tuple ds => decide (ds.length < 1000) && fewDs ds
  | .none => true
  | .bool b => true
  | .int i => true
  | .str x => true
  | .dict kvs => true
def fewDs : List PyData → Bool
  | [] => true
  | d :: ds => fewD d && fewDs ds
end
/-- no dict, and nothing too long -/
def plainD (d : PyData) : Bool := PyData.canLay0 d && fewD d
def plainDs (d : List PyData) : Bool := PyData.canLayAll0 d && fewDs d
theorem shaped_of {d : PyData} (h : plainD d = true) (l : dep d ≤ 64) : SeqAt.shaped d = true := by
  unfold SeqAt.shaped
  rw [Bool.and_eq_true]
  exact ⟨(Bool.and_eq_true_iff.mp h).1, decide_eq_true l⟩
/-- the sheet stands, and keeps to these bounds -/
structure Ok (s : Sh) : Prop where
  n2 : 2 ≤ s.n
  n5 : s.n ≤ 5
  few : s.hard.length ≤ 7
  rin : ∀ r ∈ s.hard, r.1 < s.n ∧ r.2.1 < s.n
  ne : ∀ r ∈ s.hard, r.1 ≠ r.2.1
  fewE : s.ease.length ≤ 7
  tuE : ∀ e ∈ s.ease, tuD e = e
  depE : ∀ e ∈ s.ease, dep e ≤ 8
  plE : ∀ e ∈ s.ease, plainD e = true
/-- there is a layout that keeps all hard rules -/
def Feas (hard : List Ru) : Prop := ∃ p : Nat → Int, ∀ r ∈ hard, p r.1 + r.2.2 ≤ p r.2.1
/-! ### what is computed -/
def sgnI (i : Int) : Int := if i = 0 then 0 else if 0 < i then 1 else -1
def relax (f : List (Option Int)) (r : Ru) : List (Option Int) := match f.getD r.1 none with
  | none => f
  | some a => match f.getD r.2.1 none with
    | none => f.set r.2.1 (some (a + r.2.2))
    | some b => if b < a + r.2.2 then f.set r.2.1 (some (a + r.2.2)) else f
def iter {α : Type} (f : α → α) : Nat → α → α
  | 0, x => x
  | k + 1, x => iter f k (f x)
def gaps (s : Sh) (i : Nat) : List (Option Int) := iter (fun f => s.hard.foldl relax f) (s.n - 1) ((List.replicate s.n none).set i (some 0))
def optD : Option Int → PyData
  | none => .none
  | some h => fr h
def relaxI (f : List Int) (r : Ru) : List Int := if f.getD r.2.1 0 < f.getD r.1 0 + r.2.2 then f.set r.2.1 (f.getD r.1 0 + r.2.2) else f
def someRaw (s : Sh) : List Int := iter (fun f => s.hard.foldl relaxI f) s.n (List.replicate s.n 0)
def someLay (s : Sh) : List Int := (someRaw s).map fun x => x - (someRaw s).getD 0 0
def Sh.at (s : Sh) (k : Nat) : Ru := s.hard.getD k (0, 0, 0)
def idle (s : Sh) (k : Nat) : Bool := match (gaps (s.drop k) (s.at k).1).getD (s.at k).2.1 none with
  | none => false
  | some g => decide ((s.at k).2.2 ≤ g)
/-- a told layout -/
inductive Told where
  | non
  | lst (ds : List PyData)
  | tup (ps : List Int)
def toldD : Told → PyData
  | .non => .none
  | .lst ds => .list ds
  | .tup ps => .tuple (ps.map fr)
def gapOf (ps : List Int) (r : Ru) : Int := ps.getD r.2.1 0 - ps.getD r.1 0
def isLaid (s : Sh) : Told → Bool
  | .tup ps => decide (ps.length = s.n) && decide (ps.getD 0 0 = 0) && s.hard.all fun r => decide (r.2.2 ≤ gapOf ps r)
  | _ => false
/-- a way: its rules, the places met -/
abbrev Wy := List Nat × List Nat
def wyD (w : Wy) : PyData := .tuple [.tuple (w.1.map hm), .tuple (w.2.map nt)]
def ext (hard : List Ru) (gone : Nat) (w : Wy) : List Wy := hard.zipIdx.filterMap fun q => if q.2 ≠ gone ∧ q.1.1 = w.2.getLastD 0 ∧ q.1.2.1 ∉ w.2 then some (w.1 ++ [q.2], w.2 ++ [q.1.2.1]) else none
def longer (hard : List Ru) (gone : Nat) (ws : List Wy) : List Wy := ws.flatMap (ext hard gone)
def wsum (hard : List Ru) (ks : List Nat) : Int := (ks.map fun k => (hard.getD k (0, 0, 0)).2.2).sum
/-- the ways of t rules -/
def waysN (hard : List Ru) (gone i : Nat) : Nat → List Wy
  | 0 => [([], [i])]
  | t + 1 => longer hard gone (waysN hard gone i t)
def goodsN (s : Sh) (k t : Nat) : List (List Nat) := ((waysN s.hard k (s.at k).1 t).filter fun w => decide (w.2.getLastD 0 = (s.at k).2.1) && decide ((s.at k).2.2 ≤ wsum s.hard w.1)).map (·.1)
/-- the law's ways: those that have come to j stay behind -/
abbrev Lw := List Nat × List Nat × Int
def lwD (w : Lw) : PyData := .tuple [.tuple (w.1.map hm), .tuple (w.2.1.map nt), fr w.2.2]
def lext (hard : List Ru) (gone : Nat) (w : Lw) : List Lw := hard.zipIdx.filterMap fun q => if q.2 ≠ gone ∧ q.1.1 = w.2.1.getLastD 0 ∧ q.1.2.1 ∉ w.2.1 then some (w.1 ++ [q.2], w.2.1 ++ [q.1.2.1], w.2.2 + q.1.2.2) else none
def lnext (hard : List Ru) (gone j : Nat) (ws : List Lw) : List Lw := (ws.filter fun w => decide (w.2.1.getLastD 0 ≠ j)).flatMap (lext hard gone)
def lnow (hard : List Ru) (gone i j : Nat) : Nat → List Lw
  | 0 => [([], [i], 0)]
  | t + 1 => lnext hard gone j (lnow hard gone i j t)
def lhere (j : Nat) (ws : List Lw) : List (List Nat × Int) := (ws.filter fun w => decide (w.2.1.getLastD 0 = j)).map fun w => (w.1, w.2.2)
def lways (s : Sh) (i j gone : Nat) : List (List Nat × Int) := (List.range (s.n + 1)).flatMap fun t => lhere j (lnow s.hard gone i j t)
def rowD (q : List Nat × Int) : PyData := .tuple [.tuple (q.1.map hm), fr q.2]
/-- does a bypass of k run so? -/
def byGo (s : Sh) (k : Nat) : List Nat → List Nat → Bool
  | [], met => decide (met.getLastD 0 = (s.at k).2.1)
  | m :: ms, met => if m = k ∨ (s.at m).1 ≠ met.getLastD 0 ∨ (s.at m).2.1 ∈ met then false else byGo s k ms (met ++ [(s.at m).2.1])
def isBy (s : Sh) (k : Nat) (ks : List Nat) : Bool := byGo s k ks [(s.at k).1] && decide ((s.at k).2.2 ≤ wsum s.hard ks)
/-- a told way -/
inductive Way where
  | non
  | lst (ds : List PyData)
  | tup (ks : List Nat)
def wayD : Way → PyData
  | .non => .none
  | .lst ds => .list ds
  | .tup ks => .tuple (ks.map hm)
def isByW (s : Sh) (k : Nat) : Way → Bool
  | .tup ks => isBy s k ks
  | _ => false
/-- the sheet that slip lays -/
def slipSh (s : Sh) (k : Nat) : Sh := ⟨s.n, (s.drop k).hard ++ [((s.at k).2.1, (s.at k).1, match (gaps (s.drop k) (s.at k).1).getD (s.at k).2.1 none with
  | none => 0 - ((s.at k).2.2 - 2)
  | some g => 0 - g)], []⟩
def slipL (s : Sh) (k : Nat) : List Int := someLay (slipSh s k)
/-- the first round that has goods, and the least of them -/
def LeastBy (s : Sh) (k : Nat) (ks : List Nat) : Prop := ∃ t g gs, (∀ u, u < t → goodsN s k u = []) ∧ goodsN s k t = g :: gs ∧ PyData.tuple (ks.map hm) = PySem.W.minD (.tuple (g.map hm)) (gs.map fun g => .tuple (g.map hm))

/-! ### contracts -/
inductive CIsNumber : Ct
  | mk (d : PyData) (Φ) (h : Φ (.bool (isA d "int" && !isA d "bool"))) : CIsNumber [d] Φ
inductive CTupleOf (k : Nat) : Ct
  | mk (d r : PyData) (Φ) (p : plainD d = true) (l : dep d < k) (e : tuD d = r) (h : Φ r) : CTupleOf k [d] Φ
def isTup (d : PyData) (m : Int) : Bool := match d with
  | .tuple ds => decide ((ds.length : Int) = m)
  | _ => false
inductive CIsTupleOf : Ct
  | mk (d : PyData) (m : Int) (Φ) (h : Φ (.bool (isTup d m))) : CIsTupleOf [d, .int m] Φ
inductive CIsFraction : Ct
  | mk (a : Int) (Φ) (h : Φ (.bool true)) : CIsFraction [fr a] Φ
inductive CFraction : Ct
  | mk (t b a : Int) (Φ) (hb : b = 1 ∨ b = 2 ∨ b = 4) (e : 2 * t = a * b) (h : Φ (fr a)) : CFraction [.int t, .int b] Φ
inductive CPlus : Ct
  | mk (a b : Int) (Φ) (h : Φ (fr (a + b))) : CPlus [fr a, fr b] Φ
inductive CMinus : Ct
  | mk (a b : Int) (Φ) (h : Φ (fr (a - b))) : CMinus [fr a, fr b] Φ
inductive COrder : Ct
  | mk (a b : Int) (Φ) (h : Φ (.int (sgnI (a - b)))) : COrder [fr a, fr b] Φ
inductive CIsThingBelow : Ct
  | mk (i m : Int) (Φ) (h : Φ (.bool (decide (0 ≤ i ∧ i < m)))) : CIsThingBelow [.int i, .int m] Φ
def marks (n m : Nat) : List PyData := (List.range n).map hm ++ (List.range m).map em
inductive CMarksOf : Ct
  | mk (s : Sh) (Φ) (ok : Ok s) (h : Φ (.tuple (marks s.hard.length s.ease.length))) : CMarksOf [shD s] Φ
inductive CHasMark : Ct
  | mk (s : Sh) (k : Nat) (Φ) (l : k < s.hard.length) (h : Φ (.bool true)) : CHasMark [shD s, hm k] Φ
inductive CRuleOf : Ct
  | mk (s : Sh) (k : Nat) (Φ) (l : k < s.hard.length) (h : Φ (ruD (s.at k))) : CRuleOf [shD s, hm k] Φ
inductive CRingFar : Ct
  | mk (s : Sh) (ks : List Nat) (Φ) (l : ∀ k ∈ ks, k < s.hard.length) (h : Φ (fr (wsum s.hard ks))) : CRingFar [shD s, .tuple (ks.map hm)] Φ
inductive CNoRoom : Ct
  | mk (s : Sh) (Φ) (ok : Ok s) (f : Feas s.hard) (h : Φ .none) : CNoRoom [shD s] Φ
inductive CSureRoom : Ct
  | mk (s : Sh) (d : PyData) (Φ) (ok : Ok s) (f : Feas s.hard) (p : plainD d = true) (dp : dep d ≤ 15) (e : tuD d = shD s) (h : Φ (shD s)) : CSureRoom [d] Φ
inductive CGapsFrom : Ct
  | mk (s : Sh) (i : Nat) (Φ) (ok : Ok s) (l : i < s.n) (h : Φ (.list ((gaps s i).map optD))) : CGapsFrom [shD s, nt i] Φ
inductive CGapBetween : Ct
  | mk (ps : List Int) (r : Ru) (Φ) (l : r.1 < ps.length) (l2 : r.2.1 < ps.length) (h : Φ (fr (gapOf ps r))) : CGapBetween [.tuple (ps.map fr), ruD r] Φ
inductive CIsLayout : Ct
  | mk (s : Sh) (t : Told) (Φ) (ok : Ok s) (h : Φ (.bool (isLaid s t))) : CIsLayout [shD s, toldD t] Φ
def marksBut (n m k : Nat) : List PyData := ((List.range n).filter fun x => decide (x ≠ k)).map hm ++ (List.range m).map em
inductive CSheetOf : Ct
  | mk (s : Sh) (k : Nat) (Φ) (ok : Ok s) (h : Φ (shD (s.drop k))) : CSheetOf [shD s, .list (marksBut s.hard.length s.ease.length k)] Φ
inductive CWithout : Ct
  | mk (s : Sh) (k : Nat) (Φ) (ok : Ok s) (h : Φ (shD (s.drop k))) : CWithout [shD s, hm k] Φ
inductive CSureHard : Ct
  | mk (s : Sh) (d : PyData) (k : Nat) (Φ) (ok : Ok s) (f : Feas s.hard) (p : plainD d = true) (dp : dep d ≤ 15) (e : tuD d = shD s) (l : k < s.hard.length) (h : Φ (shD s)) : CSureHard [d, nt k] Φ
inductive CIsIdle : Ct
  | mk (s : Sh) (k : Nat) (Φ) (ok : Ok s) (l : k < s.hard.length) (h : Φ (.bool (idle s k))) : CIsIdle [shD s, nt k] Φ
inductive CIdleHard : Ct
  | mk (s : Sh) (d : PyData) (Φ) (ok : Ok s) (f : Feas s.hard) (p : plainD d = true) (dp : dep d ≤ 15) (e : tuD d = shD s) (h : Φ (.tuple (((List.range s.hard.length).filter fun k => idle s k).map nt))) : CIdleHard [d] Φ
inductive CLongerWays : Ct
  | mk (s : Sh) (ws : List Wy) (k : Nat) (Φ) (ok : Ok s) (b : (longer s.hard k ws).length < 100000) (b2 : ∀ w ∈ ws, w.1.length ≤ 100 ∧ w.2.length ≤ 100 ∧ w.2 ≠ []) (h : Φ (.list ((longer s.hard k ws).map wyD))) : CLongerWays [shD s, .list (ws.map wyD), nt k] Φ
inductive CBypass : Ct
  | mk (s : Sh) (d : PyData) (k : Nat) (Φ) (ok : Ok s) (f : Feas s.hard) (p : plainD d = true) (dp : dep d ≤ 15) (e : tuD d = shD s) (l : k < s.hard.length) (y : idle s k = true) (h : ∀ ks, LeastBy s k ks → Φ (.tuple (ks.map hm))) : CBypass [d, nt k] Φ
inductive CIsBypass : Ct
  | mk (s : Sh) (d : PyData) (k : Nat) (w : Way) (Φ) (ok : Ok s) (f : Feas s.hard) (p : plainD d = true) (dp : dep d ≤ 15) (e : tuD d = shD s) (l : k < s.hard.length) (lw : ∀ ks, w = .tup ks → ks.length < 1000 ∧ ∀ m ∈ ks, m < s.hard.length)
      (h : Φ (.bool (isByW s k w))) : CIsBypass [d, nt k, wayD w] Φ
inductive CSomeLayout : Ct
  | mk (s : Sh) (Φ) (n1 : 1 ≤ s.n) (n5 : s.n ≤ 5) (few : s.hard.length ≤ 8) (rin : ∀ r ∈ s.hard, r.1 < s.n ∧ r.2.1 < s.n) (h : Φ (.tuple ((someLay s).map fr))) : CSomeLayout [shD s] Φ
inductive CSlip : Ct
  | mk (s : Sh) (d : PyData) (k : Nat) (Φ) (ok : Ok s) (f : Feas s.hard) (p : plainD d = true) (dp : dep d ≤ 15) (e : tuD d = shD s) (l : k < s.hard.length) (y : idle s k = false) (h : Φ (.tuple ((slipL s k).map fr))) : CSlip [d, nt k] Φ
inductive CIsSlip : Ct
  | mk (s : Sh) (d : PyData) (k : Nat) (t : Told) (Φ) (ok : Ok s) (f : Feas s.hard) (p : plainD d = true) (dp : dep d ≤ 15) (e : tuD d = shD s) (l : k < s.hard.length) (h : Φ (.bool (isLaid (s.drop k) t && !isLaid s t))) : CIsSlip [d, nt k, toldD t] Φ
inductive CLawSame (k : Nat) : Ct
  | mk (d : PyData) (Φ) (p : plainD d = true) (l : dep d < k) (h : Φ (.bool true)) : CLawSame k [d, d] Φ
inductive CLawLists (k : Nat) : Ct
  | mk (d : PyData) (Φ) (p : plainD d = true) (l : dep d < k) (h : Φ (lsD d)) : CLawLists k [d] Φ
inductive CLawIsNumber : Ct
  | mk (d : PyData) (Φ) (h : Φ (.bool (isA d "int" && !isA d "bool"))) : CLawIsNumber [d] Φ
inductive CLawCut : Ct
  | mk (t b a : Int) (Φ) (hb : b = 1 ∨ b = 2 ∨ b = 4) (e : 2 * t = a * b) (h : Φ (fr a)) : CLawCut [.int t, .int b] Φ
inductive CLawMinus : Ct
  | mk (a b : Int) (Φ) (h : Φ (fr (a - b))) : CLawMinus [fr a, fr b] Φ
inductive CLawPlus : Ct
  | mk (a b : Int) (Φ) (h : Φ (fr (a + b))) : CLawPlus [fr a, fr b] Φ
inductive CLawUnder : Ct
  | mk (a b : Int) (Φ) (h : Φ (.bool (decide (a < b)))) : CLawUnder [fr a, fr b] Φ
inductive CLawGap : Ct
  | mk (ps : List Int) (r : Ru) (Φ) (l : r.1 < ps.length) (l2 : r.2.1 < ps.length) (h : Φ (fr (gapOf ps r))) : CLawGap [.tuple (ps.map fr), ruD r] Φ
inductive CLawIsLaid : Ct
  | mk (s : Sh) (t : Told) (Φ) (ok : Ok s) (h : Φ (.bool (isLaid s t))) : CLawIsLaid [shD s, toldD t] Φ
def canNotD : PyData := .list [.str "can not", .bool true]
inductive CLawHeard : Ct
  | by1 (s : Sh) (d : PyData) (k : Nat) (Φ) (ok : Ok s) (f : Feas s.hard) (p : plainD d = true) (dp : dep d ≤ 15) (e : tuD d = shD s) (l : k < s.hard.length) (h : ∀ r, (if idle s k = true then ∃ ks, LeastBy s k ks ∧ r = .tuple (ks.map hm) else r = canNotD) → Φ r) : CLawHeard [.int 0, d, nt k] Φ
  | sl (s : Sh) (d : PyData) (k : Nat) (Φ) (ok : Ok s) (f : Feas s.hard) (p : plainD d = true) (dp : dep d ≤ 15) (e : tuD d = shD s) (l : k < s.hard.length) (h : Φ (if idle s k = true then canNotD else .tuple ((slipL s k).map fr))) : CLawHeard [.int 1, d, nt k] Φ
def plainE : PyData := .tuple [.tuple [fr 0, fr 0], .tuple [fr 2, fr 2]]
def easeE (i j : Nat) : PyData := .tuple [nt i, nt j, plainE]
def handSh : Sh := ⟨3, [(0, 1, 4), (1, 2, 4), (0, 2, 6), (2, 0, -18)], [easeE 0 1, easeE 1 2]⟩
inductive CLawBoxes : Ct
  | mk (Φ) (h : Φ (shD handSh)) : CLawBoxes [] Φ
inductive CLawByHandRight : Ct
  | mk (Φ) (h : Φ (.bool true)) : CLawByHandRight [] Φ
inductive CLawWays : Ct
  | mk (s : Sh) (i j k : Nat) (Φ) (ok : Ok s) (l : i < s.n) (h : Φ (.list ((lways s i j k).map rowD))) : CLawWays [shD s, nt i, nt j, nt k] Φ
end Dw
set_option maxRecDepth 100000
set_option maxHeartbeats 4000000
/-! What the defs' bodies do over data: printed by gen.py. -/
namespace Dw
open PySem PySem.Spec PyProof.Rows L2
def R_is_number : DS := (dRet (dAndV (dIsi "int" (dVar 0)) (dNotV (dIsi "bool" (dVar 0)))))
def R_tuple_of (k : Nat) : DS := (dSeq (dIfS (dTst (dIsi2 "list" "tuple" (dVar 0)))
    (dRet (dCB cTuple (dCons (dNew (dLc (dItS (dVar 0)) (dgN 1) dYes (dCall (CTupleOf k) (dCons (dVar 1) dNil)) [1])) dNil))) dNext)
    (dRet (dVar 0)))
def R_is_tuple_of : DS := (dRet (dAndV (dIsi "tuple" (dVar 0)) (dOp oEq (dCB cLen (dCons (dVar 0) dNil)) (dVar 1))))
def R_is_fraction : DS := (dSeq (dIfS (dOr (dNot (dTst (dIsi "tuple" (dVar 0)))) (dTst (dOp oNe (dCB cLen (dCons (dVar 0) dNil)) (dC (.int 2)))))
    (dRet (dC (.bool false))) dNext)
    (dSeq (dAsg (dVar 0) (dgTup 2 (dgCons (dgN 1) (dgCons (dgN 2) dgNil))))
    (dRet (dAndV (dCall CIsNumber (dCons (dVar 1) dNil)) (dAndV (dCall CIsNumber (dCons (dVar 2) dNil)) (dAndV (dOp oGt (dVar 2) (dC (.int 0))) (dOp oEq (dCB cGcd (dCons (dVar 1) (dCons (dVar 2) dNil))) (dC (.int 1)))))))))
def R_fraction : DS := (dSeq (dIfS (dTst (dOp oEq (dVar 1) (dC (.int 0))))
    dNever dNext)
    (dSeq (dAsg (dCB cGcd (dCons (dVar 0) (dCons (dVar 1) dNil))) (dgN 2))
    (dSeq (dIfS (dTst (dOp oLt (dVar 1) (dC (.int 0))))
    dNever dNext)
    (dRet (dTup (dCons (dOp oDiv (dVar 0) (dVar 2)) (dCons (dOp oDiv (dVar 1) (dVar 2)) dNil)))))))
def R_plus : DS := (dRet (dCall CFraction (dCons (dOp oAdd (dOp oMul (dOp oIx (dVar 0) (dC (.int 0))) (dOp oIx (dVar 1) (dC (.int 1)))) (dOp oMul (dOp oIx (dVar 1) (dC (.int 0))) (dOp oIx (dVar 0) (dC (.int 1))))) (dCons (dOp oMul (dOp oIx (dVar 0) (dC (.int 1))) (dOp oIx (dVar 1) (dC (.int 1)))) dNil))))
def R_minus : DS := (dRet (dCall CFraction (dCons (dOp oSub (dOp oMul (dOp oIx (dVar 0) (dC (.int 0))) (dOp oIx (dVar 1) (dC (.int 1)))) (dOp oMul (dOp oIx (dVar 1) (dC (.int 0))) (dOp oIx (dVar 0) (dC (.int 1))))) (dCons (dOp oMul (dOp oIx (dVar 0) (dC (.int 1))) (dOp oIx (dVar 1) (dC (.int 1)))) dNil))))
def R_order : DS := (dSeq (dPar 2 3 (dOp oMul (dOp oIx (dVar 0) (dC (.int 0))) (dOp oIx (dVar 1) (dC (.int 1)))) (dOp oMul (dOp oIx (dVar 1) (dC (.int 0))) (dOp oIx (dVar 0) (dC (.int 1)))))
    (dSeq (dIfS (dTst (dOp oEq (dVar 2) (dVar 3)))
    (dRet (dC (.int 0))) dNext)
    (dRet (dIf (dTst (dOp oGt (dVar 2) (dVar 3))) (dC (.int 1)) (dUn oNeg (dC (.int 1)))))))
def R_is_thing_below : DS := (dRet (dAndV (dCall CIsNumber (dCons (dVar 0) dNil)) (dChain oLe oLt (dC (.int 0)) (dVar 0) (dVar 1))))
def R_marks_of : DS := (dRet (dCB cTuple (dCons (dOp oCatL (dNew (dLc (dItR (dCons (dCB cLen (dCons (dOp oIx (dVar 0) (dC (.int 1))) dNil)) dNil)) (dgN 1) dYes (dTup (dCons (dC (.str "hard")) (dCons (dVar 1) dNil))) [1])) (dNew (dLc (dItR (dCons (dCB cLen (dCons (dOp oIx (dVar 0) (dC (.int 2))) dNil)) dNil)) (dgN 1) dYes (dTup (dCons (dC (.str "ease")) (dCons (dVar 1) dNil))) [1]))) dNil)))
def R_has_mark : DS := (dSeq (dIfS (dOr (dNot (dTst (dCall CIsTupleOf (dCons (dVar 1) (dCons (dC (.int 2)) dNil))))) (dOr (dNot (dTst (dIsi "str" (dOp oIx (dVar 1) (dC (.int 0)))))) (dTst (dOp oNin (dOp oIx (dVar 1) (dC (.int 0))) (dTup (dCons (dC (.str "hard")) (dCons (dC (.str "ease")) dNil)))))))
    (dRet (dC (.bool false))) dNext)
    (dRet (dCall CIsThingBelow (dCons (dOp oIx (dVar 1) (dC (.int 1))) (dCons (dCB cLen (dCons (dOp oIx (dVar 0) (dIf (dTst (dOp oEq (dOp oIx (dVar 1) (dC (.int 0))) (dC (.str "hard")))) (dC (.int 1)) (dC (.int 2)))) dNil)) dNil)))))
def R_rule_of : DS := (dSeq (dAsg (dCall (CTupleOf 20) (dCons (dVar 1) dNil)) (dgN 2))
    (dSeq (dIfS (dNot (dTst (dCall CHasMark (dCons (dVar 0) (dCons (dVar 2) dNil)))))
    dNever dNext)
    (dRet (dCall (CTupleOf 20) (dCons (dOp oIx (dOp oIx (dVar 0) (dIf (dTst (dOp oEq (dOp oIx (dVar 2) (dC (.int 0))) (dC (.str "hard")))) (dC (.int 1)) (dC (.int 2)))) (dOp oIx (dVar 2) (dC (.int 1)))) dNil)))))
def R_ring_far : DS := (dSeq (dAsg (dC (.tuple [.int 0, .int 1])) (dgN 2))
    (dSeq (dFor (dItS (dVar 1)) (dgN 3)
    (dIfS (dTst (dOp oEq (dOp oIx (dVar 3) (dC (.int 0))) (dC (.str "hard"))))
    (dAsg (dCall CPlus (dCons (dVar 2) (dCons (dOp oIx (dCall CRuleOf (dCons (dVar 0) (dCons (dVar 3) dNil))) (dC (.int 2))) dNil))) (dgN 2)) dNext))
    (dRet (dVar 2))))
def R_sure_room : DS := (dSeq (dAsg (dCall (CTupleOf 20) (dCons (dVar 0) dNil)) (dgN 1))
    (dSeq (dAsg (dCall CNoRoom (dCons (dVar 1) dNil)) (dgN 2))
    (dSeq (dIfS (dTst (dNotN (dVar 2)))
    dNever dNext)
    (dRet (dVar 1)))))
def R_gaps_from : DS := (dSeq (dAsgN (dRep (dLst (dCons (dC .none) dNil)) (dOp oIx (dVar 0) (dC (.int 0)))) 2)
    (dSeq (dAsg (dC (.tuple [.int 0, .int 1])) (dgL 2 (dVar 1)))
    (dSeq (dFor (dItR (dCons (dOp oSub (dOp oIx (dVar 0) (dC (.int 0))) (dC (.int 1))) dNil)) (dgN 3)
    (dFor (dItS (dOp oIx (dVar 0) (dC (.int 1)))) (dgTup 3 (dgCons (dgN 4) (dgCons (dgN 5) (dgCons (dgN 6) dgNil))))
    (dIfS (dTst (dNotN (dIxO 2 (dVar 4))))
    (dSeq (dAsg (dCall CPlus (dCons (dIxO 2 (dVar 4)) (dCons (dVar 6) dNil))) (dgN 7))
    (dIfS (dOr (dTst (dIsN (dIxO 2 (dVar 5)))) (dTst (dOp oGt (dCall COrder (dCons (dVar 7) (dCons (dIxO 2 (dVar 5)) dNil))) (dC (.int 0)))))
    (dAsg (dVar 7) (dgL 2 (dVar 5))) dNext)) dNext)))
    (dRet (dFrz 2)))))
def R_gap_between : DS := (dRet (dCall CMinus (dCons (dOp oIx (dVar 0) (dOp oIx (dVar 1) (dC (.int 1)))) (dCons (dOp oIx (dVar 0) (dOp oIx (dVar 1) (dC (.int 0)))) dNil))))
def R_is_layout : DS := (dSeq (dAsg (dCall (CTupleOf 20) (dCons (dVar 0) dNil)) (dgTup 3 (dgCons (dgN 2) (dgCons (dgN 3) (dgCons (dgN 4) dgNil)))))
    (dSeq (dIfS (dOr (dNot (dTst (dCall CIsTupleOf (dCons (dVar 1) (dCons (dVar 2) dNil))))) (dOr (dNot (dTst (dCB cAll (dCons (dNew (dLc (dItS (dVar 1)) (dgN 5) dYes (dCall CIsFraction (dCons (dVar 5) dNil)) [5])) dNil)))) (dTst (dOp oNe (dOp oIx (dVar 1) (dC (.int 0))) (dC (.tuple [.int 0, .int 1]))))))
    (dRet (dC (.bool false))) dNext)
    (dRet (dCB cAll (dCons (dNew (dLc (dItS (dVar 3)) (dgN 6) dYes (dOp oGe (dCall COrder (dCons (dCall CGapBetween (dCons (dVar 1) (dCons (dVar 6) dNil))) (dCons (dOp oIx (dVar 6) (dC (.int 2))) dNil))) (dC (.int 0))) [6])) dNil)))))
def R_sheet_of : DS := (dSeq (dAsg (dNew (dLc (dItE (dCons (dOp oIx (dVar 0) (dC (.int 1))) dNil)) (dgTup 2 (dgCons (dgN 3) (dgCons (dgN 4) dgNil))) (dTst (dOp oIn (dTup (dCons (dC (.str "hard")) (dCons (dVar 3) dNil))) (dVar 1))) (dVar 4) [3, 4])) (dgN 2))
    (dRet (dTup (dCons (dOp oIx (dVar 0) (dC (.int 0))) (dCons (dCB cTuple (dCons (dVar 2) dNil)) (dCons (dCB cTuple (dCons (dNew (dLc (dItE (dCons (dOp oIx (dVar 0) (dC (.int 2))) dNil)) (dgTup 2 (dgCons (dgN 3) (dgCons (dgN 4) dgNil))) (dTst (dOp oIn (dTup (dCons (dC (.str "ease")) (dCons (dVar 3) dNil))) (dVar 1))) (dVar 4) [3, 4])) dNil)) dNil))))))
def R_without : DS := (dRet (dCall CSheetOf (dCons (dVar 0) (dCons (dNew (dLc (dItS (dCall CMarksOf (dCons (dVar 0) dNil))) (dgN 2) (dTst (dOp oNe (dVar 2) (dVar 1))) (dVar 2) [2])) dNil))))
def R_sure_hard : DS := (dSeq (dAsg (dCall CSureRoom (dCons (dVar 0) dNil)) (dgN 2))
    (dSeq (dIfS (dOr (dNot (dTst (dCall CIsNumber (dCons (dVar 1) dNil)))) (dNot (dTst (dChain oLe oLt (dC (.int 0)) (dVar 1) (dCB cLen (dCons (dOp oIx (dVar 2) (dC (.int 1))) dNil))))))
    dNever dNext)
    (dRet (dVar 2))))
def R_is_idle : DS := (dSeq (dAsg (dOp oIx (dOp oIx (dVar 0) (dC (.int 1))) (dVar 1)) (dgTup 3 (dgCons (dgN 2) (dgCons (dgN 3) (dgCons (dgN 4) dgNil)))))
    (dSeq (dAsg (dOp oIx (dCall CGapsFrom (dCons (dCall CWithout (dCons (dVar 0) (dCons (dTup (dCons (dC (.str "hard")) (dCons (dVar 1) dNil))) dNil))) (dCons (dVar 2) dNil))) (dVar 3)) (dgN 5))
    (dRet (dAndV (dNotN (dVar 5)) (dOp oGe (dCall COrder (dCons (dVar 5) (dCons (dVar 4) dNil))) (dC (.int 0)))))))
def R_idle_hard : DS := (dSeq (dAsg (dCall CSureRoom (dCons (dVar 0) dNil)) (dgN 1))
    (dRet (dCB cTuple (dCons (dNew (dLc (dItR (dCons (dCB cLen (dCons (dOp oIx (dVar 1) (dC (.int 1))) dNil)) dNil)) (dgN 2) (dTst (dCall CIsIdle (dCons (dVar 1) (dCons (dVar 2) dNil)))) (dVar 2) [2])) dNil))))
def R_longer_ways : DS := (dSeq (dAsgN (dLst dNil) 3)
    (dSeq (dFor (dItS (dVar 1)) (dgTup 2 (dgCons (dgN 4) (dgCons (dgN 5) dgNil)))
    (dFor (dItE (dCons (dOp oIx (dVar 0) (dC (.int 1))) dNil)) (dgTup 2 (dgCons (dgN 6) (dgCons (dgTup 3 (dgCons (dgN 7) (dgCons (dgN 8) (dgCons (dgN 9) dgNil)))) dgNil)))
    (dIfS (dAnd (dTst (dOp oNe (dVar 6) (dVar 2))) (dAnd (dTst (dOp oEq (dVar 7) (dOp oIx (dVar 5) (dUn oNeg (dC (.int 1)))))) (dTst (dOp oNin (dVar 8) (dVar 5)))))
    (dApp 3 (dTup (dCons (dTup (dStar (dVar 4) (dCons (dTup (dCons (dC (.str "hard")) (dCons (dVar 6) dNil))) dNil))) (dCons (dTup (dStar (dVar 5) (dCons (dVar 8) dNil))) dNil)))) dNext)))
    (dRet (dFrz 3))))
def R_is_bypass : DS := (dSeq (dAsg (dCall CSureHard (dCons (dVar 0) (dCons (dVar 1) dNil))) (dgN 3))
    (dSeq (dAsg (dOp oIx (dOp oIx (dVar 3) (dC (.int 1))) (dVar 1)) (dgTup 3 (dgCons (dgN 4) (dgCons (dgN 5) (dgCons (dgN 6) dgNil)))))
    (dSeq (dIfS (dOr (dNot (dTst (dIsi "tuple" (dVar 2)))) (dNot (dTst (dCB cAll (dCons (dNew (dLc (dItS (dVar 2)) (dgN 7) dYes (dAndV (dCall CHasMark (dCons (dVar 3) (dCons (dVar 7) dNil))) (dOp oEq (dOp oIx (dVar 7) (dC (.int 0))) (dC (.str "hard")))) [7])) dNil)))))
    (dRet (dC (.bool false))) dNext)
    (dSeq (dAsgN (dLst (dCons (dVar 4) dNil)) 8)
    (dSeq (dFor (dItS (dVar 2)) (dgN 7)
    (dSeq (dAsg (dCall CRuleOf (dCons (dVar 3) (dCons (dVar 7) dNil))) (dgTup 3 (dgCons (dgN 9) (dgCons (dgN 10) (dgCons (dgN 11) dgNil)))))
    (dSeq (dIfS (dOr (dTst (dOp oEq (dVar 7) (dTup (dCons (dC (.str "hard")) (dCons (dVar 1) dNil))))) (dOr (dTst (dOp oNe (dVar 9) (dIxO 8 (dUn oNeg (dC (.int 1)))))) (dTst (dInO (dVar 10) 8))))
    (dRet (dC (.bool false))) dNext)
    (dApp 8 (dVar 10)))))
    (dRet (dAndV (dOp oEq (dIxO 8 (dUn oNeg (dC (.int 1)))) (dVar 5)) (dOp oGe (dCall COrder (dCons (dCall CRingFar (dCons (dVar 3) (dCons (dVar 2) dNil))) (dCons (dVar 6) dNil))) (dC (.int 0))))))))))
def R_some_layout : DS := (dSeq (dAsgN (dRep (dLst (dCons (dC (.tuple [.int 0, .int 1])) dNil)) (dOp oIx (dVar 0) (dC (.int 0)))) 1)
    (dSeq (dFor (dItR (dCons (dOp oIx (dVar 0) (dC (.int 0))) dNil)) (dgN 2)
    (dFor (dItS (dOp oIx (dVar 0) (dC (.int 1)))) (dgTup 3 (dgCons (dgN 3) (dgCons (dgN 4) (dgCons (dgN 5) dgNil))))
    (dIfS (dTst (dOp oGt (dCall COrder (dCons (dCall CPlus (dCons (dIxO 1 (dVar 3)) (dCons (dVar 5) dNil))) (dCons (dIxO 1 (dVar 4)) dNil))) (dC (.int 0))))
    (dAsg (dCall CPlus (dCons (dIxO 1 (dVar 3)) (dCons (dVar 5) dNil))) (dgL 1 (dVar 4))) dNext)))
    (dRet (dCB cTuple (dCons (dNew (dLc (dItS (dFrz 1)) (dgN 6) dYes (dCall CMinus (dCons (dVar 6) (dCons (dOp oIx (dVar 1) (dC (.int 0))) dNil))) [6])) dNil)))))
def R_is_slip : DS := (dSeq (dAsg (dCall CSureHard (dCons (dVar 0) (dCons (dVar 1) dNil))) (dgN 3))
    (dRet (dAndV (dCall CIsLayout (dCons (dCall CWithout (dCons (dVar 3) (dCons (dTup (dCons (dC (.str "hard")) (dCons (dVar 1) dNil))) dNil))) (dCons (dVar 2) dNil))) (dNotV (dCall CIsLayout (dCons (dVar 3) (dCons (dVar 2) dNil)))))))
def R_law_same (k : Nat) : DS := (dSeq (dIfS (dTst (dIsi2 "list" "tuple" (dVar 1)))
    (dSeq (dIfS (dOr (dTst (dOp oNe (dIsi "list" (dVar 0)) (dIsi "list" (dVar 1)))) (dTst (dOp oNe (dIsi "tuple" (dVar 0)) (dIsi "tuple" (dVar 1)))))
    (dRet (dC (.bool false))) dNext)
    (dRet (dAndV (dOp oEq (dCB cLen (dCons (dVar 0) dNil)) (dCB cLen (dCons (dVar 1) dNil))) (dCB cAll (dCons (dNew (dLc (dItZ (dCons (dVar 0) (dCons (dVar 1) dNil))) (dgTup 2 (dgCons (dgN 2) (dgCons (dgN 3) dgNil))) dYes (dCall (CLawSame k) (dCons (dVar 2) (dCons (dVar 3) dNil))) [2, 3])) dNil))))) dNext)
    (dSeq (dIfS (dOr (dTst (dIsN (dVar 1))) (dTst (dIsi2 "bool" "str" (dVar 1))))
    (dRet (dAndV (dOp oEq (dVar 0) (dVar 1)) (dAndV (dOp oEq (dIsi "bool" (dVar 0)) (dIsi "bool" (dVar 1))) (dOp oEq (dIsN (dVar 0)) (dIsN (dVar 1)))))) dNext)
    (dRet (dAndV (dIsi "int" (dVar 0)) (dAndV (dNotV (dIsi "bool" (dVar 0))) (dOp oEq (dVar 0) (dVar 1)))))))
def R_law_lists (k : Nat) : DS := (dRet (dIf (dTst (dIsi2 "list" "tuple" (dVar 0))) (dNew (dLc (dItS (dVar 0)) (dgN 1) dYes (dCall (CLawLists k) (dCons (dVar 1) dNil)) [1])) (dVar 0)))
def R_law_is_number : DS := (dRet (dAndV (dIsi "int" (dVar 0)) (dNotV (dIsi "bool" (dVar 0)))))
def R_law_cut : DS := (dSeq (dPar 2 3 (dCB cAbs (dCons (dVar 0) dNil)) (dCB cAbs (dCons (dVar 1) dNil)))
    (dSeq (dWhile (dTst (dOp oNe (dVar 3) (dC (.int 0))))
    (dPar 2 3 (dVar 3) (dOp oMod (dCB cInt (dCons (dVar 2) dNil)) (dVar 3))))
    (dRet (dIf (dTst (dOp oGt (dVar 1) (dC (.int 0)))) (dTup (dCons (dOp oDiv (dVar 0) (dVar 2)) (dCons (dOp oDiv (dVar 1) (dVar 2)) dNil))) (dTup (dCons (dOp oSub (dC (.int 0)) (dOp oDiv (dVar 0) (dVar 2))) (dCons (dOp oSub (dC (.int 0)) (dOp oDiv (dVar 1) (dVar 2))) dNil)))))))
def R_law_minus : DS := (dRet (dCall CLawCut (dCons (dOp oSub (dOp oMul (dOp oIx (dVar 0) (dC (.int 0))) (dOp oIx (dVar 1) (dC (.int 1)))) (dOp oMul (dOp oIx (dVar 1) (dC (.int 0))) (dOp oIx (dVar 0) (dC (.int 1))))) (dCons (dOp oMul (dOp oIx (dVar 0) (dC (.int 1))) (dOp oIx (dVar 1) (dC (.int 1)))) dNil))))
def R_law_plus : DS := (dRet (dCall CLawCut (dCons (dOp oAdd (dOp oMul (dOp oIx (dVar 0) (dC (.int 0))) (dOp oIx (dVar 1) (dC (.int 1)))) (dOp oMul (dOp oIx (dVar 1) (dC (.int 0))) (dOp oIx (dVar 0) (dC (.int 1))))) (dCons (dOp oMul (dOp oIx (dVar 0) (dC (.int 1))) (dOp oIx (dVar 1) (dC (.int 1)))) dNil))))
def R_law_under : DS := (dRet (dOp oLt (dOp oMul (dOp oIx (dVar 0) (dC (.int 0))) (dOp oIx (dVar 1) (dC (.int 1)))) (dOp oMul (dOp oIx (dVar 1) (dC (.int 0))) (dOp oIx (dVar 0) (dC (.int 1))))))
def R_law_gap : DS := (dRet (dCall CLawMinus (dCons (dOp oIx (dVar 0) (dOp oIx (dVar 1) (dC (.int 1)))) (dCons (dOp oIx (dVar 0) (dOp oIx (dVar 1) (dC (.int 0)))) dNil))))
def R_law_is_laid : DS := (dSeq (dIfS (dOr (dNot (dTst (dIsi "tuple" (dVar 1)))) (dTst (dOp oNe (dCB cLen (dCons (dVar 1) dNil)) (dOp oIx (dVar 0) (dC (.int 0))))))
    (dRet (dC (.bool false))) dNext)
    (dSeq (dFor (dItS (dVar 1)) (dgN 2)
    (dSeq (dIfS (dOr (dNot (dTst (dIsi "tuple" (dVar 2)))) (dOr (dTst (dOp oNe (dCB cLen (dCons (dVar 2) dNil)) (dC (.int 2)))) (dOr (dNot (dTst (dCall CLawIsNumber (dCons (dOp oIx (dVar 2) (dC (.int 0))) dNil)))) (dNot (dTst (dCall CLawIsNumber (dCons (dOp oIx (dVar 2) (dC (.int 1))) dNil)))))))
    (dRet (dC (.bool false))) dNext)
    (dIfS (dOr (dTst (dOp oLt (dOp oIx (dVar 2) (dC (.int 1))) (dC (.int 1)))) (dTst (dOp oNe (dCall CLawCut (dCons (dOp oIx (dVar 2) (dC (.int 0))) (dCons (dOp oIx (dVar 2) (dC (.int 1))) dNil))) (dVar 2))))
    (dRet (dC (.bool false))) dNext)))
    (dRet (dAndV (dOp oEq (dOp oIx (dVar 1) (dC (.int 0))) (dTup (dCons (dC (.int 0)) (dCons (dC (.int 1)) dNil)))) (dOp oEq (dNew (dLc (dItS (dOp oIx (dVar 0) (dC (.int 1)))) (dgN 3) (dTst (dCall CLawUnder (dCons (dCall CLawGap (dCons (dVar 1) (dCons (dVar 3) dNil))) (dCons (dOp oIx (dVar 3) (dC (.int 2))) dNil)))) (dC (.int 1)) [3])) (dNew (dLst dNil)))))))
def R_law_boxes : DS := (dSeq (dAsg (dTup (dCons (dTup (dCons (dTup (dCons (dC (.int 0)) (dCons (dC (.int 1)) dNil))) (dCons (dTup (dCons (dC (.int 0)) (dCons (dC (.int 1)) dNil))) dNil))) (dCons (dTup (dCons (dTup (dCons (dC (.int 1)) (dCons (dC (.int 1)) dNil))) (dCons (dTup (dCons (dC (.int 1)) (dCons (dC (.int 1)) dNil))) dNil))) dNil))) (dgN 0))
    (dRet (dTup (dCons (dC (.int 3)) (dCons (dTup (dCons (dTup (dCons (dC (.int 0)) (dCons (dC (.int 1)) (dCons (dTup (dCons (dC (.int 2)) (dCons (dC (.int 1)) dNil))) dNil)))) (dCons (dTup (dCons (dC (.int 1)) (dCons (dC (.int 2)) (dCons (dTup (dCons (dC (.int 2)) (dCons (dC (.int 1)) dNil))) dNil)))) (dCons (dTup (dCons (dC (.int 0)) (dCons (dC (.int 2)) (dCons (dTup (dCons (dC (.int 3)) (dCons (dC (.int 1)) dNil))) dNil)))) (dCons (dTup (dCons (dC (.int 2)) (dCons (dC (.int 0)) (dCons (dTup (dCons (dUn oNeg (dC (.int 9))) (dCons (dC (.int 1)) dNil))) dNil)))) dNil))))) (dCons (dTup (dCons (dTup (dCons (dC (.int 0)) (dCons (dC (.int 1)) (dCons (dVar 0) dNil)))) (dCons (dTup (dCons (dC (.int 1)) (dCons (dC (.int 2)) (dCons (dVar 0) dNil)))) dNil))) dNil))))))
def R_law_by_hand_right : DS := (dSeq (dPar 0 1 (dCall CLawBoxes dNil) (dTup (dCons (dTup (dCons (dC (.int 0)) (dCons (dC (.int 1)) dNil))) (dCons (dTup (dCons (dC (.int 1)) (dCons (dC (.int 1)) dNil))) (dCons (dTup (dCons (dC (.int 4)) (dCons (dC (.int 1)) dNil))) dNil)))))
    (dSeq (dAsg (dNew (dLst (dCons (dCall CIdleHard (dCons (dVar 0) dNil)) (dCons (dCall CLawHeard (dCons (dC (.int 0)) (dCons (dVar 0) (dCons (dC (.int 2)) dNil)))) (dCons (dCall CLawHeard (dCons (dC (.int 0)) (dCons (dVar 0) (dCons (dC (.int 0)) dNil)))) (dCons (dCall CLawHeard (dCons (dC (.int 1)) (dCons (dVar 0) (dCons (dC (.int 2)) dNil)))) (dCons (dCall CIsSlip (dCons (dVar 0) (dCons (dC (.int 0)) (dCons (dVar 1) dNil)))) dNil))))))) (dgN 2))
    (dSeq (dAsg (dNew (dLst (dCons (dTup (dCons (dC (.int 2)) dNil)) (dCons (dTup (dCons (dTup (dCons (dC (.str "hard")) (dCons (dC (.int 0)) dNil))) (dCons (dTup (dCons (dC (.str "hard")) (dCons (dC (.int 1)) dNil))) dNil))) (dCons (dNew (dLst (dCons (dC (.str "can not")) (dCons (dC (.bool true)) dNil)))) (dCons (dNew (dLst (dCons (dC (.str "can not")) (dCons (dC (.bool true)) dNil)))) (dCons (dC (.bool true)) dNil))))))) (dgN 3))
    (dSeq (dAsg (dOp oCatL (dVar 2) (dNew (dLst (dCons (dCall CIsBypass (dCons (dVar 0) (dCons (dC (.int 2)) (dCons (dTup (dCons (dTup (dCons (dC (.str "hard")) (dCons (dC (.int 0)) dNil))) dNil)) dNil)))) (dCons (dCall CIsSlip (dCons (dVar 0) (dCons (dC (.int 0)) (dCons (dTup (dCons (dTup (dCons (dC (.int 0)) (dCons (dC (.int 1)) dNil))) (dCons (dTup (dCons (dC (.int 2)) (dCons (dC (.int 1)) dNil))) (dCons (dTup (dCons (dC (.int 4)) (dCons (dC (.int 1)) dNil))) dNil)))) dNil)))) dNil))))) (dgN 2))
    (dRet (dCall (CLawSame 20) (dCons (dVar 2) (dCons (dOp oCatL (dVar 3) (dNew (dLst (dCons (dC (.bool false)) (dCons (dC (.bool false)) dNil))))) dNil))))))))
def R_law_ways : DS := (dSeq (dParN 4 5 (dLst dNil) (dNew (dLst (dCons (dTup (dCons (dTup dNil) (dCons (dTup (dCons (dVar 1) dNil)) (dCons (dTup (dCons (dC (.int 0)) (dCons (dC (.int 1)) dNil))) dNil)))) dNil))))
    (dSeq (dWhile (dTst (dOp oNe (dVar 5) (dNew (dLst dNil))))
    (dSeq (dAsgN (dLst dNil) 6)
    (dSeq (dFor (dItS (dVar 5)) (dgTup 3 (dgCons (dgN 7) (dgCons (dgN 8) (dgCons (dgN 9) dgNil))))
    (dSeq (dIfS (dTst (dOp oEq (dOp oIx (dVar 8) (dUn oNeg (dC (.int 1)))) (dVar 2)))
    (dSeq (dApp 4 (dTup (dCons (dVar 7) (dCons (dVar 9) dNil))))
    dCont) dNext)
    (dFor (dItE (dCons (dOp oIx (dVar 0) (dC (.int 1))) dNil)) (dgTup 2 (dgCons (dgN 10) (dgCons (dgN 11) dgNil)))
    (dIfS (dAnd (dTst (dOp oNe (dVar 10) (dVar 3))) (dAnd (dTst (dOp oEq (dOp oIx (dVar 11) (dC (.int 0))) (dOp oIx (dVar 8) (dUn oNeg (dC (.int 1)))))) (dTst (dOp oNin (dOp oIx (dVar 11) (dC (.int 1))) (dVar 8)))))
    (dApp 6 (dTup (dCons (dOp oCatT (dVar 7) (dTup (dCons (dTup (dCons (dC (.str "hard")) (dCons (dVar 10) dNil))) dNil))) (dCons (dOp oCatT (dVar 8) (dTup (dCons (dOp oIx (dVar 11) (dC (.int 1))) dNil))) (dCons (dCall CLawPlus (dCons (dVar 9) (dCons (dOp oIx (dVar 11) (dC (.int 2))) dNil))) dNil))))) dNext))))
    (dAsg (dFrz 6) (dgN 5)))))
    (dRet (dFrz 4))))
end Dw
set_option maxRecDepth 100000
set_option maxHeartbeats 4000000
/-! The laws of numbers. -/
namespace Dw
open PySem PySem.Spec PyProof.Rows L2

/-! ### small steps -/
theorem iteS {b : Bool} {P Q : Prop} (h : b = true → P) (h2 : b = false → Q) : if b = true then P else Q := by
  cases b with
  | true => exact h rfl
  | false => exact h2 rfl
theorem iteY {b : Bool} {P Q : Prop} (e : b = true) (h : P) : if b = true then P else Q := by
  rw [if_pos e]
  exact h
theorem iteN {b : Bool} {P Q : Prop} (e : b = false) (h : Q) : if b = true then P else Q := by
  rw [e]
  exact h
theorem beq_int (i j : Int) : (i == j) = decide (i = j) := by
  by_cases h : i = j
  · rw [decide_eq_true h]
    exact beq_iff_eq.mpr h
  · rw [decide_eq_false h]
    exact beq_eq_false_iff_ne.mpr h
theorem eqv_int (i j : Int) : PyData.eqv (.int i) (.int j) = decide (i = j) := beq_int i j

/-! ### fractions -/
theorem fr_eq (h : Int) : 2 * fnum h = h * fden h := by
  unfold fnum fden
  split
  · omega
  · omega
theorem fden_or (h : Int) : fden h = 1 ∨ fden h = 2 := by
  unfold fden
  split
  · exact Or.inl rfl
  · exact Or.inr rfl
theorem fden_pos (h : Int) : 0 < fden h := by
  rcases fden_or h with e | e <;> omega
theorem cmul_r {i j : Int} (h : j = 1 ∨ j = 2) : CMul i j := by
  refine Or.inr ?_
  rcases h with h | h <;> subst h <;> decide
theorem mul_den {a b : Int} : fden a * fden b = 1 ∨ fden a * fden b = 2 ∨ fden a * fden b = 4 := by
  rcases fden_or a with e | e <;> rcases fden_or b with f | f <;> rw [e, f] <;> omega
theorem gcd_den {t b a : Int} (hb : b = 1 ∨ b = 2 ∨ b = 4) (e : 2 * t = a * b) :
    ∃ g : Nat, Nat.gcd t.natAbs b.natAbs = g ∧ g ≠ 0 ∧ g ≤ 4 ∧ t.fdiv (g : Int) = fnum a ∧ b.fdiv (g : Int) = fden a ∧ (∃ u : Int, t = u * g) ∧ ∃ u : Int, b = u * g := by
  have key : ∀ (g u v : Nat), t.natAbs = g * u → b.natAbs = g * v → Nat.gcd u v = 1 → Nat.gcd t.natAbs b.natAbs = g := fun g u v h1 h2 h3 => by
    rw [h1, h2, Nat.gcd_mul_left, h3, Nat.mul_one]
  have fd : ∀ (x g u : Int), 0 < g → x = u * g → x.fdiv g = u := fun x g u hg hx => by
    rw [hx, Int.fdiv_eq_ediv_of_nonneg _ (by omega)]
    exact Int.mul_ediv_cancel _ (by omega)
  rcases hb with rfl | rfl | rfl
  · refine ⟨1, key 1 t.natAbs 1 (by omega) (by rfl) (Nat.gcd_one_right _), by decide, by decide, ?_, ?_, ⟨t, by omega⟩, ⟨1, rfl⟩⟩
    · rw [fd t (1 : Nat) t (by decide) (by omega)]
      unfold fnum
      split <;> omega
    · rw [fd 1 (1 : Nat) 1 (by decide) rfl]
      unfold fden
      split <;> omega
  · by_cases h : a % 2 = 0
    · refine ⟨2, key 2 (a / 2).natAbs 1 (by omega) (by rfl) (Nat.gcd_one_right _), by decide, by decide, ?_, ?_, ⟨a / 2, by omega⟩, ⟨1, rfl⟩⟩
      · rw [fd t (2 : Nat) (a / 2) (by decide) (by omega)]
        unfold fnum
        rw [if_pos h]
      · rw [fd 2 (2 : Nat) 1 (by decide) rfl]
        unfold fden
        rw [if_pos h]
    · refine ⟨1, key 1 t.natAbs 2 (by omega) (by rfl) ?_, by decide, by decide, ?_, ?_, ⟨t, by omega⟩, ⟨2, rfl⟩⟩
      · have hm : t.natAbs % 2 = 1 := by omega
        rw [Nat.gcd_comm, Nat.gcd_rec, hm]
        rfl
      · rw [fd t (1 : Nat) t (by decide) (by omega)]
        unfold fnum
        rw [if_neg h]
        omega
      · rw [fd 2 (1 : Nat) 2 (by decide) rfl]
        unfold fden
        rw [if_neg h]
  · by_cases h : a % 2 = 0
    · refine ⟨4, key 4 (a / 2).natAbs 1 (by omega) (by rfl) (Nat.gcd_one_right _), by decide, by decide, ?_, ?_, ⟨a / 2, by omega⟩, ⟨1, rfl⟩⟩
      · rw [fd t (4 : Nat) (a / 2) (by decide) (by omega)]
        unfold fnum
        rw [if_pos h]
      · rw [fd 4 (4 : Nat) 1 (by decide) rfl]
        unfold fden
        rw [if_pos h]
    · refine ⟨2, key 2 a.natAbs 2 (by omega) (by rfl) ?_, by decide, by decide, ?_, ?_, ⟨a, by omega⟩, ⟨2, rfl⟩⟩
      · have hm : a.natAbs % 2 = 1 := by omega
        rw [Nat.gcd_comm, Nat.gcd_rec, hm]
        rfl
      · rw [fd t (2 : Nat) a (by decide) (by omega)]
        unfold fnum
        rw [if_neg h]
      · rw [fd 4 (2 : Nat) 2 (by decide) rfl]
        unfold fden
        rw [if_neg h]
theorem cdiv_g {i : Int} {g : Nat} (h : g ≠ 0) (h2 : g ≤ 4) : CDivN i (g : Int) := ⟨by omega, by omega⟩
theorem sum_eq {a b : Int} : 2 * (fnum a * fden b + fnum b * fden a) = (a + b) * (fden a * fden b) := by
  have h1 := fr_eq a
  have h2 := fr_eq b
  rw [Int.mul_add, ← Int.mul_assoc, h1, ← Int.mul_assoc, h2, Int.add_mul, Int.mul_assoc, Int.mul_assoc b, Int.mul_comm (fden b) (fden a)]
theorem dif_eq {a b : Int} : 2 * (fnum a * fden b - fnum b * fden a) = (a - b) * (fden a * fden b) := by
  have h1 := fr_eq a
  have h2 := fr_eq b
  rw [Int.mul_sub, ← Int.mul_assoc, h1, ← Int.mul_assoc, h2, Int.sub_mul, Int.mul_assoc, Int.mul_assoc b, Int.mul_comm (fden b) (fden a)]
theorem cross_lt (a b : Int) : fnum b * fden a < fnum a * fden b ↔ b < a := by
  have e := dif_eq (a := a) (b := b)
  have hp : 0 < fden a * fden b := Int.mul_pos (fden_pos a) (fden_pos b)
  constructor
  · intro h
    have h1 : 0 < (a - b) * (fden a * fden b) := by omega
    have := Int.pos_of_mul_pos_left h1 hp
    omega
  · intro h
    have h1 : 0 < (a - b) * (fden a * fden b) := Int.mul_pos (by omega) hp
    omega
theorem cross_eq (a b : Int) : fnum a * fden b = fnum b * fden a ↔ a = b := by
  have h1 := cross_lt a b
  have h2 := cross_lt b a
  constructor
  · intro h
    have : ¬ b < a := fun z => by
      have := h1.mpr z
      omega
    have : ¬ a < b := fun z => by
      have := h2.mpr z
      omega
    omega
  · intro h
    rw [h]

/-! ### the defs of numbers -/
theorem go_is_number : ∀ ds Φ, CIsNumber ds Φ → R_is_number (endsD Φ) (startD ["thing"] ds) := by
  intro ds Φ h
  cases h with
  | mk d Φ h =>
    refine iteS (fun e => ?_) (fun e => ?_)
    · rw [e] at h
      exact h
    · rw [e] at h
      exact h
theorem go_law_is_number : ∀ ds Φ, CLawIsNumber ds Φ → R_law_is_number (endsD Φ) (startD ["_law_own"] ds) := by
  intro ds Φ h
  cases h with
  | mk d Φ h =>
    refine iteS (fun e => ?_) (fun e => ?_)
    · rw [e] at h
      exact h
    · rw [e] at h
      exact h
theorem go_is_tuple_of : ∀ ds Φ, CIsTupleOf ds Φ → R_is_tuple_of (endsD Φ) (startD ["thing", "many"] ds) := by
  intro ds Φ h
  cases h with
  | mk d m Φ h =>
    cases d with
    | tuple ds =>
      refine ⟨rfl, rfl, ?_⟩
      show Φ (.bool (PyData.eqv (.int (ds.length : Int)) (.int m)))
      rw [eqv_int]
      exact h
    | _ => exact h
theorem go_plus : ∀ ds Φ, CPlus ds Φ → R_plus (endsD Φ) (startD ["x", "y"] ds) := by
  intro ds Φ h
  cases h with
  | mk a b Φ h => exact ⟨cmul_r (fden_or b), cmul_r (fden_or a), cmul_r (fden_or b), CFraction.mk _ _ (a + b) _ mul_den sum_eq h⟩
theorem go_minus : ∀ ds Φ, CMinus ds Φ → R_minus (endsD Φ) (startD ["x", "y"] ds) := by
  intro ds Φ h
  cases h with
  | mk a b Φ h => exact ⟨cmul_r (fden_or b), cmul_r (fden_or a), cmul_r (fden_or b), CFraction.mk _ _ (a - b) _ mul_den dif_eq h⟩
theorem go_law_plus : ∀ ds Φ, CLawPlus ds Φ → R_law_plus (endsD Φ) (startD ["_law_x", "_law_y"] ds) := by
  intro ds Φ h
  cases h with
  | mk a b Φ h => exact ⟨cmul_r (fden_or b), cmul_r (fden_or a), cmul_r (fden_or b), CLawCut.mk _ _ (a + b) _ mul_den sum_eq h⟩
theorem go_law_minus : ∀ ds Φ, CLawMinus ds Φ → R_law_minus (endsD Φ) (startD ["_law_x", "_law_y"] ds) := by
  intro ds Φ h
  cases h with
  | mk a b Φ h => exact ⟨cmul_r (fden_or b), cmul_r (fden_or a), cmul_r (fden_or b), CLawCut.mk _ _ (a - b) _ mul_den dif_eq h⟩
theorem go_law_under : ∀ ds Φ, CLawUnder ds Φ → R_law_under (endsD Φ) (startD ["_law_x", "_law_y"] ds) := by
  intro ds Φ h
  cases h with
  | mk a b Φ h =>
    refine ⟨cmul_r (fden_or b), cmul_r (fden_or a), ?_⟩
    show Φ (.bool (decide (fnum a * fden b < fnum b * fden a)))
    rw [decide_eq_decide.mpr (cross_lt b a)]
    exact h
theorem go_order : ∀ ds Φ, COrder ds Φ → R_order (endsD Φ) (startD ["x", "y", "one", "other"] ds) := by
  intro ds Φ h
  cases h with
  | mk a b Φ h =>
    refine ⟨cmul_r (fden_or b), cmul_r (fden_or a), rfl, rfl, iteS (fun e => ?_) fun e => iteS (fun f => ?_) fun f => ?_⟩
    · rw [eqv_int, decide_eq_true_iff, cross_eq] at e
      subst e
      have e2 : sgnI (a - a) = 0 := by
        unfold sgnI
        rw [if_pos (by omega)]
      rw [e2] at h
      exact h
    · have f' := (cross_lt a b).mp (of_decide_eq_true f)
      have e2 : sgnI (a - b) = 1 := by
        unfold sgnI
        rw [if_neg (by omega), if_pos (by omega)]
      rw [e2] at h
      exact h
    · rw [eqv_int, decide_eq_false_iff_not, cross_eq] at e
      have f' : ¬ b < a := fun z => of_decide_eq_false f ((cross_lt a b).mpr z)
      have e2 : sgnI (a - b) = -1 := by
        unfold sgnI
        rw [if_neg (by omega), if_neg (by omega)]
      rw [e2] at h
      exact h
theorem go_fraction : ∀ ds Φ, CFraction ds Φ → R_fraction (endsD Φ) (startD ["top", "bottom", "common"] ds) := by
  intro ds Φ h
  cases h with
  | mk t b a Φ hb e h =>
    obtain ⟨g, hg, g0, g4, e1, e2, _, _⟩ := gcd_den hb e
    refine ⟨rfl, rfl, iteN ?_ (iteN ?_ ?_)⟩
    · rw [eqv_int]
      exact decide_eq_false (by omega)
    · exact decide_eq_false (by omega)
    · refine ⟨?_, ?_, Nat.le_of_ble_eq_true rfl, ?_⟩
      · rw [hg]
        exact cdiv_g g0 g4
      · rw [hg]
        exact cdiv_g g0 g4
      · have h' : Φ (.tuple [.int (fnum a), .int (fden a)]) := h
        rw [← e1, ← e2, ← hg] at h'
        exact h'
theorem go_is_fraction : ∀ ds Φ, CIsFraction ds Φ → R_is_fraction (endsD Φ) (startD ["thing", "top", "bottom"] ds) := by
  intro ds Φ h
  cases h with
  | mk a Φ h =>
    refine ⟨rfl, rfl, rfl, CIsNumber.mk _ _ (CIsNumber.mk _ _ (iteY (decide_eq_true (fden_pos a)) ⟨rfl, rfl, ?_⟩))⟩
    have e : PyData.eqv (.int ((Nat.gcd (fnum a).natAbs (fden a).natAbs : Nat) : Int)) (.int 1) = true := by
      rw [eqv_int, decide_eq_true_iff]
      obtain ⟨g, hg, g0, _, e1, e2, ⟨u, hu⟩, ⟨v, hv⟩⟩ := gcd_den (t := fnum a) (b := fden a) (a := a) (by rcases fden_or a with z | z <;> omega) (fr_eq a)
      rw [hg]
      have h3 : fden a = v := by
        rw [← e2, hv, Int.fdiv_eq_ediv_of_nonneg _ (by omega)]
        exact Int.mul_ediv_cancel _ (by omega)
      have hp := fden_pos a
      rw [h3] at hv hp
      have h4 : v * ((g : Int) - 1) = 0 := by
        rw [Int.mul_sub, Int.mul_one]
        omega
      rcases Int.mul_eq_zero.mp h4 with z | z <;> omega
    show Φ (.bool (PyData.eqv (.int ((Nat.gcd (fnum a).natAbs (fden a).natAbs : Nat) : Int)) (.int 1)))
    rw [e]
    exact h
theorem go_is_thing_below : ∀ ds Φ, CIsThingBelow ds Φ → R_is_thing_below (endsD Φ) (startD ["thing", "many"] ds) := by
  intro ds Φ h
  cases h with
  | mk i m Φ h =>
    refine CIsNumber.mk _ _ (iteS (fun e => ?_) fun e => ?_)
    · show Φ (.bool (decide (i < m)))
      have z := of_decide_eq_true e
      rw [decide_eq_decide.mpr (show i < m ↔ 0 ≤ i ∧ i < m by omega)]
      exact h
    · have z := of_decide_eq_false e
      rw [decide_eq_false (show ¬ (0 ≤ i ∧ i < m) by omega)] at h
      exact h
theorem atI_nat {ds : List PyData} {i : Nat} {d : PyData} (h : ds[i]? = some d) : atI ds (i : Int) = some d := by
  have hl := (List.getElem?_eq_some_iff.mp h).1
  unfold atI ixN
  rw [if_pos (by omega), if_pos (by omega)]
  exact h
end Dw
set_option maxRecDepth 100000
set_option maxHeartbeats 4000000
/-! The text: its defs, their names and scopes; what the module's names stand for. -/
namespace Dw
open PySem PySem.Spec PyProof.Rows L2
def topS (i : Nat) : Stmt := PySem.Challenge.pw_likecuts_k31_whole_idle_hard_rules.main.body.getD i (.Pass ⟨0, 0, 0, 0⟩)
abbrev n7 : List Str := ["thing"]
theorem sc7 : FnScope n7 ["thing"] (defScope (topS 7)) := ⟨rfl, rfl, rfl, by decide +kernel, rfl, by decide +kernel, by decide +kernel⟩
abbrev n8 : List Str := ["thing", "part"]
theorem sc8 : FnScope n8 ["thing"] (defScope (topS 8)) := ⟨rfl, rfl, rfl, by decide +kernel, rfl, by decide +kernel, by decide +kernel⟩
abbrev n9 : List Str := ["thing", "many"]
theorem sc9 : FnScope n9 ["thing", "many"] (defScope (topS 9)) := ⟨rfl, rfl, rfl, by decide +kernel, rfl, by decide +kernel, by decide +kernel⟩
abbrev n12 : List Str := ["thing", "top", "bottom"]
theorem sc12 : FnScope n12 ["thing"] (defScope (topS 12)) := ⟨rfl, rfl, rfl, by decide +kernel, rfl, by decide +kernel, by decide +kernel⟩
abbrev n13 : List Str := ["top", "bottom", "common"]
theorem sc13 : FnScope n13 ["top", "bottom"] (defScope (topS 13)) := ⟨rfl, rfl, rfl, by decide +kernel, rfl, by decide +kernel, by decide +kernel⟩
abbrev n14 : List Str := ["x", "y"]
theorem sc14 : FnScope n14 ["x", "y"] (defScope (topS 14)) := ⟨rfl, rfl, rfl, by decide +kernel, rfl, by decide +kernel, by decide +kernel⟩
abbrev n15 : List Str := ["x", "y"]
theorem sc15 : FnScope n15 ["x", "y"] (defScope (topS 15)) := ⟨rfl, rfl, rfl, by decide +kernel, rfl, by decide +kernel, by decide +kernel⟩
abbrev n16 : List Str := ["x", "y", "one", "other"]
theorem sc16 : FnScope n16 ["x", "y"] (defScope (topS 16)) := ⟨rfl, rfl, rfl, by decide +kernel, rfl, by decide +kernel, by decide +kernel⟩
abbrev n20 : List Str := ["thing", "many"]
theorem sc20 : FnScope n20 ["thing", "many"] (defScope (topS 20)) := ⟨rfl, rfl, rfl, by decide +kernel, rfl, by decide +kernel, by decide +kernel⟩
abbrev n21 : List Str := ["sheet", "k"]
theorem sc21 : FnScope n21 ["sheet"] (defScope (topS 21)) := ⟨rfl, rfl, rfl, by decide +kernel, rfl, by decide +kernel, by decide +kernel⟩
abbrev n22 : List Str := ["sheet", "thing"]
theorem sc22 : FnScope n22 ["sheet", "thing"] (defScope (topS 22)) := ⟨rfl, rfl, rfl, by decide +kernel, rfl, by decide +kernel, by decide +kernel⟩
abbrev n23 : List Str := ["sheet", "mark", "own"]
theorem sc23 : FnScope n23 ["sheet", "mark"] (defScope (topS 23)) := ⟨rfl, rfl, rfl, by decide +kernel, rfl, by decide +kernel, by decide +kernel⟩
abbrev n24 : List Str := ["sheet", "ring", "found", "mark"]
theorem sc24 : FnScope n24 ["sheet", "ring"] (defScope (topS 24)) := ⟨rfl, rfl, rfl, by decide +kernel, rfl, by decide +kernel, by decide +kernel⟩
abbrev n25 : List Str := ["sheet", "hard", "far", "by", "last", "i", "j", "_", "k", "gap", "way", "place"]
theorem sc25 : FnScope n25 ["sheet"] (defScope (topS 25)) := ⟨rfl, rfl, rfl, by decide +kernel, rfl, by decide +kernel, by decide +kernel⟩
abbrev n26 : List Str := ["sheet", "own", "ring"]
theorem sc26 : FnScope n26 ["sheet"] (defScope (topS 26)) := ⟨rfl, rfl, rfl, by decide +kernel, rfl, by decide +kernel, by decide +kernel⟩
abbrev n27 : List Str := ["sheet", "i", "found", "_", "near", "far", "gap", "there"]
theorem sc27 : FnScope n27 ["sheet", "i"] (defScope (topS 27)) := ⟨rfl, rfl, rfl, by decide +kernel, rfl, by decide +kernel, by decide +kernel⟩
abbrev n30 : List Str := ["layout", "rule"]
theorem sc30 : FnScope n30 ["layout", "rule"] (defScope (topS 30)) := ⟨rfl, rfl, rfl, by decide +kernel, rfl, by decide +kernel, by decide +kernel⟩
abbrev n31 : List Str := ["sheet", "thing", "many", "hard", "_", "own", "rule"]
theorem sc31 : FnScope n31 ["sheet", "thing"] (defScope (topS 31)) := ⟨rfl, rfl, rfl, by decide +kernel, rfl, by decide +kernel, by decide +kernel⟩
abbrev n33 : List Str := ["sheet", "marks", "hard", "k", "rule"]
theorem sc33 : FnScope n33 ["sheet", "marks"] (defScope (topS 33)) := ⟨rfl, rfl, rfl, by decide +kernel, rfl, by decide +kernel, by decide +kernel⟩
abbrev n34 : List Str := ["sheet", "mark", "one"]
theorem sc34 : FnScope n34 ["sheet", "mark"] (defScope (topS 34)) := ⟨rfl, rfl, rfl, by decide +kernel, rfl, by decide +kernel, by decide +kernel⟩
abbrev n35 : List Str := ["sheet", "k", "own"]
theorem sc35 : FnScope n35 ["sheet", "k"] (defScope (topS 35)) := ⟨rfl, rfl, rfl, by decide +kernel, rfl, by decide +kernel, by decide +kernel⟩
abbrev n36 : List Str := ["sheet", "k", "i", "j", "far", "gap"]
theorem sc36 : FnScope n36 ["sheet", "k"] (defScope (topS 36)) := ⟨rfl, rfl, rfl, by decide +kernel, rfl, by decide +kernel, by decide +kernel⟩
abbrev n37 : List Str := ["sheet", "own", "k"]
theorem sc37 : FnScope n37 ["sheet"] (defScope (topS 37)) := ⟨rfl, rfl, rfl, by decide +kernel, rfl, by decide +kernel, by decide +kernel⟩
abbrev n38 : List Str := ["sheet", "ways", "gone", "found", "way", "met", "k", "i", "j", "_"]
theorem sc38 : FnScope n38 ["sheet", "ways", "gone"] (defScope (topS 38)) := ⟨rfl, rfl, rfl, by decide +kernel, rfl, by decide +kernel, by decide +kernel⟩
abbrev n39 : List Str := ["sheet", "k", "own", "i", "j", "far", "ways", "goods", "way", "met"]
theorem sc39 : FnScope n39 ["sheet", "k"] (defScope (topS 39)) := ⟨rfl, rfl, rfl, by decide +kernel, rfl, by decide +kernel, by decide +kernel⟩
abbrev n40 : List Str := ["sheet", "k", "thing", "own", "i", "j", "far", "mark", "met", "one", "other", "_"]
theorem sc40 : FnScope n40 ["sheet", "k", "thing"] (defScope (topS 40)) := ⟨rfl, rfl, rfl, by decide +kernel, rfl, by decide +kernel, by decide +kernel⟩
abbrev n41 : List Str := ["sheet", "found", "_", "i", "j", "far", "place"]
theorem sc41 : FnScope n41 ["sheet"] (defScope (topS 41)) := ⟨rfl, rfl, rfl, by decide +kernel, rfl, by decide +kernel, by decide +kernel⟩
abbrev n42 : List Str := ["sheet", "k", "own", "i", "j", "far", "left", "gap", "most"]
theorem sc42 : FnScope n42 ["sheet", "k"] (defScope (topS 42)) := ⟨rfl, rfl, rfl, by decide +kernel, rfl, by decide +kernel, by decide +kernel⟩
abbrev n43 : List Str := ["sheet", "k", "thing", "own"]
theorem sc43 : FnScope n43 ["sheet", "k", "thing"] (defScope (topS 43)) := ⟨rfl, rfl, rfl, by decide +kernel, rfl, by decide +kernel, by decide +kernel⟩
abbrev n45 : List Str := ["_law_script", "_law_k", "_law_cell"]
theorem sc45 : FnScope n45 ["_law_script", "_law_k"] (defScope (topS 45)) := ⟨rfl, rfl, rfl, by decide +kernel, rfl, by decide +kernel, by decide +kernel⟩
abbrev n46 : List Str := ["_law_urn", "_law_low_so", "_law_drawn", "_law_once", "_law_far", "_law_twice"]
theorem sc46 : FnScope n46 ["_law_urn", "_law_low_so"] (defScope (topS 46)) := ⟨rfl, rfl, rfl, by decide +kernel, rfl, by decide +kernel, by decide +kernel⟩
abbrev n47 : List Str := ["_law_script", "_law_top", "_law_cells_here", "_law_k", "_law_cell", "_law_at_so"]
theorem sc47 : FnScope n47 ["_law_script", "_law_top"] (defScope (topS 47)) := ⟨rfl, rfl, rfl, by decide +kernel, rfl, by decide +kernel, by decide +kernel⟩
abbrev n48 : List Str := ["_law_urn", "_law_some_so"]
theorem sc48 : FnScope n48 ["_law_urn", "_law_some_so"] (defScope (topS 48)) := ⟨rfl, rfl, rfl, by decide +kernel, rfl, by decide +kernel, by decide +kernel⟩
abbrev n49 : List Str := ["_law_got", "_law_goal", "_law_mine_so", "_law_own"]
theorem sc49 : FnScope n49 ["_law_got", "_law_goal"] (defScope (topS 49)) := ⟨rfl, rfl, rfl, by decide +kernel, rfl, by decide +kernel, by decide +kernel⟩
abbrev n50 : List Str := ["_law_matter", "_law_own"]
theorem sc50 : FnScope n50 ["_law_matter"] (defScope (topS 50)) := ⟨rfl, rfl, rfl, by decide +kernel, rfl, by decide +kernel, by decide +kernel⟩
abbrev n51 : List Str := ["_law_own"]
theorem sc51 : FnScope n51 ["_law_own"] (defScope (topS 51)) := ⟨rfl, rfl, rfl, by decide +kernel, rfl, by decide +kernel, by decide +kernel⟩
abbrev n52 : List Str := ["_law_top", "_law_bottom", "_law_far_so", "_law_near_so"]
theorem sc52 : FnScope n52 ["_law_top", "_law_bottom"] (defScope (topS 52)) := ⟨rfl, rfl, rfl, by decide +kernel, rfl, by decide +kernel, by decide +kernel⟩
abbrev n53 : List Str := ["_law_x", "_law_y"]
theorem sc53 : FnScope n53 ["_law_x", "_law_y"] (defScope (topS 53)) := ⟨rfl, rfl, rfl, by decide +kernel, rfl, by decide +kernel, by decide +kernel⟩
abbrev n54 : List Str := ["_law_x", "_law_y"]
theorem sc54 : FnScope n54 ["_law_x", "_law_y"] (defScope (topS 54)) := ⟨rfl, rfl, rfl, by decide +kernel, rfl, by decide +kernel, by decide +kernel⟩
abbrev n55 : List Str := ["_law_x", "_law_y"]
theorem sc55 : FnScope n55 ["_law_x", "_law_y"] (defScope (topS 55)) := ⟨rfl, rfl, rfl, by decide +kernel, rfl, by decide +kernel, by decide +kernel⟩
abbrev n56 : List Str := ["_law_laid", "_law_rule"]
theorem sc56 : FnScope n56 ["_law_laid", "_law_rule"] (defScope (topS 56)) := ⟨rfl, rfl, rfl, by decide +kernel, rfl, by decide +kernel, by decide +kernel⟩
abbrev n57 : List Str := ["_law_sheet", "_law_told", "_law_own", "_law_rule"]
theorem sc57 : FnScope n57 ["_law_sheet", "_law_told"] (defScope (topS 57)) := ⟨rfl, rfl, rfl, by decide +kernel, rfl, by decide +kernel, by decide +kernel⟩
abbrev n58 : List Str := ["_law_door", "_law_sheet", "_law_k"]
theorem sc58 : FnScope n58 ["_law_door", "_law_sheet", "_law_k"] (defScope (topS 58)) := ⟨rfl, rfl, rfl, by decide +kernel, rfl, by decide +kernel, by decide +kernel⟩
abbrev n59 : List Str := ["_law_plain"]
theorem sc59 : FnScope n59 [] (defScope (topS 59)) := ⟨rfl, rfl, rfl, by decide +kernel, rfl, by decide +kernel, by decide +kernel⟩
abbrev n60 : List Str := ["_law_boxes_here", "_law_good", "_law_heard_here", "_law_due"]
theorem sc60 : FnScope n60 [] (defScope (topS 60)) := ⟨rfl, rfl, rfl, by decide +kernel, rfl, by decide +kernel, by decide +kernel⟩
abbrev n61 : List Str := ["_law_sheet", "_law_i", "_law_j", "_law_gone", "_law_found", "_law_now", "_law_later", "_law_row", "_law_met", "_law_far", "_law_k", "_law_rule"]
theorem sc61 : FnScope n61 ["_law_sheet", "_law_i", "_law_j", "_law_gone"] (defScope (topS 61)) := ⟨rfl, rfl, rfl, by decide +kernel, rfl, by decide +kernel, by decide +kernel⟩
abbrev n62 : List Str := ["_law_urn", "_law_many", "_law_spots", "_law_one", "_law_hard", "_law_lap", "_law_other", "_law_plain"]
theorem sc62 : FnScope n62 ["_law_urn"] (defScope (topS 62)) := ⟨rfl, rfl, rfl, by decide +kernel, rfl, by decide +kernel, by decide +kernel⟩
abbrev n63 : List Str := ["_law_urn", "_law_sheet", "_law_k", "_law_i", "_law_j", "_law_far", "_law_ways_here", "_law_goods", "_law_row", "_law_sum_so", "_law_left", "_law_told", "_law_bared", "_law_some", "_law_due", "_law_more", "_law_same_so", "_law_own", "_law_laid", "_law_one", "_law_moved"]
theorem sc63 : FnScope n63 ["_law_urn", "_law_sheet", "_law_k"] (defScope (topS 63)) := ⟨rfl, rfl, rfl, by decide +kernel, rfl, by decide +kernel, by decide +kernel⟩
abbrev n64 : List Str := ["_law_urn", "_law_sheet", "_law_found", "_law_k", "_law_rule", "_law_row", "_law_far", "_law_some", "_law_lap"]
theorem sc64 : FnScope n64 ["_law_urn"] (defScope (topS 64)) := ⟨rfl, rfl, rfl, by decide +kernel, rfl, by decide +kernel, by decide +kernel⟩
abbrev n65 : List Str := ["_law_script"]
theorem sc65 : FnScope n65 ["_law_script"] (defScope (topS 65)) := ⟨rfl, rfl, rfl, by decide +kernel, rfl, by decide +kernel, by decide +kernel⟩
def defL : List (Nat × Str) := [(7, ("is_number" : Str)), (8, ("tuple_of" : Str)), (9, ("is_tuple_of" : Str)), (12, ("is_fraction" : Str)), (13, ("fraction" : Str)), (14, ("plus" : Str)), (15, ("minus" : Str)), (16, ("order" : Str)), (20, ("is_thing_below" : Str)), (21, ("marks_of" : Str)), (22, ("has_mark" : Str)), (23, ("rule_of" : Str)), (24, ("ring_far" : Str)), (25, ("no_room" : Str)), (26, ("sure_room" : Str)), (27, ("gaps_from" : Str)), (30, ("gap_between" : Str)), (31, ("is_layout" : Str)), (33, ("sheet_of" : Str)), (34, ("without" : Str)), (35, ("sure_hard" : Str)), (36, ("is_idle" : Str)), (37, ("idle_hard" : Str)), (38, ("longer_ways" : Str)), (39, ("bypass" : Str)), (40, ("is_bypass" : Str)), (41, ("some_layout" : Str)), (42, ("slip" : Str)), (43, ("is_slip" : Str)), (45, ("_law_box" : Str)), (46, ("_law_take" : Str)), (47, ("_law_cells" : Str)), (48, ("_law_of" : Str)), (49, ("_law_same" : Str)), (50, ("_law_lists" : Str)), (51, ("_law_is_number" : Str)), (52, ("_law_cut" : Str)), (53, ("_law_minus" : Str)), (54, ("_law_plus" : Str)), (55, ("_law_under" : Str)), (56, ("_law_gap" : Str)), (57, ("_law_is_laid" : Str)), (58, ("_law_heard" : Str)), (59, ("_law_boxes" : Str)), (60, ("_law_by_hand_right" : Str)), (61, ("_law_ways" : Str)), (62, ("_law_drawn_sheet" : Str)), (63, ("_law_rule_right" : Str)), (64, ("_law_right" : Str)), (65, ("law" : Str))]
abbrev FnP (K : PySem.W.Frag) (x : Str) (st : Stmt) (f : Addr) (fd : FuncData) : Prop := FunD K x x (defArgs st) (defBody st) (defScope st) [] [] f fd
/-- what the program's top has written -/
structure Mg (K : Fg) (mg : Str → Option Value) : Type extends Mc K mg where
  fn : ∀ p ∈ defL, ∃ f fd, FnP K p.2 (topS p.1) f fd ∧ mg p.2 = some (.ref f)
  can : Addr
  can_g : mg "CanNot" = some (.ref can)
  can_x : PySem.W.excIn K can He.veBase "ValueError.__new__" = true
  can_p : PySem.W.keepIn K (.ref can) = true
  can_s : PySem.W.subIn K (.ref can) (.type "BaseException") = some true
  can_t : PySem.W.typeIn K (.ref can) = some (.type "type")
  can_e : PySem.W.exmOne K (.ref can) (.ref can) = some true
  can_c : ExcC K can
  can_k : PySem.W.kitOne K (.ref can) (.type "ValueError") = some true
section
variable {P : Program} {w : World} {K : Fg} {mg : Str → Option Value} {base : Heap}
theorem ok_bodyD {x : Str} {st : Stmt} {f : Addr} {fd : FuncData} {N ps : List Str} {k : Nat} {ρ : Ct} (F : FnP K x st f fd) (Sc : FnScope N ps (defScope st)) (hps : ps.length ≤ N.length) (len : ∀ ds Φ, ρ ds Φ → ds.length = ps.length)
    (body : ∀ (cdv : Value) (A : Around) (outer : List Env) (s : Shared) (H : Hp) (E : XK), Room k (A.deeper (envOfC x (defScope st) s.heap.objs.size f cdv)) →
      ∃ ts T, PBx (cxOf CX0 P w K mg base N x (defScope st) f cdv A outer s H E).nox (defBody st) ts T ∧ ∀ ds Φ, ρ ds Φ → T (endsD Φ) (startD N ds)) :
    FnOk P w K mg base CX0 (k + 1) f fd ps (spD K ρ) := by
  refine F.ok Sc (fun vs H Q E h => ?_) (fun cdv A outer s H vs Q E hr h => ?_)
  · obtain ⟨H0, ds, Φ, _, hd, r, _⟩ := h
    rw [Dps.len hd]
    exact len ds Φ r
  · obtain ⟨H0, ds, Φ, e0, hd, r, kk⟩ := h
    obtain ⟨ts, T, hb, ht⟩ := body cdv A outer s H E hr
    refine ⟨ts, PSs.nox hb.ps, hb.sn ⟨H, H0, fun _ => False⟩ H0 H _ (startD N ds) (endsD Φ) _ (start_sr e0 hd (by rw [len ds Φ r]; exact hps)) (ht ds Φ r) ?_⟩
    have out : ∀ {H' H0' : Hp} {σ' : L2.St} {S' : DSt} {v : V} {d : PyData}, SR K ⟨H, H0, fun _ => False⟩ H0' H' σ' S' → Dp K H0' v d → Φ d → Q v H' := fun {H' H0' σ' S' v d} R hv q =>
      kk v d H' H0' (fun b o z => R.fr b o z fun z => z) R.e0 R.le (fun b o z => by
        rcases R.nw b o z with a | a | a
        · exact Or.inl a
        · exact Or.inr a
        · exact a.elim) hv q
    exact ⟨fun H' H0' σ' S' _ R q => out R .non q, fun v d H' H0' σ' S' _ R hv q => out R hv q, fun _ _ _ _ _ _ q => q.elim, fun _ _ _ _ _ _ q => q.elim⟩
theorem ok_of {x : Str} {st : Stmt} {N ps : List Str} {k : Nat} {ρ : Ct} (h : ∃ f fd, FnP K x st f fd ∧ mg x = some (.ref f)) (Sc : FnScope N ps (defScope st)) (hps : ps.length ≤ N.length)
    (hb : ∀ (kV doc pm : Value) (an : Option Addr) (cdv ct : Value) (us : List Value), us.length = ps.length → bindArgs (PySem.W.fnOf x x (defArgs st) (defBody st) (defScope st) .none kV doc pm an cdv ct) ⟨us, []⟩ = pure (ps.zip us))
    (len : ∀ ds Φ, ρ ds Φ → ds.length = ps.length)
    (body : ∀ {f : Addr} (cdv : Value) (A : Around) (outer : List Env) (s : Shared) (H : Hp) (E : XK), Room k (A.deeper (envOfC x (defScope st) s.heap.objs.size f cdv)) →
      ∃ ts T, PBx (cxOf CX0 P w K mg base N x (defScope st) f cdv A outer s H E).nox (defBody st) ts T ∧ ∀ ds Φ, ρ ds Φ → T (endsD Φ) (startD N ds)) :
    OkD P w K mg base CX0 (k + 1) x ps (spD K ρ) := by
  obtain ⟨f, fd, F, g⟩ := h
  exact ⟨f, fd, g, F.kp, F.bindsN hb, ok_bodyD F Sc hps len fun cdv A outer s H E hr => body cdv A outer s H E hr⟩
end
end Dw
set_option maxRecDepth 100000
set_option maxHeartbeats 0
/-! The head. -/
namespace Dw
open PySem PySem.Spec PyProof.Rows L2
def defD (p : Nat × Str) : He.DefD := ⟨(p.2, none), p.2, p.2, defArgs (topS p.1), defBody (topS p.1), defScope (topS p.1), [], []⟩
def fnL : List He.DefD := defL.map defD
def tailF : List He.Fa := [.glo "NONE", .glo "NOUGHT", .str "HARD" "hard", .str "EASE" "ease", .glo "CanNot", .exc "CanNot", .exm "CanNot" "CanNot" true]
def faL : List He.Fa := defL.map (fun p => He.Fa.glo p.2) ++ freeN.map He.Fa.free ++ tailF
def exB (K : PySem.W.Frag) : Bool := He.tupB K "NONE" [.int 0, .int 1] && (He.tupB K "NOUGHT" [.int 0, .int 1] && (He.eqO (PySem.W.nsIn K mainGlobals "gcd") (some (some (.builtin "math.gcd"))) &&
  (He.eqO (PySem.W.findIn K (.ref (He.ga K "CanNot")) "__getattribute__") (some (some (.builtin "BaseException.__getattribute__"))) && (He.eqO (PySem.W.findIn K (.ref (He.ga K "CanNot")) "__getattr__") (some none) &&
  (PySem.W.hasDictIn K (He.ga K "CanNot") && (He.eqO (PySem.W.findIn K (.ref (He.ga K "CanNot")) "__class__") (some (some (.builtin "object.__class__"))) && (He.eqO (PySem.W.specialIn K (.builtin "object.__class__") "__get__") (some (some (.builtin "getset_descriptor.__get__"))) &&
  (decide (PySem.W.takesIn K (.builtin "object.__class__") = some true) && (decide (PySem.W.mroIn K (He.ga K "CanNot") (.type "object") = some true) && decide (PySem.W.kitOne K (.ref (He.ga K "CanNot")) (.type "ValueError") = some true))))))))))
abbrev hRow : PySem.W.OpenRow := PySem.W.OpenLaw.row PySem.Challenge.rw_likecuts_k31_whole_idle_hard_rules
abbrev hHook : PySem.W.Hook := He.hookX 3 faL fnL [] [] exB
def hOb (s : PySem.W.SharedT) : He.AlX := He.obsX 3 faL fnL [] [] exB (HandSHeadRun.getT s)
theorem hOb_eq (s : PySem.W.SharedT) : hOb s = hHook.obs s.abs := He.obsX_eq (HandSHeadRun.getT_eq s)
def looseL : List Str := [("NoPlace" : Str), ("CanNot" : Str), ("Unfit" : Str), ("NoRoom" : Str), ("NONE" : Str), ("HARD" : Str), ("EASE" : Str), ("NOUGHT" : Str), ("is_number" : Str), ("tuple_of" : Str), ("is_tuple_of" : Str), ("is_fraction" : Str), ("fraction" : Str), ("plus" : Str), ("minus" : Str), ("order" : Str), ("is_thing_below" : Str), ("marks_of" : Str), ("has_mark" : Str), ("rule_of" : Str), ("ring_far" : Str), ("no_room" : Str), ("sure_room" : Str), ("gaps_from" : Str), ("gap_between" : Str), ("is_layout" : Str), ("sheet_of" : Str), ("without" : Str), ("sure_hard" : Str), ("is_idle" : Str), ("idle_hard" : Str), ("longer_ways" : Str), ("bypass" : Str), ("is_bypass" : Str), ("some_layout" : Str), ("slip" : Str), ("is_slip" : Str), ("_law_box" : Str), ("_law_take" : Str), ("_law_cells" : Str), ("_law_of" : Str), ("_law_same" : Str), ("_law_lists" : Str), ("_law_is_number" : Str), ("_law_cut" : Str), ("_law_minus" : Str), ("_law_plus" : Str), ("_law_under" : Str), ("_law_gap" : Str), ("_law_is_laid" : Str), ("_law_heard" : Str), ("_law_boxes" : Str), ("_law_by_hand_right" : Str), ("_law_ways" : Str), ("_law_drawn_sheet" : Str), ("_law_rule_right" : Str), ("_law_right" : Str)]
theorem hRun (w : World) : HandSHeadRun.RunEqI hRow (PySem.W.view hRow.prog [0, 65]) hHook hOb 3000 looseL w := by
  unfold HandSHeadRun.RunEqI
  kernel_rfl
end Dw
set_option maxRecDepth 100000
set_option maxHeartbeats 4000000
/-! Walks over data; the laws of the defs that walk once. -/
namespace Dw
open PySem PySem.Spec PyProof.Rows L2

theorem lc_run {α : Type} {Γ : DG} {C : DT} {E : DE} {vs : List Nat} {d0 : List (Option PyData)} {o : List (Option Ob)} {Ψ : List PyData → List (Option Ob) → Prop} (g : α → PyData) (f : α → Option PyData) :
    ∀ (xs : List α) {items : List PyData} (acc : List PyData), items = xs.map g →
    (∀ x ∈ xs, ∀ (K : PyData → List (Option Ob) → Prop) (K0 : List (Option Ob) → Prop), (∀ d, f x = some d → K d o) → (f x = none → K0 o) →
      Γ (g x) ⟨wipeD d0 vs, o⟩ fun S1 => C S1 fun b S2 => if b = true then E S2 fun d S3 => okS vs S3.o = true ∧ K d S3.o else okS vs S2.o = true ∧ K0 S2.o) →
    Ψ (acc ++ xs.filterMap f) o → dLcGo Γ C E vs d0 Ψ items acc o
  | [], _, acc, e, _, h => by
    subst e
    rw [List.filterMap_nil, List.append_nil] at h
    exact h
  | x :: xs, _, acc, e, st, h => by
    subst e
    refine st x List.mem_cons_self (fun d o' => dLcGo Γ C E vs d0 Ψ (xs.map g) (acc ++ [d]) o') (fun o' => dLcGo Γ C E vs d0 Ψ (xs.map g) acc o') (fun d e => ?_) fun e => ?_
    · refine lc_run g f xs (acc ++ [d]) rfl (fun y hy => st y (List.mem_cons_of_mem _ hy)) ?_
      rw [List.filterMap_cons_some e] at h
      rw [List.append_assoc]
      exact h
    · refine lc_run g f xs acc rfl (fun y hy => st y (List.mem_cons_of_mem _ hy)) ?_
      rw [List.filterMap_cons_none e] at h
      exact h
theorem lc_map {α : Type} {Γ : DG} {E : DE} {vs : List Nat} {d0 : List (Option PyData)} {o : List (Option Ob)} {Ψ : List PyData → List (Option Ob) → Prop} (g : α → PyData) (f : α → PyData)
    (xs : List α) {items : List PyData} (e : items = xs.map g)
    (st : ∀ x ∈ xs, ∀ (K : PyData → List (Option Ob) → Prop), K (f x) o → Γ (g x) ⟨wipeD d0 vs, o⟩ fun S1 => E S1 fun d S3 => okS vs S3.o = true ∧ K d S3.o)
    (h : Ψ (xs.map f) o) : dLcGo Γ dYes E vs d0 Ψ items [] o := by
  refine lc_run g (fun x => some (f x)) xs [] e (fun x hx K K0 h1 _ => st x hx K (h1 _ rfl)) ?_
  have e2 : xs.filterMap (fun x => some (f x)) = xs.map f := by
    induction xs with
    | nil => rfl
    | cons a r ih => simp
  rw [List.nil_append, e2]
  exact h
/-- a loop: what stands when these are left -/
theorem for_inv {α : Type} {Γ : DG} {B : DS} {D : DEnds} (g : α → PyData) (Inv : List α → DSt → Prop)
    (step : ∀ a rest S, Inv (a :: rest) S → ∀ nx' : DSt → Prop, (∀ S', Inv rest S' → nx' S') → Γ (g a) S fun S1 => B { D with nx := nx', ct := nx', bk := D.nx } S1)
    (done : ∀ S, Inv [] S → D.nx S) : ∀ (xs : List α) {items : List PyData} (S : DSt), items = xs.map g → Inv xs S → dForGo Γ B D items S
  | [], _, S, e, h => by
    subst e
    exact done S h
  | x :: xs, _, S, e, h => by
    subst e
    exact step x xs S h _ fun S' h' => for_inv g Inv step done xs S' rfl h'
theorem enum_map {α : Type} (f : α → PyData) : ∀ (xs : List α) (k : Nat), enumD k (xs.map f) = (xs.zipIdx k).map fun q => PyData.tuple [nt q.2, f q.1]
  | [], _ => rfl
  | x :: xs, k => by
    show PyData.tuple [.int (k : Nat), f x] :: enumD (k + 1) (xs.map f) = _
    rw [enum_map f xs (k + 1)]
    rfl
theorem range_eq (n : Nat) : rangeD (n : Int) = (List.range n).map nt := rfl

/-! ### greatest common divisor by hand -/
theorem abs_eq (i : Int) : (if i < 0 then -i else i) = (i.natAbs : Int) := by
  split <;> omega
theorem go_law_cut : ∀ ds Φ, CLawCut ds Φ → R_law_cut (endsD Φ) (startD ["_law_top", "_law_bottom", "_law_far_so", "_law_near_so"] ds) := by
  intro ds Φ h
  cases h with
  | mk t b a Φ hb e h =>
    obtain ⟨g, hg, g0, g4, e1, e2, _, _⟩ := gcd_den hb e
    refine ⟨fun m S => ∃ f : Nat, S = ⟨[some (.int t), some (.int b), some (.int (f : Nat)), some (.int (m : Nat))], [none, none, none, none]⟩ ∧ Nat.gcd f m = g, ⟨b.natAbs, t.natAbs, ?_, hg⟩, fun m S hW => ?_⟩
    · rw [abs_eq, abs_eq]
      rfl
    · obtain ⟨f, rfl, hf⟩ := hW
      refine ⟨rfl, rfl, ?_⟩
      show if (!PyData.eqv (.int (m : Int)) (.int 0)) = true then _ else _
      rw [eqv_int]
      refine iteS (fun z => ?_) fun z => ?_
      · have hm : (m : Int) ≠ 0 := by
          simpa using z
        refine ⟨hm, f % m, Nat.mod_lt _ (Nat.pos_of_ne_zero fun z => hm (by rw [z]; rfl)), m, ?_, ?_⟩
        · have e : (f : Int).fmod (m : Int) = ((f % m : Nat) : Int) := by
            rw [Int.fmod_eq_emod_of_nonneg _ (by omega)]
            rfl
          exact congrArg (fun z => (⟨[some (.int t), some (.int b), some (.int (m : Nat)), some (.int z)], [none, none, none, none]⟩ : DSt)) e
        · rw [Nat.gcd_comm, ← Nat.gcd_rec, Nat.gcd_comm]
          exact hf
      · have hm : m = 0 := by
          have : (m : Int) = 0 := by simpa using z
          omega
        subst hm
        rw [Nat.gcd_zero_right] at hf
        subst hf
        refine iteY (decide_eq_true (by omega)) ⟨cdiv_g g0 g4, cdiv_g g0 g4, Nat.le_of_ble_eq_true rfl, ?_⟩
        show Φ (.tuple [.int (t.fdiv (f : Int)), .int (b.fdiv (f : Int))])
        rw [e1, e2]
        exact h
/-! ### told sheets -/
theorem dep_all {ds : List PyData} {k : Nat} (h : PyData.depthAll ds < k) : ∀ d ∈ ds, dep d < k := by
  induction ds with
  | nil => exact fun d hd => nomatch hd
  | cons x r ih =>
    have h' : max (dep x) (PyData.depthAll r) < k := h
    intro d hd
    rcases List.mem_cons.mp hd with e | e
    · subst e
      omega
    · exact ih (by omega) d e
theorem plain_all {ds : List PyData} (h : plainDs ds = true) : ∀ d ∈ ds, plainD d = true := by
  induction ds with
  | nil => exact fun d hd => nomatch hd
  | cons x r ih =>
    have h' : ((PyData.canLay0 x && PyData.canLayAll0 r) && (fewD x && fewDs r)) = true := h
    rw [Bool.and_eq_true, Bool.and_eq_true, Bool.and_eq_true] at h'
    intro d hd
    rcases List.mem_cons.mp hd with e | e
    · subst e
      exact Bool.and_eq_true_iff.mpr ⟨h'.1.1, h'.2.1⟩
    · exact ih (Bool.and_eq_true_iff.mpr ⟨h'.1.2, h'.2.2⟩) d e
theorem plain_seq {d : PyData} {xs : List PyData} (e : d = .list xs ∨ d = .tuple xs) (h : plainD d = true) : xs.length < 1000 ∧ plainDs xs = true := by
  rcases e with e | e
  · subst e
    have h' : (PyData.canLayAll0 xs && (decide (xs.length < 1000) && fewDs xs)) = true := h
    rw [Bool.and_eq_true, Bool.and_eq_true] at h'
    exact ⟨of_decide_eq_true h'.2.1, Bool.and_eq_true_iff.mpr ⟨h'.1, h'.2.2⟩⟩
  · subst e
    have h' : (PyData.canLayAll0 xs && (decide (xs.length < 1000) && fewDs xs)) = true := h
    rw [Bool.and_eq_true, Bool.and_eq_true] at h'
    exact ⟨of_decide_eq_true h'.2.1, Bool.and_eq_true_iff.mpr ⟨h'.1, h'.2.2⟩⟩
theorem plain_dict {kvs : List (PyData × PyData)} (h : plainD (.dict kvs) = true) : False := by cases h
theorem tuDs_map : ∀ ds, tuDs ds = ds.map tuD
  | [] => rfl
  | d :: ds => by
    show tuD d :: tuDs ds = _
    rw [tuDs_map ds]
    rfl
theorem lsDs_map : ∀ ds, lsDs ds = ds.map lsD
  | [] => rfl
  | d :: ds => by
    show lsD d :: lsDs ds = _
    rw [lsDs_map ds]
    rfl
theorem go_tuple_of (k : Nat) : ∀ ds Φ, CTupleOf (k + 1) ds Φ → R_tuple_of k (endsD Φ) (startD ["thing", "part"] ds) := by
  intro ds Φ h
  cases h with
  | mk d r Φ p l e h =>
    subst e
    have go : ∀ xs, (d = .list xs ∨ d = .tuple xs) → PyData.depthAll xs < k → Φ (.tuple (tuDs xs)) → R_tuple_of k (endsD Φ) (startD ["thing", "part"] [d]) := fun xs e ll hh => by
      obtain ⟨bg, pp⟩ := plain_seq e p
      rw [tuDs_map] at hh
      have e3 : xs = xs.map id := (List.map_id xs).symm
      rcases e with e | e
      · subst e
        exact ⟨Nat.lt_of_lt_of_le bg (by decide), rfl, lc_map id tuD xs e3 (fun x hx K hk => CTupleOf.mk _ _ _ (plain_all pp x hx) (dep_all ll x hx) rfl ⟨rfl, hk⟩) hh⟩
      · subst e
        exact ⟨Nat.lt_of_lt_of_le bg (by decide), rfl, lc_map id tuD xs e3 (fun x hx K hk => CTupleOf.mk _ _ _ (plain_all pp x hx) (dep_all ll x hx) rfl ⟨rfl, hk⟩) hh⟩
    cases d with
    | list xs => exact go xs (Or.inl rfl) (Nat.lt_of_succ_lt_succ l) h
    | tuple xs => exact go xs (Or.inr rfl) (Nat.lt_of_succ_lt_succ l) h
    | dict kvs => exact (plain_dict p).elim
    | _ => exact h
theorem go_law_lists (k : Nat) : ∀ ds Φ, CLawLists (k + 1) ds Φ → R_law_lists k (endsD Φ) (startD ["_law_matter", "_law_own"] ds) := by
  intro ds Φ h
  cases h with
  | mk d Φ p l h =>
    have go : ∀ xs, (d = .list xs ∨ d = .tuple xs) → PyData.depthAll xs < k → Φ (.list (lsDs xs)) → R_law_lists k (endsD Φ) (startD ["_law_matter", "_law_own"] [d]) := fun xs e ll hh => by
      obtain ⟨bg, pp⟩ := plain_seq e p
      rw [lsDs_map] at hh
      have e3 : xs = xs.map id := (List.map_id xs).symm
      rcases e with e | e
      · subst e
        exact ⟨Nat.lt_of_lt_of_le bg (by decide), rfl, lc_map id lsD xs e3 (fun x hx K hk => CLawLists.mk _ _ (plain_all pp x hx) (dep_all ll x hx) ⟨rfl, hk⟩) hh⟩
      · subst e
        exact ⟨Nat.lt_of_lt_of_le bg (by decide), rfl, lc_map id lsD xs e3 (fun x hx K hk => CLawLists.mk _ _ (plain_all pp x hx) (dep_all ll x hx) ⟨rfl, hk⟩) hh⟩
    cases d with
    | list xs => exact go xs (Or.inl rfl) (Nat.lt_of_succ_lt_succ l) h
    | tuple xs => exact go xs (Or.inr rfl) (Nat.lt_of_succ_lt_succ l) h
    | dict kvs => exact (plain_dict p).elim
    | _ => exact h
theorem zip_self : ∀ xs : List PyData, zipD xs xs = xs.map fun x => PyData.tuple [x, x]
  | [] => rfl
  | x :: xs => by
    show PyData.tuple [x, x] :: zipD xs xs = _
    rw [zip_self xs]
    rfl
theorem bools_true {α : Type} : ∀ xs : List α, boolsD (xs.map fun _ => PyData.bool true) = some (xs.map fun _ => true)
  | [] => rfl
  | x :: xs => by
    show (boolsD (xs.map fun _ => PyData.bool true)).map (true :: ·) = _
    rw [bools_true xs]
    rfl
theorem bools_map {α : Type} (f : α → Bool) : ∀ xs : List α, boolsD (xs.map fun x => PyData.bool (f x)) = some (xs.map f)
  | [] => rfl
  | x :: xs => by
    show (boolsD (xs.map fun x => PyData.bool (f x))).map (f x :: ·) = _
    rw [bools_map f xs]
    rfl
theorem onO_some {α : Type} {o : Option α} {x : α} {k : α → Prop} (e : o = some x) (h : k x) : onO o k := by
  subst e
  exact h
theorem all_map {α : Type} (f : α → Bool) (xs : List α) : (xs.map f).all id = xs.all f := by
  induction xs with
  | nil => rfl
  | cons x r ih => simp [List.all_cons]
mutual
theorem eqv_self : ∀ d : PyData, PyData.canLay0 d = true → PyData.eqv d d = true
  | .none, _ => rfl
  | .bool b, _ => by cases b <;> rfl
  | .int i, _ => by
    rw [eqv_int]
    exact decide_eq_true rfl
  | .str x, _ => by
    show (x == x) = true
    exact beq_self_eq_true x
  | .list xs, h => eqvs_self xs h
  | .tuple xs, h => eqvs_self xs h
  | .dict _, h => by cases h
theorem eqvs_self : ∀ ds : List PyData, PyData.canLayAll0 ds = true → PyData.eqvAll ds ds = true
  | [], _ => rfl
  | d :: ds, h => by
    have h' : (PyData.canLay0 d && PyData.canLayAll0 ds) = true := h
    rw [Bool.and_eq_true] at h'
    show (PyData.eqv d d && PyData.eqvAll ds ds) = true
    rw [eqv_self d h'.1, eqvs_self ds h'.2]
    rfl
end
theorem go_law_same (k : Nat) : ∀ ds Φ, CLawSame (k + 1) ds Φ → k ≤ 60 → R_law_same k (endsD Φ) (startD ["_law_got", "_law_goal", "_law_mine_so", "_law_own"] ds) := by
  intro ds Φ h hk
  cases h with
  | mk d Φ p l h =>
    have sh : SeqAt.shaped d = true := shaped_of p (Nat.le_of_lt_succ (Nat.lt_of_lt_of_le l (by omega)))
    have go : ∀ xs, (d = .list xs ∨ d = .tuple xs) → PyData.depthAll xs < k → R_law_same k (endsD Φ) (startD ["_law_got", "_law_goal", "_law_mine_so", "_law_own"] [d, d]) := fun xs e ll => by
      obtain ⟨bg, pp⟩ := plain_seq e p
      have fin : onO (boolsD (xs.map fun _ => PyData.bool true)) fun bs => Φ (.bool (bs.all id)) := by
        refine onO_some (bools_true xs) ?_
        have e : (xs.map fun _ => true).all id = true := by simp
        rw [e]
        exact h
      have zl : (zipD xs xs).length < 100000 := by
        rw [zip_len]
        omega
      have se : PyData.eqv (.int (xs.length : Int)) (.int (xs.length : Int)) = true := by
        rw [eqv_int]
        exact decide_eq_true rfl
      rcases e with e | e
      · subst e
        refine ⟨rfl, rfl, rfl, rfl, rfl, rfl, iteY se ⟨zl, rfl, lc_map (fun x => .tuple [x, x]) (fun _ => .bool true) xs (zip_self xs) (fun x hx K hk => ⟨rfl, ?_⟩) fin⟩⟩
        exact CLawSame.mk _ _ (plain_all pp x hx) (dep_all ll x hx) ⟨rfl, hk⟩
      · subst e
        refine ⟨rfl, rfl, rfl, rfl, rfl, rfl, iteY se ⟨zl, rfl, lc_map (fun x => .tuple [x, x]) (fun _ => .bool true) xs (zip_self xs) (fun x hx K hk => ⟨rfl, ?_⟩) fin⟩⟩
        exact CLawSame.mk _ _ (plain_all pp x hx) (dep_all ll x hx) ⟨rfl, hk⟩
    have se := eqv_self d (Bool.and_eq_true_iff.mp p).1
    cases d with
    | list xs => exact go xs (Or.inl rfl) (Nat.lt_of_succ_lt_succ l)
    | tuple xs => exact go xs (Or.inr rfl) (Nat.lt_of_succ_lt_succ l)
    | dict kvs => exact (plain_dict p).elim
    | none => exact ⟨rfl, rfl, rfl, rfl, rfl, rfl, h⟩
    | bool b => exact ⟨rfl, rfl, iteY se ⟨rfl, rfl, rfl, rfl, h⟩⟩
    | str x => exact ⟨sh, sh, iteY se ⟨rfl, rfl, rfl, rfl, h⟩⟩
    | int i =>
      refine ⟨rfl, rfl, ?_⟩
      show Φ (.bool (PyData.eqv (.int i) (.int i)))
      rw [se]
      exact h
end Dw
set_option maxRecDepth 100000
set_option maxHeartbeats 4000000
/-! The laws of the defs of sheets. -/
namespace Dw
open PySem PySem.Spec PyProof.Rows L2

/-! ### data of sheets -/
theorem strOk_hard : PyData.canLay0 (.str "hard") = true := by decide +kernel
theorem strOk_ease : PyData.canLay0 (.str "ease") = true := by decide +kernel
theorem hm_plain (k : Nat) : plainD (hm k) = true := by
  show ((PyData.canLay0 (.str "hard") && (true && true)) && _) = true
  rw [strOk_hard]
  rfl
theorem em_plain (k : Nat) : plainD (em k) = true := by
  show ((PyData.canLay0 (.str "ease") && (true && true)) && _) = true
  rw [strOk_ease]
  rfl
theorem hm_shaped (k : Nat) : SeqAt.shaped (hm k) = true := shaped_of (hm_plain k) (by show 1 ≤ 64; decide)
theorem em_shaped (k : Nat) : SeqAt.shaped (em k) = true := shaped_of (em_plain k) (by show 1 ≤ 64; decide)
theorem eqv_hh (a b : Nat) : PyData.eqv (hm a) (hm b) = decide (a = b) := by
  show (PyData.eqv (.str "hard") (.str "hard") && (PyData.eqv (.int (a : Nat)) (.int (b : Nat)) && true)) = _
  rw [show PyData.eqv (.str "hard") (.str "hard") = true by decide +kernel, eqv_int, Bool.true_and, Bool.and_true]
  exact decide_eq_decide.mpr (by omega)
theorem eqv_ee (a b : Nat) : PyData.eqv (em a) (em b) = decide (a = b) := by
  show (PyData.eqv (.str "ease") (.str "ease") && (PyData.eqv (.int (a : Nat)) (.int (b : Nat)) && true)) = _
  rw [show PyData.eqv (.str "ease") (.str "ease") = true by decide +kernel, eqv_int, Bool.true_and, Bool.and_true]
  exact decide_eq_decide.mpr (by omega)
theorem eqv_he (a b : Nat) : PyData.eqv (hm a) (em b) = false := by
  show (PyData.eqv (.str "hard") (.str "ease") && (PyData.eqv (.int (a : Nat)) (.int (b : Nat)) && true)) = _
  rw [show PyData.eqv (.str "hard") (.str "ease") = false by decide +kernel, Bool.false_and]
theorem eqv_eh (a b : Nat) : PyData.eqv (em a) (hm b) = false := by
  show (PyData.eqv (.str "ease") (.str "hard") && (PyData.eqv (.int (a : Nat)) (.int (b : Nat)) && true)) = _
  rw [show PyData.eqv (.str "ease") (.str "hard") = false by decide +kernel, Bool.false_and]
theorem canLay_all {ds : List PyData} (h : ∀ d ∈ ds, PyData.canLay0 d = true) : PyData.canLayAll0 ds = true := by
  induction ds with
  | nil => rfl
  | cons x r ih =>
    show (PyData.canLay0 x && PyData.canLayAll0 r) = true
    rw [h x List.mem_cons_self, ih fun d hd => h d (List.mem_cons_of_mem _ hd)]
    rfl
theorem depth_all {ds : List PyData} {k : Nat} (h : ∀ d ∈ ds, dep d ≤ k) : PyData.depthAll ds ≤ k := by
  induction ds with
  | nil => exact Nat.zero_le _
  | cons x r ih =>
    show max (dep x) (PyData.depthAll r) ≤ k
    have h1 := h x List.mem_cons_self
    have h2 := ih fun d hd => h d (List.mem_cons_of_mem _ hd)
    omega
theorem few_all {ds : List PyData} (h : ∀ d ∈ ds, fewD d = true) : fewDs ds = true := by
  induction ds with
  | nil => rfl
  | cons x r ih =>
    show (fewD x && fewDs r) = true
    rw [h x List.mem_cons_self, ih fun d hd => h d (List.mem_cons_of_mem _ hd)]
    rfl
theorem plain_of_all {ds : List PyData} (l : ds.length < 1000) (h : ∀ d ∈ ds, plainD d = true) : plainD (.tuple ds) = true ∧ plainD (.list ds) = true := by
  have h1 := canLay_all fun d hd => (Bool.and_eq_true_iff.mp (h d hd)).1
  have h2 := few_all fun d hd => (Bool.and_eq_true_iff.mp (h d hd)).2
  have h3 : (PyData.canLayAll0 ds && (decide (ds.length < 1000) && fewDs ds)) = true := by
    rw [h1, h2, decide_eq_true l]
    rfl
  exact ⟨h3, h3⟩
theorem shaped_list {ds : List PyData} {k : Nat} (h : ∀ d ∈ ds, PyData.canLay0 d = true) (h2 : ∀ d ∈ ds, dep d ≤ k) (hk : k < 64) : SeqAt.shaped (.list ds) = true := by
  unfold SeqAt.shaped
  rw [Bool.and_eq_true]
  refine ⟨canLay_all h, decide_eq_true ?_⟩
  show PyData.depthAll ds + 1 ≤ 64
  have := depth_all h2
  omega
theorem shaped_tup {ds : List PyData} {k : Nat} (h : ∀ d ∈ ds, PyData.canLay0 d = true) (h2 : ∀ d ∈ ds, dep d ≤ k) (hk : k < 64) : SeqAt.shaped (.tuple ds) = true := shaped_list h h2 hk
theorem sh_at {s : Sh} {k : Nat} (h : k < s.hard.length) : s.hard[k]? = some (s.at k) := by
  unfold Sh.at
  rw [List.getD_eq_getElem?_getD, List.getElem?_eq_getElem h]
  rfl
theorem sh_atD {s : Sh} {k : Nat} (h : k < s.hard.length) : atI (s.hard.map ruD) (k : Int) = some (ruD (s.at k)) := by
  refine atI_nat ?_
  rw [List.getElem?_map, sh_at h]
  rfl
theorem at_mem {s : Sh} {k : Nat} (h : k < s.hard.length) : s.at k ∈ s.hard := List.mem_of_getElem? (sh_at h)
theorem map_at {ps : List Int} {j : Nat} (h : j < ps.length) : atI (ps.map fr) (j : Int) = some (fr (ps.getD j 0)) := by
  refine atI_nat ?_
  rw [List.getElem?_map, List.getD_eq_getElem?_getD, List.getElem?_eq_getElem h]
  rfl
theorem ru_plain (r : Ru) : plainD (ruD r) = true := rfl
theorem Ok.drop {s : Sh} (h : Ok s) (k : Nat) : Ok (s.drop k) := by
  have sub : ∀ r ∈ (s.drop k).hard, r ∈ s.hard := fun r hr => List.mem_of_mem_eraseIdx hr
  have len : (s.drop k).hard.length ≤ s.hard.length := List.length_eraseIdx_le ..
  exact ⟨h.n2, h.n5, Nat.le_trans len h.few, fun r hr => h.rin r (sub r hr), fun r hr => h.ne r (sub r hr), h.fewE, h.tuE, h.depE, h.plE⟩

/-! ### the defs -/
theorem go_marks_of : ∀ ds Φ, CMarksOf ds Φ → R_marks_of (endsD Φ) (startD ["sheet", "k"] ds) := by
  intro ds Φ h
  cases h with
  | mk s Φ ok h =>
    have e1 : rangeD ((s.hard.map ruD).length : Int) = (List.range s.hard.length).map nt := by
      rw [List.length_map]
      rfl
    have l1 : (rangeD ((s.hard.map ruD).length : Int)).length < 100000 := by
      rw [e1, List.length_map, List.length_range]
      have := ok.few
      omega
    have l2 : (rangeD (s.ease.length : Int)).length < 100000 := by
      rw [range_eq, List.length_map, List.length_range]
      have := ok.fewE
      omega
    have b1 : ((s.hard.map ruD).length : Int) ≤ 100000 := by
      rw [List.length_map]
      have := ok.few
      omega
    have b2 : (s.ease.length : Int) ≤ 100000 := by
      have := ok.fewE
      omega
    refine ⟨by omega, b1, l1, rfl, lc_map nt hm _ e1 (fun x hx K hk => ⟨Nat.le_of_ble_eq_true rfl, rfl, hk⟩) ?_⟩
    refine ⟨by omega, b2, l2, rfl, lc_map nt em _ (range_eq _) (fun x hx K hk => ⟨Nat.le_of_ble_eq_true rfl, rfl, hk⟩) ?_⟩
    refine ⟨?_, h⟩
    rw [List.length_map, List.length_map, List.length_range, List.length_range]
    have := ok.few
    have := ok.fewE
    omega
theorem go_has_mark : ∀ ds Φ, CHasMark ds Φ → R_has_mark (endsD Φ) (startD ["sheet", "thing"] ds) := by
  intro ds Φ h
  cases h with
  | mk s k Φ l h =>
    refine CIsTupleOf.mk _ _ _ ⟨Nat.le_of_ble_eq_true rfl, by decide +kernel, by decide +kernel, ?_⟩
    refine ⟨by decide +kernel, by decide +kernel, ?_⟩
    refine CIsThingBelow.mk _ _ _ ?_
    have e : decide (0 ≤ (k : Int) ∧ (k : Int) < ((s.hard.map ruD).length : Int)) = true := by
      rw [List.length_map]
      exact decide_eq_true (by omega)
    show Φ (.bool (decide (0 ≤ (k : Int) ∧ (k : Int) < ((s.hard.map ruD).length : Int))))
    rw [e]
    exact h
theorem go_rule_of : ∀ ds Φ, CRuleOf ds Φ → R_rule_of (endsD Φ) (startD ["sheet", "mark", "own"] ds) := by
  intro ds Φ h
  cases h with
  | mk s k Φ l h =>
    refine CTupleOf.mk _ (hm k) _ (hm_plain k) (by show 1 < 20; decide) rfl (CHasMark.mk s k _ l ?_)
    refine ⟨by decide +kernel, by decide +kernel, ?_⟩
    refine onO_some (sh_atD l) (CTupleOf.mk _ _ _ (ru_plain _) (by show 2 < 20; decide) rfl h)
theorem wsum_cons (hard : List Ru) (k : Nat) (ks : List Nat) : wsum hard (k :: ks) = (hard.getD k (0, 0, 0)).2.2 + wsum hard ks := by
  unfold wsum
  rw [List.map_cons, List.sum_cons]
theorem go_ring_far : ∀ ds Φ, CRingFar ds Φ → R_ring_far (endsD Φ) (startD ["sheet", "ring", "found", "mark"] ds) := by
  intro ds Φ h
  cases h with
  | mk s ks Φ l h =>
    refine for_inv hm (fun rest S => ∃ (a : Int) (o : Option PyData), S = ⟨[some (shD s), some (.tuple (ks.map hm)), some (fr a), o], [none, none, none, none]⟩ ∧ a + wsum s.hard rest = wsum s.hard ks ∧ ∀ k ∈ rest, k < s.hard.length)
      (fun k rest S hI nx' hn => ?_) (fun S hI => ?_) ks _ rfl ⟨0, none, rfl, by omega, l⟩
    · obtain ⟨a, o, rfl, e, hl⟩ := hI
      have hk := hl k List.mem_cons_self
      refine ⟨by decide +kernel, by decide +kernel, ?_⟩
      refine CRuleOf.mk s k _ hk (CPlus.mk _ _ _ (hn _ ⟨a + (s.at k).2.2, some (hm k), rfl, ?_, fun m hm => hl m (List.mem_cons_of_mem _ hm)⟩))
      rw [wsum_cons] at e
      unfold Sh.at
      omega
    · obtain ⟨a, o, rfl, e, _⟩ := hI
      have e2 : a = wsum s.hard ks := by
        unfold wsum at e ⊢
        simp only [List.map_nil, List.sum_nil] at e
        omega
      rw [← e2] at h
      exact h
theorem go_gap_between : ∀ ds Φ, CGapBetween ds Φ → R_gap_between (endsD Φ) (startD ["layout", "rule"] ds) := by
  intro ds Φ h
  cases h with
  | mk ps r Φ l l2 h => exact onO_some (map_at l2) (onO_some (map_at l) (CMinus.mk _ _ _ h))
theorem go_law_gap : ∀ ds Φ, CLawGap ds Φ → R_law_gap (endsD Φ) (startD ["_law_laid", "_law_rule"] ds) := by
  intro ds Φ h
  cases h with
  | mk ps r Φ l l2 h => exact onO_some (map_at l2) (onO_some (map_at l) (CLawMinus.mk _ _ _ h))
end Dw
set_option maxRecDepth 100000
set_option maxHeartbeats 4000000
/-! Rounds of rules. -/
namespace Dw
open PySem PySem.Spec PyProof.Rows L2

theorem ixN_nat {n i : Nat} (h : i < n) : ixN n (i : Int) = some i := by
  unfold ixN
  rw [if_pos (by omega), if_pos (by omega)]
  rfl
theorem opt_at {f : List (Option Int)} {j : Nat} {x : Option Int} (h : j < f.length) (e : f.getD j none = x) : atI (f.map optD) (j : Int) = some (optD x) := by
  refine atI_nat ?_
  rw [List.getElem?_map, ← e, List.getD_eq_getElem?_getD, List.getElem?_eq_getElem h]
  rfl
theorem sgn_pos (x : Int) : decide (0 < sgnI x) = decide (0 < x) := by
  unfold sgnI
  split
  · exact decide_eq_decide.mpr (by omega)
  · split <;> exact decide_eq_decide.mpr (by omega)
theorem sgn_ge (x : Int) : decide (0 ≤ sgnI x) = decide (0 ≤ x) := by
  unfold sgnI
  split
  · exact decide_eq_decide.mpr (by omega)
  · split <;> exact decide_eq_decide.mpr (by omega)
theorem rep_flat {α : Type} (d : α) : ∀ n : Nat, (List.replicate n [d]).flatten = List.replicate n d
  | 0 => rfl
  | n + 1 => by
    rw [List.replicate_succ, List.flatten_cons, rep_flat d n, List.replicate_succ]
    rfl
theorem relax_len (f : List (Option Int)) (r : Ru) : (relax f r).length = f.length := by
  unfold relax
  split
  · rfl
  · split
    · exact List.length_set ..
    · split
      · exact List.length_set ..
      · rfl
theorem round_len : ∀ (rs : List Ru) (f : List (Option Int)), (rs.foldl relax f).length = f.length
  | [], _ => rfl
  | r :: rs, f => by
    rw [List.foldl_cons, round_len rs, relax_len]
theorem iter_len {α : Type} (F : List α → List α) (h : ∀ f, (F f).length = f.length) : ∀ (k : Nat) (f : List α), (iter F k f).length = f.length
  | 0, _ => rfl
  | k + 1, f => by
    show (iter F k (F f)).length = _
    rw [iter_len F h k, h]
theorem gaps_len (s : Sh) (i : Nat) : (gaps s i).length = s.n := by
  unfold gaps
  rw [iter_len _ (fun f => round_len s.hard f), List.length_set, List.length_replicate]
theorem go_gaps_from : ∀ ds Φ, CGapsFrom ds Φ → R_gaps_from (endsD Φ) (startD ["sheet", "i", "found", "_", "near", "far", "gap", "there"] ds) := by
  intro ds Φ h
  cases h with
  | mk s i Φ ok l h =>
    have n2 := ok.n2
    have n5 := ok.n5
    refine ⟨Nat.le_of_ble_eq_true rfl, by omega, by omega, Nat.le_of_ble_eq_true rfl, ?_⟩
    have e0 : (List.replicate ((s.n : Int)).toNat [PyData.none]).flatten = (List.replicate s.n (none : Option Int)).map optD := by
      rw [Int.toNat_natCast, rep_flat, List.map_replicate]
      rfl
    have li : i < ((List.replicate ((s.n : Int)).toNat [PyData.none]).flatten).length := by
      rw [e0, List.length_map, List.length_replicate]
      exact l
    refine onO_some (ixN_nat li) ⟨by omega, by omega, ?_⟩
    have er : rangeD ((s.n : Int) - 1) = (List.range (s.n - 1)).map nt := by
      rw [show (s.n : Int) - 1 = ((s.n - 1 : Nat) : Int) by omega]
      rfl
    refine for_inv nt (fun rest S => ∃ (f : List (Option Int)) (o3 o4 o5 o6 o7 : Option PyData), f.length = s.n ∧ iter (fun f => s.hard.foldl relax f) rest.length f = gaps s i ∧
        S = ⟨[some (shD s), some (nt i), none, o3, o4, o5, o6, o7], [none, none, some (.lst (f.map optD)), none, none, none, none, none]⟩)
      (fun t rest S hI nx' hn => ?_) (fun S hI => ?_) (List.range (s.n - 1)) _ er ⟨(List.replicate s.n none).set i (some 0), none, none, none, none, none, ?_, ?_, ?_⟩
    · obtain ⟨f, o3, o4, o5, o6, o7, hf, hit, rfl⟩ := hI
      refine for_inv ruD (fun rest2 S => ∃ (f2 : List (Option Int)) (o3 o4 o5 o6 o7 : Option PyData), f2.length = s.n ∧ rest2.foldl relax f2 = s.hard.foldl relax f ∧ (∀ r ∈ rest2, r.1 < s.n ∧ r.2.1 < s.n) ∧
          S = ⟨[some (shD s), some (nt i), none, o3, o4, o5, o6, o7], [none, none, some (.lst (f2.map optD)), none, none, none, none, none]⟩)
        (fun r rest2 S hI nx2 hn2 => ?_) (fun S hI => ?_) s.hard _ rfl ⟨f, _, _, _, _, _, hf, rfl, ok.rin, rfl⟩
      · obtain ⟨f2, o3, o4, o5, o6, o7, hf2, hfold, hrin, rfl⟩ := hI
        obtain ⟨r1, r2⟩ := hrin r List.mem_cons_self
        have hrin2 : ∀ r ∈ rest2, r.1 < s.n ∧ r.2.1 < s.n := fun q hq => hrin q (List.mem_cons_of_mem _ hq)
        rw [List.foldl_cons] at hfold
        cases e1 : f2.getD r.1 none with
        | none =>
          have er : relax f2 r = f2 := by
            unfold relax
            rw [e1]
          rw [er] at hfold
          refine ⟨rfl, onO_some (opt_at (by omega) e1) ?_⟩
          exact hn2 _ ⟨f2, _, _, _, _, _, hf2, hfold, hrin2, rfl⟩
        | some a =>
          refine ⟨rfl, onO_some (opt_at (by omega) e1) ?_⟩
          refine onO_some (opt_at (by omega) e1) (CPlus.mk _ _ _ ?_)
          cases e2 : f2.getD r.2.1 none with
          | none =>
            have er : relax f2 r = f2.set r.2.1 (some (a + r.2.2)) := by
              unfold relax
              rw [e1]
              simp only
              rw [e2]
            rw [er] at hfold
            refine onO_some (opt_at (by omega) e2) ?_
            refine onO_some (ixN_nat (by rw [List.length_map]; omega)) ?_
            refine hn2 _ ⟨f2.set r.2.1 (some (a + r.2.2)), o3, some (nt r.1), some (nt r.2.1), some (fr r.2.2), some (fr (a + r.2.2)), by rw [List.length_set]; exact hf2, hfold, hrin2, ?_⟩
            rw [List.map_set]
            rfl
          | some b =>
            refine onO_some (opt_at (by omega) e2) ?_
            refine onO_some (opt_at (by omega) e2) (COrder.mk _ _ _ (iteS (fun z => ?_) fun z => ?_))
            · rw [sgn_pos] at z
              have z' := of_decide_eq_true z
              have er : relax f2 r = f2.set r.2.1 (some (a + r.2.2)) := by
                unfold relax
                rw [e1]
                simp only
                rw [e2]
                simp only
                rw [if_pos (by omega)]
              rw [er] at hfold
              refine onO_some (ixN_nat (by rw [List.length_map]; omega)) ?_
              refine hn2 _ ⟨f2.set r.2.1 (some (a + r.2.2)), o3, some (nt r.1), some (nt r.2.1), some (fr r.2.2), some (fr (a + r.2.2)), by rw [List.length_set]; exact hf2, hfold, hrin2, ?_⟩
              rw [List.map_set]
              rfl
            · rw [sgn_pos] at z
              have z' := of_decide_eq_false z
              have er : relax f2 r = f2 := by
                unfold relax
                rw [e1]
                simp only
                rw [e2]
                simp only
                rw [if_neg (by omega)]
              rw [er] at hfold
              exact hn2 _ ⟨f2, _, _, _, _, _, hf2, hfold, hrin2, rfl⟩
      · obtain ⟨f2, o3, o4, o5, o6, o7, hf2, hfold, _, rfl⟩ := hI
        have hfold' : f2 = s.hard.foldl relax f := hfold
        subst hfold'
        exact hn _ ⟨_, _, _, _, _, _, hf2, hit, rfl⟩
    · obtain ⟨f, o3, o4, o5, o6, o7, hf, hit, rfl⟩ := hI
      have hit' : f = gaps s i := hit
      subst hit'
      exact h
    · rw [List.length_set, List.length_replicate]
    · rw [List.length_range]
      rfl
    · rw [List.map_set, ← e0]
      rfl
end Dw
set_option maxRecDepth 100000
set_option maxHeartbeats 4000000
/-! Sheets cut, layouts. -/
namespace Dw
open PySem PySem.Spec PyProof.Rows L2

theorem relaxI_len (f : List Int) (r : Ru) : (relaxI f r).length = f.length := by
  unfold relaxI
  split
  · exact List.length_set ..
  · rfl
theorem roundI_len : ∀ (rs : List Ru) (f : List Int), (rs.foldl relaxI f).length = f.length
  | [], _ => rfl
  | r :: rs, f => by
    rw [List.foldl_cons, roundI_len rs, relaxI_len]
theorem someRaw_len (s : Sh) : (someRaw s).length = s.n := by
  unfold someRaw
  rw [iter_len _ (fun f => roundI_len s.hard f), List.length_replicate]
theorem go_some_layout : ∀ ds Φ, CSomeLayout ds Φ → R_some_layout (endsD Φ) (startD ["sheet", "found", "_", "i", "j", "far", "place"] ds) := by
  intro ds Φ h
  cases h with
  | mk s Φ n1 n5 few rin h =>
    refine ⟨Nat.le_of_ble_eq_true rfl, by omega, by omega, Nat.le_of_ble_eq_true rfl, by omega, by omega, ?_⟩
    have e0 : (List.replicate ((s.n : Int)).toNat [fr 0]).flatten = (List.replicate s.n (0 : Int)).map fr := by
      rw [Int.toNat_natCast, rep_flat, List.map_replicate]
    refine for_inv nt (fun rest S => ∃ (f : List Int) (o2 o3 o4 o5 : Option PyData), f.length = s.n ∧ iter (fun f => s.hard.foldl relaxI f) rest.length f = someRaw s ∧
        S = ⟨[some (shD s), none, o2, o3, o4, o5, none], [none, some (.lst (f.map fr)), none, none, none, none, none]⟩)
      (fun t rest S hI nx' hn => ?_) (fun S hI => ?_) (List.range s.n) _ rfl ⟨List.replicate s.n 0, none, none, none, none, List.length_replicate, ?_, ?_⟩
    · obtain ⟨f, o2, o3, o4, o5, hf, hit, rfl⟩ := hI
      refine for_inv ruD (fun rest2 S => ∃ (f2 : List Int) (o2 o3 o4 o5 : Option PyData), f2.length = s.n ∧ rest2.foldl relaxI f2 = s.hard.foldl relaxI f ∧ (∀ r ∈ rest2, r.1 < s.n ∧ r.2.1 < s.n) ∧
          S = ⟨[some (shD s), none, o2, o3, o4, o5, none], [none, some (.lst (f2.map fr)), none, none, none, none, none]⟩)
        (fun r rest2 S hI nx2 hn2 => ?_) (fun S hI => ?_) s.hard _ rfl ⟨f, _, _, _, _, hf, rfl, rin, rfl⟩
      · obtain ⟨f2, o2, o3, o4, o5, hf2, hfold, hrin, rfl⟩ := hI
        obtain ⟨r1, r2⟩ := hrin r List.mem_cons_self
        have hrin2 : ∀ r ∈ rest2, r.1 < s.n ∧ r.2.1 < s.n := fun q hq => hrin q (List.mem_cons_of_mem _ hq)
        rw [List.foldl_cons] at hfold
        refine ⟨rfl, onO_some (map_at (by omega)) (CPlus.mk _ _ _ (onO_some (map_at (by omega)) (COrder.mk _ _ _ (iteS (fun z => ?_) fun z => ?_))))⟩
        · rw [sgn_pos] at z
          have z' := of_decide_eq_true z
          have er : relaxI f2 r = f2.set r.2.1 (f2.getD r.1 0 + r.2.2) := by
            unfold relaxI
            rw [if_pos (by omega)]
          rw [er] at hfold
          refine onO_some (map_at (by omega)) (CPlus.mk _ _ _ (onO_some (ixN_nat (by rw [List.length_map]; omega)) ?_))
          refine hn2 _ ⟨f2.set r.2.1 (f2.getD r.1 0 + r.2.2), o2, some (nt r.1), some (nt r.2.1), some (fr r.2.2), by rw [List.length_set]; exact hf2, hfold, hrin2, ?_⟩
          rw [List.map_set]
          rfl
        · rw [sgn_pos] at z
          have z' := of_decide_eq_false z
          have er : relaxI f2 r = f2 := by
            unfold relaxI
            rw [if_neg (by omega)]
          rw [er] at hfold
          exact hn2 _ ⟨f2, _, _, _, _, hf2, hfold, hrin2, rfl⟩
      · obtain ⟨f2, o2, o3, o4, o5, hf2, hfold, _, rfl⟩ := hI
        have hfold' : f2 = s.hard.foldl relaxI f := hfold
        subst hfold'
        exact hn _ ⟨_, _, _, _, _, hf2, hit, rfl⟩
    · obtain ⟨f, o2, o3, o4, o5, hf, hit, rfl⟩ := hI
      have hit' : f = someRaw s := hit
      subst hit'
      refine ⟨by rw [List.length_map, hf]; omega, rfl, lc_map fr (fun x => fr (x - (someRaw s).getD 0 0)) _ rfl (fun x hx K hk => ?_) ?_⟩
      · exact onO_some (map_at (j := 0) (by omega)) (CMinus.mk _ _ _ ⟨rfl, hk⟩)
      · have e : (someRaw s).map (fun x => fr (x - (someRaw s).getD 0 0)) = (someLay s).map fr := by
          unfold someLay
          rw [List.map_map]
          rfl
        rw [e]
        exact h
    · rw [List.length_range]
      rfl
    · rw [← e0]
      rfl

/-! ### sheets cut -/
theorem mem_marks {n m k : Nat} {d : PyData} (h : d ∈ marksBut n m k) : (∃ x, d = hm x) ∨ ∃ x, d = em x := by
  rcases List.mem_append.mp h with h | h
  · obtain ⟨x, _, rfl⟩ := List.mem_map.mp h
    exact Or.inl ⟨x, rfl⟩
  · obtain ⟨x, _, rfl⟩ := List.mem_map.mp h
    exact Or.inr ⟨x, rfl⟩
theorem marksBut_shaped (n m k : Nat) : SeqAt.shaped (.list (marksBut n m k)) = true := by
  refine shaped_list (k := 1) (fun d hd => ?_) (fun d hd => ?_) (by decide)
  · rcases mem_marks hd with ⟨x, rfl⟩ | ⟨x, rfl⟩
    · exact (Bool.and_eq_true_iff.mp (hm_plain x)).1
    · exact (Bool.and_eq_true_iff.mp (em_plain x)).1
  · rcases mem_marks hd with ⟨x, rfl⟩ | ⟨x, rfl⟩
    · exact Nat.le_refl 1
    · exact Nat.le_refl 1
theorem any_hm (n m k x : Nat) : ((marksBut n m k).any fun z => PyData.eqv z (hm x)) = decide (x < n ∧ x ≠ k) := by
  unfold marksBut
  rw [List.any_append, List.any_map, List.any_map]
  have e2 : ((List.range m).any ((fun z => PyData.eqv z (hm x)) ∘ em)) = false := by
    rw [List.any_eq_false]
    intro y _
    show ¬ PyData.eqv (em y) (hm x) = true
    rw [eqv_eh]
    exact Bool.false_ne_true
  rw [e2, Bool.or_false]
  apply Bool.eq_iff_iff.mpr
  rw [List.any_eq_true, decide_eq_true_iff]
  constructor
  · rintro ⟨y, hy, e⟩
    have e' : PyData.eqv (hm y) (hm x) = true := e
    rw [eqv_hh, decide_eq_true_iff] at e'
    subst e'
    rw [List.mem_filter, List.mem_range, decide_eq_true_iff] at hy
    exact hy
  · intro h
    refine ⟨x, ?_, ?_⟩
    · rw [List.mem_filter, List.mem_range, decide_eq_true_iff]
      exact h
    · show PyData.eqv (hm x) (hm x) = true
      rw [eqv_hh]
      exact decide_eq_true rfl
theorem any_em (n m k x : Nat) : ((marksBut n m k).any fun z => PyData.eqv z (em x)) = decide (x < m) := by
  unfold marksBut
  rw [List.any_append, List.any_map, List.any_map]
  have e2 : (((List.range n).filter fun x => decide (x ≠ k)).any ((fun z => PyData.eqv z (em x)) ∘ hm)) = false := by
    rw [List.any_eq_false]
    intro y _
    show ¬ PyData.eqv (hm y) (em x) = true
    rw [eqv_he]
    exact Bool.false_ne_true
  rw [e2, Bool.false_or]
  apply Bool.eq_iff_iff.mpr
  rw [List.any_eq_true, decide_eq_true_iff]
  constructor
  · rintro ⟨y, hy, e⟩
    have e' : PyData.eqv (em y) (em x) = true := e
    rw [eqv_ee, decide_eq_true_iff] at e'
    subst e'
    exact List.mem_range.mp hy
  · intro h
    refine ⟨x, List.mem_range.mpr h, ?_⟩
    show PyData.eqv (em x) (em x) = true
    rw [eqv_ee]
    exact decide_eq_true rfl
theorem cut_map {α β : Type} (f : α → β) (k : Nat) : ∀ (xs : List α) (o : Nat), ((xs.zipIdx o).filterMap fun q => if q.2 ≠ o + k then some (f q.1) else none) = (xs.eraseIdx k).map f := by
  induction k with
  | zero =>
    intro xs o
    cases xs with
    | nil => rfl
    | cons x r =>
      rw [List.zipIdx_cons, List.filterMap_cons_none (by simp)]
      rw [List.eraseIdx_cons_zero]
      have all : ∀ (r : List α) (u : Nat), o < u → ((r.zipIdx u).filterMap fun q => if q.2 ≠ o + 0 then some (f q.1) else none) = r.map f := by
        intro r
        induction r with
        | nil => intro u _; rfl
        | cons y r ih =>
          intro u hu
          rw [List.zipIdx_cons, List.filterMap_cons_some (b := f y) (by simp; omega), ih (u + 1) (by omega)]
          rfl
      exact all r (o + 1) (by omega)
  | succ k ih =>
    intro xs o
    cases xs with
    | nil => rfl
    | cons x r =>
      rw [List.zipIdx_cons, List.filterMap_cons_some (b := f x) (by simp), List.eraseIdx_cons_succ, List.map_cons]
      have := ih r (o + 1)
      rw [show o + 1 + k = o + (k + 1) by omega] at this
      rw [this]
theorem zip_all {α β : Type} (f : α → β) : ∀ (xs : List α) (o : Nat), ((xs.zipIdx o).filterMap fun q => some (f q.1)) = xs.map f
  | [], _ => rfl
  | x :: xs, o => by
    rw [List.zipIdx_cons, List.filterMap_cons_some (f := fun q : α × Nat => some (f q.1)) (a := (x, o)) (b := f x) rfl, zip_all f xs]
    rfl
theorem go_sheet_of : ∀ ds Φ, CSheetOf ds Φ → R_sheet_of (endsD Φ) (startD ["sheet", "marks", "hard", "k", "rule"] ds) := by
  intro ds Φ h
  cases h with
  | mk s k Φ ok h =>
    have few := ok.few
    have fewE := ok.fewE
    refine ⟨by rw [enum_len, List.length_map]; omega, rfl, lc_run (fun q : Ru × Nat => .tuple [nt q.2, ruD q.1]) (fun q => if q.2 ≠ 0 + k then some (ruD q.1) else none) _ [] (enum_map ruD s.hard 0) (fun q hq K K0 h1 h2 => ?_) ?_⟩
    · obtain ⟨r, x⟩ := q
      have hx : x < s.hard.length := by
        have := (List.mem_zipIdx hq).2.1
        omega
      refine ⟨rfl, Nat.le_of_ble_eq_true rfl, hm_shaped x, marksBut_shaped _ _ _, ?_⟩
      show if ((marksBut s.hard.length s.ease.length k).any fun z => PyData.eqv z (hm x)) = true then _ else _
      rw [any_hm]
      refine iteS (fun z => ⟨rfl, h1 _ ?_⟩) fun z => ⟨rfl, h2 ?_⟩
      · have z' := of_decide_eq_true z
        show (if x ≠ 0 + k then some (ruD r) else none) = some (ruD r)
        rw [if_pos (by omega)]
      · have z' := of_decide_eq_false z
        show (if x ≠ 0 + k then some (ruD r) else none) = none
        rw [if_neg (by omega)]
    · rw [List.nil_append, cut_map]
      refine ⟨by rw [enum_len]; omega, rfl, lc_run (fun q : PyData × Nat => .tuple [nt q.2, q.1]) (fun q => some q.1) s.ease.zipIdx [] ?_ (fun q hq K K0 h1 h2 => ?_) ?_⟩
      · have := enum_map id s.ease 0
        rw [List.map_id] at this
        exact this
      · obtain ⟨r, x⟩ := q
        have hx : x < s.ease.length := by
          have := (List.mem_zipIdx hq).2.1
          omega
        refine ⟨rfl, Nat.le_of_ble_eq_true rfl, em_shaped x, marksBut_shaped _ _ _, ?_⟩
        show if ((marksBut s.hard.length s.ease.length k).any fun z => PyData.eqv z (em x)) = true then _ else _
        rw [any_em]
        exact iteY (decide_eq_true hx) ⟨rfl, h1 _ rfl⟩
      · rw [List.nil_append, zip_all (fun x => x), List.map_id']
        exact ⟨Nat.le_of_ble_eq_true rfl, h⟩
theorem go_without : ∀ ds Φ, CWithout ds Φ → R_without (endsD Φ) (startD ["sheet", "mark", "one"] ds) := by
  intro ds Φ h
  cases h with
  | mk s k Φ ok h =>
    have few := ok.few
    have fewE := ok.fewE
    refine CMarksOf.mk s _ ok ⟨?_, rfl, lc_run id (fun d => if PyData.eqv d (hm k) = true then none else some d) (marks s.hard.length s.ease.length) [] (List.map_id _).symm (fun d hd K K0 h1 h2 => ?_) ?_⟩
    · unfold marks
      rw [List.length_append, List.length_map, List.length_map, List.length_range, List.length_range]
      omega
    · have sd : SeqAt.shaped d = true := by
        rcases List.mem_append.mp hd with h | h
        · obtain ⟨x, _, rfl⟩ := List.mem_map.mp h
          exact hm_shaped x
        · obtain ⟨x, _, rfl⟩ := List.mem_map.mp h
          exact em_shaped x
      refine ⟨sd, hm_shaped k, ?_⟩
      show if (!PyData.eqv d (hm k)) = true then _ else _
      cases e : PyData.eqv d (hm k) with
      | true =>
        refine iteN rfl ⟨rfl, h2 ?_⟩
        rw [if_pos e]
      | false =>
        refine iteY rfl ⟨rfl, h1 _ ?_⟩
        rw [if_neg (by rw [e]; exact Bool.false_ne_true)]
        rfl
    · have e : (marks s.hard.length s.ease.length).filterMap (fun d => if PyData.eqv d (hm k) = true then none else some d) = marksBut s.hard.length s.ease.length k := by
        unfold marks marksBut
        rw [List.filterMap_append, List.filterMap_map, List.filterMap_map]
        have e1 : ∀ xs : List Nat, xs.filterMap ((fun d => if PyData.eqv d (hm k) = true then none else some d) ∘ hm) = (xs.filter fun x => decide (x ≠ k)).map hm := by
          intro xs
          induction xs with
          | nil => rfl
          | cons x r ih =>
            by_cases hx : x = k
            · rw [List.filterMap_cons_none, ih, List.filter_cons_of_neg (by simpa using hx)]
              show (if PyData.eqv (hm x) (hm k) = true then none else some (hm x)) = none
              rw [eqv_hh, decide_eq_true hx]
              rfl
            · rw [List.filterMap_cons_some (b := hm x), ih, List.filter_cons_of_pos (by simpa using hx)]
              · rfl
              · show (if PyData.eqv (hm x) (hm k) = true then none else some (hm x)) = some (hm x)
                rw [eqv_hh, decide_eq_false hx]
                rfl
        have e2 : ∀ xs : List Nat, xs.filterMap ((fun d => if PyData.eqv d (hm k) = true then none else some d) ∘ em) = xs.map em := by
          intro xs
          induction xs with
          | nil => rfl
          | cons x r ih =>
            rw [List.filterMap_cons_some (b := em x), ih]
            · rfl
            · show (if PyData.eqv (em x) (hm k) = true then none else some (em x)) = some (em x)
              rw [eqv_eh]
              rfl
        rw [e1, e2]
      rw [List.nil_append, e]
      exact CSheetOf.mk s k _ ok h
end Dw
set_option maxRecDepth 100000
set_option maxHeartbeats 4000000
/-! Idle rules, layouts told. -/
namespace Dw
open PySem PySem.Spec PyProof.Rows L2

theorem go_sure_room : ∀ ds Φ, CSureRoom ds Φ → R_sure_room (endsD Φ) (startD ["sheet", "own", "ring"] ds) := by
  intro ds Φ h
  cases h with
  | mk s d Φ ok f p dp e h => exact CTupleOf.mk _ (shD s) _ p (by omega) e (CNoRoom.mk s _ ok f h)
theorem go_sure_hard : ∀ ds Φ, CSureHard ds Φ → R_sure_hard (endsD Φ) (startD ["sheet", "k", "own"] ds) := by
  intro ds Φ h
  cases h with
  | mk s d k Φ ok f p dp e l h =>
    refine CSureRoom.mk s d _ ok f p dp e (CIsNumber.mk _ _ (iteN ?_ h))
    rw [List.length_map]
    show (!decide ((k : Int) < (s.hard.length : Int))) = false
    rw [decide_eq_true (by omega)]
    rfl
theorem idle_eq {s : Sh} {k : Nat} {x : Option Int} (e : (gaps (s.drop k) (s.at k).1).getD (s.at k).2.1 none = x) : idle s k = x.elim false fun g => decide ((s.at k).2.2 ≤ g) := by
  unfold idle
  rw [e]
  cases x <;> rfl
theorem go_is_idle : ∀ ds Φ, CIsIdle ds Φ → R_is_idle (endsD Φ) (startD ["sheet", "k", "i", "j", "far", "gap"] ds) := by
  intro ds Φ h
  cases h with
  | mk s k Φ ok l h =>
    obtain ⟨r1, r2⟩ := ok.rin _ (at_mem l)
    refine onO_some (sh_atD l) ⟨rfl, Nat.le_of_ble_eq_true rfl, CWithout.mk s k _ ok (CGapsFrom.mk (s.drop k) (s.at k).1 _ (ok.drop k) r1 ?_)⟩
    have len : (s.at k).2.1 < (gaps (s.drop k) (s.at k).1).length := by
      rw [gaps_len]
      exact r2
    cases e : (gaps (s.drop k) (s.at k).1).getD (s.at k).2.1 none with
    | none =>
      refine onO_some (opt_at len e) ?_
      rw [idle_eq e] at h
      exact h
    | some g =>
      refine onO_some (opt_at len e) (COrder.mk _ _ _ ?_)
      rw [idle_eq e] at h
      show Φ (.bool (decide (0 ≤ sgnI (g - (s.at k).2.2))))
      rw [sgn_ge, decide_eq_decide.mpr (show 0 ≤ g - (s.at k).2.2 ↔ (s.at k).2.2 ≤ g by omega)]
      exact h
theorem filter_map_if {α : Type} (p : α → Bool) (f : α → PyData) : ∀ xs : List α, xs.filterMap (fun x => if p x = true then some (f x) else none) = (xs.filter p).map f
  | [] => rfl
  | x :: xs => by
    cases e : p x with
    | true =>
      rw [List.filterMap_cons_some (b := f x) (by rw [if_pos e]), List.filter_cons_of_pos e, List.map_cons, filter_map_if p f xs]
    | false =>
      have e' : ¬ p x = true := by
        rw [e]
        exact Bool.false_ne_true
      rw [List.filterMap_cons_none (by rw [if_neg e']), List.filter_cons_of_neg e', filter_map_if p f xs]
theorem go_idle_hard : ∀ ds Φ, CIdleHard ds Φ → R_idle_hard (endsD Φ) (startD ["sheet", "own", "k"] ds) := by
  intro ds Φ h
  cases h with
  | mk s d Φ ok f p dp e h =>
    have few := ok.few
    have e1 : rangeD ((s.hard.map ruD).length : Int) = (List.range s.hard.length).map nt := by
      rw [List.length_map]
      rfl
    have l1 : (rangeD ((s.hard.map ruD).length : Int)).length < 100000 := by
      rw [e1, List.length_map, List.length_range]
      omega
    have b1 : ((s.hard.map ruD).length : Int) ≤ 100000 := by
      rw [List.length_map]
      omega
    refine CSureRoom.mk s d _ ok f p dp e ⟨by omega, b1, l1, rfl, lc_run nt (fun k => if idle s k = true then some (nt k) else none) (List.range s.hard.length) [] e1 (fun k hk K K0 h1 h2 => ?_) ?_⟩
    · refine CIsIdle.mk s k _ ok (List.mem_range.mp hk) (iteS (fun z => ⟨rfl, h1 _ ?_⟩) fun z => ⟨rfl, h2 ?_⟩)
      · rw [if_pos z]
      · rw [if_neg (by rw [z]; exact Bool.false_ne_true)]
    · rw [List.nil_append, filter_map_if]
      exact h
/-! ### layouts told -/
theorem eqv_fr0 (a : Int) : PyData.eqv (fr a) (.tuple [.int 0, .int 1]) = decide (a = 0) := by
  show (PyData.eqv (.int (fnum a)) (.int 0) && (PyData.eqv (.int (fden a)) (.int 1) && true)) = _
  rw [eqv_int, eqv_int, Bool.and_true]
  apply Bool.eq_iff_iff.mpr
  rw [Bool.and_eq_true, decide_eq_true_iff, decide_eq_true_iff, decide_eq_true_iff]
  unfold fnum fden
  split <;> omega
theorem eqv_fr (a b : Int) : PyData.eqv (fr a) (fr b) = decide (a = b) := by
  show (PyData.eqv (.int (fnum a)) (.int (fnum b)) && (PyData.eqv (.int (fden a)) (.int (fden b)) && true)) = _
  rw [eqv_int, eqv_int, Bool.and_true]
  apply Bool.eq_iff_iff.mpr
  rw [Bool.and_eq_true, decide_eq_true_iff, decide_eq_true_iff, decide_eq_true_iff]
  unfold fnum fden
  split <;> split <;> omega
theorem fr_shaped (a : Int) : SeqAt.shaped (fr a) = true := rfl
theorem sh_tu {s : Sh} (ok : Ok s) : tuD (shD s) = shD s := by
  show PyData.tuple (tuD (.int (s.n : Nat)) :: tuD (.tuple (s.hard.map ruD)) :: tuD (.tuple s.ease) :: []) = _
  have e1 : tuDs (s.hard.map ruD) = s.hard.map ruD := by
    rw [tuDs_map, List.map_map]
    rfl
  have e2 : tuDs s.ease = s.ease := by
    rw [tuDs_map]
    rw [List.map_congr_left ok.tuE, List.map_id']
  show PyData.tuple [.int (s.n : Nat), .tuple (tuDs (s.hard.map ruD)), .tuple (tuDs s.ease)] = _
  rw [e1, e2]
  rfl
theorem sh_plain {s : Sh} (ok : Ok s) : plainD (shD s) = true := by
  have few := ok.few
  have fewE := ok.fewE
  have h1 := (plain_of_all (ds := s.hard.map ruD) (by rw [List.length_map]; omega) (fun d hd => by
    obtain ⟨r, _, rfl⟩ := List.mem_map.mp hd
    rfl)).1
  have h2 := (plain_of_all (ds := s.ease) (by omega) ok.plE).1
  refine (plain_of_all (ds := [.int (s.n : Nat), .tuple (s.hard.map ruD), .tuple s.ease]) (by show 3 < 1000; decide) (fun d hd => ?_)).1
  rcases List.mem_cons.mp hd with e | hd
  · subst e
    rfl
  · rcases List.mem_cons.mp hd with e | hd
    · subst e
      exact h1
    · rcases List.mem_cons.mp hd with e | hd
      · subst e
        exact h2
      · cases hd
theorem sh_dep {s : Sh} (ok : Ok s) : dep (shD s) ≤ 10 := by
  have h1 : PyData.depthAll (s.hard.map ruD) ≤ 2 := depth_all fun d hd => by
    obtain ⟨r, _, rfl⟩ := List.mem_map.mp hd
    exact Nat.le_refl 2
  have h2 : PyData.depthAll s.ease ≤ 8 := depth_all ok.depE
  show max 0 (max (PyData.depthAll (s.hard.map ruD) + 1) (max (PyData.depthAll s.ease + 1) 0)) + 1 ≤ 10
  omega
theorem laid_tup {s : Sh} {ps : List Int} : isLaid s (.tup ps) = (decide (ps.length = s.n) && decide (ps.getD 0 0 = 0) && s.hard.all fun r => decide (r.2.2 ≤ gapOf ps r)) := rfl
theorem go_is_layout : ∀ ds Φ, CIsLayout ds Φ → R_is_layout (endsD Φ) (startD ["sheet", "thing", "many", "hard", "_", "own", "rule"] ds) := by
  intro ds Φ h
  cases h with
  | mk s t Φ ok h =>
    have few := ok.few
    have n2 := ok.n2
    have n5 := ok.n5
    have hd := sh_dep ok
    refine CTupleOf.mk _ (shD s) _ (sh_plain ok) (by omega) (sh_tu ok) ⟨rfl, CIsTupleOf.mk _ _ _ ?_⟩
    cases t with
    | non => exact h
    | lst ds => exact h
    | tup ps =>
      rw [laid_tup] at h
      show if (!decide (((ps.map fr).length : Int) = (s.n : Int))) = true then _ else _
      rw [List.length_map]
      by_cases hl : ps.length = s.n
      · rw [decide_eq_true (show (ps.length : Int) = (s.n : Int) by omega)]
        rw [decide_eq_true hl, Bool.true_and] at h
        refine ⟨by rw [List.length_map]; omega, rfl, lc_map fr (fun _ => .bool true) ps rfl (fun x hx K hk => CIsFraction.mk _ _ ⟨rfl, hk⟩) ?_⟩
        refine onO_some (bools_true ps) ?_
        show if (!((ps.map fun _ => true).all id)) = true then _ else _
        rw [show ((ps.map fun _ => true).all id) = true by simp]
        refine onO_some (map_at (j := 0) (by omega)) ⟨rfl, rfl, ?_⟩
        show if (!PyData.eqv (fr (ps.getD 0 0)) (.tuple [.int 0, .int 1])) = true then _ else _
        rw [eqv_fr0]
        cases e0 : decide (ps.getD 0 0 = 0) with
        | false =>
          rw [e0] at h
          exact h
        | true =>
          rw [e0, Bool.true_and] at h
          refine ⟨by rw [List.length_map]; omega, rfl, lc_map ruD (fun r => .bool (decide (r.2.2 ≤ gapOf ps r))) s.hard rfl (fun r hr K hk => ?_) ?_⟩
          · obtain ⟨r1, r2⟩ := ok.rin r hr
            refine CGapBetween.mk ps r _ (by omega) (by omega) (COrder.mk _ _ _ ⟨rfl, ?_⟩)
            show K (.bool (decide (0 ≤ sgnI (gapOf ps r - r.2.2)))) _
            rw [sgn_ge, decide_eq_decide.mpr (show 0 ≤ gapOf ps r - r.2.2 ↔ r.2.2 ≤ gapOf ps r by omega)]
            exact hk
          · refine onO_some (bools_map (fun r : Ru => decide (r.2.2 ≤ gapOf ps r)) s.hard) ?_
            rw [all_map]
            exact h
      · rw [decide_eq_false (show ¬ (ps.length : Int) = (s.n : Int) by omega)]
        rw [decide_eq_false hl, Bool.false_and, Bool.false_and] at h
        exact h
end Dw
set_option maxRecDepth 100000
set_option maxHeartbeats 4000000
/-! Slips, ways, bypasses told. -/
namespace Dw
open PySem PySem.Spec PyProof.Rows L2

theorem go_is_slip : ∀ ds Φ, CIsSlip ds Φ → R_is_slip (endsD Φ) (startD ["sheet", "k", "thing", "own"] ds) := by
  intro ds Φ h
  cases h with
  | mk s d k t Φ ok f p dp e l h =>
    refine CSureHard.mk s d k _ ok f p dp e l ⟨Nat.le_of_ble_eq_true rfl, CWithout.mk s k _ ok (CIsLayout.mk (s.drop k) t _ (ok.drop k) (iteS (fun z => ?_) fun z => ?_))⟩
    · refine CIsLayout.mk s t _ ok ?_
      rw [z, Bool.true_and] at h
      exact h
    · rw [z, Bool.false_and] at h
      exact h
theorem go_law_is_laid : ∀ ds Φ, CLawIsLaid ds Φ → R_law_is_laid (endsD Φ) (startD ["_law_sheet", "_law_told", "_law_own", "_law_rule"] ds) := by
  intro ds Φ h
  cases h with
  | mk s t Φ ok h =>
    have few := ok.few
    have n2 := ok.n2
    cases t with
    | non => exact h
    | lst ds => exact h
    | tup ps =>
      rw [laid_tup] at h
      refine ⟨rfl, rfl, ?_⟩
      show if (!PyData.eqv (.int ((ps.map fr).length : Int)) (.int (s.n : Int))) = true then _ else _
      rw [List.length_map, eqv_int]
      by_cases hl : ps.length = s.n
      · rw [decide_eq_true (show (ps.length : Int) = (s.n : Int) by omega)]
        rw [decide_eq_true hl, Bool.true_and] at h
        refine for_inv fr (fun rest S => ∃ o : Option PyData, S = ⟨[some (shD s), some (.tuple (ps.map fr)), o, none], [none, none, none, none]⟩) (fun a rest S hI nx' hn => ?_) (fun S hI => ?_) ps _ rfl ⟨none, rfl⟩
        · obtain ⟨o, rfl⟩ := hI
          refine ⟨rfl, rfl, CLawIsNumber.mk _ _ (CLawIsNumber.mk _ _ ?_)⟩
          have hp := fden_pos a
          refine iteN (decide_eq_false (by omega)) (CLawCut.mk _ _ a _ ?_ (fr_eq a) ⟨rfl, rfl, ?_⟩)
          · rcases fden_or a with z | z <;> omega
          · show if (!PyData.eqv (fr a) (fr a)) = true then _ else _
            rw [eqv_fr, decide_eq_true rfl]
            exact hn _ ⟨_, rfl⟩
        · obtain ⟨o, rfl⟩ := hI
          refine onO_some (map_at (j := 0) (by omega)) ⟨Nat.le_of_ble_eq_true rfl, rfl, rfl, ?_⟩
          show if PyData.eqv (fr (ps.getD 0 0)) (.tuple [.int 0, .int 1]) = true then _ else _
          rw [eqv_fr0]
          cases e0 : decide (ps.getD 0 0 = 0) with
          | false =>
            rw [e0] at h
            exact h
          | true =>
            rw [e0, Bool.true_and] at h
            refine ⟨by rw [List.length_map]; omega, rfl, lc_run ruD (fun r => if decide (gapOf ps r < r.2.2) = true then some (.int 1) else none) s.hard [] rfl (fun r hr K K0 h1 h2 => ?_) ?_⟩
            · obtain ⟨r1, r2⟩ := ok.rin r hr
              refine CLawGap.mk ps r _ (by omega) (by omega) (CLawUnder.mk _ _ _ (iteS (fun z => ⟨rfl, h1 _ ?_⟩) fun z => ⟨rfl, h2 ?_⟩))
              · rw [if_pos z]
              · rw [if_neg (by rw [z]; exact Bool.false_ne_true)]
            · rw [List.nil_append, filter_map_if (fun r : Ru => decide (gapOf ps r < r.2.2)) fun _ => .int 1]
              refine ⟨Nat.le_of_ble_eq_true rfl, ?_, rfl, ?_⟩
              · refine shaped_list (k := 0) (fun d hd => ?_) (fun d hd => ?_) (by decide)
                · obtain ⟨x, _, rfl⟩ := List.mem_map.mp hd
                  rfl
                · obtain ⟨x, _, rfl⟩ := List.mem_map.mp hd
                  exact Nat.le_refl 0
              · show Φ (.bool (PyData.eqvAll ((s.hard.filter fun r => decide (gapOf ps r < r.2.2)).map fun _ => .int 1) []))
                cases e : s.hard.filter fun r => decide (gapOf ps r < r.2.2) with
                | nil =>
                  have e2 : (s.hard.all fun r => decide (r.2.2 ≤ gapOf ps r)) = true := by
                    rw [List.all_eq_true]
                    intro r hr
                    have := List.filter_eq_nil_iff.mp e r hr
                    simp only [decide_eq_true_iff] at this ⊢
                    omega
                  rw [e2] at h
                  exact h
                | cons x xs =>
                  have e2 : (s.hard.all fun r => decide (r.2.2 ≤ gapOf ps r)) = false := by
                    have hx : x ∈ s.hard.filter fun r => decide (gapOf ps r < r.2.2) := by
                      rw [e]
                      exact List.mem_cons_self
                    rw [List.mem_filter, decide_eq_true_iff] at hx
                    rw [List.all_eq_false]
                    refine ⟨x, hx.1, ?_⟩
                    rw [decide_eq_true_iff]
                    omega
                  rw [e2] at h
                  exact h
      · rw [decide_eq_false (show ¬ (ps.length : Int) = (s.n : Int) by omega)]
        rw [decide_eq_false hl, Bool.false_and, Bool.false_and] at h
        exact h

/-! ### ways -/
theorem last_at {ms : List Nat} (h : ms ≠ []) : atI (ms.map nt) (-1) = some (nt (ms.getLastD 0)) := by
  have hl : 0 < ms.length := List.length_pos_iff.mpr h
  unfold atI ixN
  rw [List.length_map]
  rw [if_neg (by omega), if_pos (by omega)]
  show (ms.map nt)[((ms.length : Int) + -1).toNat]? = _
  rw [show ((ms.length : Int) + -1).toNat = ms.length - 1 by omega, List.getElem?_map, List.getLastD_eq_getLast?, List.getLast?_eq_getElem?]
  rw [List.getElem?_eq_getElem (by omega)]
  rfl
theorem any_nt (ms : List Nat) (x : Nat) : ((ms.map nt).any fun z => PyData.eqv z (nt x)) = decide (x ∈ ms) := by
  rw [List.any_map]
  apply Bool.eq_iff_iff.mpr
  rw [List.any_eq_true, decide_eq_true_iff]
  constructor
  · rintro ⟨y, hy, e⟩
    have e' : PyData.eqv (.int (y : Nat)) (.int (x : Nat)) = true := e
    rw [eqv_int, decide_eq_true_iff] at e'
    have : y = x := by omega
    subst this
    exact hy
  · intro h
    refine ⟨x, h, ?_⟩
    show PyData.eqv (.int (x : Nat)) (.int (x : Nat)) = true
    rw [eqv_int]
    exact decide_eq_true rfl
theorem nts_shaped (ms : List Nat) : SeqAt.shaped (.list (ms.map nt)) = true := by
  refine shaped_list (k := 0) (fun d hd => ?_) (fun d hd => ?_) (by decide)
  · obtain ⟨x, _, rfl⟩ := List.mem_map.mp hd
    rfl
  · obtain ⟨x, _, rfl⟩ := List.mem_map.mp hd
    exact Nat.le_refl 0
theorem eqv_nt (a b : Nat) : PyData.eqv (.int (a : Int)) (.int (b : Int)) = decide (a = b) := by
  rw [eqv_int]
  exact decide_eq_decide.mpr (by omega)
theorem longer_cons (hard : List Ru) (k : Nat) (w : Wy) (ws : List Wy) : longer hard k (w :: ws) = ext hard k w ++ longer hard k ws := List.flatMap_cons
def extF (gone : Nat) (w : Wy) (q : Ru × Nat) : Option Wy := if q.2 ≠ gone ∧ q.1.1 = w.2.getLastD 0 ∧ q.1.2.1 ∉ w.2 then some (w.1 ++ [q.2], w.2 ++ [q.1.2.1]) else none
theorem go_longer_ways : ∀ ds Φ, CLongerWays ds Φ → R_longer_ways (endsD Φ) (startD ["sheet", "ways", "gone", "found", "way", "met", "k", "i", "j", "_"] ds) := by
  intro ds Φ h
  cases h with
  | mk s ws k Φ ok b b2 h =>
    have few := ok.few
    refine ⟨Nat.le_of_ble_eq_true rfl, ?_⟩
    refine for_inv wyD (fun rest S => ∃ (acc : List Wy) (o4 o5 o6 o7 o8 o9 : Option PyData), acc ++ longer s.hard k rest = longer s.hard k ws ∧ (∀ w ∈ rest, w.1.length ≤ 100 ∧ w.2.length ≤ 100 ∧ w.2 ≠ []) ∧
        S = ⟨[some (shD s), some (.list (ws.map wyD)), some (nt k), none, o4, o5, o6, o7, o8, o9], [none, none, none, some (.lst (acc.map wyD)), none, none, none, none, none, none]⟩)
      (fun w rest S hI nx' hn => ?_) (fun S hI => ?_) ws _ rfl ⟨[], none, none, none, none, none, none, rfl, b2, rfl⟩
    · obtain ⟨acc, o4, o5, o6, o7, o8, o9, ha, hw, rfl⟩ := hI
      obtain ⟨w1, w2, w3⟩ := hw w List.mem_cons_self
      rw [longer_cons, ← List.append_assoc] at ha
      refine ⟨rfl, ?_⟩
      refine for_inv (fun q : Ru × Nat => .tuple [nt q.2, ruD q.1]) (fun rest2 S => ∃ (acc2 : List Wy) (o6 o7 o8 o9 : Option PyData), acc2 ++ rest2.filterMap (extF k w) = acc ++ ext s.hard k w ∧
          S = ⟨[some (shD s), some (.list (ws.map wyD)), some (nt k), none, some (.tuple (w.1.map hm)), some (.tuple (w.2.map nt)), o6, o7, o8, o9], [none, none, none, some (.lst (acc2.map wyD)), none, none, none, none, none, none]⟩)
        (fun q rest2 S hI nx2 hn2 => ?_) (fun S hI => ?_) s.hard.zipIdx _ (enum_map ruD s.hard 0) ⟨acc, _, _, _, _, rfl, rfl⟩
      · obtain ⟨acc2, o6, o7, o8, o9, ha2, rfl⟩ := hI
        obtain ⟨r, x⟩ := q
        have skip : extF k w (r, x) = none → nx2 ⟨[some (shD s), some (.list (ws.map wyD)), some (nt k), none, some (.tuple (w.1.map hm)), some (.tuple (w.2.map nt)), some (nt x), some (nt r.1), some (nt r.2.1), some (fr r.2.2)], [none, none, none, some (.lst (acc2.map wyD)), none, none, none, none, none, none]⟩ := fun e => by
          rw [List.filterMap_cons_none e] at ha2
          exact hn2 _ ⟨acc2, _, _, _, _, ha2, rfl⟩
        refine ⟨rfl, rfl, rfl, rfl, ?_⟩
        show if (!PyData.eqv (.int (x : Int)) (.int (k : Int))) = true then _ else _
        rw [eqv_nt]
        by_cases c1 : x = k
        · rw [decide_eq_true c1]
          exact skip (if_neg fun z => z.1 c1)
        · rw [decide_eq_false c1]
          refine onO_some (last_at w3) ⟨rfl, rfl, ?_⟩
          show if PyData.eqv (.int (r.1 : Int)) (.int ((w.2.getLastD 0 : Nat) : Int)) = true then _ else _
          rw [eqv_nt]
          by_cases c2 : r.1 = w.2.getLastD 0
          · rw [decide_eq_true c2]
            refine ⟨rfl, nts_shaped _, ?_⟩
            show if (!((w.2.map nt).any fun z => PyData.eqv z (nt r.2.1))) = true then _ else _
            rw [any_nt]
            by_cases c3 : r.2.1 ∈ w.2
            · rw [decide_eq_true c3]
              exact skip (if_neg fun z => z.2.2 c3)
            · rw [decide_eq_false c3]
              have e : extF k w (r, x) = some (w.1 ++ [x], w.2 ++ [r.2.1]) := if_pos ⟨c1, c2, c3⟩
              rw [List.filterMap_cons_some e] at ha2
              refine ⟨Nat.le_of_ble_eq_true rfl, ?_, ?_, Nat.le_of_ble_eq_true rfl, ?_, ?_⟩
              · rw [List.length_append, List.length_map]
                show w.1.length + 1 ≤ 100000
                omega
              · rw [List.length_append, List.length_map]
                show w.2.length + 1 ≤ 100000
                omega
              · rw [List.length_map]
                have l1 := congrArg List.length ha
                have l2 := congrArg List.length ha2
                rw [List.length_append] at l1 l2
                rw [List.length_cons] at l2
                omega
              · refine hn2 _ ⟨acc2 ++ [(w.1 ++ [x], w.2 ++ [r.2.1])], some (nt x), some (nt r.1), some (nt r.2.1), some (fr r.2.2), by rw [List.append_assoc]; exact ha2, ?_⟩
                rw [List.map_append]
                show _ = DSt.mk _ [none, none, none, some (.lst (acc2.map wyD ++ [.tuple [.tuple ((w.1 ++ [x]).map hm), .tuple ((w.2 ++ [r.2.1]).map nt)]])), none, none, none, none, none, none]
                rw [List.map_append, List.map_append]
                rfl
          · rw [decide_eq_false c2]
            exact skip (if_neg fun z => c2 z.2.1)
      · obtain ⟨acc2, o6, o7, o8, o9, ha2, rfl⟩ := hI
        rw [List.filterMap_nil, List.append_nil] at ha2
        rw [← ha2] at ha
        exact hn _ ⟨acc2, _, _, _, _, _, _, ha, fun q hq => hw q (List.mem_cons_of_mem _ hq), rfl⟩
    · obtain ⟨acc, o4, o5, o6, o7, o8, o9, ha, _, rfl⟩ := hI
      have e : acc = longer s.hard k ws := by
        rw [← ha]
        exact (List.append_nil _).symm
      rw [← e] at h
      exact h
end Dw
set_option maxRecDepth 100000
set_option maxHeartbeats 4000000
/-! Bypasses told; the law's ways. -/
namespace Dw
open PySem PySem.Spec PyProof.Rows L2

theorem go_is_bypass : ∀ ds Φ, CIsBypass ds Φ → R_is_bypass (endsD Φ) (startD ["sheet", "k", "thing", "own", "i", "j", "far", "mark", "met", "one", "other", "_"] ds) := by
  intro ds Φ h
  cases h with
  | mk s d k w Φ ok f p dp e l lw h =>
    obtain ⟨r1, r2⟩ := ok.rin _ (at_mem l)
    refine CSureHard.mk s d k _ ok f p dp e l (onO_some (sh_atD l) ⟨rfl, ?_⟩)
    cases w with
    | non => exact h
    | lst ds => exact h
    | tup ks =>
      obtain ⟨lk, lm⟩ := lw ks rfl
      refine ⟨by rw [List.length_map]; omega, rfl, lc_map hm (fun _ => .bool true) ks rfl (fun m hmm K hk => CHasMark.mk s m _ (lm m hmm) ⟨by decide +kernel, by decide +kernel, rfl, hk⟩) ?_⟩
      refine onO_some (bools_true ks) ?_
      show if (!((ks.map fun _ => true).all id)) = true then _ else _
      rw [show ((ks.map fun _ => true).all id) = true by simp]
      refine ⟨Nat.le_of_ble_eq_true rfl, ?_⟩
      refine for_inv hm (fun rest S => ∃ (met : List Nat) (o7 o9 o10 o11 : Option PyData), met ≠ [] ∧ met.length + rest.length < 2000 ∧ byGo s k rest met = byGo s k ks [(s.at k).1] ∧ (∀ m ∈ rest, m < s.hard.length) ∧
          S = ⟨[some d, some (nt k), some (.tuple (ks.map hm)), some (shD s), some (nt (s.at k).1), some (nt (s.at k).2.1), some (fr (s.at k).2.2), o7, none, o9, o10, o11], [none, none, none, none, none, none, none, none, some (.lst (met.map nt)), none, none, none]⟩)
        (fun m rest S hI nx' hn => ?_) (fun S hI => ?_) ks _ rfl ⟨[(s.at k).1], none, none, none, none, List.cons_ne_nil _ _, by show 1 + ks.length < 2000; omega, rfl, lm, rfl⟩
      · obtain ⟨met, o7, o9, o10, o11, hmet, hlen, hby, hlm, rfl⟩ := hI
        rw [List.length_cons] at hlen
        have lmm := hlm m List.mem_cons_self
        have no : (m = k ∨ (s.at m).1 ≠ met.getLastD 0 ∨ (s.at m).2.1 ∈ met) → Φ (.bool false) := fun z => by
          have e1 : byGo s k (m :: rest) met = false := if_pos z
          have e2 : isByW s k (.tup ks) = false := by
            show (byGo s k ks [(s.at k).1] && _) = false
            rw [← hby, e1, Bool.false_and]
          rw [e2] at h
          exact h
        refine CRuleOf.mk s m _ lmm ⟨rfl, Nat.le_of_ble_eq_true rfl, hm_shaped m, hm_shaped k, ?_⟩
        show if PyData.eqv (hm m) (hm k) = true then _ else _
        rw [eqv_hh]
        by_cases c1 : m = k
        · rw [decide_eq_true c1]
          exact no (Or.inl c1)
        · rw [decide_eq_false c1]
          refine onO_some (last_at hmet) ⟨rfl, rfl, ?_⟩
          show if (!PyData.eqv (.int ((s.at m).1 : Int)) (.int ((met.getLastD 0 : Nat) : Int))) = true then _ else _
          rw [eqv_nt]
          by_cases c2 : (s.at m).1 = met.getLastD 0
          · rw [decide_eq_true c2]
            refine ⟨rfl, nts_shaped _, ?_⟩
            show if ((met.map nt).any fun z => PyData.eqv z (nt (s.at m).2.1)) = true then _ else _
            rw [any_nt]
            by_cases c3 : (s.at m).2.1 ∈ met
            · rw [decide_eq_true c3]
              exact no (Or.inr (Or.inr c3))
            · rw [decide_eq_false c3]
              refine ⟨by rw [List.length_map]; omega, hn _ ⟨met ++ [(s.at m).2.1], some (hm m), some (nt (s.at m).1), some (nt (s.at m).2.1), some (fr (s.at m).2.2), by simp, by rw [List.length_append]; show met.length + 1 + rest.length < 2000; omega, ?_, fun q hq => hlm q (List.mem_cons_of_mem _ hq), ?_⟩⟩
              · rw [← hby]
                exact (if_neg fun z => by rcases z with z | z | z <;> contradiction).symm
              · rw [List.map_append]
                rfl
          · rw [decide_eq_false c2]
            exact no (Or.inr (Or.inl c2))
      · obtain ⟨met, o7, o9, o10, o11, hmet, _, hby, _, rfl⟩ := hI
        have hb : byGo s k ks [(s.at k).1] = decide (met.getLastD 0 = (s.at k).2.1) := hby.symm
        refine onO_some (last_at hmet) ⟨rfl, rfl, ?_⟩
        show if PyData.eqv (.int ((met.getLastD 0 : Nat) : Int)) (.int ((s.at k).2.1 : Int)) = true then _ else _
        rw [eqv_nt]
        have e0 : isByW s k (.tup ks) = (decide (met.getLastD 0 = (s.at k).2.1) && decide ((s.at k).2.2 ≤ wsum s.hard ks)) := by
          rw [← hb]
          rfl
        rw [e0] at h
        cases c : decide (met.getLastD 0 = (s.at k).2.1) with
        | false =>
          rw [c] at h
          exact h
        | true =>
          rw [c, Bool.true_and] at h
          refine CRingFar.mk s ks _ lm (COrder.mk _ _ _ ?_)
          show Φ (.bool (decide (0 ≤ sgnI (wsum s.hard ks - (s.at k).2.2))))
          rw [sgn_ge, decide_eq_decide.mpr (show 0 ≤ wsum s.hard ks - (s.at k).2.2 ↔ (s.at k).2.2 ≤ wsum s.hard ks by omega)]
          exact h
theorem go_law_boxes : ∀ ds Φ, CLawBoxes ds Φ → R_law_boxes (endsD Φ) (startD ["_law_plain"] ds) := by
  intro ds Φ h
  cases h with
  | mk Φ h => exact ⟨Nat.le_of_ble_eq_true rfl, Nat.le_of_ble_eq_true rfl, Nat.le_of_ble_eq_true rfl, Nat.le_of_ble_eq_true rfl, Nat.le_of_ble_eq_true rfl, Nat.le_of_ble_eq_true rfl, Nat.le_of_ble_eq_true rfl,
      Nat.le_of_ble_eq_true rfl, Nat.le_of_ble_eq_true rfl, Nat.le_of_ble_eq_true rfl, Nat.le_of_ble_eq_true rfl, Nat.le_of_ble_eq_true rfl, Nat.le_of_ble_eq_true rfl, Nat.le_of_ble_eq_true rfl, Nat.le_of_ble_eq_true rfl, Nat.le_of_ble_eq_true rfl,
      Nat.le_of_ble_eq_true rfl, Nat.le_of_ble_eq_true rfl, Nat.le_of_ble_eq_true rfl, Nat.le_of_ble_eq_true rfl, h⟩

/-! ### the law's ways -/
theorem lnext_nil (hard : List Ru) (gone j : Nat) : lnext hard gone j [] = [] := rfl
structure LwOk (s : Sh) (i t : Nat) (w : Lw) : Prop where
  l1 : w.1.length = t
  l2 : w.2.1.length = t + 1
  nd : w.2.1.Nodup
  lt : ∀ x ∈ w.2.1, x < s.n
theorem nodup_le : ∀ {n : Nat} {xs : List Nat}, xs.Nodup → (∀ x ∈ xs, x < n) → xs.length ≤ n
  | 0, [], _, _ => Nat.le_refl _
  | 0, x :: xs, _, h => absurd (h x List.mem_cons_self) (Nat.not_lt_zero _)
  | n + 1, xs, nd, h => by
    by_cases hn : n ∈ xs
    · have h1 := nodup_le (n := n) (nd.erase n) fun x hx => by
        obtain ⟨a, b⟩ := (List.Nodup.mem_erase_iff nd).mp hx
        have := h x b
        omega
      rw [List.length_erase_of_mem hn] at h1
      omega
    · have h1 := nodup_le (n := n) nd fun x hx => by
        have := h x hx
        have : x ≠ n := fun e => hn (e ▸ hx)
        omega
      omega
theorem lext_mem {hard : List Ru} {gone : Nat} {w v : Lw} (h : v ∈ lext hard gone w) : ∃ q ∈ hard.zipIdx, q.2 ≠ gone ∧ q.1.1 = w.2.1.getLastD 0 ∧ q.1.2.1 ∉ w.2.1 ∧ v = (w.1 ++ [q.2], w.2.1 ++ [q.1.2.1], w.2.2 + q.1.2.2) := by
  obtain ⟨q, hq, e⟩ := List.mem_filterMap.mp h
  split at e
  · rename_i c
    exact ⟨q, hq, c.1, c.2.1, c.2.2, (Option.some.inj e).symm⟩
  · cases e
theorem lnow_ok {s : Sh} (ok : Ok s) {i j gone : Nat} (hi : i < s.n) : ∀ (t : Nat), ∀ w ∈ lnow s.hard gone i j t, LwOk s i t w
  | 0, w, h => by
    have e : w = ([], [i], 0) := List.mem_singleton.mp h
    subst e
    exact ⟨rfl, rfl, List.nodup_cons.mpr ⟨by simp, List.nodup_nil⟩, fun x hx => by rw [List.mem_singleton.mp hx]; exact hi⟩
  | t + 1, w, h => by
    obtain ⟨v, hv, hw⟩ := List.mem_flatMap.mp h
    have V := lnow_ok ok hi t v (List.mem_filter.mp hv).1
    obtain ⟨q, hq, c1, c2, c3, rfl⟩ := lext_mem hw
    have hr := ok.rin q.1 (List.mem_zipIdx' hq |> fun z => by
      have := (List.mem_zipIdx hq).2.2
      rw [this]
      exact List.getElem_mem _)
    refine ⟨?_, ?_, ?_, ?_⟩
    · show (v.1 ++ [q.2]).length = t + 1
      rw [List.length_append, V.l1]
      rfl
    · show (v.2.1 ++ [q.1.2.1]).length = t + 2
      rw [List.length_append, V.l2]
      rfl
    · show (v.2.1 ++ [q.1.2.1]).Nodup
      rw [List.nodup_append]
      refine ⟨V.nd, List.nodup_cons.mpr ⟨by simp, List.nodup_nil⟩, fun a ha b hb e => ?_⟩
      rw [List.mem_singleton.mp hb] at e
      subst e
      exact c3 ha
    · intro x hx
      have hx' : x ∈ v.2.1 ++ [q.1.2.1] := hx
      rcases List.mem_append.mp hx' with z | z
      · exact V.lt x z
      · rw [List.mem_singleton.mp z]
        exact hr.2
theorem lext_len (hard : List Ru) (gone : Nat) (w : Lw) : (lext hard gone w).length ≤ hard.length := by
  have := List.length_filterMap_le (fun q : Ru × Nat => if q.2 ≠ gone ∧ q.1.1 = w.2.1.getLastD 0 ∧ q.1.2.1 ∉ w.2.1 then some (w.1 ++ [q.2], w.2.1 ++ [q.1.2.1], w.2.2 + q.1.2.2) else none) hard.zipIdx
  rw [List.length_zipIdx] at this
  exact this
theorem flat_len {α β : Type} (f : α → List β) (m : Nat) (h : ∀ x, (f x).length ≤ m) : ∀ xs : List α, (xs.flatMap f).length ≤ m * xs.length
  | [] => Nat.zero_le _
  | x :: xs => by
    rw [List.flatMap_cons, List.length_append, List.length_cons, Nat.mul_succ]
    have := flat_len f m h xs
    have := h x
    omega
theorem lnow_len {s : Sh} (ok : Ok s) (i j gone : Nat) : ∀ t, (lnow s.hard gone i j t).length ≤ 7 ^ t
  | 0 => Nat.le_refl _
  | t + 1 => by
    have h1 := flat_len (lext s.hard gone) 7 (fun w => Nat.le_trans (lext_len _ _ _) ok.few) ((lnow s.hard gone i j t).filter fun w => decide (w.2.1.getLastD 0 ≠ j))
    have h2 := List.length_filter_le (fun w : Lw => decide (w.2.1.getLastD 0 ≠ j)) (lnow s.hard gone i j t)
    have h3 := lnow_len ok i j gone t
    show (((lnow s.hard gone i j t).filter fun w => decide (w.2.1.getLastD 0 ≠ j)).flatMap (lext s.hard gone)).length ≤ _
    rw [Nat.pow_succ]
    omega
theorem lnow_nil {s : Sh} (ok : Ok s) {i j gone t : Nat} (hi : i < s.n) (h : s.n ≤ t) : lnow s.hard gone i j t = [] := by
  refine List.eq_nil_iff_forall_not_mem.mpr fun w hw => ?_
  have W := lnow_ok ok hi t w hw
  have := nodup_le W.nd W.lt
  rw [W.l2] at this
  omega
def lfound (s : Sh) (i j gone t : Nat) : List (List Nat × Int) := (List.range t).flatMap fun u => lhere j (lnow s.hard gone i j u)
theorem lfound_succ (s : Sh) (i j gone t : Nat) : lfound s i j gone (t + 1) = lfound s i j gone t ++ lhere j (lnow s.hard gone i j t) := by
  unfold lfound
  rw [List.range_succ, List.flatMap_append, List.flatMap_cons, List.flatMap_nil, List.append_nil]
theorem lfound_len {s : Sh} (ok : Ok s) (i j gone : Nat) : ∀ t, (lfound s i j gone t).length ≤ 7 ^ t
  | 0 => Nat.zero_le _
  | t + 1 => by
    rw [lfound_succ, List.length_append, Nat.pow_succ]
    have h1 := lfound_len ok i j gone t
    have h2 : (lhere j (lnow s.hard gone i j t)).length ≤ (lnow s.hard gone i j t).length := by
      unfold lhere
      rw [List.length_map]
      exact List.length_filter_le _ _
    have h3 := lnow_len ok i j gone t
    omega
theorem lways_found {s : Sh} (ok : Ok s) {i j gone t : Nat} (hi : i < s.n) (h : lnow s.hard gone i j t = []) (ht : t ≤ s.n + 1) : lways s i j gone = lfound s i j gone t := by
  have emp : ∀ m, lnow s.hard gone i j (t + m) = [] := by
    intro m
    induction m with
    | zero => exact h
    | succ m ih =>
      show lnext s.hard gone j (lnow s.hard gone i j (t + m)) = []
      rw [ih]
      rfl
  have key : ∀ m, lfound s i j gone (t + m) = lfound s i j gone t := by
    intro m
    induction m with
    | zero => rfl
    | succ m ih =>
      rw [show t + (m + 1) = (t + m) + 1 by omega, lfound_succ, ih, emp m]
      exact List.append_nil _
  have := key (s.n + 1 - t)
  rw [show t + (s.n + 1 - t) = s.n + 1 by omega] at this
  exact this
end Dw
set_option maxRecDepth 100000
set_option maxHeartbeats 4000000
/-! The law's ways, walked. -/
namespace Dw
open PySem PySem.Spec PyProof.Rows L2

theorem lnext_yes {hard : List Ru} {gone j : Nat} {w : Lw} {ws : List Lw} (h : w.2.1.getLastD 0 = j) : lnext hard gone j (w :: ws) = lnext hard gone j ws := by
  unfold lnext
  rw [List.filter_cons_of_neg (by simpa using h)]
theorem lnext_no {hard : List Ru} {gone j : Nat} {w : Lw} {ws : List Lw} (h : w.2.1.getLastD 0 ≠ j) : lnext hard gone j (w :: ws) = lext hard gone w ++ lnext hard gone j ws := by
  unfold lnext
  rw [List.filter_cons_of_pos (by simpa using h), List.flatMap_cons]
theorem lhere_yes {j : Nat} {w : Lw} {ws : List Lw} (h : w.2.1.getLastD 0 = j) : lhere j (w :: ws) = (w.1, w.2.2) :: lhere j ws := by
  unfold lhere
  rw [List.filter_cons_of_pos (by simpa using h)]
  rfl
theorem lhere_no {j : Nat} {w : Lw} {ws : List Lw} (h : w.2.1.getLastD 0 ≠ j) : lhere j (w :: ws) = lhere j ws := by
  unfold lhere
  rw [List.filter_cons_of_neg (by simpa using h)]
def lextF (gone : Nat) (w : Lw) (q : Ru × Nat) : Option Lw := if q.2 ≠ gone ∧ q.1.1 = w.2.1.getLastD 0 ∧ q.1.2.1 ∉ w.2.1 then some (w.1 ++ [q.2], w.2.1 ++ [q.1.2.1], w.2.2 + q.1.2.2) else none
theorem hms_canLay {ks : List Nat} : ∀ d ∈ ks.map hm, PyData.canLay0 d = true := fun d hd => by
  obtain ⟨x, _, rfl⟩ := List.mem_map.mp hd
  exact (Bool.and_eq_true_iff.mp (hm_plain x)).1
theorem lw_canLay (w : Lw) : PyData.canLay0 (lwD w) = true := by
  show (PyData.canLayAll0 (w.1.map hm) && (PyData.canLayAll0 (w.2.1.map nt) && (PyData.canLay0 (fr w.2.2) && true))) = true
  rw [canLay_all hms_canLay, canLay_all (fun d hd => by
    obtain ⟨x, _, rfl⟩ := List.mem_map.mp hd
    rfl)]
  rfl
theorem hms_dep (ks : List Nat) : PyData.depthAll (ks.map hm) ≤ 1 := depth_all fun d hd => by
  obtain ⟨x, _, rfl⟩ := List.mem_map.mp hd
  exact Nat.le_refl 1
theorem lw_dep (w : Lw) : dep (lwD w) ≤ 3 := by
  have h1 := hms_dep w.1
  have h2 : PyData.depthAll (w.2.1.map nt) ≤ 0 := depth_all fun d hd => by
    obtain ⟨x, _, rfl⟩ := List.mem_map.mp hd
    exact Nat.le_refl 0
  show max (PyData.depthAll (w.1.map hm) + 1) (max (PyData.depthAll (w.2.1.map nt) + 1) (max 1 0)) + 1 ≤ 3
  omega
theorem go_law_ways : ∀ ds Φ, CLawWays ds Φ → R_law_ways (endsD Φ) (startD ["_law_sheet", "_law_i", "_law_j", "_law_gone", "_law_found", "_law_now", "_law_later", "_law_row", "_law_met", "_law_far", "_law_k", "_law_rule"] ds) := by
  intro ds Φ h
  cases h with
  | mk s i j gone Φ ok hi h =>
    have few := ok.few
    have n5 := ok.n5
    refine ⟨Nat.le_of_ble_eq_true rfl, Nat.le_of_ble_eq_true rfl, Nat.le_of_ble_eq_true rfl, Nat.le_of_ble_eq_true rfl, Nat.le_of_ble_eq_true rfl, Nat.le_of_ble_eq_true rfl, ?_⟩
    refine ⟨fun m S => ∃ (t : Nat) (d6 d7 d8 d9 d10 d11 : Option PyData), t ≤ s.n ∧ m = s.n + 1 - t ∧
      S = ⟨[some (shD s), some (nt i), some (nt j), some (nt gone), none, some (.list ((lnow s.hard gone i j t).map lwD)), d6, d7, d8, d9, d10, d11], [none, none, none, none, some (.lst ((lfound s i j gone t).map rowD)), none, none, none, none, none, none, none]⟩,
      ⟨s.n + 1, 0, none, none, none, none, none, none, Nat.zero_le _, rfl, rfl⟩, fun m S hW => ?_⟩
    obtain ⟨t, d6, d7, d8, d9, d10, d11, ht, rfl, rfl⟩ := hW
    have sh : SeqAt.shaped (.list ((lnow s.hard gone i j t).map lwD)) = true := shaped_list (k := 3) (fun d hd => by
      obtain ⟨w, _, rfl⟩ := List.mem_map.mp hd
      exact lw_canLay w) (fun d hd => by
      obtain ⟨w, _, rfl⟩ := List.mem_map.mp hd
      exact lw_dep w) (by decide)
    refine ⟨Nat.le_of_ble_eq_true rfl, sh, rfl, ?_⟩
    show if (!PyData.eqvAll ((lnow s.hard gone i j t).map lwD) []) = true then _ else _
    by_cases e : lnow s.hard gone i j t = []
    · rw [e]
      rw [lways_found ok hi e (by omega)] at h
      exact h
    · have ht5 : t < s.n := Nat.lt_of_not_le fun z => e (lnow_nil ok hi z)
      have e2 : PyData.eqvAll ((lnow s.hard gone i j t).map lwD) [] = false := by
        cases q : lnow s.hard gone i j t with
        | nil => exact absurd q e
        | cons a b => rfl
      rw [e2]
      have b1 : (lnow s.hard gone i j (t + 1)).length ≤ 7 ^ 5 := Nat.le_trans (lnow_len ok i j gone (t + 1)) (Nat.pow_le_pow_right (by decide) (by omega))
      have b2 : (lfound s i j gone (t + 1)).length ≤ 7 ^ 5 := Nat.le_trans (lfound_len ok i j gone (t + 1)) (Nat.pow_le_pow_right (by decide) (by omega))
      have b3 : 7 ^ 5 < 100000 := by decide
      have all := lnow_ok ok (j := j) (gone := gone) hi t
      refine ⟨Nat.le_of_ble_eq_true rfl, ?_⟩
      refine for_inv lwD (fun rest S => ∃ (later : List Lw) (found : List (List Nat × Int)) (d7 d8 d9 d10 d11 : Option PyData), later ++ lnext s.hard gone j rest = lnow s.hard gone i j (t + 1) ∧ found ++ lhere j rest = lfound s i j gone (t + 1) ∧ (∀ w ∈ rest, LwOk s i t w) ∧
          S = ⟨[some (shD s), some (nt i), some (nt j), some (nt gone), none, some (.list ((lnow s.hard gone i j t).map lwD)), none, d7, d8, d9, d10, d11], [none, none, none, none, some (.lst (found.map rowD)), none, some (.lst (later.map lwD)), none, none, none, none, none]⟩)
        (fun w rest S hI nx' hn => ?_) (fun S hI => ?_) (lnow s.hard gone i j t) _ rfl ⟨[], lfound s i j gone t, _, _, _, _, _, rfl, (lfound_succ _ _ _ _ _).symm, all, rfl⟩
      · obtain ⟨later, found, d7, d8, d9, d10, d11, hl, hf, hok, rfl⟩ := hI
        have W := hok w List.mem_cons_self
        have hok' : ∀ w ∈ rest, LwOk s i t w := fun v hv => hok v (List.mem_cons_of_mem _ hv)
        have w3 : w.2.1 ≠ [] := fun z => by
          have := W.l2
          rw [z] at this
          cases this
        refine ⟨rfl, onO_some (last_at w3) ⟨rfl, rfl, ?_⟩⟩
        show if PyData.eqv (.int ((w.2.1.getLastD 0 : Nat) : Int)) (.int (j : Int)) = true then _ else _
        rw [eqv_nt]
        by_cases c : w.2.1.getLastD 0 = j
        · rw [decide_eq_true c]
          rw [lnext_yes c] at hl
          rw [lhere_yes c] at hf
          refine ⟨Nat.le_of_ble_eq_true rfl, ?_, hn _ ⟨later, found ++ [(w.1, w.2.2)], some (.tuple (w.1.map hm)), some (.tuple (w.2.1.map nt)), some (fr w.2.2), d10, d11, hl, by rw [List.append_assoc]; exact hf, hok', ?_⟩⟩
          · have l1 := congrArg List.length hf
            rw [List.length_append, List.length_cons] at l1
            rw [List.length_map]
            omega
          · rw [List.map_append]
            rfl
        · rw [decide_eq_false c]
          rw [lnext_no c, ← List.append_assoc] at hl
          rw [lhere_no c] at hf
          refine for_inv (fun q : Ru × Nat => .tuple [nt q.2, ruD q.1]) (fun rest2 S => ∃ (later2 : List Lw) (d10 d11 : Option PyData), later2 ++ rest2.filterMap (lextF gone w) = later ++ lext s.hard gone w ∧
              S = ⟨[some (shD s), some (nt i), some (nt j), some (nt gone), none, some (.list ((lnow s.hard gone i j t).map lwD)), none, some (.tuple (w.1.map hm)), some (.tuple (w.2.1.map nt)), some (fr w.2.2), d10, d11], [none, none, none, none, some (.lst (found.map rowD)), none, some (.lst (later2.map lwD)), none, none, none, none, none]⟩)
            (fun q rest2 S hI nx2 hn2 => ?_) (fun S hI => ?_) s.hard.zipIdx _ (enum_map ruD s.hard 0) ⟨later, _, _, rfl, rfl⟩
          · obtain ⟨later2, d10, d11, hl2, rfl⟩ := hI
            obtain ⟨r, x⟩ := q
            have skip : lextF gone w (r, x) = none → nx2 ⟨[some (shD s), some (nt i), some (nt j), some (nt gone), none, some (.list ((lnow s.hard gone i j t).map lwD)), none, some (.tuple (w.1.map hm)), some (.tuple (w.2.1.map nt)), some (fr w.2.2), some (nt x), some (ruD r)], [none, none, none, none, some (.lst (found.map rowD)), none, some (.lst (later2.map lwD)), none, none, none, none, none]⟩ := fun e => by
              rw [List.filterMap_cons_none e] at hl2
              exact hn2 _ ⟨later2, _, _, hl2, rfl⟩
            refine ⟨rfl, rfl, rfl, ?_⟩
            show if (!PyData.eqv (.int (x : Int)) (.int (gone : Int))) = true then _ else _
            rw [eqv_nt]
            by_cases c1 : x = gone
            · rw [decide_eq_true c1]
              exact skip (if_neg fun z => z.1 c1)
            · rw [decide_eq_false c1]
              refine onO_some (last_at w3) ⟨rfl, rfl, ?_⟩
              show if PyData.eqv (.int (r.1 : Int)) (.int ((w.2.1.getLastD 0 : Nat) : Int)) = true then _ else _
              rw [eqv_nt]
              by_cases c2 : r.1 = w.2.1.getLastD 0
              · rw [decide_eq_true c2]
                refine ⟨rfl, nts_shaped _, ?_⟩
                show if (!((w.2.1.map nt).any fun z => PyData.eqv z (nt r.2.1))) = true then _ else _
                rw [any_nt]
                by_cases c3 : r.2.1 ∈ w.2.1
                · rw [decide_eq_true c3]
                  exact skip (if_neg fun z => z.2.2 c3)
                · rw [decide_eq_false c3]
                  have e : lextF gone w (r, x) = some (w.1 ++ [x], w.2.1 ++ [r.2.1], w.2.2 + r.2.2) := if_pos ⟨c1, c2, c3⟩
                  rw [List.filterMap_cons_some e] at hl2
                  have W1 := W.l1
                  have W2 := W.l2
                  refine ⟨Nat.le_of_ble_eq_true rfl, Nat.le_of_ble_eq_true rfl, ?_, Nat.le_of_ble_eq_true rfl, ?_, CLawPlus.mk _ _ _ ⟨Nat.le_of_ble_eq_true rfl, ?_, ?_⟩⟩
                  · rw [List.length_map]
                    show w.1.length + 1 ≤ 100000
                    omega
                  · rw [List.length_map]
                    show w.2.1.length + 1 ≤ 100000
                    omega
                  · rw [List.length_map]
                    have l1 := congrArg List.length hl
                    have l2 := congrArg List.length hl2
                    rw [List.length_append] at l1 l2
                    rw [List.length_cons] at l2
                    omega
                  · refine hn2 _ ⟨later2 ++ [(w.1 ++ [x], w.2.1 ++ [r.2.1], w.2.2 + r.2.2)], some (nt x), some (ruD r), by rw [List.append_assoc]; exact hl2, ?_⟩
                    rw [List.map_append]
                    show _ = DSt.mk _ [none, none, none, none, some (.lst (found.map rowD)), none, some (.lst (later2.map lwD ++ [.tuple [.tuple ((w.1 ++ [x]).map hm), .tuple ((w.2.1 ++ [r.2.1]).map nt), fr (w.2.2 + r.2.2)]])), none, none, none, none, none]
                    rw [List.map_append, List.map_append]
                    rfl
              · rw [decide_eq_false c2]
                exact skip (if_neg fun z => c2 z.2.1)
          · obtain ⟨later2, d10, d11, hl2, rfl⟩ := hI
            rw [List.filterMap_nil, List.append_nil] at hl2
            rw [← hl2] at hl
            exact hn _ ⟨later2, found, _, _, _, _, _, hl, hf, hok', rfl⟩
      · obtain ⟨later, found, d7, d8, d9, d10, d11, hl, hf, _, rfl⟩ := hI
        have e1 : later = lnow s.hard gone i j (t + 1) := by
          rw [← hl]
          exact (List.append_nil _).symm
        have e2 : found = lfound s i j gone (t + 1) := by
          rw [← hf]
          exact (List.append_nil _).symm
        subst e1
        subst e2
        exact ⟨s.n + 1 - (t + 1), by omega, t + 1, _, _, _, _, _, _, ht5, rfl, rfl⟩
end Dw
set_option maxRecDepth 100000
set_option maxHeartbeats 4000000
/-! Rounds of rules find the heaviest walks. -/
namespace Dw
open PySem PySem.Spec PyProof.Rows L2

abbrev Fn := Nat → Option Int
def updF (f : Fn) (v : Nat) (x : Int) : Fn := fun u => if u = v then some x else f u
def relaxF (f : Fn) (r : Ru) : Fn := match f r.1 with
  | none => f
  | some a => match f r.2.1 with
    | none => updF f r.2.1 (a + r.2.2)
    | some b => if b < a + r.2.2 then updF f r.2.1 (a + r.2.2) else f
theorem iter_succ {α : Type} (f : α → α) : ∀ (k : Nat) (x : α), iter f (k + 1) x = f (iter f k x)
  | 0, _ => rfl
  | k + 1, x => iter_succ f k (f x)
/-- walks, and paths that meet no place twice -/
inductive Wk (hard : List Ru) (i : Nat) : Nat → Int → Nat → Prop
  | nil : Wk hard i i 0 0
  | snoc {v : Nat} {w : Int} {t : Nat} {r : Ru} : Wk hard i v w t → r ∈ hard → r.1 = v → Wk hard i r.2.1 (w + r.2.2) (t + 1)
inductive Sp (hard : List Ru) (i : Nat) : List Nat → Nat → Int → Prop
  | nil : Sp hard i [i] i 0
  | snoc {met : List Nat} {v : Nat} {w : Int} {r : Ru} : Sp hard i met v w → r ∈ hard → r.1 = v → r.2.1 ∉ met → Sp hard i (met ++ [r.2.1]) r.2.1 (w + r.2.2)
section
variable {hard : List Ru} {i : Nat}
theorem Sp.back {p : Nat → Int} (hp : ∀ r ∈ hard, p r.1 + r.2.2 ≤ p r.2.1) {met : List Nat} {v : Nat} {w : Int} (h : Sp hard i met v w) : ∀ u ∈ met, ∃ met' w', Sp hard i met' u w' ∧ w - w' ≤ p v - p u := by
  induction h with
  | nil =>
    intro u hu
    rw [List.mem_singleton.mp hu]
    exact ⟨[i], 0, .nil, by omega⟩
  | @snoc met v w r h0 hr hv hn ih =>
    intro u hu
    rcases List.mem_append.mp hu with z | z
    · obtain ⟨met', w', h1, h2⟩ := ih u z
      have := hp r hr
      rw [hv] at this
      exact ⟨met', w', h1, by omega⟩
    · rw [List.mem_singleton.mp z]
      exact ⟨_, _, .snoc h0 hr hv hn, by omega⟩
theorem Wk.simple {p : Nat → Int} (hp : ∀ r ∈ hard, p r.1 + r.2.2 ≤ p r.2.1) {v : Nat} {w : Int} {t : Nat} (h : Wk hard i v w t) : ∃ met w', Sp hard i met v w' ∧ w ≤ w' := by
  induction h with
  | nil => exact ⟨[i], 0, .nil, Int.le_refl _⟩
  | @snoc v w t r h0 hr hv ih =>
    obtain ⟨met, w', h1, h2⟩ := ih
    by_cases hn : r.2.1 ∈ met
    · obtain ⟨met2, w2, h3, h4⟩ := h1.back hp r.2.1 hn
      have := hp r hr
      rw [hv] at this
      exact ⟨met2, w2, h3, by omega⟩
    · exact ⟨_, _, .snoc h1 hr hv hn, by omega⟩
theorem Sp.wk {met : List Nat} {v : Nat} {w : Int} (h : Sp hard i met v w) : ∃ t, met.length = t + 1 ∧ Wk hard i v w t := by
  induction h with
  | nil => exact ⟨0, rfl, .nil⟩
  | @snoc met v w r h0 hr hv hn ih =>
    obtain ⟨t, h1, h2⟩ := ih
    exact ⟨t + 1, by rw [List.length_append, h1]; rfl, .snoc h2 hr hv⟩
theorem Sp.nodup {met : List Nat} {v : Nat} {w : Int} (h : Sp hard i met v w) : met.Nodup := by
  induction h with
  | nil => exact List.nodup_cons.mpr ⟨by simp, List.nodup_nil⟩
  | @snoc met v w r h0 hr hv hn ih =>
    rw [List.nodup_append]
    refine ⟨ih, List.nodup_cons.mpr ⟨by simp, List.nodup_nil⟩, fun a ha b hb e => ?_⟩
    rw [List.mem_singleton.mp hb] at e
    exact hn (e ▸ ha)
theorem Sp.sub {met : List Nat} {v : Nat} {w : Int} (h : Sp hard i met v w) : ∀ x ∈ met, x = i ∨ ∃ r ∈ hard, r.2.1 = x := by
  induction h with
  | nil => exact fun x hx => Or.inl (List.mem_singleton.mp hx)
  | @snoc met v w r h0 hr hv hn ih =>
    intro x hx
    rcases List.mem_append.mp hx with z | z
    · exact ih x z
    · exact Or.inr ⟨r, hr, (List.mem_singleton.mp z).symm⟩
theorem Sp.last {met : List Nat} {v : Nat} {w : Int} (h : Sp hard i met v w) : met.getLastD 0 = v := by
  cases h with
  | nil => rfl
  | snoc => simp
end
/-! ### rounds -/
def LeF (f g : Fn) : Prop := ∀ v a, f v = some a → ∃ b, a ≤ b ∧ g v = some b
theorem LeF.refl (f : Fn) : LeF f f := fun v a h => ⟨a, Int.le_refl _, h⟩
theorem LeF.trans {f g h : Fn} (a : LeF f g) (b : LeF g h) : LeF f h := fun v x e => by
  obtain ⟨y, h1, h2⟩ := a v x e
  obtain ⟨z, h3, h4⟩ := b v y h2
  exact ⟨z, Int.le_trans h1 h3, h4⟩
theorem relaxF_le (f : Fn) (r : Ru) : LeF f (relaxF f r) := by
  intro v x e
  unfold relaxF
  cases e1 : f r.1 with
  | none => exact ⟨x, Int.le_refl _, e⟩
  | some a =>
    simp only
    cases e2 : f r.2.1 with
    | none =>
      simp only
      unfold updF
      by_cases hv : v = r.2.1
      · subst hv
        rw [e] at e2
        cases e2
      · rw [if_neg hv]
        exact ⟨x, Int.le_refl _, e⟩
    | some b =>
      simp only
      split
      · unfold updF
        by_cases hv : v = r.2.1
        · subst hv
          rw [e] at e2
          cases e2
          rw [if_pos rfl]
          exact ⟨_, by omega, rfl⟩
        · rw [if_neg hv]
          exact ⟨x, Int.le_refl _, e⟩
      · exact ⟨x, Int.le_refl _, e⟩
theorem relaxF_at (f : Fn) (r : Ru) {a : Int} (h : f r.1 = some a) : ∃ b, a + r.2.2 ≤ b ∧ relaxF f r r.2.1 = some b := by
  unfold relaxF
  rw [h]
  simp only
  cases e2 : f r.2.1 with
  | none =>
    simp only
    unfold updF
    rw [if_pos rfl]
    exact ⟨_, Int.le_refl _, rfl⟩
  | some b =>
    simp only
    split
    · unfold updF
      rw [if_pos rfl]
      exact ⟨_, Int.le_refl _, rfl⟩
    · exact ⟨b, by omega, e2⟩
theorem roundF_le : ∀ (rs : List Ru) (f : Fn), LeF f (rs.foldl relaxF f)
  | [], f => LeF.refl f
  | r :: rs, f => (relaxF_le f r).trans (roundF_le rs (relaxF f r))
theorem roundF_at : ∀ (rs : List Ru) (f : Fn) (r : Ru), r ∈ rs → ∀ {a : Int}, f r.1 = some a → ∃ b, a + r.2.2 ≤ b ∧ rs.foldl relaxF f r.2.1 = some b
  | q :: rs, f, r, hr, a, h => by
    rw [List.foldl_cons]
    rcases List.mem_cons.mp hr with e | e
    · subst e
      obtain ⟨b, h1, h2⟩ := relaxF_at f r h
      obtain ⟨c, h3, h4⟩ := roundF_le rs (relaxF f r) _ _ h2
      exact ⟨c, by omega, h4⟩
    · obtain ⟨a', h1, h2⟩ := relaxF_le f q _ _ h
      obtain ⟨b, h3, h4⟩ := roundF_at rs (relaxF f q) r e h2
      exact ⟨b, by omega, h4⟩
/-- what is told is a walk's weight -/
def Told0 (hard : List Ru) (Src : Nat → Prop) (f : Fn) : Prop := ∀ v a, f v = some a → ∃ i t, Src i ∧ Wk hard i v a t
theorem relaxF_told {hard : List Ru} {Src : Nat → Prop} {f : Fn} {r : Ru} (hr : r ∈ hard) (h : Told0 hard Src f) : Told0 hard Src (relaxF f r) := by
  intro v x e
  unfold relaxF at e
  cases e1 : f r.1 with
  | none =>
    rw [e1] at e
    exact h v x e
  | some a =>
    rw [e1] at e
    simp only at e
    have new : ∀ x, updF f r.2.1 (a + r.2.2) v = some x → ∃ i t, Src i ∧ Wk hard i v x t := fun x e => by
      unfold updF at e
      by_cases hv : v = r.2.1
      · rw [if_pos hv] at e
        cases e
        subst hv
        obtain ⟨i, t, h1, h2⟩ := h r.1 a e1
        exact ⟨i, t + 1, h1, .snoc h2 hr rfl⟩
      · rw [if_neg hv] at e
        exact h v x e
    cases e2 : f r.2.1 with
    | none =>
      rw [e2] at e
      exact new x e
    | some b =>
      rw [e2] at e
      simp only at e
      split at e
      · exact new x e
      · exact h v x e
theorem roundF_told {hard : List Ru} {Src : Nat → Prop} : ∀ (rs : List Ru) (f : Fn), (∀ r ∈ rs, r ∈ hard) → Told0 hard Src f → Told0 hard Src (rs.foldl relaxF f)
  | [], _, _, h => h
  | r :: rs, f, hs, h => roundF_told rs _ (fun q hq => hs q (List.mem_cons_of_mem _ hq)) (relaxF_told (hs r List.mem_cons_self) h)
def roundsF (hard : List Ru) (t : Nat) (f : Fn) : Fn := iter (fun f => hard.foldl relaxF f) t f
theorem roundsF_told {hard : List Ru} {Src : Nat → Prop} : ∀ (t : Nat) (f : Fn), Told0 hard Src f → Told0 hard Src (roundsF hard t f)
  | 0, _, h => h
  | t + 1, f, h => roundsF_told t _ (roundF_told hard f (fun _ hr => hr) h)
theorem roundsF_le (hard : List Ru) (f : Fn) : ∀ t, LeF f (roundsF hard t f)
  | 0 => LeF.refl f
  | t + 1 => by
    unfold roundsF
    rw [iter_succ]
    exact (roundsF_le hard f t).trans (roundF_le hard _)
theorem roundsF_mono (hard : List Ru) (f : Fn) (t : Nat) : ∀ u, LeF (roundsF hard t f) (roundsF hard (t + u) f)
  | 0 => LeF.refl _
  | u + 1 => by
    have h := roundsF_mono hard f t u
    refine h.trans ?_
    show LeF _ (iter (fun f => hard.foldl relaxF f) (t + u + 1) f)
    rw [iter_succ]
    exact roundF_le hard _
theorem roundsF_wk {hard : List Ru} {f : Fn} {i v t : Nat} {w : Int} (h0 : f i = some 0) (h : Wk hard i v w t) : ∃ b, w ≤ b ∧ roundsF hard t f v = some b := by
  induction h with
  | nil => exact ⟨0, Int.le_refl _, h0⟩
  | @snoc v w t r hw hr hv ih =>
    obtain ⟨b, h1, h2⟩ := ih
    subst hv
    obtain ⟨c, h3, h4⟩ := roundF_at hard (roundsF hard t f) r hr h2
    refine ⟨c, by omega, ?_⟩
    unfold roundsF
    rw [iter_succ]
    exact h4
/-- THE LAW of rounds -/
structure Done (hard : List Ru) (Src : Nat → Prop) (f : Fn) : Prop where
  sound : ∀ v a, f v = some a → ∃ i t, Src i ∧ Wk hard i v a t
  full : ∀ i v w t, Src i → Wk hard i v w t → ∃ b, w ≤ b ∧ f v = some b
theorem Done.stable {hard : List Ru} {Src : Nat → Prop} {f : Fn} (D : Done hard Src f) {r : Ru} (hr : r ∈ hard) {a : Int} (h : f r.1 = some a) : ∃ b, a + r.2.2 ≤ b ∧ f r.2.1 = some b := by
  obtain ⟨i, t, h1, h2⟩ := D.sound _ _ h
  exact D.full i _ _ _ h1 (.snoc h2 hr rfl)
theorem rounds_done {hard : List Ru} {Src : Nat → Prop} {f0 : Fn} {T : Nat} (F : Feas hard) (h0 : ∀ v a, f0 v = some a → a = 0 ∧ Src v) (h1 : ∀ v, Src v → f0 v = some 0)
    (len : ∀ i met v w, Src i → Sp hard i met v w → met.length ≤ T + 1) : Done hard Src (roundsF hard T f0) := by
  obtain ⟨p, hp⟩ := F
  refine ⟨roundsF_told T f0 fun v a h => ?_, fun i v w t hi hw => ?_⟩
  · obtain ⟨e, hs⟩ := h0 v a h
    subst e
    exact ⟨v, 0, hs, .nil⟩
  · obtain ⟨met, w', hs, hle⟩ := hw.simple hp
    obtain ⟨u, hu, hwk⟩ := hs.wk
    have := len i met v w' hi hs
    obtain ⟨b, hb, eb⟩ := roundsF_wk (h1 i hi) hwk
    obtain ⟨c, hc, ec⟩ := roundsF_mono hard f0 u (T - u) _ _ eb
    rw [show u + (T - u) = T by omega] at ec
    exact ⟨c, by omega, ec⟩
end Dw
set_option maxRecDepth 100000
set_option maxHeartbeats 4000000
/-! Ways and rounds. -/
namespace Dw
open PySem PySem.Spec PyProof.Rows L2

/-! ### the ways, all of them -/
theorem ext_mem {hard : List Ru} {gone : Nat} {w v : Wy} (h : v ∈ ext hard gone w) : ∃ r m, hard[m]? = some r ∧ m ≠ gone ∧ r.1 = w.2.getLastD 0 ∧ r.2.1 ∉ w.2 ∧ v = (w.1 ++ [m], w.2 ++ [r.2.1]) := by
  obtain ⟨q, hq, e⟩ := List.mem_filterMap.mp h
  obtain ⟨r, m⟩ := q
  have hm := List.mk_mem_zipIdx_iff_getElem?.mp hq
  by_cases c : m ≠ gone ∧ r.1 = w.2.getLastD 0 ∧ r.2.1 ∉ w.2
  · have e' : (if m ≠ gone ∧ r.1 = w.2.getLastD 0 ∧ r.2.1 ∉ w.2 then some (w.1 ++ [m], w.2 ++ [r.2.1]) else none) = some v := e
    rw [if_pos c] at e'
    exact ⟨r, m, hm, c.1, c.2.1, c.2.2, (Option.some.inj e').symm⟩
  · have e' : (if m ≠ gone ∧ r.1 = w.2.getLastD 0 ∧ r.2.1 ∉ w.2 then some (w.1 ++ [m], w.2 ++ [r.2.1]) else none) = some v := e
    rw [if_neg c] at e'
    cases e'
theorem mem_ext {hard : List Ru} {gone : Nat} {w : Wy} {r : Ru} {m : Nat} (h : hard[m]? = some r) (h1 : m ≠ gone) (h2 : r.1 = w.2.getLastD 0) (h3 : r.2.1 ∉ w.2) : (w.1 ++ [m], w.2 ++ [r.2.1]) ∈ ext hard gone w :=
  List.mem_filterMap.mpr ⟨(r, m), List.mk_mem_zipIdx_iff_getElem?.mpr h, if_pos ⟨h1, h2, h3⟩⟩
theorem wsum_snoc (hard : List Ru) (ks : List Nat) (m : Nat) : wsum hard (ks ++ [m]) = wsum hard ks + (hard.getD m (0, 0, 0)).2.2 := by
  unfold wsum
  rw [List.map_append, List.sum_append]
  simp
theorem getD_of {hard : List Ru} {m : Nat} {r : Ru} (h : hard[m]? = some r) : hard.getD m (0, 0, 0) = r := by
  rw [List.getD_eq_getElem?_getD, h]
  rfl
structure WyOk (s : Sh) (k i t : Nat) (w : Wy) : Prop where
  l1 : w.1.length = t
  l2 : w.2.length = t + 1
  sp : Sp (s.hard.eraseIdx k) i w.2 (w.2.getLastD 0) (wsum s.hard w.1)
  lt : ∀ x ∈ w.2, x < s.n
  ks : ∀ m ∈ w.1, m < s.hard.length
theorem waysN_ok {s : Sh} (ok : Ok s) {k i : Nat} (hi : i < s.n) : ∀ (t : Nat), ∀ w ∈ waysN s.hard k i t, WyOk s k i t w
  | 0, w, h => by
    have e : w = ([], [i]) := List.mem_singleton.mp h
    subst e
    exact ⟨rfl, rfl, .nil, fun x hx => by rw [List.mem_singleton.mp hx]; exact hi, fun m hm => nomatch hm⟩
  | t + 1, w, h => by
    obtain ⟨v, hv, hw⟩ := List.mem_flatMap.mp h
    have V := waysN_ok ok hi t v hv
    obtain ⟨r, m, hm, c1, c2, c3, rfl⟩ := ext_mem hw
    have hr := ok.rin r (List.mem_of_getElem? hm)
    have hre : r ∈ s.hard.eraseIdx k := List.mem_eraseIdx_iff_getElem?.mpr ⟨m, c1, hm⟩
    refine ⟨?_, ?_, ?_, ?_, ?_⟩
    · show (v.1 ++ [m]).length = t + 1
      rw [List.length_append, V.l1]
      rfl
    · show (v.2 ++ [r.2.1]).length = t + 2
      rw [List.length_append, V.l2]
      rfl
    · have := Sp.snoc V.sp hre c2 c3
      show Sp _ i (v.2 ++ [r.2.1]) ((v.2 ++ [r.2.1]).getLastD 0) (wsum s.hard (v.1 ++ [m]))
      rw [wsum_snoc, getD_of hm]
      have e : (v.2 ++ [r.2.1]).getLastD 0 = r.2.1 := by simp
      rw [e]
      exact this
    · intro x hx
      rcases List.mem_append.mp hx with z | z
      · exact V.lt x z
      · rw [List.mem_singleton.mp z]
        exact hr.2
    · intro x hx
      rcases List.mem_append.mp hx with z | z
      · exact V.ks x z
      · rw [List.mem_singleton.mp z]
        exact (List.getElem?_eq_some_iff.mp hm).1
theorem ext_len (hard : List Ru) (gone : Nat) (w : Wy) : (ext hard gone w).length ≤ hard.length := by
  have := List.length_filterMap_le (fun q : Ru × Nat => if q.2 ≠ gone ∧ q.1.1 = w.2.getLastD 0 ∧ q.1.2.1 ∉ w.2 then some (w.1 ++ [q.2], w.2 ++ [q.1.2.1]) else none) hard.zipIdx
  rw [List.length_zipIdx] at this
  exact this
theorem waysN_len {s : Sh} (ok : Ok s) (k i : Nat) : ∀ t, (waysN s.hard k i t).length ≤ 7 ^ t
  | 0 => Nat.le_refl _
  | t + 1 => by
    have h1 := flat_len (ext s.hard k) 7 (fun w => Nat.le_trans (ext_len _ _ _) ok.few) (waysN s.hard k i t)
    have h3 := waysN_len ok k i t
    show ((waysN s.hard k i t).flatMap (ext s.hard k)).length ≤ _
    rw [Nat.pow_succ]
    omega
theorem WyOk.short {s : Sh} {k i t : Nat} {w : Wy} (W : WyOk s k i t w) : t < s.n := by
  have := nodup_le W.sp.nodup W.lt
  rw [W.l2] at this
  omega
theorem sp_way {hard : List Ru} {k i : Nat} {met : List Nat} {v : Nat} {w : Int} (h : Sp (hard.eraseIdx k) i met v w) : ∃ t ks, met.length = t + 1 ∧ (ks, met) ∈ waysN hard k i t ∧ w = wsum hard ks := by
  induction h with
  | nil => exact ⟨0, [], rfl, List.mem_singleton.mpr rfl, rfl⟩
  | @snoc met v w r h0 hr hv hn ih =>
    obtain ⟨t, ks, h1, h2, h3⟩ := ih
    obtain ⟨m, hm, hmr⟩ := List.mem_eraseIdx_iff_getElem?.mp hr
    refine ⟨t + 1, ks ++ [m], by rw [List.length_append, h1]; rfl, List.mem_flatMap.mpr ⟨(ks, met), h2, mem_ext hmr hm (by rw [hv]; exact h0.last.symm) hn⟩, ?_⟩
    rw [wsum_snoc, getD_of hmr, h3]
theorem mem_goods {s : Sh} {k t : Nat} {ks : List Nat} : ks ∈ goodsN s k t ↔ ∃ met, (ks, met) ∈ waysN s.hard k (s.at k).1 t ∧ met.getLastD 0 = (s.at k).2.1 ∧ (s.at k).2.2 ≤ wsum s.hard ks := by
  unfold goodsN
  constructor
  · intro h
    obtain ⟨w, hw, rfl⟩ := List.mem_map.mp h
    rw [List.mem_filter, Bool.and_eq_true, decide_eq_true_iff, decide_eq_true_iff] at hw
    exact ⟨w.2, hw.1, hw.2.1, hw.2.2⟩
  · rintro ⟨met, h1, h2, h3⟩
    refine List.mem_map.mpr ⟨(ks, met), ?_, rfl⟩
    rw [List.mem_filter, Bool.and_eq_true, decide_eq_true_iff, decide_eq_true_iff]
    exact ⟨h1, h2, h3⟩
theorem Feas.drop {hard : List Ru} (h : Feas hard) (k : Nat) : Feas (hard.eraseIdx k) := by
  obtain ⟨p, hp⟩ := h
  exact ⟨p, fun r hr => hp r (List.mem_of_mem_eraseIdx hr)⟩
/-! ### the found list as a function -/
def fnO (f : List (Option Int)) : Fn := fun v => f.getD v none
theorem fnO_set (f : List (Option Int)) {j : Nat} (x : Int) (h : j < f.length) : fnO (f.set j (some x)) = updF (fnO f) j x := by
  funext v
  show (f.set j (some x)).getD v none = if v = j then some x else f.getD v none
  rw [List.getD_eq_getElem?_getD, List.getD_eq_getElem?_getD]
  by_cases e : v = j
  · subst e
    rw [if_pos rfl, List.getElem?_set_self h]
    rfl
  · rw [if_neg e, List.getElem?_set_ne (Ne.symm e)]
theorem relax_fn {f : List (Option Int)} {r : Ru} (h2 : r.2.1 < f.length) : fnO (relax f r) = relaxF (fnO f) r := by
  unfold relax relaxF
  show fnO (match fnO f r.1 with
    | none => f
    | some a => match fnO f r.2.1 with
      | none => f.set r.2.1 (some (a + r.2.2))
      | some b => if b < a + r.2.2 then f.set r.2.1 (some (a + r.2.2)) else f) = _
  cases fnO f r.1 with
  | none => rfl
  | some a =>
    simp only
    cases fnO f r.2.1 with
    | none => exact fnO_set f _ h2
    | some b =>
      simp only
      split
      · exact fnO_set f _ h2
      · rfl
theorem round_fn {n : Nat} : ∀ (rs : List Ru) (f : List (Option Int)), f.length = n → (∀ r ∈ rs, r.2.1 < n) → fnO (rs.foldl relax f) = rs.foldl relaxF (fnO f)
  | [], _, _, _ => rfl
  | r :: rs, f, hf, h => by
    rw [List.foldl_cons, List.foldl_cons, ← relax_fn (by rw [hf]; exact h r List.mem_cons_self)]
    exact round_fn rs _ (by rw [relax_len]; exact hf) fun q hq => h q (List.mem_cons_of_mem _ hq)
theorem rounds_fn {n : Nat} {hard : List Ru} (h : ∀ r ∈ hard, r.2.1 < n) : ∀ (t : Nat) (f : List (Option Int)), f.length = n → fnO (iter (fun f => hard.foldl relax f) t f) = roundsF hard t (fnO f)
  | 0, _, _ => rfl
  | t + 1, f, hf => by
    show fnO (iter (fun f => hard.foldl relax f) t (hard.foldl relax f)) = iter (fun f => hard.foldl relaxF f) t (hard.foldl relaxF (fnO f))
    rw [rounds_fn h t _ (by rw [round_len]; exact hf), round_fn hard f hf h]
    rfl
theorem gaps_done {s : Sh} (ok : Ok s) (F : Feas s.hard) {i : Nat} (hi : i < s.n) : Done s.hard (fun v => v = i) (fnO (gaps s i)) := by
  have n2 := ok.n2
  unfold gaps
  rw [rounds_fn (n := s.n) (fun r hr => (ok.rin r hr).2) _ _ (by rw [List.length_set, List.length_replicate])]
  refine rounds_done F (fun v a h => ?_) (fun v h => ?_) fun i' met v w e hs => ?_
  · rw [fnO_set _ _ (by rw [List.length_replicate]; exact hi)] at h
    unfold updF at h
    by_cases e : v = i
    · rw [if_pos e] at h
      cases h
      exact ⟨rfl, e⟩
    · rw [if_neg e] at h
      unfold fnO at h
      rw [List.getD_eq_getElem?_getD, List.getElem?_replicate] at h
      split at h <;> cases h
  · subst h
    rw [fnO_set _ _ (by rw [List.length_replicate]; exact hi)]
    unfold updF
    rw [if_pos rfl]
  · have e' : i' = i := e
    subst e'
    have := nodup_le hs.nodup fun x hx => by
      rcases hs.sub x hx with z | ⟨r, hr, z⟩
      · rw [z]
        exact hi
      · rw [← z]
        exact (ok.rin r hr).2
    omega
theorem idle_of_good {s : Sh} (ok : Ok s) (F : Feas s.hard) {k : Nat} (l : k < s.hard.length) {t : Nat} {ks : List Nat} (h : ks ∈ goodsN s k t) : idle s k = true := by
  obtain ⟨r1, r2⟩ := ok.rin _ (at_mem l)
  obtain ⟨met, h1, h2, h3⟩ := mem_goods.mp h
  have W := waysN_ok ok r1 t _ h1
  have hs := W.sp
  obtain ⟨u, _, hw⟩ := hs.wk
  obtain ⟨b, hb, eb⟩ := (gaps_done (ok.drop k) (F.drop k) (i := (s.at k).1) r1).full _ _ _ _ rfl hw
  have hb' : wsum s.hard ks ≤ b := hb
  have eb' : fnO (gaps (s.drop k) (s.at k).1) (met.getLastD 0) = some b := eb
  rw [h2] at eb'
  rw [idle_eq eb']
  exact decide_eq_true (by omega)
theorem good_of_idle {s : Sh} (ok : Ok s) (F : Feas s.hard) {k : Nat} (l : k < s.hard.length) (h : idle s k = true) : ∃ t, t < s.n ∧ goodsN s k t ≠ [] := by
  obtain ⟨r1, r2⟩ := ok.rin _ (at_mem l)
  cases e : (gaps (s.drop k) (s.at k).1).getD (s.at k).2.1 none with
  | none =>
    rw [idle_eq e] at h
    cases h
  | some g =>
    rw [idle_eq e] at h
    have hg : (s.at k).2.2 ≤ g := of_decide_eq_true h
    obtain ⟨i', t, e', hw⟩ := (gaps_done (ok.drop k) (F.drop k) (i := (s.at k).1) r1).sound _ _ e
    have e2 : i' = (s.at k).1 := e'
    subst e2
    obtain ⟨p, hp⟩ := F.drop k
    obtain ⟨met, w', hs, hle⟩ := hw.simple hp
    obtain ⟨u, ks, hu, hk, ew⟩ := sp_way hs
    have W := waysN_ok ok r1 u _ hk
    refine ⟨u, W.short, fun z => ?_⟩
    have : ks ∈ goodsN s k u := mem_goods.mpr ⟨met, hk, hs.last, by omega⟩
    rw [z] at this
    cases this

/-! ### bypasses told -/
theorem byGo_way {s : Sh} {k : Nat} : ∀ (t : Nat) (ks met rest : List Nat), (ks, met) ∈ waysN s.hard k (s.at k).1 t → byGo s k (ks ++ rest) [(s.at k).1] = byGo s k rest met
  | 0, ks, met, rest, h => by
    have e : (ks, met) = ([], [(s.at k).1]) := List.mem_singleton.mp h
    cases e
    rfl
  | t + 1, ks, met, rest, h => by
    obtain ⟨v, hv, hw⟩ := List.mem_flatMap.mp h
    obtain ⟨r, m, hm, c1, c2, c3, e⟩ := ext_mem hw
    cases e
    have hat : s.at m = r := getD_of hm
    rw [List.append_assoc, byGo_way t v.1 v.2 ([m] ++ rest) hv]
    show (if m = k ∨ (s.at m).1 ≠ v.2.getLastD 0 ∨ (s.at m).2.1 ∈ v.2 then false else byGo s k rest (v.2 ++ [(s.at m).2.1])) = _
    rw [hat, if_neg fun z => by rcases z with z | z | z <;> contradiction]
theorem byGo_yes {s : Sh} {k : Nat} : ∀ (rest : List Nat) (t : Nat) (ks met : List Nat), (∀ m ∈ rest, m < s.hard.length) → (ks, met) ∈ waysN s.hard k (s.at k).1 t → byGo s k rest met = true →
    ∃ met', (ks ++ rest, met') ∈ waysN s.hard k (s.at k).1 (t + rest.length) ∧ met'.getLastD 0 = (s.at k).2.1
  | [], t, ks, met, _, h, hb => ⟨met, by rw [List.append_nil]; exact h, of_decide_eq_true hb⟩
  | m :: rest, t, ks, met, hl, h, hb => by
    have hb' : (if m = k ∨ (s.at m).1 ≠ met.getLastD 0 ∨ (s.at m).2.1 ∈ met then false else byGo s k rest (met ++ [(s.at m).2.1])) = true := hb
    split at hb'
    · cases hb'
    · rename_i c
      rw [not_or, not_or, Decidable.not_not] at c
      have hm := sh_at (hl m List.mem_cons_self)
      have h2 : (ks ++ [m], met ++ [(s.at m).2.1]) ∈ waysN s.hard k (s.at k).1 (t + 1) := List.mem_flatMap.mpr ⟨(ks, met), h, mem_ext hm c.1 c.2.1 c.2.2⟩
      obtain ⟨met', h3, h4⟩ := byGo_yes rest (t + 1) _ _ (fun q hq => hl q (List.mem_cons_of_mem _ hq)) h2 hb'
      refine ⟨met', ?_, h4⟩
      rw [List.append_assoc] at h3
      rw [List.length_cons, show t + (rest.length + 1) = t + 1 + rest.length by omega]
      exact h3
theorem isBy_iff {s : Sh} (ok : Ok s) {k : Nat} (l : k < s.hard.length) {ks : List Nat} (hl : ∀ m ∈ ks, m < s.hard.length) : isBy s k ks = true ↔ ks ∈ goodsN s k ks.length := by
  obtain ⟨r1, r2⟩ := ok.rin _ (at_mem l)
  unfold isBy
  rw [Bool.and_eq_true, decide_eq_true_iff, mem_goods]
  constructor
  · rintro ⟨h1, h2⟩
    obtain ⟨met', h3, h4⟩ := byGo_yes ks 0 [] [(s.at k).1] hl (List.mem_singleton.mpr rfl) h1
    rw [Nat.zero_add] at h3
    exact ⟨met', h3, h4, h2⟩
  · rintro ⟨met, h1, h2, h3⟩
    refine ⟨?_, h3⟩
    have := byGo_way ks.length ks met [] h1
    rw [List.append_nil] at this
    rw [this]
    exact decide_eq_true h2
theorem goods_len {s : Sh} (ok : Ok s) {k : Nat} (l : k < s.hard.length) {t : Nat} {ks : List Nat} (h : ks ∈ goodsN s k t) : ks.length = t ∧ t < s.n ∧ ∀ m ∈ ks, m < s.hard.length := by
  obtain ⟨r1, r2⟩ := ok.rin _ (at_mem l)
  obtain ⟨met, h1, h2, h3⟩ := mem_goods.mp h
  have W := waysN_ok ok r1 t _ h1
  exact ⟨W.l1, W.short, W.ks⟩
theorem goods_zero {s : Sh} (ok : Ok s) {k : Nat} (l : k < s.hard.length) : goodsN s k 0 = [] := by
  refine List.eq_nil_iff_forall_not_mem.mpr fun ks h => ?_
  obtain ⟨met, h1, h2, h3⟩ := mem_goods.mp h
  have e : (ks, met) = ([], [(s.at k).1]) := List.mem_singleton.mp h1
  cases e
  exact ok.ne _ (at_mem l) h2

/-! ### the law's ways and these -/
def strip (w : Lw) : Wy := (w.1, w.2.1)
theorem strip_lext (hard : List Ru) (gone : Nat) (w : Lw) : (lext hard gone w).map strip = ext hard gone (strip w) := by
  unfold lext ext
  rw [List.map_filterMap]
  congr 1
  funext q
  show Option.map strip (if q.2 ≠ gone ∧ q.1.1 = w.2.1.getLastD 0 ∧ q.1.2.1 ∉ w.2.1 then some (w.1 ++ [q.2], w.2.1 ++ [q.1.2.1], w.2.2 + q.1.2.2) else none) = if q.2 ≠ gone ∧ q.1.1 = w.2.1.getLastD 0 ∧ q.1.2.1 ∉ w.2.1 then some (w.1 ++ [q.2], w.2.1 ++ [q.1.2.1]) else none
  split <;> rfl
theorem flat_filter {α β : Type} (p : β → Bool) (q : α → Bool) (f : α → List β) (g : α → List β) : ∀ xs : List α, (∀ x ∈ xs, q x = true → (f x).filter p = g x) → (∀ x ∈ xs, q x = false → (f x).filter p = []) → (xs.flatMap f).filter p = (xs.filter q).flatMap g
  | [], _, _ => rfl
  | x :: xs, h1, h2 => by
    rw [List.flatMap_cons, List.filter_append, flat_filter p q f g xs (fun y hy => h1 y (List.mem_cons_of_mem _ hy)) fun y hy => h2 y (List.mem_cons_of_mem _ hy)]
    cases e : q x with
    | true => rw [h1 x List.mem_cons_self e, List.filter_cons_of_pos e, List.flatMap_cons]
    | false => rw [h2 x List.mem_cons_self e, List.filter_cons_of_neg (by rw [e]; exact Bool.false_ne_true), List.nil_append]
theorem ext_last {hard : List Ru} {gone : Nat} {w v : Wy} (h : v ∈ ext hard gone w) (j : Nat) : (j ∈ w.2 → j ∈ v.2 ∧ v.2.getLastD 0 ≠ j) ∧ (j ∉ w.2 → (j ∈ v.2 ↔ v.2.getLastD 0 = j)) := by
  obtain ⟨r, m, _, _, _, c3, rfl⟩ := ext_mem h
  have e : (w.2 ++ [r.2.1]).getLastD 0 = r.2.1 := by simp
  refine ⟨fun hj => ⟨List.mem_append_left _ hj, ?_⟩, fun hj => ?_⟩
  · rw [e]
    intro z
    exact c3 (z ▸ hj)
  · rw [e]
    constructor
    · intro z
      rcases List.mem_append.mp z with q | q
      · exact absurd q hj
      · exact (List.mem_singleton.mp q).symm
    · intro z
      exact List.mem_append_right _ (List.mem_singleton.mpr z.symm)
theorem lnow_ways (hard : List Ru) (gone i j : Nat) : ∀ t, ((lnow hard gone i j t).filter fun w => decide (w.2.1.getLastD 0 ≠ j)).map strip = (waysN hard gone i t).filter (fun w => decide (j ∉ w.2)) ∧
    ((lnow hard gone i j t).filter fun w => decide (w.2.1.getLastD 0 = j)).map strip = (waysN hard gone i t).filter (fun w => decide (w.2.getLastD 0 = j))
  | 0 => by
    show ((([([], [i], 0)] : List Lw)).filter fun w => decide (w.2.1.getLastD 0 ≠ j)).map strip = (([([], [i])] : List Wy)).filter (fun w => decide (j ∉ w.2)) ∧ ((([([], [i], 0)] : List Lw)).filter fun w => decide (w.2.1.getLastD 0 = j)).map strip = (([([], [i])] : List Wy)).filter (fun w => decide (w.2.getLastD 0 = j))
    by_cases h : i = j
    · subst h
      simp [strip]
    · have h' : ¬ j = i := fun z => h z.symm
      simp [strip, h, h']
  | t + 1 => by
    obtain ⟨h1, _⟩ := lnow_ways hard gone i j t
    have em : (lnow hard gone i j (t + 1)).map strip = ((waysN hard gone i t).filter (fun w => decide (j ∉ w.2))).flatMap (ext hard gone) := by
      show (((lnow hard gone i j t).filter fun w => decide (w.2.1.getLastD 0 ≠ j)).flatMap (lext hard gone)).map strip = _
      rw [← h1, List.map_flatMap, List.flatMap_map]
      congr 1
      funext w
      exact strip_lext hard gone w
    have key : ∀ (p : Wy → Bool), (∀ w v, j ∈ w.2 → v ∈ ext hard gone w → p v = false) → (waysN hard gone i (t + 1)).filter p = (((waysN hard gone i t).filter (fun w => decide (j ∉ w.2))).flatMap (ext hard gone)).filter p := fun p hp => by
      have e1 := flat_filter p (fun w => decide (j ∉ w.2)) (ext hard gone) (fun w => (ext hard gone w).filter p) (waysN hard gone i t) (fun _ _ _ => rfl) fun w _ hw => by
        have hj : j ∈ w.2 := by simpa using hw
        exact List.filter_eq_nil_iff.mpr fun v hv => by
          rw [hp w v hj hv]
          exact Bool.false_ne_true
      show ((waysN hard gone i t).flatMap (ext hard gone)).filter p = _
      rw [e1, List.filter_flatMap]
    have fm : ∀ (p : Wy → Bool) (xs : List Lw), (xs.filter fun w => p (strip w)).map strip = (xs.map strip).filter p := fun p xs => by
      rw [List.filter_map]
      rfl
    refine ⟨?_, ?_⟩
    · have e1 := fm (fun w => decide (w.2.getLastD 0 ≠ j)) (lnow hard gone i j (t + 1))
      show ((lnow hard gone i j (t + 1)).filter fun w => decide ((strip w).2.getLastD 0 ≠ j)).map strip = _
      rw [e1, em, key (fun w => decide (j ∉ w.2)) fun w v hj hv => by simpa using ((ext_last hv j).1 hj).1]
      refine List.filter_congr fun v hv => ?_
      obtain ⟨w, hw, hvw⟩ := List.mem_flatMap.mp hv
      rw [List.mem_filter] at hw
      have hj : j ∉ w.2 := by simpa using hw.2
      have := (ext_last hvw j).2 hj
      exact decide_eq_decide.mpr (by rw [this])
    · have e1 := fm (fun w => decide (w.2.getLastD 0 = j)) (lnow hard gone i j (t + 1))
      show ((lnow hard gone i j (t + 1)).filter fun w => decide ((strip w).2.getLastD 0 = j)).map strip = _
      rw [e1, em, key (fun w => decide (w.2.getLastD 0 = j)) fun w v hj hv => by simpa using ((ext_last hv j).1 hj).2]
theorem lnow_sum {hard : List Ru} {gone i j : Nat} : ∀ t, ∀ w ∈ lnow hard gone i j t, w.2.2 = wsum hard w.1
  | 0, w, h => by
    have e : w = ([], [i], 0) := List.mem_singleton.mp h
    subst e
    rfl
  | t + 1, w, h => by
    obtain ⟨v, hv, hw⟩ := List.mem_flatMap.mp h
    have V := lnow_sum t v (List.mem_filter.mp hv).1
    obtain ⟨q, hq, c1, c2, c3, rfl⟩ := lext_mem hw
    obtain ⟨r, m⟩ := q
    have hm := List.mk_mem_zipIdx_iff_getElem?.mp hq
    show v.2.2 + r.2.2 = wsum hard (v.1 ++ [m])
    rw [wsum_snoc, getD_of hm, V]
/-- the law's goods of one round -/
theorem here_goods (s : Sh) (k t : Nat) : ((lhere (s.at k).2.1 (lnow s.hard k (s.at k).1 (s.at k).2.1 t)).filter fun q => decide ((s.at k).2.2 ≤ q.2)).map (·.1) = goodsN s k t := by
  have h := (lnow_ways s.hard k (s.at k).1 (s.at k).2.1 t).2
  have hs := lnow_sum (hard := s.hard) (gone := k) (i := (s.at k).1) (j := (s.at k).2.1) t
  unfold lhere goodsN
  rw [show (fun w : Wy => decide (w.2.getLastD 0 = (s.at k).2.1) && decide ((s.at k).2.2 ≤ wsum s.hard w.1)) = fun w => decide ((s.at k).2.2 ≤ wsum s.hard w.1) && decide (w.2.getLastD 0 = (s.at k).2.1) from funext fun w => Bool.and_comm _ _]
  rw [← List.filter_filter, ← h]
  generalize (lnow s.hard k (s.at k).1 (s.at k).2.1 t) = L at hs
  induction L with
  | nil => rfl
  | cons w r ih =>
    have ih := ih fun v hv => hs v (List.mem_cons_of_mem _ hv)
    have hw := hs w List.mem_cons_self
    by_cases c : w.2.1.getLastD 0 = (s.at k).2.1
    · rw [List.filter_cons_of_pos (by simpa using c), List.map_cons, List.map_cons]
      by_cases c2 : (s.at k).2.2 ≤ w.2.2
      · rw [List.filter_cons_of_pos (by simpa using c2), List.filter_cons_of_pos (by rw [hw] at c2; exact decide_eq_true c2), List.map_cons, List.map_cons, ih]
        rfl
      · rw [List.filter_cons_of_neg (by simpa using c2), List.filter_cons_of_neg (by rw [hw] at c2; exact fun z => c2 (of_decide_eq_true z)), ih]
    · rw [List.filter_cons_of_neg (by simpa using c), ih]
/-- the law's goods, all -/
def lgoods (s : Sh) (k : Nat) : List (List Nat) := ((lways s (s.at k).1 (s.at k).2.1 k).filter fun q => decide ((s.at k).2.2 ≤ q.2)).map (·.1)
theorem lgoods_eq (s : Sh) (k : Nat) : lgoods s k = (List.range (s.n + 1)).flatMap (goodsN s k) := by
  unfold lgoods lways
  rw [List.filter_flatMap, List.map_flatMap]
  congr 1
  funext t
  exact here_goods s k t
theorem mem_lgoods {s : Sh} (ok : Ok s) {k : Nat} (l : k < s.hard.length) {ks : List Nat} : ks ∈ lgoods s k ↔ ks ∈ goodsN s k ks.length := by
  rw [lgoods_eq, List.mem_flatMap]
  constructor
  · rintro ⟨t, _, h⟩
    rw [(goods_len ok l h).1]
    exact h
  · intro h
    refine ⟨ks.length, List.mem_range.mpr ?_, h⟩
    have := (goods_len ok l h).2.1
    omega
theorem idle_iff {s : Sh} (ok : Ok s) (F : Feas s.hard) {k : Nat} (l : k < s.hard.length) : idle s k = true ↔ lgoods s k ≠ [] := by
  constructor
  · intro h
    obtain ⟨t, ht, hg⟩ := good_of_idle ok F l h
    intro z
    rw [lgoods_eq] at z
    have := List.flatMap_eq_nil_iff.mp z t (List.mem_range.mpr (by omega))
    exact hg this
  · intro h
    obtain ⟨ks, hk⟩ := List.exists_mem_of_ne_nil _ h
    exact idle_of_good ok F l ((mem_lgoods ok l).mp hk)
end Dw
set_option maxRecDepth 100000
set_option maxHeartbeats 4000000
/-! A slip keeps all rules but one; the least of the goods. -/
namespace Dw
open PySem PySem.Spec PyProof.Rows L2

def fnI (f : List Int) : Fn := fun v => if v < f.length then some (f.getD v 0) else none
theorem fnI_set (f : List Int) {j : Nat} (x : Int) (h : j < f.length) : fnI (f.set j x) = updF (fnI f) j x := by
  funext v
  show (if v < (f.set j x).length then some ((f.set j x).getD v 0) else none) = if v = j then some x else if v < f.length then some (f.getD v 0) else none
  rw [List.length_set, List.getD_eq_getElem?_getD, List.getD_eq_getElem?_getD]
  by_cases e : v = j
  · subst e
    rw [if_pos h, if_pos rfl, List.getElem?_set_self h]
    rfl
  · rw [if_neg e, List.getElem?_set_ne (Ne.symm e)]
theorem fnI_at {f : List Int} {v : Nat} (h : v < f.length) : fnI f v = some (f.getD v 0) := if_pos h
theorem relaxI_fn {f : List Int} {r : Ru} (h1 : r.1 < f.length) (h2 : r.2.1 < f.length) : fnI (relaxI f r) = relaxF (fnI f) r := by
  unfold relaxI relaxF
  rw [fnI_at h1]
  simp only
  rw [fnI_at h2]
  simp only
  split
  · exact fnI_set f _ h2
  · rfl
theorem roundI_fn {n : Nat} : ∀ (rs : List Ru) (f : List Int), f.length = n → (∀ r ∈ rs, r.1 < n ∧ r.2.1 < n) → fnI (rs.foldl relaxI f) = rs.foldl relaxF (fnI f)
  | [], _, _, _ => rfl
  | r :: rs, f, hf, h => by
    have hr := h r List.mem_cons_self
    rw [List.foldl_cons, List.foldl_cons, ← relaxI_fn (by rw [hf]; exact hr.1) (by rw [hf]; exact hr.2)]
    exact roundI_fn rs _ (by rw [relaxI_len]; exact hf) fun q hq => h q (List.mem_cons_of_mem _ hq)
theorem roundsI_fn {n : Nat} {hard : List Ru} (h : ∀ r ∈ hard, r.1 < n ∧ r.2.1 < n) : ∀ (t : Nat) (f : List Int), f.length = n → fnI (iter (fun f => hard.foldl relaxI f) t f) = roundsF hard t (fnI f)
  | 0, _, _ => rfl
  | t + 1, f, hf => by
    show fnI (iter (fun f => hard.foldl relaxI f) t (hard.foldl relaxI f)) = iter (fun f => hard.foldl relaxF f) t (hard.foldl relaxF (fnI f))
    rw [roundsI_fn h t _ (by rw [roundI_len]; exact hf), roundI_fn hard f hf h]
    rfl
theorem raw_done {s : Sh} (F : Feas s.hard) (rin : ∀ r ∈ s.hard, r.1 < s.n ∧ r.2.1 < s.n) : Done s.hard (fun v => v < s.n) (fnI (someRaw s)) := by
  unfold someRaw
  rw [roundsI_fn (n := s.n) rin _ _ List.length_replicate]
  have at0 : ∀ v, v < s.n → fnI (List.replicate s.n 0) v = some 0 := fun v hv => by
    rw [fnI_at (by rw [List.length_replicate]; exact hv), List.getD_eq_getElem?_getD, List.getElem?_replicate, if_pos hv]
    rfl
  refine rounds_done F (fun v a h => ?_) (fun v h => at0 v h) fun i met v w hi hs => ?_
  · by_cases hv : v < s.n
    · rw [at0 v hv] at h
      cases h
      exact ⟨rfl, hv⟩
    · unfold fnI at h
      rw [List.length_replicate, if_neg hv] at h
      cases h
  · have := nodup_le (n := s.n) hs.nodup fun x hx => by
      rcases hs.sub x hx with z | ⟨r, hr, z⟩
      · rw [z]
        exact hi
      · rw [← z]
        exact (rin r hr).2
    omega
theorem raw_keeps {s : Sh} (F : Feas s.hard) (rin : ∀ r ∈ s.hard, r.1 < s.n ∧ r.2.1 < s.n) {r : Ru} (hr : r ∈ s.hard) : (someRaw s).getD r.1 0 + r.2.2 ≤ (someRaw s).getD r.2.1 0 := by
  have len := someRaw_len s
  obtain ⟨b, h1, h2⟩ := (raw_done F rin).stable hr (fnI_at (by rw [len]; exact (rin r hr).1))
  rw [fnI_at (by rw [len]; exact (rin r hr).2)] at h2
  cases h2
  exact h1
theorem lay_at {s : Sh} {v : Nat} (h : v < s.n) : (someLay s).getD v 0 = (someRaw s).getD v 0 - (someRaw s).getD 0 0 := by
  have len := someRaw_len s
  unfold someLay
  rw [List.getD_eq_getElem?_getD, List.getElem?_map, List.getElem?_eq_getElem (by rw [len]; exact h)]
  have e : (someRaw s).getD v 0 = (someRaw s)[v]'(by rw [len]; exact h) := by
    rw [List.getD_eq_getElem?_getD, List.getElem?_eq_getElem (by rw [len]; exact h)]
    rfl
  rw [e]
  rfl
theorem lay_len (s : Sh) : (someLay s).length = s.n := by
  unfold someLay
  rw [List.length_map]
  exact someRaw_len s
theorem lay_gap {s : Sh} {r : Ru} (h1 : r.1 < s.n) (h2 : r.2.1 < s.n) : gapOf (someLay s) r = (someRaw s).getD r.2.1 0 - (someRaw s).getD r.1 0 := by
  unfold gapOf
  rw [lay_at h1, lay_at h2]
  omega
theorem bound_of (f : Ru → Int) : ∀ rs : List Ru, ∃ M, ∀ r ∈ rs, f r ≤ M
  | [] => ⟨0, fun _ h => nomatch h⟩
  | r :: rs => by
    obtain ⟨M, h⟩ := bound_of f rs
    refine ⟨max M (f r), fun q hq => ?_⟩
    rcases List.mem_cons.mp hq with e | e
    · subst e
      omega
    · have := h q e
      omega
def slipC (s : Sh) (k : Nat) : Int := match (gaps (s.drop k) (s.at k).1).getD (s.at k).2.1 none with
  | none => 0 - ((s.at k).2.2 - 2)
  | some g => 0 - g
theorem slip_hard (s : Sh) (k : Nat) : (slipSh s k).hard = (s.drop k).hard ++ [((s.at k).2.1, (s.at k).1, slipC s k)] := rfl
theorem slip_feas {s : Sh} (ok : Ok s) (F : Feas s.hard) {k : Nat} (l : k < s.hard.length) : Feas (slipSh s k).hard := by
  obtain ⟨r1, r2⟩ := ok.rin _ (at_mem l)
  have D := gaps_done (ok.drop k) (F.drop k) (i := (s.at k).1) r1
  obtain ⟨q, hq⟩ := F.drop k
  have walk : ∀ (i v : Nat) (w : Int) (t : Nat), Wk (s.hard.eraseIdx k) i v w t → w ≤ q v - q i := fun i v w t h => by
    induction h with
    | nil => omega
    | @snoc v w t r h0 hr hv ih =>
      have := hq r hr
      rw [hv] at this
      omega
  have at_i : fnO (gaps (s.drop k) (s.at k).1) (s.at k).1 = some 0 := by
    obtain ⟨b, hb, eb⟩ := D.full _ _ _ _ rfl (Wk.nil (hard := (s.drop k).hard) (i := (s.at k).1))
    obtain ⟨i', t, e, hw⟩ := D.sound _ _ eb
    have e' : i' = (s.at k).1 := e
    subst e'
    have := walk _ _ _ _ hw
    rw [eb]
    exact congrArg some (by omega)
  obtain ⟨M0, hM⟩ := bound_of (fun r => q r.1 + r.2.2 - (fnO (gaps (s.drop k) (s.at k).1) r.2.1).getD 0) (s.drop k).hard
  refine ⟨fun v => (fnO (gaps (s.drop k) (s.at k).1) v).getD (q v - max M0 (q (s.at k).2.1 - (s.at k).2.2 + 2)), fun r hr => ?_⟩
  rw [slip_hard] at hr
  rcases List.mem_append.mp hr with hr | hr
  · have h1 := hq r hr
    have h2 := hM r hr
    simp only at h2 ⊢
    cases e1 : fnO (gaps (s.drop k) (s.at k).1) r.1 with
    | some a =>
      obtain ⟨b, hb, eb⟩ := D.stable hr e1
      rw [eb]
      exact hb
    | none =>
      cases e2 : fnO (gaps (s.drop k) (s.at k).1) r.2.1 with
      | some b =>
        rw [e2] at h2
        simp only [Option.getD_some, Option.getD_none] at h2 ⊢
        omega
      | none =>
        simp only [Option.getD_none]
        omega
  · rw [List.mem_singleton.mp hr]
    simp only
    rw [at_i]
    unfold slipC
    show (fnO (gaps (s.drop k) (s.at k).1) (s.at k).2.1).getD _ + (match fnO (gaps (s.drop k) (s.at k).1) (s.at k).2.1 with
      | none => 0 - ((s.at k).2.2 - 2)
      | some g => 0 - g) ≤ 0
    cases e : fnO (gaps (s.drop k) (s.at k).1) (s.at k).2.1 with
    | none =>
      simp only [Option.getD_none]
      omega
    | some g =>
      simp only [Option.getD_some]
      omega
theorem slip_rin {s : Sh} (ok : Ok s) {k : Nat} (l : k < s.hard.length) : ∀ r ∈ (slipSh s k).hard, r.1 < s.n ∧ r.2.1 < s.n := fun r hr => by
  rw [slip_hard] at hr
  rcases List.mem_append.mp hr with h | h
  · exact (ok.drop k).rin r h
  · rw [List.mem_singleton.mp h]
    have := ok.rin _ (at_mem l)
    exact ⟨this.2, this.1⟩
theorem slip_laid {s : Sh} (ok : Ok s) (F : Feas s.hard) {k : Nat} (l : k < s.hard.length) (y : idle s k = false) : isLaid (s.drop k) (.tup (slipL s k)) = true ∧ isLaid s (.tup (slipL s k)) = false := by
  have n2 := ok.n2
  have hf := slip_feas ok F l
  have hr := slip_rin ok l
  have len : (slipL s k).length = s.n := lay_len (slipSh s k)
  have z0 : (slipL s k).getD 0 0 = 0 := by
    have := lay_at (s := slipSh s k) (v := 0) (show 0 < s.n by omega)
    show (someLay (slipSh s k)).getD 0 0 = 0
    omega
  refine ⟨?_, ?_⟩
  · rw [laid_tup, decide_eq_true z0, decide_eq_true (show (slipL s k).length = (s.drop k).n from len), Bool.true_and, Bool.true_and, List.all_eq_true]
    intro r hrm
    have hm : r ∈ (slipSh s k).hard := by
      rw [slip_hard]
      exact List.mem_append_left _ hrm
    have := raw_keeps (s := slipSh s k) hf hr hm
    have g := lay_gap (s := slipSh s k) (hr r hm).1 (hr r hm).2
    refine decide_eq_true ?_
    show r.2.2 ≤ gapOf (someLay (slipSh s k)) r
    omega
  · rw [laid_tup, decide_eq_true z0, decide_eq_true len, Bool.true_and, Bool.true_and, List.all_eq_false]
    refine ⟨s.at k, at_mem l, ?_⟩
    rw [decide_eq_true_iff]
    have hk := ok.rin _ (at_mem l)
    have g := lay_gap (s := slipSh s k) (r := s.at k) hk.1 hk.2
    have hm : ((s.at k).2.1, (s.at k).1, slipC s k) ∈ (slipSh s k).hard := by
      rw [slip_hard]
      exact List.mem_append_right _ (List.mem_singleton.mpr rfl)
    have h1 : (someRaw (slipSh s k)).getD (s.at k).2.1 0 + slipC s k ≤ (someRaw (slipSh s k)).getD (s.at k).1 0 := raw_keeps (s := slipSh s k) hf hr hm
    have h2 : 0 - slipC s k < (s.at k).2.2 := by
      cases e : (gaps (s.drop k) (s.at k).1).getD (s.at k).2.1 none with
      | none =>
        have : slipC s k = 0 - ((s.at k).2.2 - 2) := by
          unfold slipC
          rw [e]
        omega
      | some g =>
        have e2 : slipC s k = 0 - g := by
          unfold slipC
          rw [e]
        rw [idle_eq e] at y
        have : ¬ (s.at k).2.2 ≤ g := of_decide_eq_false y
        omega
    show ¬ (s.at k).2.2 ≤ gapOf (someLay (slipSh s k)) (s.at k)
    omega

/-! ### the least -/
def rowT (ks : List Nat) : PyData := .tuple (ks.map hm)
def pairT (ks : List Nat) : PyData := .tuple [nt ks.length, rowT ks]
theorem alike_rows : ∀ a b : List Nat, PySem.W.alikeAll (a.map hm) (b.map hm) = true
  | [], _ => rfl
  | _ :: _, [] => rfl
  | x :: a, y :: b => by
    show (PySem.W.alike (hm x) (hm y) && PySem.W.alikeAll (a.map hm) (b.map hm)) = true
    rw [alike_rows a b]
    rfl
theorem alike_row (a b : List Nat) : PySem.W.alike (rowT a) (rowT b) = true := alike_rows a b
theorem eqv_rows : ∀ a b : List Nat, PyData.eqvAll (a.map hm) (b.map hm) = decide (a = b)
  | [], [] => rfl
  | [], _ :: _ => rfl
  | _ :: _, [] => rfl
  | x :: a, y :: b => by
    show (PyData.eqv (hm x) (hm y) && PyData.eqvAll (a.map hm) (b.map hm)) = _
    rw [eqv_hh, eqv_rows a b]
    apply Bool.eq_iff_iff.mpr
    rw [Bool.and_eq_true, decide_eq_true_iff, decide_eq_true_iff, decide_eq_true_iff, List.cons.injEq]
theorem eqv_row (a b : List Nat) : PyData.eqv (rowT a) (rowT b) = decide (a = b) := eqv_rows a b
theorem pair_lt (a b : List Nat) : PySem.W.dataLt (pairT a) (pairT b) = if a.length = b.length then PySem.W.dataLt (rowT a) (rowT b) else decide (a.length < b.length) := by
  unfold pairT
  rw [PySem.W.dataLt_pair rfl (alike_row a b), eqv_row]
  show (if PyData.eqv (.int (a.length : Int)) (.int (b.length : Int)) = true then _ else PySem.W.dataLt (.int (a.length : Int)) (.int (b.length : Int))) = _
  rw [eqv_nt, PySem.W.dataLt_int]
  by_cases h : a.length = b.length
  · rw [if_pos (decide_eq_true h), if_pos h]
    by_cases e : a = b
    · rw [if_pos (decide_eq_true e), e]
      exact (PySem.W.dataLt_self _).symm
    · rw [if_neg (by simpa using e)]
  · rw [if_neg (by simpa using h), if_neg h]
    exact decide_eq_decide.mpr (by omega)
def minL (x : List Nat) (xs : List (List Nat)) : List Nat := xs.foldl (fun a y => if PySem.W.dataLt (rowT y) (rowT a) then y else a) x
theorem minL_row : ∀ (xs : List (List Nat)) (x : List Nat), PySem.W.minD (rowT x) (xs.map rowT) = rowT (minL x xs)
  | [], _ => rfl
  | y :: xs, x => by
    show PySem.W.minD (if PySem.W.dataLt (rowT y) (rowT x) then rowT y else rowT x) (xs.map rowT) = rowT (minL (if PySem.W.dataLt (rowT y) (rowT x) then y else x) xs)
    rw [← minL_row xs]
    congr 1
    split <;> rfl
theorem minL_mem : ∀ (xs : List (List Nat)) (x : List Nat), minL x xs ∈ x :: xs
  | [], _ => List.mem_cons_self
  | y :: xs, x => by
    have h := minL_mem xs (if PySem.W.dataLt (rowT y) (rowT x) then y else x)
    show minL (if PySem.W.dataLt (rowT y) (rowT x) then y else x) xs ∈ _
    rcases List.mem_cons.mp h with e | e
    · rw [e]
      split
      · exact List.mem_cons_of_mem _ List.mem_cons_self
      · exact List.mem_cons_self
    · exact List.mem_cons_of_mem _ (List.mem_cons_of_mem _ e)
theorem minP_same (t : Nat) : ∀ (xs : List (List Nat)) (x : List Nat), x.length = t → (∀ y ∈ xs, y.length = t) → PySem.W.minD (pairT x) (xs.map pairT) = pairT (minL x xs)
  | [], _, _, _ => rfl
  | y :: xs, x, hx, h => by
    have hy := h y List.mem_cons_self
    have e : PySem.W.dataLt (pairT y) (pairT x) = PySem.W.dataLt (rowT y) (rowT x) := by
      rw [pair_lt, if_pos (by rw [hx, hy])]
    show PySem.W.minD (if PySem.W.dataLt (pairT y) (pairT x) then pairT y else pairT x) (xs.map pairT) = pairT (minL (if PySem.W.dataLt (rowT y) (rowT x) then y else x) xs)
    rw [e]
    cases c : PySem.W.dataLt (rowT y) (rowT x) with
    | true => exact minP_same t xs y hy fun z hz => h z (List.mem_cons_of_mem _ hz)
    | false => exact minP_same t xs x hx fun z hz => h z (List.mem_cons_of_mem _ hz)
theorem minP_more : ∀ (xs : List (List Nat)) (x : List Nat), (∀ y ∈ xs, x.length < y.length) → PySem.W.minD (pairT x) (xs.map pairT) = pairT x
  | [], _, _ => rfl
  | y :: xs, x, h => by
    have hy := h y List.mem_cons_self
    have e : PySem.W.dataLt (pairT y) (pairT x) = false := by
      rw [pair_lt, if_neg (by omega)]
      exact decide_eq_false (by omega)
    show PySem.W.minD (if PySem.W.dataLt (pairT y) (pairT x) then pairT y else pairT x) (xs.map pairT) = pairT x
    rw [e]
    exact minP_more xs x fun z hz => h z (List.mem_cons_of_mem _ hz)
theorem minD_app (x : PyData) (xs ys : List PyData) : PySem.W.minD x (xs ++ ys) = PySem.W.minD (PySem.W.minD x xs) ys := List.foldl_append
/-- the least of the law's goods, by length and row, is the bypass that LeastBy tells -/
theorem least_eq {s : Sh} (ok : Ok s) {k : Nat} (l : k < s.hard.length) {ks : List Nat} (h : LeastBy s k ks) : ∃ g gs, lgoods s k = g :: gs ∧ PySem.W.minD (pairT g) (gs.map pairT) = pairT ks := by
  obtain ⟨t, g, gs, h1, h2, h3⟩ := h
  have ht : t < s.n := by
    have : g ∈ goodsN s k t := by
      rw [h2]
      exact List.mem_cons_self
    exact (goods_len ok l this).2.1
  have e0 : ∀ u, u ≤ t → (List.range u).flatMap (goodsN s k) = [] := fun u hu => List.flatMap_eq_nil_iff.mpr fun x hx => h1 x (by have := List.mem_range.mp hx; omega)
  have e1 : ∃ more, (List.range (s.n + 1)).flatMap (goodsN s k) = goodsN s k t ++ more ∧ ∀ z ∈ more, t < z.length := by
    have e2 : List.range (s.n + 1) = List.range t ++ (t :: (List.range (s.n - t)).map fun x => t + 1 + x) := by
      have a : s.n + 1 = t + (s.n + 1 - t) := by omega
      rw [a, List.range_add, show s.n + 1 - t = (s.n - t) + 1 by omega, List.range_succ_eq_map, List.map_cons, List.map_map]
      congr 2
      refine List.map_congr_left fun x _ => ?_
      show t + (x + 1) = t + 1 + x
      omega
    refine ⟨((List.range (s.n - t)).map fun x => t + 1 + x).flatMap (goodsN s k), ?_, fun z hz => ?_⟩
    · rw [e2, List.flatMap_append, e0 t (Nat.le_refl _), List.nil_append, List.flatMap_cons]
    · obtain ⟨u, hu, hz2⟩ := List.mem_flatMap.mp hz
      obtain ⟨x, _, rfl⟩ := List.mem_map.mp hu
      rw [(goods_len ok l hz2).1]
      omega
  obtain ⟨more, e1, hmore⟩ := e1
  have all : ∀ z ∈ g :: gs, z.length = t := fun z hz => by
    rw [← h2] at hz
    exact (goods_len ok l hz).1
  refine ⟨g, gs ++ more, by rw [lgoods_eq, e1, h2]; rfl, ?_⟩
  rw [List.map_append, minD_app, minP_same t gs g (all g List.mem_cons_self) fun z hz => all z (List.mem_cons_of_mem _ hz)]
  have hk : rowT ks = rowT (minL g gs) := by
    have : PyData.tuple (ks.map hm) = PySem.W.minD (rowT g) (gs.map rowT) := h3
    rw [← minL_row gs g]
    exact this
  have hk2 : ks = minL g gs := by
    have e := eqv_row ks (minL g gs)
    rw [hk, eqv_row, decide_eq_true rfl] at e
    exact of_decide_eq_true e.symm
  rw [← hk2]
  have hlen : ks.length = t := by
    rw [hk2]
    exact all _ (minL_mem gs g)
  exact minP_more more ks fun z hz => by
    rw [hlen]
    exact hmore z hz
end Dw
set_option maxRecDepth 100000
set_option maxHeartbeats 4000000
/-! no_room: where a layout is, it tells None. -/
namespace Dw
open PySem PySem.Spec PyProof.Rows L2
def R_no_room : DS := (dSeq (dAsg (dCall (CTupleOf 20) (dCons (dOp oIx (dVar 0) (dC (.int 1))) dNil)) (dgN 1))
    (dSeq (dPar3K 2 3 4)
    (dSeq (dFor (dItS (dVar 1)) (dgTup 3 (dgCons (dgN 5) (dgCons (dgN 6) (dgCons (dgN 7) dgNil))))
    (dAsg (dTup (dCons (dC (.tuple [.int 0, .int 1])) (dCons (dC (.tuple [.int 0, .int 1])) dNil))) (dgTup 2 (dgCons (dgK 2 (dVar 5)) (dgCons (dgK 2 (dVar 6)) dgNil)))))
    (dSeq (dFor (dItR (dCons (dLenK 2) dNil)) (dgN 7)
    (dSeq (dAsg (dC .none) (dgN 4))
    (dFor (dItE (dCons (dVar 1) dNil)) (dgTup 2 (dgCons (dgN 8) (dgCons (dgTup 3 (dgCons (dgN 5) (dgCons (dgN 6) (dgCons (dgN 9) dgNil)))) dgNil)))
    (dIfS (dTst (dOp oGt (dCall COrder (dCons (dCall CPlus (dCons (dIxK 2 (dVar 5)) (dCons (dVar 9) dNil))) (dCons (dIxK 2 (dVar 6)) dNil))) (dC (.int 0))))
    (dAsg (dTup (dCons (dCall CPlus (dCons (dIxK 2 (dVar 5)) (dCons (dVar 9) dNil))) (dCons (dVar 8) (dCons (dVar 6) dNil)))) (dgTup 3 (dgCons (dgK 2 (dVar 6)) (dgCons (dgK 3 (dVar 6)) (dgCons (dgN 4) dgNil))))) dNext))))
    (dSeq (dIfS (dTst (dIsN (dVar 4)))
    (dRet (dC .none)) dNext)
    (dSeq dNever
    (dSeq dNever
    (dSeq dNever
    dNever))))))))
theorem lk_put (k : Int) (d : PyData) (j : Int) : ∀ kvs : List (Int × PyData), lkD (putD kvs k d) j = if j = k then some d else lkD kvs j := by
  intro kvs
  have hmap : ∀ kvs : List (Int × PyData), lkD (kvs.map fun p => if p.1 = k then (p.1, d) else p) j = if j = k then (if (kvs.any fun p => decide (p.1 = k)) = true then some d else none) else lkD kvs j := by
    intro kvs
    induction kvs with
    | nil =>
      by_cases h : j = k
      · rw [if_pos h]
        rfl
      · rw [if_neg h]
        rfl
    | cons p r ih =>
      unfold lkD at ih ⊢
      rw [List.map_cons, List.find?_cons, List.find?_cons, List.any_cons]
      by_cases h1 : p.1 = k
      · rw [if_pos h1]
        by_cases h : j = k
        · subst h
          simp [h1]
        · have : ¬ p.1 = j := fun z => h (by rw [← z, h1])
          simp only [decide_eq_false this]
          rw [ih, if_neg h, if_neg h]
      · rw [if_neg h1]
        by_cases h : j = k
        · subst h
          simp only [decide_eq_false h1]
          rw [ih]
          simp
          rw [Bool.false_or]
        · by_cases h2 : p.1 = j
          · simp [h2, h]
          · simp only [decide_eq_false h2]
            rw [ih, if_neg h, if_neg h]
  unfold putD
  by_cases e : (kvs.any fun p => decide (p.1 = k)) = true
  · rw [if_pos e, hmap, if_pos e]
  · rw [if_neg e]
    have e2 : ∀ p ∈ kvs, ¬ p.1 = k := fun p hp z => e (List.any_eq_true.mpr ⟨p, hp, decide_eq_true z⟩)
    unfold lkD
    rw [List.find?_append]
    by_cases h : j = k
    · subst h
      rw [if_pos rfl, List.find?_eq_none.mpr (fun p hp => by simpa using e2 p hp)]
      simp
    · rw [if_neg h]
      have : ¬ k = j := fun z => h z.symm
      cases q : kvs.find? fun p => decide (p.1 = j) with
      | none => simp [this]
      | some p => simp
theorem put_len (k : Int) (d : PyData) (kvs : List (Int × PyData)) : (putD kvs k d).length ≤ kvs.length + 1 ∧ (lkD kvs k ≠ none → (putD kvs k d).length = kvs.length) := by
  unfold putD
  split
  · rw [List.length_map]
    exact ⟨by omega, fun _ => rfl⟩
  · rename_i e
    refine ⟨by rw [List.length_append]; exact Nat.le_refl _, fun z => absurd ?_ z⟩
    unfold lkD
    rw [List.find?_eq_none.mpr (fun p hp q => e (List.any_eq_true.mpr ⟨p, hp, q⟩))]
    rfl
theorem nodup_sub {α : Type} [DecidableEq α] : ∀ {ys xs : List α}, xs.Nodup → (∀ x ∈ xs, x ∈ ys) → xs.length ≤ ys.length
  | [], [], _, _ => Nat.le_refl _
  | [], x :: xs, _, h => absurd (h x List.mem_cons_self) (by simp)
  | y :: ys, xs, nd, h => by
    rw [List.length_cons]
    by_cases hn : y ∈ xs
    · have h1 := nodup_sub (ys := ys) (nd.erase y) fun x hx => by
        obtain ⟨a, b⟩ := (List.Nodup.mem_erase_iff nd).mp hx
        rcases List.mem_cons.mp (h x b) with z | z
        · exact absurd z a
        · exact z
      rw [List.length_erase_of_mem hn] at h1
      omega
    · have h1 := nodup_sub (ys := ys) nd fun x hx => by
        rcases List.mem_cons.mp (h x hx) with z | z
        · exact absurd (z ▸ hx) hn
        · exact z
      omega
def RepF (kvs : List (Int × PyData)) (f : Fn) : Prop := ∀ v : Nat, lkD kvs (v : Int) = (f v).map fr
theorem RepF.put {kvs : List (Int × PyData)} {f : Fn} (h : RepF kvs f) (v : Nat) (a : Int) : RepF (putD kvs (v : Int) (fr a)) (updF f v a) := fun u => by
  rw [lk_put]
  unfold updF
  by_cases e : u = v
  · rw [if_pos e, if_pos (by omega)]
    rfl
  · rw [if_neg e, if_neg (by omega)]
    exact h u
theorem RepF.at {kvs : List (Int × PyData)} {f : Fn} (h : RepF kvs f) {v : Nat} {a : Int} (e : f v = some a) : lkD kvs (v : Int) = some (fr a) := by
  rw [h v, e]
  rfl
theorem RepF.count {kvs : List (Int × PyData)} {f : Fn} (h : RepF kvs f) {met : List Nat} (nd : met.Nodup) (hm : ∀ x ∈ met, ∃ a, f x = some a) : met.length ≤ kvs.length := by
  have h1 : (met.map fun (x : Nat) => (x : Int)).Nodup := by
    rw [List.nodup_iff_pairwise_ne, List.pairwise_map]
    exact (List.nodup_iff_pairwise_ne.mp nd).imp fun z e => z (by omega)
  have h2 := nodup_sub (ys := kvs.map (·.1)) h1 fun x hx => by
    obtain ⟨y, hy, rfl⟩ := List.mem_map.mp hx
    obtain ⟨a, ha⟩ := hm y hy
    have := h.at ha
    unfold lkD at this
    cases q : kvs.find? fun p => decide (p.1 = (y : Int)) with
    | none =>
      rw [q] at this
      cases this
    | some p =>
      have h3 := List.find?_some q
      have h4 := List.mem_of_find?_eq_some q
      rw [← of_decide_eq_true h3]
      exact List.mem_map_of_mem h4
  rw [List.length_map, List.length_map] at h2
  exact h2
theorem zip_fst {α : Type} : ∀ (xs : List α) (k : Nat), (xs.zipIdx k).map (·.1) = xs
  | [], _ => rfl
  | x :: xs, k => by
    rw [List.zipIdx_cons, List.map_cons, zip_fst xs (k + 1)]
theorem go_no_room : ∀ ds Φ, CNoRoom ds Φ → R_no_room (endsD Φ) (startD ["sheet", "hard", "far", "by", "last", "i", "j", "_", "k", "gap", "way", "place"] ds) := by
  intro ds Φ h
  cases h with
  | mk s Φ ok F h =>
    have few := ok.few
    have hp := (plain_of_all (ds := s.hard.map ruD) (by rw [List.length_map]; omega) (fun d hd => by
      obtain ⟨r, _, rfl⟩ := List.mem_map.mp hd
      rfl)).1
    have hd : dep (.tuple (s.hard.map ruD)) ≤ 3 := by
      have h1 : PyData.depthAll (s.hard.map ruD) ≤ 2 := depth_all fun d hd => by
        obtain ⟨r, _, rfl⟩ := List.mem_map.mp hd
        exact Nat.le_refl 2
      show PyData.depthAll (s.hard.map ruD) + 1 ≤ 3
      omega
    have ht : tuD (.tuple (s.hard.map ruD)) = .tuple (s.hard.map ruD) := by
      show PyData.tuple (tuDs (s.hard.map ruD)) = _
      rw [tuDs_map, List.map_map]
      rfl
    refine CTupleOf.mk _ (.tuple (s.hard.map ruD)) _ hp (by omega) ht ?_
    refine for_inv ruD (fun rest S => ∃ (kvs : List (Int × PyData)) (f : Fn) (done : List Ru) (o5 o6 o7 : Option PyData), RepF kvs f ∧ (∀ v a, f v = some a → a = 0) ∧ done ++ rest = s.hard ∧ (∀ r ∈ done, f r.1 = some 0 ∧ f r.2.1 = some 0) ∧ kvs.length + 2 * rest.length ≤ 14 ∧
        S = ⟨[some (shD s), some (.tuple (s.hard.map ruD)), none, none, some .none, o5, o6, o7, none, none, none, none], [none, none, some (.dct kvs), some (.dct []), none, none, none, none, none, none, none, none]⟩)
      (fun r rest S hI nx' hn => ?_) (fun S hI => ?_) s.hard _ rfl ⟨[], fun _ => none, [], none, none, none, fun _ => rfl, (fun v a e => nomatch e), rfl, (fun r hr => nomatch hr), by show 0 + 2 * s.hard.length ≤ 14; omega, rfl⟩
    · obtain ⟨kvs, f, done, o5, o6, o7, hr, hz, hdone, hall, hlen, rfl⟩ := hI
      rw [List.length_cons] at hlen
      have l1 := (put_len (r.1 : Int) (fr 0) kvs).1
      have l2 := (put_len (r.2.1 : Int) (fr 0) (putD kvs (r.1 : Int) (fr 0))).1
      have keep : ∀ v, f v = some 0 → updF (updF f r.1 0) r.2.1 0 v = some 0 := fun v e => by
        unfold updF
        by_cases e1 : v = r.2.1
        · rw [if_pos e1]
        · rw [if_neg e1]
          by_cases e2 : v = r.1
          · rw [if_pos e2]
          · rw [if_neg e2]
            exact e
      refine ⟨rfl, Nat.le_of_ble_eq_true rfl, rfl, by omega, Nat.lt_of_le_of_lt l1 (by omega), hn _ ⟨putD (putD kvs (r.1 : Int) (fr 0)) (r.2.1 : Int) (fr 0), updF (updF f r.1 0) r.2.1 0, done ++ [r], some (nt r.1), some (nt r.2.1), some (fr r.2.2), (hr.put r.1 0).put r.2.1 0, fun v a e => ?_, by rw [List.append_assoc]; exact hdone, fun q hq => ?_, by omega, rfl⟩⟩
      · unfold updF at e
        by_cases e1 : v = r.2.1
        · rw [if_pos e1] at e
          cases e
          rfl
        · rw [if_neg e1] at e
          by_cases e2 : v = r.1
          · rw [if_pos e2] at e
            cases e
            rfl
          · rw [if_neg e2] at e
            exact hz v a e
      · rcases List.mem_append.mp hq with z | z
        · exact ⟨keep _ (hall q z).1, keep _ (hall q z).2⟩
        · rw [List.mem_singleton.mp z]
          refine ⟨?_, ?_⟩
          · unfold updF
            by_cases e1 : r.1 = r.2.1
            · rw [if_pos e1]
            · rw [if_neg e1, if_pos rfl]
          · unfold updF
            rw [if_pos rfl]
    · obtain ⟨kvs, f0, done, o5, o6, o7, hr, hz, hdone, hall0, hlen, rfl⟩ := hI
      rw [List.append_nil] at hdone
      subst hdone
      have hall : ∀ r ∈ s.hard, f0 r.1 = some 0 ∧ f0 r.2.1 = some 0 := hall0
      have hl14 : kvs.length ≤ 14 := by
        have : kvs.length + 2 * 0 ≤ 14 := hlen
        omega
      have D : ∀ t, kvs.length ≤ t + 1 → Done s.hard (fun v => f0 v = some 0) (roundsF s.hard t f0) := fun t ht => by
        refine rounds_done F (fun v a e => ⟨hz v a e, ?_⟩) (fun v e => e) fun i met v w hi hs => Nat.le_trans (hr.count hs.nodup fun x hx => ?_) ht
        · rw [e, hz v a e]
        · rcases hs.sub x hx with e | ⟨r, hr2, e⟩
          · exact ⟨0, by rw [e]; exact hi⟩
          · exact ⟨0, by rw [← e]; exact (hall r hr2).2⟩
      refine ⟨by omega, by omega, ?_⟩
      refine for_inv nt (fun rest S => ∃ (t : Nat) (kvs2 bys : List (Int × PyData)) (lastd : PyData) (o5 o6 o7 o8 o9 : Option PyData), t + rest.length = kvs.length ∧ RepF kvs2 (roundsF s.hard t f0) ∧ kvs2.length = kvs.length ∧ bys.length ≤ 7 * t ∧ (rest = [] → lastd = .none) ∧
          S = ⟨[some (shD s), some (.tuple (s.hard.map ruD)), none, none, some lastd, o5, o6, o7, o8, o9, none, none], [none, none, some (.dct kvs2), some (.dct bys), none, none, none, none, none, none, none, none]⟩)
        (fun x rest S hI nx' hn => ?_) (fun S hI => ?_) (List.range kvs.length) _ rfl ⟨0, kvs, [], .none, _, _, _, _, _, by rw [List.length_range]; omega, hr, rfl, Nat.zero_le _, fun _ => rfl, rfl⟩
      · obtain ⟨t, kvs2, bys, lastd, o5, o6, o7, o8, o9, htr, hr2, hl2, hby, hlast, rfl⟩ := hI
        rw [List.length_cons] at htr
        refine for_inv (fun q : Ru × Nat => .tuple [nt q.2, ruD q.1]) (fun rest2 S => ∃ (kvs3 bys3 : List (Int × PyData)) (f3 : Fn) (lastd : PyData) (o5 o6 o7 o8 o9 : Option PyData), RepF kvs3 f3 ∧ (rest2.map (·.1)).foldl relaxF f3 = s.hard.foldl relaxF (roundsF s.hard t f0) ∧
            kvs3.length = kvs.length ∧ bys3.length + rest2.length ≤ 7 * t + 7 ∧ LeF f0 f3 ∧ (∀ q ∈ rest2, q.1 ∈ s.hard) ∧ (rest = [] → f3 = roundsF s.hard t f0 ∧ lastd = .none) ∧
            S = ⟨[some (shD s), some (.tuple (s.hard.map ruD)), none, none, some lastd, o5, o6, o7, o8, o9, none, none], [none, none, some (.dct kvs3), some (.dct bys3), none, none, none, none, none, none, none, none]⟩)
          (fun q rest2 S hI nx2 hn2 => ?_) (fun S hI => ?_) s.hard.zipIdx _ (enum_map ruD s.hard 0) ⟨kvs2, bys, roundsF s.hard t f0, .none, _, _, _, _, _, hr2, by rw [zip_fst], hl2, by rw [List.length_zipIdx]; omega, roundsF_le _ _ _, fun q hq => by
            have := (List.mem_zipIdx hq).2.2
            rw [this]
            exact List.getElem_mem _, fun _ => ⟨rfl, rfl⟩, rfl⟩
        · obtain ⟨kvs3, bys3, f3, lastd, o5, o6, o7, o8, o9, hr3, hfold, hl3, hby3, hle, hmem, hfin, rfl⟩ := hI
          obtain ⟨r, k⟩ := q
          have hrh : r ∈ s.hard := hmem (r, k) List.mem_cons_self
          have hmem2 : ∀ q ∈ rest2, q.1 ∈ s.hard := fun q hq => hmem q (List.mem_cons_of_mem _ hq)
          rw [List.length_cons] at hby3
          rw [List.map_cons, List.foldl_cons] at hfold
          obtain ⟨a, _, ha⟩ := hle _ _ (hall r hrh).1
          obtain ⟨b, _, hb⟩ := hle _ _ (hall r hrh).2
          refine ⟨rfl, rfl, onO_some (hr3.at ha) (CPlus.mk _ _ _ (onO_some (hr3.at hb) (COrder.mk _ _ _ (iteS (fun z => ?_) fun z => ?_))))⟩
          · rw [sgn_pos] at z
            have z' : 0 < a + r.2.2 - b := of_decide_eq_true z
            have er : relaxF f3 r = updF f3 r.2.1 (a + r.2.2) := by
              unfold relaxF
              rw [ha]
              simp only
              rw [hb]
              simp only
              rw [if_pos (by omega)]
            have hfold' : (rest2.map (·.1)).foldl relaxF (updF f3 r.2.1 (a + r.2.2)) = s.hard.foldl relaxF (roundsF s.hard t f0) := by
              rw [← er]
              exact hfold
            have lk : lkD kvs3 (r.2.1 : Int) ≠ none := by
              rw [hr3.at hb]
              exact fun z => nomatch z
            have l3 := (put_len (r.2.1 : Int) (fr (a + r.2.2)) kvs3).2 lk
            have l4 := (put_len (r.2.1 : Int) (nt k) bys3).1
            have htV : 7 * t + 7 ≤ 105 := by omega
            refine onO_some (hr3.at ha) (CPlus.mk _ _ _ ⟨Nat.le_of_ble_eq_true rfl, rfl, by omega, by omega, hn2 _ ⟨putD kvs3 (r.2.1 : Int) (fr (a + r.2.2)), putD bys3 (r.2.1 : Int) (nt k), updF f3 r.2.1 (a + r.2.2), nt r.2.1, some (nt r.1), some (nt r.2.1), o7, some (nt k), some (fr r.2.2), hr3.put _ _, hfold', by omega, by omega, ?_, hmem2, fun hrest => ?_, rfl⟩⟩)
            · rw [← er]
              exact hle.trans (relaxF_le f3 r)
            · obtain ⟨e3, _⟩ := hfin hrest
              subst hrest
              have hv : kvs.length ≤ t + 1 := by
                rw [← htr]
                exact Nat.le_refl _
              rw [e3] at ha hb
              obtain ⟨c, hc, ec⟩ := (D t hv).stable hrh ha
              rw [hb] at ec
              cases ec
              omega
          · rw [sgn_pos] at z
            have z' : ¬ 0 < a + r.2.2 - b := of_decide_eq_false z
            have er : relaxF f3 r = f3 := by
              unfold relaxF
              rw [ha]
              simp only
              rw [hb]
              simp only
              rw [if_neg (by omega)]
            rw [er] at hfold
            exact hn2 _ ⟨kvs3, bys3, f3, lastd, _, _, _, _, _, hr3, hfold, hl3, by omega, hle, hmem2, hfin, rfl⟩
        · obtain ⟨kvs3, bys3, f3, lastd, o5, o6, o7, o8, o9, hr3, hfold, hl3, hby3, hle, _, hfin, rfl⟩ := hI
          have e3 : f3 = roundsF s.hard (t + 1) f0 := by
            unfold roundsF
            rw [iter_succ]
            exact hfold
          subst e3
          have hby4 : bys3.length + 0 ≤ 7 * t + 7 := hby3
          exact hn _ ⟨t + 1, kvs3, bys3, lastd, _, _, _, _, _, by omega, hr3, hl3, by omega, fun e => (hfin e).2, rfl⟩
      · obtain ⟨t, kvs2, bys, lastd, o5, o6, o7, o8, o9, _, _, _, _, hlast, rfl⟩ := hI
        have e := hlast rfl
        subst e
        exact h
end Dw
set_option maxRecDepth 100000
set_option maxHeartbeats 4000000
/-! Bypass and slip, where they answer. -/
namespace Dw
open PySem PySem.Spec PyProof.Rows L2
def R_bypass : DS := (dSeq (dAsg (dCall CSureHard (dCons (dVar 0) (dCons (dVar 1) dNil))) (dgN 2))
    (dSeq (dIfS (dNot (dTst (dCall CIsIdle (dCons (dVar 2) (dCons (dVar 1) dNil)))))
    dNever dNext)
    (dSeq (dAsg (dOp oIx (dOp oIx (dVar 2) (dC (.int 1))) (dVar 1)) (dgTup 3 (dgCons (dgN 3) (dgCons (dgN 4) (dgCons (dgN 5) dgNil)))))
    (dSeq (dPar 6 7 (dNew (dLst (dCons (dTup (dCons (dTup dNil) (dCons (dTup (dCons (dVar 3) dNil)) dNil))) dNil))) (dNew (dLst dNil)))
    (dSeq (dWhile (dTst (dOp oEq (dCB cLen (dCons (dVar 7) dNil)) (dC (.int 0))))
    (dSeq (dAsg (dCall CLongerWays (dCons (dVar 2) (dCons (dVar 6) (dCons (dVar 1) dNil)))) (dgN 6))
    (dAsg (dNew (dLc (dItS (dVar 6)) (dgTup 2 (dgCons (dgN 8) (dgCons (dgN 9) dgNil))) (dAnd (dTst (dOp oEq (dOp oIx (dVar 9) (dUn oNeg (dC (.int 1)))) (dVar 4))) (dTst (dOp oGe (dCall COrder (dCons (dCall CRingFar (dCons (dVar 2) (dCons (dVar 8) dNil))) (dCons (dVar 5) dNil))) (dC (.int 0))))) (dVar 8) [8, 9])) (dgN 7))))
    (dRet (dCB cMin (dCons (dVar 7) dNil))))))))
def R_slip : DS := (dSeq (dAsg (dCall CSureHard (dCons (dVar 0) (dCons (dVar 1) dNil))) (dgN 2))
    (dSeq (dIfS (dTst (dCall CIsIdle (dCons (dVar 2) (dCons (dVar 1) dNil))))
    dNever dNext)
    (dSeq (dAsg (dOp oIx (dOp oIx (dVar 2) (dC (.int 1))) (dVar 1)) (dgTup 3 (dgCons (dgN 3) (dgCons (dgN 4) (dgCons (dgN 5) dgNil)))))
    (dSeq (dAsg (dCall CWithout (dCons (dVar 2) (dCons (dTup (dCons (dC (.str "hard")) (dCons (dVar 1) dNil))) dNil))) (dgN 6))
    (dSeq (dAsg (dOp oIx (dCall CGapsFrom (dCons (dVar 6) (dCons (dVar 3) dNil))) (dVar 4)) (dgN 7))
    (dSeq (dAsg (dIf (dTst (dIsN (dVar 7))) (dCall CMinus (dCons (dVar 5) (dCons (dTup (dCons (dC (.int 1)) (dCons (dC (.int 1)) dNil))) dNil))) (dVar 7)) (dgN 8))
    (dRet (dCall CSomeLayout (dCons (dTup (dCons (dOp oIx (dVar 6) (dC (.int 0))) (dCons (dTup (dStar (dOp oIx (dVar 6) (dC (.int 1))) (dCons (dTup (dCons (dVar 4) (dCons (dVar 3) (dCons (dCall CMinus (dCons (dC (.tuple [.int 0, .int 1])) (dCons (dVar 8) dNil))) dNil)))) dNil))) (dCons (dTup dNil) dNil)))) dNil)))))))))
theorem goods_run {s : Sh} (k t : Nat) : (waysN s.hard k (s.at k).1 t).filterMap (fun w => if (decide (w.2.getLastD 0 = (s.at k).2.1) && decide ((s.at k).2.2 ≤ wsum s.hard w.1)) = true then some (rowT w.1) else none) = (goodsN s k t).map rowT := by
  rw [filter_map_if]
  unfold goodsN
  rw [List.map_map]
  rfl
theorem row_dep (ks : List Nat) : dep (rowT ks) ≤ 2 := by
  have := hms_dep ks
  show PyData.depthAll (ks.map hm) + 1 ≤ 2
  omega
theorem min_ready (g : List Nat) (gs : List (List Nat)) : PySem.W.AlikeAll (rowT g :: gs.map rowT) ∧ PyData.depthAll (rowT g :: gs.map rowT) ≤ 64 := by
  have mem : ∀ x ∈ rowT g :: gs.map rowT, ∃ ks, x = rowT ks := fun x hx => by
    rcases List.mem_cons.mp hx with e | e
    · exact ⟨g, e⟩
    · obtain ⟨ks, _, rfl⟩ := List.mem_map.mp e
      exact ⟨ks, rfl⟩
  refine ⟨⟨fun x hx y hy => ?_, fun x hx => ?_⟩, ?_⟩
  · obtain ⟨a, rfl⟩ := mem x hx
    obtain ⟨b, rfl⟩ := mem y hy
    exact alike_row a b
  · obtain ⟨a, rfl⟩ := mem x hx
    exact fun z => nomatch z
  · exact depth_all fun x hx => by
      obtain ⟨a, rfl⟩ := mem x hx
      have := row_dep a
      omega
theorem go_bypass : ∀ ds Φ, CBypass ds Φ → R_bypass (endsD Φ) (startD ["sheet", "k", "own", "i", "j", "far", "ways", "goods", "way", "met"] ds) := by
  intro ds Φ h
  cases h with
  | mk s d k Φ ok f p dp e l y h =>
    obtain ⟨r1, r2⟩ := ok.rin _ (at_mem l)
    have n5 := ok.n5
    obtain ⟨T, hT, hTg⟩ := good_of_idle ok f l y
    refine CSureHard.mk s d k _ ok f p dp e l (CIsIdle.mk s k _ ok l (iteN ?_ (onO_some (sh_atD l) ⟨rfl, ?_⟩)))
    · rw [y]
      rfl
    refine ⟨Nat.le_of_ble_eq_true rfl, Nat.le_of_ble_eq_true rfl, Nat.le_of_ble_eq_true rfl, Nat.le_of_ble_eq_true rfl, Nat.le_of_ble_eq_true rfl, ?_⟩
    refine ⟨fun m S => ∃ (t : Nat) (o8 o9 : Option PyData), m = T - t ∧ t ≤ T ∧ (∀ u, u < t → goodsN s k u = []) ∧
      S = ⟨[some d, some (nt k), some (shD s), some (nt (s.at k).1), some (nt (s.at k).2.1), some (fr (s.at k).2.2), some (.list ((waysN s.hard k (s.at k).1 t).map wyD)), some (.list ((goodsN s k t).map rowT)), o8, o9], [none, none, none, none, none, none, none, none, none, none]⟩,
      ⟨T, 0, none, none, rfl, Nat.zero_le _, fun u hu => absurd hu (Nat.not_lt_zero _), ?_⟩, fun m S hW => ?_⟩
    · rw [goods_zero ok l]
      rfl
    obtain ⟨t, o8, o9, rfl, htT, hbef, rfl⟩ := hW
    refine ⟨rfl, rfl, ?_⟩
    show if PyData.eqv (.int (((goodsN s k t).map rowT).length : Int)) (.int 0) = true then _ else _
    rw [List.length_map, eqv_int]
    cases eg : goodsN s k t with
    | nil =>
      have ht : t < T := by
        rcases Nat.lt_or_ge t T with z | z
        · exact z
        · have : t = T := by omega
          subst this
          exact absurd eg hTg
      have W := waysN_ok ok (k := k) r1 t
      have W1 := waysN_ok ok (k := k) r1 (t + 1)
      have b1 : (waysN s.hard k (s.at k).1 (t + 1)).length ≤ 7 ^ 5 := Nat.le_trans (waysN_len ok k _ (t + 1)) (Nat.pow_le_pow_right (by decide) (by omega))
      have b3 : 7 ^ 5 < 100000 := by decide
      refine CLongerWays.mk s (waysN s.hard k (s.at k).1 t) k _ ok (Nat.lt_of_le_of_lt b1 b3) (fun w hw => ?_) ⟨?_, rfl, ?_⟩
      · have V := W w hw
        have l1 := V.l1
        have l2 := V.l2
        refine ⟨by omega, by omega, fun z => ?_⟩
        rw [z] at l2
        cases l2
      · rw [List.length_map]
        exact Nat.lt_of_le_of_lt b1 b3
      · refine lc_run wyD (fun w => if (decide (w.2.getLastD 0 = (s.at k).2.1) && decide ((s.at k).2.2 ≤ wsum s.hard w.1)) = true then some (rowT w.1) else none) (waysN s.hard k (s.at k).1 (t + 1)) [] rfl (fun w hw K K0 h1 h2 => ?_) ?_
        · have V := W1 w hw
          have hne : w.2 ≠ [] := fun z => by
            have := V.l2
            rw [z] at this
            cases this
          refine ⟨rfl, onO_some (last_at hne) ⟨rfl, rfl, ?_⟩⟩
          show if PyData.eqv (.int ((w.2.getLastD 0 : Nat) : Int)) (.int ((s.at k).2.1 : Int)) = true then _ else _
          rw [eqv_nt]
          by_cases c : w.2.getLastD 0 = (s.at k).2.1
          · rw [decide_eq_true c]
            rw [decide_eq_true c, Bool.true_and] at h1 h2
            refine CRingFar.mk s w.1 _ V.ks (COrder.mk _ _ _ ?_)
            show if decide (0 ≤ sgnI (wsum s.hard w.1 - (s.at k).2.2)) = true then _ else _
            rw [sgn_ge, decide_eq_decide.mpr (show 0 ≤ wsum s.hard w.1 - (s.at k).2.2 ↔ (s.at k).2.2 ≤ wsum s.hard w.1 by omega)]
            refine iteS (fun z => ⟨rfl, h1 _ (if_pos z)⟩) fun z => ⟨rfl, h2 (if_neg (by rw [z]; exact Bool.false_ne_true))⟩
          · rw [decide_eq_false c]
            rw [decide_eq_false c, Bool.false_and] at h1 h2
            exact ⟨rfl, h2 (if_neg Bool.false_ne_true)⟩
        · rw [List.nil_append, goods_run]
          refine ⟨T - (t + 1), by omega, t + 1, _, _, rfl, by omega, fun u hu => ?_, rfl⟩
          rcases Nat.lt_or_ge u t with z | z
          · exact hbef u z
          · have : u = t := by omega
            rw [this]
            exact eg
    | cons g gs =>
      refine iteN (decide_eq_false ?_) ?_
      · show ¬ (((g :: gs).length : Nat) : Int) = 0
        rw [List.length_cons]
        omega
      · obtain ⟨q1, q2⟩ := min_ready g gs
        refine ⟨q1, q2, ?_⟩
        rw [minL_row]
        exact h (minL g gs) ⟨t, g, gs, hbef, eg, (minL_row gs g).symm⟩
theorem go_slip : ∀ ds Φ, CSlip ds Φ → R_slip (endsD Φ) (startD ["sheet", "k", "own", "i", "j", "far", "left", "gap", "most"] ds) := by
  intro ds Φ h
  cases h with
  | mk s d k Φ ok f p dp e l y h =>
    obtain ⟨r1, r2⟩ := ok.rin _ (at_mem l)
    have n2 := ok.n2
    have few := (ok.drop k).few
    have len : (s.at k).2.1 < (gaps (s.drop k) (s.at k).1).length := by
      rw [gaps_len]
      exact r2
    have fin : ∀ x : Int, slipC s k = 0 - x → ((s.drop k).hard.map ruD).length + 1 ≤ 100000 ∧ CSomeLayout [.tuple [.int (s.n : Nat), .tuple ((s.drop k).hard.map ruD ++ [.tuple [.int ((s.at k).2.1 : Nat), .int ((s.at k).1 : Nat), fr (0 - x)]]), .tuple []]] Φ := fun x hx => by
      refine ⟨by rw [List.length_map]; omega, ?_⟩
      have e1 : PyData.tuple [.int (s.n : Nat), .tuple ((s.drop k).hard.map ruD ++ [.tuple [.int ((s.at k).2.1 : Nat), .int ((s.at k).1 : Nat), fr (0 - x)]]), .tuple []] = shD (slipSh s k) := by
        rw [← hx]
        show _ = PyData.tuple [.int (s.n : Nat), .tuple (((s.drop k).hard ++ [((s.at k).2.1, (s.at k).1, slipC s k)]).map ruD), .tuple []]
        rw [List.map_append]
        rfl
      rw [e1]
      exact CSomeLayout.mk (slipSh s k) _ (by show 1 ≤ s.n; omega) ok.n5 (by rw [slip_hard, List.length_append]; show (s.drop k).hard.length + 1 ≤ 8; omega) (slip_rin ok l) h
    refine CSureHard.mk s d k _ ok f p dp e l (CIsIdle.mk s k _ ok l (iteN y (onO_some (sh_atD l) ⟨rfl, ?_⟩)))
    refine ⟨Nat.le_of_ble_eq_true rfl, CWithout.mk s k _ ok (CGapsFrom.mk (s.drop k) (s.at k).1 _ (ok.drop k) r1 ?_)⟩
    cases eg : (gaps (s.drop k) (s.at k).1).getD (s.at k).2.1 none with
    | none =>
      have hx : slipC s k = 0 - ((s.at k).2.2 - 2) := by
        unfold slipC
        rw [eg]
      obtain ⟨q1, q2⟩ := fin _ hx
      exact onO_some (opt_at len eg) ⟨Nat.le_of_ble_eq_true rfl, CMinus.mk (s.at k).2.2 2 _ (CMinus.mk 0 _ _ ⟨Nat.le_of_ble_eq_true rfl, by rw [List.length_append]; exact q1, Nat.le_of_ble_eq_true rfl, Nat.le_of_ble_eq_true rfl, q2⟩)⟩
    | some g =>
      have hx : slipC s k = 0 - g := by
        unfold slipC
        rw [eg]
      obtain ⟨q1, q2⟩ := fin _ hx
      exact onO_some (opt_at len eg) (CMinus.mk 0 g _ ⟨Nat.le_of_ble_eq_true rfl, by rw [List.length_append]; exact q1, Nat.le_of_ble_eq_true rfl, Nat.le_of_ble_eq_true rfl, q2⟩)
end Dw
set_option maxRecDepth 100000
set_option maxHeartbeats 4000000
/-! What is given by hand. -/
namespace Dw
open PySem PySem.Spec PyProof.Rows L2
theorem hand_ok : Ok handSh where
  n2 := by decide
  n5 := by decide
  few := by decide
  rin := by decide
  ne := by decide
  fewE := by decide
  tuE := fun e he => by
    rcases List.mem_cons.mp he with e | he
    · subst e
      rfl
    · rw [List.mem_singleton.mp he]
      rfl
  depE := fun e he => by
    rcases List.mem_cons.mp he with e | he
    · subst e
      exact Nat.le_of_ble_eq_true rfl
    · rw [List.mem_singleton.mp he]
      exact Nat.le_of_ble_eq_true rfl
  plE := fun e he => by
    rcases List.mem_cons.mp he with e | he
    · subst e
      rfl
    · rw [List.mem_singleton.mp he]
      rfl
theorem hand_feas : Feas handSh.hard := ⟨fun v => if v = 0 then 0 else if v = 1 then 4 else 8, by decide⟩
theorem hand_d : plainD (shD handSh) = true ∧ dep (shD handSh) ≤ 15 ∧ tuD (shD handSh) = shD handSh := ⟨sh_plain hand_ok, Nat.le_trans (sh_dep hand_ok) (by decide), sh_tu hand_ok⟩
theorem hand_i2 : idle handSh 2 = true := by decide +kernel
theorem hand_i0 : idle handSh 0 = false := by decide +kernel
theorem hand_least {ks : List Nat} (h : LeastBy handSh 2 ks) : ks = [0, 1] := by
  obtain ⟨t, g, gs, h1, h2, h3⟩ := h
  have g0 : goodsN handSh 2 0 = [] := by decide +kernel
  have g1 : goodsN handSh 2 1 = [] := by decide +kernel
  have g2 : goodsN handSh 2 2 = [[0, 1]] := by decide +kernel
  match t, h1, h2 with
  | 0, _, h2 =>
    rw [g0] at h2
    cases h2
  | 1, _, h2 =>
    rw [g1] at h2
    cases h2
  | 2, _, h2 =>
    rw [g2] at h2
    cases h2
    have e : rowT ks = rowT [0, 1] := h3
    have e2 := eqv_row ks [0, 1]
    rw [e, eqv_row, decide_eq_true rfl] at e2
    exact of_decide_eq_true e2.symm
  | t + 3, h1, _ =>
    have := h1 2 (by omega)
    rw [g2] at this
    cases this
section
variable {Φ : PyData → Prop}
theorem hand1 (h : Φ (.tuple [.int 2])) : CIdleHard [shD handSh] Φ := by
  obtain ⟨a, b, c⟩ := hand_d
  refine CIdleHard.mk handSh _ _ hand_ok hand_feas a b c ?_
  have e : ((List.range handSh.hard.length).filter fun k => idle handSh k) = [2] := by decide +kernel
  rw [e]
  exact h
theorem hand2 (h : Φ (.tuple [.tuple [.str "hard", .int 0], .tuple [.str "hard", .int 1]])) : CLawHeard [.int 0, shD handSh, .int 2] Φ := by
  obtain ⟨a, b, c⟩ := hand_d
  refine CLawHeard.by1 handSh _ 2 _ hand_ok hand_feas a b c (by decide) fun r hr => ?_
  rw [if_pos hand_i2] at hr
  obtain ⟨ks, hk, rfl⟩ := hr
  rw [hand_least hk]
  exact h
theorem hand3 (h : Φ canNotD) : CLawHeard [.int 0, shD handSh, .int 0] Φ := by
  obtain ⟨a, b, c⟩ := hand_d
  refine CLawHeard.by1 handSh _ 0 _ hand_ok hand_feas a b c (by decide) fun r hr => ?_
  rw [if_neg (by rw [hand_i0]; exact Bool.false_ne_true)] at hr
  rw [hr]
  exact h
theorem hand4 (h : Φ canNotD) : CLawHeard [.int 1, shD handSh, .int 2] Φ := by
  obtain ⟨a, b, c⟩ := hand_d
  refine CLawHeard.sl handSh _ 2 _ hand_ok hand_feas a b c (by decide) ?_
  rw [if_pos hand_i2]
  exact h
theorem hand5 (h : Φ (.bool true)) : CIsSlip [shD handSh, .int 0, .tuple [.tuple [.int 0, .int 1], .tuple [.int 1, .int 1], .tuple [.int 4, .int 1]]] Φ := by
  obtain ⟨a, b, c⟩ := hand_d
  have z := CIsSlip.mk (Φ := Φ) handSh _ 0 (.tup [0, 2, 8]) hand_ok hand_feas a b c (by decide) (by
    rw [show (isLaid (handSh.drop 0) (.tup [0, 2, 8]) && !isLaid handSh (.tup [0, 2, 8])) = true by decide +kernel]
    exact h)
  exact z
theorem hand6 (h : Φ (.bool false)) : CIsBypass [shD handSh, .int 2, .tuple [.tuple [.str "hard", .int 0]]] Φ := by
  obtain ⟨a, b, c⟩ := hand_d
  have z := CIsBypass.mk (Φ := Φ) handSh _ 2 (.tup [0]) hand_ok hand_feas a b c (by decide) (fun ks e => by
    cases e
    exact ⟨by decide, by decide⟩) (by
    rw [show isByW handSh 2 (.tup [0]) = false by decide +kernel]
    exact h)
  exact z
theorem hand7 (h : Φ (.bool false)) : CIsSlip [shD handSh, .int 0, .tuple [.tuple [.int 0, .int 1], .tuple [.int 2, .int 1], .tuple [.int 4, .int 1]]] Φ := by
  obtain ⟨a, b, c⟩ := hand_d
  have z := CIsSlip.mk (Φ := Φ) handSh _ 0 (.tup [0, 4, 8]) hand_ok hand_feas a b c (by decide) (by
    rw [show (isLaid (handSh.drop 0) (.tup [0, 4, 8]) && !isLaid handSh (.tup [0, 4, 8])) = false by decide +kernel]
    exact h)
  exact z
end
abbrev le0 {n m : Nat} (h : Nat.ble n m = true) : n ≤ m := Nat.le_of_ble_eq_true h
theorem go_law_by_hand_right : ∀ ds Φ, CLawByHandRight ds Φ → R_law_by_hand_right (endsD Φ) (startD ["_law_boxes_here", "_law_good", "_law_heard_here", "_law_due"] ds) := by
  intro ds Φ h
  cases h with
  | mk Φ h =>
    refine CLawBoxes.mk _ ⟨le0 rfl, le0 rfl, le0 rfl, le0 rfl, ?_⟩
    refine hand1 (hand2 (hand3 (hand4 (hand5 ⟨le0 rfl, ?_⟩))))
    refine ⟨le0 rfl, le0 rfl, le0 rfl, le0 rfl, le0 rfl, le0 rfl, le0 rfl, ?_⟩
    refine ⟨le0 rfl, le0 rfl, hand6 ⟨le0 rfl, le0 rfl, le0 rfl, le0 rfl, hand7 ⟨le0 rfl, le0 rfl, ?_⟩⟩⟩
    refine ⟨le0 rfl, le0 rfl, CLawSame.mk _ _ (by decide +kernel) (le0 rfl) h⟩
end Dw
set_option maxRecDepth 100000
set_option maxHeartbeats 4000000
/-! The defs that call themselves: printed in part by gen.py. -/
namespace Dw
open PySem PySem.Spec PyProof.Rows L2
section
variable {P : Program} {w : World} {K : Fg} {mg : Str → Option Value} {base : Heap}
theorem ok_none {x : Str} {st : Stmt} {ps : List Str} {ρ : Ct} (h : ∃ f fd, FnP K x st f fd ∧ mg x = some (.ref f))
    (hb : ∀ (kV doc pm : Value) (an : Option Addr) (cdv ct : Value) (us : List Value), us.length = ps.length → bindArgs (PySem.W.fnOf x x (defArgs st) (defBody st) (defScope st) .none kV doc pm an cdv ct) ⟨us, []⟩ = pure (ps.zip us))
    (no : ∀ ds Φ, ¬ ρ ds Φ) : OkD P w K mg base CX0 0 x ps (spD K ρ) := by
  obtain ⟨f, fd, F, g⟩ := h
  exact ⟨f, fd, g, F.kp, F.bindsN hb, ⟨fun vs H Q E h => by
    obtain ⟨H0, ds, Φ, _, _, r, _⟩ := h
    exact (no ds Φ r).elim, fun A outer s H args us vs Q E _ _ _ _ h => by
    obtain ⟨H0, ds, Φ, _, _, r, _⟩ := h
    exact (no ds Φ r).elim⟩⟩
theorem ok_tuple_of_k (T : Mg K mg) : ∀ k, OkD P w K mg base CX0 k "tuple_of" ["thing"] (spD K (CTupleOf k))
  | 0 => ok_none (T.fn (8, ("tuple_of" : Str)) (by decide)) (fun _ _ _ _ _ _ us hl => match us, hl with | [_], _ => rfl) (fun ds Φ h => by cases h <;> omega)
  | k + 1 => by
    have IH : OkD P w K mg base CX0 k "tuple_of" ["thing"] (spD K (CTupleOf k)) := ok_tuple_of_k T k
    exact ok_of (T.fn (8, ("tuple_of" : Str)) (by decide)) sc8 (by decide) (fun _ _ _ _ _ _ us hl => match us, hl with | [_], _ => rfl) (fun _ _ h => by cases h <;> rfl) fun cdv A outer s H E hr => ⟨_, R_tuple_of k,
    (b_cons (s_if (pt_va (pd_isi2 (A := "list") (B := "tuple") T.toMc (pd_var 0)))
      (b_one (s_ret (pd_tuple T.toMc (pa_co (pd_new (pn_lc (own := [("part", 1)]) sc8.nd (px_seq (pd_var 0)) (blkOk_by (own := [("part", 1)]) (N := n8) (sc := defScope (topS 8)) (by decide +kernel)) (fun _ _ _ _ _ => (gx_name (i := 1) sc8.nd)) (fun _ _ _ _ _ => pt_nil) (fun _ _ _ _ _ => (pd_call IH hr (pa_co (pd_var 1) pa_no))))) pa_no)))) b_nil)
      (b_one (s_ret (pd_var 0)))), go_tuple_of k⟩
theorem ok_tuple_of (T : Mg K mg) : OkD P w K mg base CX0 20 "tuple_of" ["thing"] (spD K (CTupleOf 20)) := ok_tuple_of_k T 20
theorem ok_law_lists_k (T : Mg K mg) : ∀ k, OkD P w K mg base CX0 k "_law_lists" ["_law_matter"] (spD K (CLawLists k))
  | 0 => ok_none (T.fn (50, ("_law_lists" : Str)) (by decide)) (fun _ _ _ _ _ _ us hl => match us, hl with | [_], _ => rfl) (fun ds Φ h => by cases h <;> omega)
  | k + 1 => by
    have IH : OkD P w K mg base CX0 k "_law_lists" ["_law_matter"] (spD K (CLawLists k)) := ok_law_lists_k T k
    exact ok_of (T.fn (50, ("_law_lists" : Str)) (by decide)) sc50 (by decide) (fun _ _ _ _ _ _ us hl => match us, hl with | [_], _ => rfl) (fun _ _ h => by cases h <;> rfl) fun cdv A outer s H E hr => ⟨_, R_law_lists k,
    (b_one (s_ret (pd_if (pt_va (pd_isi2 (A := "list") (B := "tuple") T.toMc (pd_var 0))) (pd_new (pn_lc (own := [("_law_own", 1)]) sc50.nd (px_seq (pd_var 0)) (blkOk_by (own := [("_law_own", 1)]) (N := n50) (sc := defScope (topS 50)) (by decide +kernel)) (fun _ _ _ _ _ => (gx_name (i := 1) sc50.nd)) (fun _ _ _ _ _ => pt_nil) (fun _ _ _ _ _ => (pd_call IH hr (pa_co (pd_var 1) pa_no))))) (pd_var 0)))), go_law_lists k⟩
theorem ok_law_lists (T : Mg K mg) : OkD P w K mg base CX0 20 "_law_lists" ["_law_matter"] (spD K (CLawLists 20)) := ok_law_lists_k T 20
theorem ok_law_same_k (T : Mg K mg) : ∀ k, k ≤ 60 → OkD P w K mg base CX0 k "_law_same" ["_law_got", "_law_goal"] (spD K (CLawSame k))
  | 0, _ => ok_none (T.fn (49, ("_law_same" : Str)) (by decide)) (fun _ _ _ _ _ _ us hl => match us, hl with | [_, _], _ => rfl) (fun ds Φ h => by cases h <;> omega)
  | k + 1, hk => by
    have IH : OkD P w K mg base CX0 k "_law_same" ["_law_got", "_law_goal"] (spD K (CLawSame k)) := ok_law_same_k T k (by omega)
    exact ok_of (T.fn (49, ("_law_same" : Str)) (by decide)) sc49 (by decide) (fun _ _ _ _ _ _ us hl => match us, hl with | [_, _], _ => rfl) (fun _ _ h => by cases h <;> rfl) fun cdv A outer s H E hr => ⟨_, R_law_same k,
    (b_cons (s_if (pt_va (pd_isi2 (A := "list") (B := "tuple") T.toMc (pd_var 1)))
      (b_cons (s_if (pt_w (pw_or' (pt_ne hr (pd_isi (A := "list") T.toMc (pd_var 0)) (pd_isi (A := "list") T.toMc (pd_var 1))) (pw_o1 (pt_ne hr (pd_isi (A := "tuple") T.toMc (pd_var 0)) (pd_isi (A := "tuple") T.toMc (pd_var 1))))))
      (b_one (s_ret pd_bl)) b_nil)
      (b_one (s_ret (pd_and (pd_eq hr (pd_len T.toMc (pa_co (pd_var 0) pa_no)) (pd_len T.toMc (pa_co (pd_var 1) pa_no))) (pd_one (pd_all T.toMc (pa_co (pd_new (pn_lc (own := [("_law_mine_so", 2), ("_law_own", 3)]) sc49.nd (px_zip T.toMc (pa_co (pd_var 0) (pa_co (pd_var 1) pa_no))) (blkOk_by (own := [("_law_mine_so", 2), ("_law_own", 3)]) (N := n49) (sc := defScope (topS 49)) (by decide +kernel)) (fun _ _ _ _ _ => (gx_tup (gx_cons (gx_name (i := 2) sc49.nd) (gx_cons (gx_name (i := 3) sc49.nd) gx_nil)))) (fun _ _ _ _ _ => pt_nil) (fun _ _ _ _ _ => (pd_call IH hr (pa_co (pd_var 2) (pa_co (pd_var 3) pa_no)))))) pa_no))))))) b_nil)
      (b_cons (s_if (pt_w (pw_or' (pt_isN (pd_var 1)) (pw_o1 (pt_va (pd_isi2 (A := "bool") (B := "str") T.toMc (pd_var 1))))))
      (b_one (s_ret (pd_and (pd_eq hr (pd_var 0) (pd_var 1)) (pd_and (pd_eq hr (pd_isi (A := "bool") T.toMc (pd_var 0)) (pd_isi (A := "bool") T.toMc (pd_var 1))) (pd_one (pd_eq hr (pd_isN (pd_var 0)) (pd_isN (pd_var 1)))))))) b_nil)
      (b_one (s_ret (pd_and (pd_isi (A := "int") T.toMc (pd_var 0)) (pd_and (pd_not (pd_isi (A := "bool") T.toMc (pd_var 0))) (pd_one (pd_eq hr (pd_var 0) (pd_var 1))))))))), fun ds Φ h => go_law_same k ds Φ h (by omega)⟩
theorem ok_law_same (T : Mg K mg) : OkD P w K mg base CX0 20 "_law_same" ["_law_got", "_law_goal"] (spD K (CLawSame 20)) := ok_law_same_k T 20 (by decide)
end
end Dw
set_option maxRecDepth 100000
set_option maxHeartbeats 4000000
/-! The defs keep their contracts: printed by gen.py. -/
namespace Dw
open PySem PySem.Spec PyProof.Rows L2
section
variable {P : Program} {w : World} {K : Fg} {mg : Str → Option Value} {base : Heap}
theorem ok_is_number (T : Mg K mg) : OkD P w K mg base CX0 1 "is_number" ["thing"] (spD K CIsNumber) :=
  ok_of (T.fn (7, "is_number") (by decide)) sc7 (by decide) (fun _ _ _ _ _ _ us hl => match us, hl with | [_], _ => rfl) (fun _ _ h => by cases h <;> rfl) fun cdv A outer s H E hr => ⟨_, R_is_number,
    (b_one (s_ret (pd_and (pd_isi (A := "int") T.toMc (pd_var 0)) (pd_one (pd_not (pd_isi (A := "bool") T.toMc (pd_var 0))))))), go_is_number⟩
theorem ok_is_tuple_of (T : Mg K mg) : OkD P w K mg base CX0 1 "is_tuple_of" ["thing", "many"] (spD K CIsTupleOf) :=
  ok_of (T.fn (9, "is_tuple_of") (by decide)) sc9 (by decide) (fun _ _ _ _ _ _ us hl => match us, hl with | [_, _], _ => rfl) (fun _ _ h => by cases h <;> rfl) fun cdv A outer s H E hr => ⟨_, R_is_tuple_of,
    (b_one (s_ret (pd_and (pd_isi (A := "tuple") T.toMc (pd_var 0)) (pd_one (pd_eq hr (pd_len T.toMc (pa_co (pd_var 0) pa_no)) (pd_var 1)))))), go_is_tuple_of⟩
theorem ok_fraction (T : Mg K mg) : OkD P w K mg base CX0 1 "fraction" ["top", "bottom"] (spD K CFraction) :=
  ok_of (T.fn (13, "fraction") (by decide)) sc13 (by decide) (fun _ _ _ _ _ _ us hl => match us, hl with | [_, _], _ => rfl) (fun _ _ h => by cases h <;> rfl) fun cdv A outer s H E hr => ⟨_, R_fraction,
    (b_cons (s_if (pt_eq hr (pd_var 1) pd_int)
      (b_one s_never) b_nil)
      (b_cons (s_set (i := 2) sc13.nd (pd_gcd T.toMc (pa_co (pd_var 0) (pa_co (pd_var 1) pa_no))))
      (b_cons (s_if (pt_lt (pd_var 1) pd_int)
      (b_one s_never) b_nil)
      (b_one (s_ret (pd_tup (pa_co (pd_div (pd_var 0) (pd_var 2)) (pa_co (pd_div (pd_var 1) (pd_var 2)) pa_no)))))))), go_fraction⟩
theorem ok_plus (T : Mg K mg) : OkD P w K mg base CX0 2 "plus" ["x", "y"] (spD K CPlus) :=
  ok_of (T.fn (14, "plus") (by decide)) sc14 (by decide) (fun _ _ _ _ _ _ us hl => match us, hl with | [_, _], _ => rfl) (fun _ _ h => by cases h <;> rfl) fun cdv A outer s H E hr => ⟨_, R_plus,
    (b_one (s_ret (pd_call (ok_fraction T) (hr.mono (by decide)) (pa_co (pd_add (pd_mul (pd_ix (pd_var 0) pd_int) (pd_ix (pd_var 1) pd_int)) (pd_mul (pd_ix (pd_var 1) pd_int) (pd_ix (pd_var 0) pd_int))) (pa_co (pd_mul (pd_ix (pd_var 0) pd_int) (pd_ix (pd_var 1) pd_int)) pa_no))))), go_plus⟩
theorem ok_minus (T : Mg K mg) : OkD P w K mg base CX0 2 "minus" ["x", "y"] (spD K CMinus) :=
  ok_of (T.fn (15, "minus") (by decide)) sc15 (by decide) (fun _ _ _ _ _ _ us hl => match us, hl with | [_, _], _ => rfl) (fun _ _ h => by cases h <;> rfl) fun cdv A outer s H E hr => ⟨_, R_minus,
    (b_one (s_ret (pd_call (ok_fraction T) (hr.mono (by decide)) (pa_co (pd_sub (pd_mul (pd_ix (pd_var 0) pd_int) (pd_ix (pd_var 1) pd_int)) (pd_mul (pd_ix (pd_var 1) pd_int) (pd_ix (pd_var 0) pd_int))) (pa_co (pd_mul (pd_ix (pd_var 0) pd_int) (pd_ix (pd_var 1) pd_int)) pa_no))))), go_minus⟩
theorem ok_order (T : Mg K mg) : OkD P w K mg base CX0 1 "order" ["x", "y"] (spD K COrder) :=
  ok_of (T.fn (16, "order") (by decide)) sc16 (by decide) (fun _ _ _ _ _ _ us hl => match us, hl with | [_, _], _ => rfl) (fun _ _ h => by cases h <;> rfl) fun cdv A outer s H E hr => ⟨_, R_order,
    (b_cons (s_par (i := 2) (j := 3) sc16.nd (pd_mul (pd_ix (pd_var 0) pd_int) (pd_ix (pd_var 1) pd_int)) (pd_mul (pd_ix (pd_var 1) pd_int) (pd_ix (pd_var 0) pd_int)))
      (b_cons (s_if (pt_eq hr (pd_var 2) (pd_var 3))
      (b_one (s_ret pd_int)) b_nil)
      (b_one (s_ret (pd_if (pt_gt (pd_var 2) (pd_var 3)) pd_int (pd_neg pd_int)))))), go_order⟩
theorem ok_is_fraction (T : Mg K mg) : OkD P w K mg base CX0 2 "is_fraction" ["thing"] (spD K CIsFraction) :=
  ok_of (T.fn (12, "is_fraction") (by decide)) sc12 (by decide) (fun _ _ _ _ _ _ us hl => match us, hl with | [_], _ => rfl) (fun _ _ h => by cases h <;> rfl) fun cdv A outer s H E hr => ⟨_, R_is_fraction,
    (b_cons (s_if (pt_w (pw_or' (pt_no (pt_va (pd_isi (A := "tuple") T.toMc (pd_var 0)))) (pw_o1 (pt_ne hr (pd_len T.toMc (pa_co (pd_var 0) pa_no)) pd_int))))
      (b_one (s_ret pd_bl)) b_nil)
      (b_cons (s_asg (pd_var 0) (gx_tup (gx_cons (gx_name (i := 1) sc12.nd) (gx_cons (gx_name (i := 2) sc12.nd) gx_nil))))
      (b_one (s_ret (pd_and (pd_call (ok_is_number T) (hr.mono (by decide)) (pa_co (pd_var 1) pa_no)) (pd_and (pd_call (ok_is_number T) (hr.mono (by decide)) (pa_co (pd_var 2) pa_no)) (pd_and (pd_gt (pd_var 2) pd_int) (pd_one (pd_eq hr (pd_gcd T.toMc (pa_co (pd_var 1) (pa_co (pd_var 2) pa_no))) pd_int))))))))), go_is_fraction⟩
theorem ok_is_thing_below (T : Mg K mg) : OkD P w K mg base CX0 2 "is_thing_below" ["thing", "many"] (spD K CIsThingBelow) :=
  ok_of (T.fn (20, "is_thing_below") (by decide)) sc20 (by decide) (fun _ _ _ _ _ _ us hl => match us, hl with | [_, _], _ => rfl) (fun _ _ h => by cases h <;> rfl) fun cdv A outer s H E hr => ⟨_, R_is_thing_below,
    (b_one (s_ret (pd_and (pd_call (ok_is_number T) (hr.mono (by decide)) (pa_co (pd_var 0) pa_no)) (pd_one (pd_ch pd_int (pd_var 0) (pd_var 1)))))), go_is_thing_below⟩
theorem ok_law_is_number (T : Mg K mg) : OkD P w K mg base CX0 1 "_law_is_number" ["_law_own"] (spD K CLawIsNumber) :=
  ok_of (T.fn (51, "_law_is_number") (by decide)) sc51 (by decide) (fun _ _ _ _ _ _ us hl => match us, hl with | [_], _ => rfl) (fun _ _ h => by cases h <;> rfl) fun cdv A outer s H E hr => ⟨_, R_law_is_number,
    (b_one (s_ret (pd_and (pd_isi (A := "int") T.toMc (pd_var 0)) (pd_one (pd_not (pd_isi (A := "bool") T.toMc (pd_var 0))))))), go_law_is_number⟩
theorem ok_law_cut (T : Mg K mg) : OkD P w K mg base CX0 1 "_law_cut" ["_law_top", "_law_bottom"] (spD K CLawCut) :=
  ok_of (T.fn (52, "_law_cut") (by decide)) sc52 (by decide) (fun _ _ _ _ _ _ us hl => match us, hl with | [_, _], _ => rfl) (fun _ _ h => by cases h <;> rfl) fun cdv A outer s H E hr => ⟨_, R_law_cut,
    (b_cons (s_par (i := 2) (j := 3) sc52.nd (pd_abs T.toMc (pa_co (pd_var 0) pa_no)) (pd_abs T.toMc (pa_co (pd_var 1) pa_no)))
      (b_cons (s_while PassesOwn.never (pt_ne hr (pd_var 3) pd_int)
      (b_one (s_par (i := 2) (j := 3) sc52.nd (pd_var 3) (pd_mod (pd_intc T.toMc (pa_co (pd_var 2) pa_no)) (pd_var 3)))))
      (b_one (s_ret (pd_if (pt_gt (pd_var 1) pd_int) (pd_tup (pa_co (pd_div (pd_var 0) (pd_var 2)) (pa_co (pd_div (pd_var 1) (pd_var 2)) pa_no))) (pd_tup (pa_co (pd_sub pd_int (pd_div (pd_var 0) (pd_var 2))) (pa_co (pd_sub pd_int (pd_div (pd_var 1) (pd_var 2))) pa_no)))))))), go_law_cut⟩
theorem ok_law_plus (T : Mg K mg) : OkD P w K mg base CX0 2 "_law_plus" ["_law_x", "_law_y"] (spD K CLawPlus) :=
  ok_of (T.fn (54, "_law_plus") (by decide)) sc54 (by decide) (fun _ _ _ _ _ _ us hl => match us, hl with | [_, _], _ => rfl) (fun _ _ h => by cases h <;> rfl) fun cdv A outer s H E hr => ⟨_, R_law_plus,
    (b_one (s_ret (pd_call (ok_law_cut T) (hr.mono (by decide)) (pa_co (pd_add (pd_mul (pd_ix (pd_var 0) pd_int) (pd_ix (pd_var 1) pd_int)) (pd_mul (pd_ix (pd_var 1) pd_int) (pd_ix (pd_var 0) pd_int))) (pa_co (pd_mul (pd_ix (pd_var 0) pd_int) (pd_ix (pd_var 1) pd_int)) pa_no))))), go_law_plus⟩
theorem ok_law_minus (T : Mg K mg) : OkD P w K mg base CX0 2 "_law_minus" ["_law_x", "_law_y"] (spD K CLawMinus) :=
  ok_of (T.fn (53, "_law_minus") (by decide)) sc53 (by decide) (fun _ _ _ _ _ _ us hl => match us, hl with | [_, _], _ => rfl) (fun _ _ h => by cases h <;> rfl) fun cdv A outer s H E hr => ⟨_, R_law_minus,
    (b_one (s_ret (pd_call (ok_law_cut T) (hr.mono (by decide)) (pa_co (pd_sub (pd_mul (pd_ix (pd_var 0) pd_int) (pd_ix (pd_var 1) pd_int)) (pd_mul (pd_ix (pd_var 1) pd_int) (pd_ix (pd_var 0) pd_int))) (pa_co (pd_mul (pd_ix (pd_var 0) pd_int) (pd_ix (pd_var 1) pd_int)) pa_no))))), go_law_minus⟩
theorem ok_law_under (T : Mg K mg) : OkD P w K mg base CX0 1 "_law_under" ["_law_x", "_law_y"] (spD K CLawUnder) :=
  ok_of (T.fn (55, "_law_under") (by decide)) sc55 (by decide) (fun _ _ _ _ _ _ us hl => match us, hl with | [_, _], _ => rfl) (fun _ _ h => by cases h <;> rfl) fun cdv A outer s H E hr => ⟨_, R_law_under,
    (b_one (s_ret (pd_lt (pd_mul (pd_ix (pd_var 0) pd_int) (pd_ix (pd_var 1) pd_int)) (pd_mul (pd_ix (pd_var 1) pd_int) (pd_ix (pd_var 0) pd_int))))), go_law_under⟩
theorem ok_law_gap (T : Mg K mg) : OkD P w K mg base CX0 3 "_law_gap" ["_law_laid", "_law_rule"] (spD K CLawGap) :=
  ok_of (T.fn (56, "_law_gap") (by decide)) sc56 (by decide) (fun _ _ _ _ _ _ us hl => match us, hl with | [_, _], _ => rfl) (fun _ _ h => by cases h <;> rfl) fun cdv A outer s H E hr => ⟨_, R_law_gap,
    (b_one (s_ret (pd_call (ok_law_minus T) (hr.mono (by decide)) (pa_co (pd_ix (pd_var 0) (pd_ix (pd_var 1) pd_int)) (pa_co (pd_ix (pd_var 0) (pd_ix (pd_var 1) pd_int)) pa_no))))), go_law_gap⟩
theorem ok_gap_between (T : Mg K mg) : OkD P w K mg base CX0 3 "gap_between" ["layout", "rule"] (spD K CGapBetween) :=
  ok_of (T.fn (30, "gap_between") (by decide)) sc30 (by decide) (fun _ _ _ _ _ _ us hl => match us, hl with | [_, _], _ => rfl) (fun _ _ h => by cases h <;> rfl) fun cdv A outer s H E hr => ⟨_, R_gap_between,
    (b_one (s_ret (pd_call (ok_minus T) (hr.mono (by decide)) (pa_co (pd_ix (pd_var 0) (pd_ix (pd_var 1) pd_int)) (pa_co (pd_ix (pd_var 0) (pd_ix (pd_var 1) pd_int)) pa_no))))), go_gap_between⟩
theorem ok_marks_of (T : Mg K mg) : OkD P w K mg base CX0 1 "marks_of" ["sheet"] (spD K CMarksOf) :=
  ok_of (T.fn (21, "marks_of") (by decide)) sc21 (by decide) (fun _ _ _ _ _ _ us hl => match us, hl with | [_], _ => rfl) (fun _ _ h => by cases h <;> rfl) fun cdv A outer s H E hr => ⟨_, R_marks_of,
    (b_one (s_ret (pd_tuple T.toMc (pa_co (pd_catL (pd_new (pn_lc (own := [("k", 1)]) sc21.nd (px_range T.toMc (pa_co (pd_len T.toMc (pa_co (pd_ix (pd_var 0) pd_int) pa_no)) pa_no)) (blkOk_by (own := [("k", 1)]) (N := n21) (sc := defScope (topS 21)) (by decide +kernel)) (fun _ _ _ _ _ => (gx_name (i := 1) sc21.nd)) (fun _ _ _ _ _ => pt_nil) (fun _ _ _ _ _ => (pd_tup (pa_co (pd_HARD T.toMc) (pa_co (pd_var 1) pa_no)))))) (pd_new (pn_lc (own := [("k", 1)]) sc21.nd (px_range T.toMc (pa_co (pd_len T.toMc (pa_co (pd_ix (pd_var 0) pd_int) pa_no)) pa_no)) (blkOk_by (own := [("k", 1)]) (N := n21) (sc := defScope (topS 21)) (by decide +kernel)) (fun _ _ _ _ _ => (gx_name (i := 1) sc21.nd)) (fun _ _ _ _ _ => pt_nil) (fun _ _ _ _ _ => (pd_tup (pa_co (pd_EASE T.toMc) (pa_co (pd_var 1) pa_no))))))) pa_no)))), go_marks_of⟩
theorem ok_has_mark (T : Mg K mg) : OkD P w K mg base CX0 3 "has_mark" ["sheet", "thing"] (spD K CHasMark) :=
  ok_of (T.fn (22, "has_mark") (by decide)) sc22 (by decide) (fun _ _ _ _ _ _ us hl => match us, hl with | [_, _], _ => rfl) (fun _ _ h => by cases h <;> rfl) fun cdv A outer s H E hr => ⟨_, R_has_mark,
    (b_cons (s_if (pt_w (pw_or' (pt_no (pt_va (pd_call (ok_is_tuple_of T) (hr.mono (by decide)) (pa_co (pd_var 1) (pa_co pd_int pa_no))))) (pw_or' (pt_no (pt_va (pd_isi (A := "str") T.toMc (pd_ix (pd_var 1) pd_int)))) (pw_o1 (pt_nin hr (pd_ix (pd_var 1) pd_int) (pd_tup (pa_co (pd_HARD T.toMc) (pa_co (pd_EASE T.toMc) pa_no))))))))
      (b_one (s_ret pd_bl)) b_nil)
      (b_one (s_ret (pd_call (ok_is_thing_below T) (hr.mono (by decide)) (pa_co (pd_ix (pd_var 1) pd_int) (pa_co (pd_len T.toMc (pa_co (pd_ix (pd_var 0) (pd_if (pt_eq hr (pd_ix (pd_var 1) pd_int) (pd_HARD T.toMc)) pd_int pd_int)) pa_no)) pa_no)))))), go_has_mark⟩
theorem ok_gaps_from (T : Mg K mg) : OkD P w K mg base CX0 3 "gaps_from" ["sheet", "i"] (spD K CGapsFrom) :=
  ok_of (T.fn (27, "gaps_from") (by decide)) sc27 (by decide) (fun _ _ _ _ _ _ us hl => match us, hl with | [_, _], _ => rfl) (fun _ _ h => by cases h <;> rfl) fun cdv A outer s H E hr => ⟨_, R_gaps_from,
    (b_cons (s_setN (i := 2) sc27.nd (pn_rep (pn_lst (pa_co pd_non pa_no)) (pd_ix (pd_var 0) pd_int)))
      (b_cons (s_asg (pd_NONE T.toMc) (gx_setL 2 (pd_var 1)))
      (b_cons (s_for PassesOwn.never (px_range T.toMc (pa_co (pd_sub (pd_ix (pd_var 0) pd_int) pd_int) pa_no)) (gx_name (i := 3) sc27.nd)
      (b_one (s_for PassesOwn.never (px_seq (pd_ix (pd_var 0) pd_int)) (gx_tup (gx_cons (gx_name (i := 4) sc27.nd) (gx_cons (gx_name (i := 5) sc27.nd) (gx_cons (gx_name (i := 6) sc27.nd) gx_nil))))
      (b_one (s_if (pt_notN (pd_ixO 2 (pd_var 4)))
      (b_cons (s_set (i := 7) sc27.nd (pd_call (ok_plus T) (hr.mono (by decide)) (pa_co (pd_ixO 2 (pd_var 4)) (pa_co (pd_var 6) pa_no))))
      (b_one (s_if (pt_w (pw_or' (pt_isN (pd_ixO 2 (pd_var 5))) (pw_o1 (pt_gt (pd_call (ok_order T) (hr.mono (by decide)) (pa_co (pd_var 7) (pa_co (pd_ixO 2 (pd_var 5)) pa_no))) pd_int))))
      (b_one (s_asg (pd_var 7) (gx_setL 2 (pd_var 5)))) b_nil))) b_nil)))))
      (b_one (s_ret (pd_frz 2)))))), go_gaps_from⟩
theorem ok_some_layout (T : Mg K mg) : OkD P w K mg base CX0 3 "some_layout" ["sheet"] (spD K CSomeLayout) :=
  ok_of (T.fn (41, "some_layout") (by decide)) sc41 (by decide) (fun _ _ _ _ _ _ us hl => match us, hl with | [_], _ => rfl) (fun _ _ h => by cases h <;> rfl) fun cdv A outer s H E hr => ⟨_, R_some_layout,
    (b_cons (s_setN (i := 1) sc41.nd (pn_rep (pn_lst (pa_co (pd_NONE T.toMc) pa_no)) (pd_ix (pd_var 0) pd_int)))
      (b_cons (s_for PassesOwn.never (px_range T.toMc (pa_co (pd_ix (pd_var 0) pd_int) pa_no)) (gx_name (i := 2) sc41.nd)
      (b_one (s_for PassesOwn.never (px_seq (pd_ix (pd_var 0) pd_int)) (gx_tup (gx_cons (gx_name (i := 3) sc41.nd) (gx_cons (gx_name (i := 4) sc41.nd) (gx_cons (gx_name (i := 5) sc41.nd) gx_nil))))
      (b_one (s_if (pt_gt (pd_call (ok_order T) (hr.mono (by decide)) (pa_co (pd_call (ok_plus T) (hr.mono (by decide)) (pa_co (pd_ixO 1 (pd_var 3)) (pa_co (pd_var 5) pa_no))) (pa_co (pd_ixO 1 (pd_var 4)) pa_no))) pd_int)
      (b_one (s_asg (pd_call (ok_plus T) (hr.mono (by decide)) (pa_co (pd_ixO 1 (pd_var 3)) (pa_co (pd_var 5) pa_no))) (gx_setL 1 (pd_var 4)))) b_nil)))))
      (b_one (s_ret (pd_tuple T.toMc (pa_co (pd_new (pn_lc (own := [("place", 6)]) sc41.nd (px_seq (pd_frz 1)) (blkOk_by (own := [("place", 6)]) (N := n41) (sc := defScope (topS 41)) (by decide +kernel)) (fun _ _ _ _ _ => (gx_name (i := 6) sc41.nd)) (fun _ _ _ _ _ => pt_nil) (fun _ _ _ _ _ => (pd_call (ok_minus T) (hr.mono (by decide)) (pa_co (pd_var 6) (pa_co (pd_ix (pd_var 1) pd_int) pa_no)))))) pa_no)))))), go_some_layout⟩
theorem ok_sheet_of (T : Mg K mg) : OkD P w K mg base CX0 1 "sheet_of" ["sheet", "marks"] (spD K CSheetOf) :=
  ok_of (T.fn (33, "sheet_of") (by decide)) sc33 (by decide) (fun _ _ _ _ _ _ us hl => match us, hl with | [_, _], _ => rfl) (fun _ _ h => by cases h <;> rfl) fun cdv A outer s H E hr => ⟨_, R_sheet_of,
    (b_cons (s_lc (i := 2) (own := [("k", 3), ("rule", 4)]) sc33.nd (px_enum T.toMc (pa_co (pd_ix (pd_var 0) pd_int) pa_no)) (blkOk_by (own := [("k", 3), ("rule", 4)]) (N := n33) (sc := defScope (topS 33)) (by decide +kernel)) (fun _ _ _ _ _ => (gx_tup (gx_cons (gx_name (i := 3) sc33.nd) (gx_cons (gx_name (i := 4) sc33.nd) gx_nil)))) (fun _ _ _ _ _ => (pt_one (pt_in hr (pd_tup (pa_co (pd_HARD T.toMc) (pa_co (pd_var 3) pa_no))) (pd_var 1)))) (fun _ _ _ _ _ => (pd_var 4)) (sw_true rfl rfl rfl (by decide +kernel)))
      (b_one (s_ret (pd_tup (pa_co (pd_ix (pd_var 0) pd_int) (pa_co (pd_tuple T.toMc (pa_co (pd_var 2) pa_no)) (pa_co (pd_tuple T.toMc (pa_co (pd_new (pn_lc (own := [("k", 3), ("rule", 4)]) sc33.nd (px_enum T.toMc (pa_co (pd_ix (pd_var 0) pd_int) pa_no)) (blkOk_by (own := [("k", 3), ("rule", 4)]) (N := n33) (sc := defScope (topS 33)) (by decide +kernel)) (fun _ _ _ _ _ => (gx_tup (gx_cons (gx_name (i := 3) sc33.nd) (gx_cons (gx_name (i := 4) sc33.nd) gx_nil)))) (fun _ _ _ _ _ => (pt_one (pt_in hr (pd_tup (pa_co (pd_EASE T.toMc) (pa_co (pd_var 3) pa_no))) (pd_var 1)))) (fun _ _ _ _ _ => (pd_var 4)))) pa_no)) pa_no))))))), go_sheet_of⟩
theorem ok_without (T : Mg K mg) : OkD P w K mg base CX0 2 "without" ["sheet", "mark"] (spD K CWithout) :=
  ok_of (T.fn (34, "without") (by decide)) sc34 (by decide) (fun _ _ _ _ _ _ us hl => match us, hl with | [_, _], _ => rfl) (fun _ _ h => by cases h <;> rfl) fun cdv A outer s H E hr => ⟨_, R_without,
    (b_one (s_ret (pd_call (ok_sheet_of T) (hr.mono (by decide)) (pa_co (pd_var 0) (pa_co (pd_new (pn_lc (own := [("one", 2)]) sc34.nd (px_seq (pd_call (ok_marks_of T) (hr.mono (by decide)) (pa_co (pd_var 0) pa_no))) (blkOk_by (own := [("one", 2)]) (N := n34) (sc := defScope (topS 34)) (by decide +kernel)) (fun _ _ _ _ _ => (gx_name (i := 2) sc34.nd)) (fun _ _ _ _ _ => (pt_one (pt_ne hr (pd_var 2) (pd_var 1)))) (fun _ _ _ _ _ => (pd_var 2)))) pa_no))))), go_without⟩
end
end Dw
set_option maxRecDepth 100000
set_option maxHeartbeats 4000000
/-! The defs keep their contracts: printed by gen.py. -/
namespace Dw
open PySem PySem.Spec PyProof.Rows L2
section
variable {P : Program} {w : World} {K : Fg} {mg : Str → Option Value} {base : Heap}
theorem ok_rule_of (T : Mg K mg) : OkD P w K mg base CX0 22 "rule_of" ["sheet", "mark"] (spD K CRuleOf) :=
  ok_of (T.fn (23, "rule_of") (by decide)) sc23 (by decide) (fun _ _ _ _ _ _ us hl => match us, hl with | [_, _], _ => rfl) (fun _ _ h => by cases h <;> rfl) fun cdv A outer s H E hr => ⟨_, R_rule_of,
    (b_cons (s_set (i := 2) sc23.nd (pd_call (ok_tuple_of T) (hr.mono (by decide)) (pa_co (pd_var 1) pa_no)))
      (b_cons (s_if (pt_no (pt_va (pd_call (ok_has_mark T) (hr.mono (by decide)) (pa_co (pd_var 0) (pa_co (pd_var 2) pa_no)))))
      (b_one s_never) b_nil)
      (b_one (s_ret (pd_call (ok_tuple_of T) (hr.mono (by decide)) (pa_co (pd_ix (pd_ix (pd_var 0) (pd_if (pt_eq hr (pd_ix (pd_var 2) pd_int) (pd_HARD T.toMc)) pd_int pd_int)) (pd_ix (pd_var 2) pd_int)) pa_no)))))), go_rule_of⟩
theorem ok_ring_far (T : Mg K mg) : OkD P w K mg base CX0 23 "ring_far" ["sheet", "ring"] (spD K CRingFar) :=
  ok_of (T.fn (24, "ring_far") (by decide)) sc24 (by decide) (fun _ _ _ _ _ _ us hl => match us, hl with | [_, _], _ => rfl) (fun _ _ h => by cases h <;> rfl) fun cdv A outer s H E hr => ⟨_, R_ring_far,
    (b_cons (s_set (i := 2) sc24.nd (pd_NONE T.toMc))
      (b_cons (s_for PassesOwn.never (px_seq (pd_var 1)) (gx_name (i := 3) sc24.nd)
      (b_one (s_if (pt_eq hr (pd_ix (pd_var 3) pd_int) (pd_HARD T.toMc))
      (b_one (s_set (i := 2) sc24.nd (pd_call (ok_plus T) (hr.mono (by decide)) (pa_co (pd_var 2) (pa_co (pd_ix (pd_call (ok_rule_of T) (hr.mono (by decide)) (pa_co (pd_var 0) (pa_co (pd_var 3) pa_no))) pd_int) pa_no))))) b_nil)))
      (b_one (s_ret (pd_var 2))))), go_ring_far⟩
theorem ok_is_layout (T : Mg K mg) : OkD P w K mg base CX0 22 "is_layout" ["sheet", "thing"] (spD K CIsLayout) :=
  ok_of (T.fn (31, "is_layout") (by decide)) sc31 (by decide) (fun _ _ _ _ _ _ us hl => match us, hl with | [_, _], _ => rfl) (fun _ _ h => by cases h <;> rfl) fun cdv A outer s H E hr => ⟨_, R_is_layout,
    (b_cons (s_asg (pd_call (ok_tuple_of T) (hr.mono (by decide)) (pa_co (pd_var 0) pa_no)) (gx_tup (gx_cons (gx_name (i := 2) sc31.nd) (gx_cons (gx_name (i := 3) sc31.nd) (gx_cons (gx_name (i := 4) sc31.nd) gx_nil)))))
      (b_cons (s_if (pt_w (pw_or' (pt_no (pt_va (pd_call (ok_is_tuple_of T) (hr.mono (by decide)) (pa_co (pd_var 1) (pa_co (pd_var 2) pa_no))))) (pw_or' (pt_no (pt_va (pd_all T.toMc (pa_co (pd_new (pn_lc (own := [("own", 5)]) sc31.nd (px_seq (pd_var 1)) (blkOk_by (own := [("own", 5)]) (N := n31) (sc := defScope (topS 31)) (by decide +kernel)) (fun _ _ _ _ _ => (gx_name (i := 5) sc31.nd)) (fun _ _ _ _ _ => pt_nil) (fun _ _ _ _ _ => (pd_call (ok_is_fraction T) (hr.mono (by decide)) (pa_co (pd_var 5) pa_no))))) pa_no)))) (pw_o1 (pt_ne hr (pd_ix (pd_var 1) pd_int) (pd_NOUGHT T.toMc))))))
      (b_one (s_ret pd_bl)) b_nil)
      (b_one (s_ret (pd_all T.toMc (pa_co (pd_new (pn_lc (own := [("rule", 6)]) sc31.nd (px_seq (pd_var 3)) (blkOk_by (own := [("rule", 6)]) (N := n31) (sc := defScope (topS 31)) (by decide +kernel)) (fun _ _ _ _ _ => (gx_name (i := 6) sc31.nd)) (fun _ _ _ _ _ => pt_nil) (fun _ _ _ _ _ => (pd_ge (pd_call (ok_order T) (hr.mono (by decide)) (pa_co (pd_call (ok_gap_between T) (hr.mono (by decide)) (pa_co (pd_var 1) (pa_co (pd_var 6) pa_no))) (pa_co (pd_ix (pd_var 6) pd_int) pa_no))) pd_int)))) pa_no)))))), go_is_layout⟩
theorem ok_longer_ways (T : Mg K mg) : OkD P w K mg base CX0 1 "longer_ways" ["sheet", "ways", "gone"] (spD K CLongerWays) :=
  ok_of (T.fn (38, "longer_ways") (by decide)) sc38 (by decide) (fun _ _ _ _ _ _ us hl => match us, hl with | [_, _, _], _ => rfl) (fun _ _ h => by cases h <;> rfl) fun cdv A outer s H E hr => ⟨_, R_longer_ways,
    (b_cons (s_setN (i := 3) sc38.nd (pn_lst pa_no))
      (b_cons (s_for PassesOwn.never (px_seq (pd_var 1)) (gx_tup (gx_cons (gx_name (i := 4) sc38.nd) (gx_cons (gx_name (i := 5) sc38.nd) gx_nil)))
      (b_one (s_for PassesOwn.never (px_enum T.toMc (pa_co (pd_ix (pd_var 0) pd_int) pa_no)) (gx_tup (gx_cons (gx_name (i := 6) sc38.nd) (gx_cons (gx_tup (gx_cons (gx_name (i := 7) sc38.nd) (gx_cons (gx_name (i := 8) sc38.nd) (gx_cons (gx_name (i := 9) sc38.nd) gx_nil)))) gx_nil)))
      (b_one (s_if (pt_w (pw_an (pt_ne hr (pd_var 6) (pd_var 2)) (pw_an (pt_eq hr (pd_var 7) (pd_ix (pd_var 5) (pd_neg pd_int))) (pw_a1 (pt_nin hr (pd_var 8) (pd_var 5))))))
      (b_one (s_app 3 (pd_tup (pa_co (pd_tup (pa_st (pd_var 4) (pa_co (pd_tup (pa_co (pd_HARD T.toMc) (pa_co (pd_var 6) pa_no))) pa_no))) (pa_co (pd_tup (pa_st (pd_var 5) (pa_co (pd_var 8) pa_no))) pa_no))))) b_nil)))))
      (b_one (s_ret (pd_frz 3))))), go_longer_ways⟩
theorem ok_law_is_laid (T : Mg K mg) : OkD P w K mg base CX0 4 "_law_is_laid" ["_law_sheet", "_law_told"] (spD K CLawIsLaid) :=
  ok_of (T.fn (57, "_law_is_laid") (by decide)) sc57 (by decide) (fun _ _ _ _ _ _ us hl => match us, hl with | [_, _], _ => rfl) (fun _ _ h => by cases h <;> rfl) fun cdv A outer s H E hr => ⟨_, R_law_is_laid,
    (b_cons (s_if (pt_w (pw_or' (pt_no (pt_va (pd_isi (A := "tuple") T.toMc (pd_var 1)))) (pw_o1 (pt_ne hr (pd_len T.toMc (pa_co (pd_var 1) pa_no)) (pd_ix (pd_var 0) pd_int)))))
      (b_one (s_ret pd_bl)) b_nil)
      (b_cons (s_for PassesOwn.never (px_seq (pd_var 1)) (gx_name (i := 2) sc57.nd)
      (b_cons (s_if (pt_w (pw_or' (pt_no (pt_va (pd_isi (A := "tuple") T.toMc (pd_var 2)))) (pw_or' (pt_ne hr (pd_len T.toMc (pa_co (pd_var 2) pa_no)) pd_int) (pw_or' (pt_no (pt_va (pd_call (ok_law_is_number T) (hr.mono (by decide)) (pa_co (pd_ix (pd_var 2) pd_int) pa_no)))) (pw_o1 (pt_no (pt_va (pd_call (ok_law_is_number T) (hr.mono (by decide)) (pa_co (pd_ix (pd_var 2) pd_int) pa_no)))))))))
      (b_one (s_ret pd_bl)) b_nil)
      (b_one (s_if (pt_w (pw_or' (pt_lt (pd_ix (pd_var 2) pd_int) pd_int) (pw_o1 (pt_ne hr (pd_call (ok_law_cut T) (hr.mono (by decide)) (pa_co (pd_ix (pd_var 2) pd_int) (pa_co (pd_ix (pd_var 2) pd_int) pa_no))) (pd_var 2)))))
      (b_one (s_ret pd_bl)) b_nil))))
      (b_one (s_ret (pd_and (pd_eq hr (pd_ix (pd_var 1) pd_int) (pd_tup (pa_co pd_int (pa_co pd_int pa_no)))) (pd_one (pd_eq hr (pd_new (pn_lc (own := [("_law_rule", 3)]) sc57.nd (px_seq (pd_ix (pd_var 0) pd_int)) (blkOk_by (own := [("_law_rule", 3)]) (N := n57) (sc := defScope (topS 57)) (by decide +kernel)) (fun _ _ _ _ _ => (gx_name (i := 3) sc57.nd)) (fun _ _ _ _ _ => (pt_one (pt_va (pd_call (ok_law_under T) (hr.mono (by decide)) (pa_co (pd_call (ok_law_gap T) (hr.mono (by decide)) (pa_co (pd_var 1) (pa_co (pd_var 3) pa_no))) (pa_co (pd_ix (pd_var 3) pd_int) pa_no)))))) (fun _ _ _ _ _ => pd_int))) (pd_new (pn_lst pa_no))))))))), go_law_is_laid⟩
theorem ok_law_boxes (T : Mg K mg) : OkD P w K mg base CX0 1 "_law_boxes" [] (spD K CLawBoxes) :=
  ok_of (T.fn (59, "_law_boxes") (by decide)) sc59 (by decide) (fun _ _ _ _ _ _ us hl => match us, hl with | [], _ => rfl) (fun _ _ h => by cases h <;> rfl) fun cdv A outer s H E hr => ⟨_, R_law_boxes,
    (b_cons (s_set (i := 0) sc59.nd (pd_tup (pa_co (pd_tup (pa_co (pd_tup (pa_co pd_int (pa_co pd_int pa_no))) (pa_co (pd_tup (pa_co pd_int (pa_co pd_int pa_no))) pa_no))) (pa_co (pd_tup (pa_co (pd_tup (pa_co pd_int (pa_co pd_int pa_no))) (pa_co (pd_tup (pa_co pd_int (pa_co pd_int pa_no))) pa_no))) pa_no))))
      (b_one (s_ret (pd_tup (pa_co pd_int (pa_co (pd_tup (pa_co (pd_tup (pa_co pd_int (pa_co pd_int (pa_co (pd_tup (pa_co pd_int (pa_co pd_int pa_no))) pa_no)))) (pa_co (pd_tup (pa_co pd_int (pa_co pd_int (pa_co (pd_tup (pa_co pd_int (pa_co pd_int pa_no))) pa_no)))) (pa_co (pd_tup (pa_co pd_int (pa_co pd_int (pa_co (pd_tup (pa_co pd_int (pa_co pd_int pa_no))) pa_no)))) (pa_co (pd_tup (pa_co pd_int (pa_co pd_int (pa_co (pd_tup (pa_co (pd_neg pd_int) (pa_co pd_int pa_no))) pa_no)))) pa_no))))) (pa_co (pd_tup (pa_co (pd_tup (pa_co pd_int (pa_co pd_int (pa_co (pd_var 0) pa_no)))) (pa_co (pd_tup (pa_co pd_int (pa_co pd_int (pa_co (pd_var 0) pa_no)))) pa_no))) pa_no))))))), go_law_boxes⟩
theorem ok_law_ways (T : Mg K mg) : OkD P w K mg base CX0 3 "_law_ways" ["_law_sheet", "_law_i", "_law_j", "_law_gone"] (spD K CLawWays) :=
  ok_of (T.fn (61, "_law_ways") (by decide)) sc61 (by decide) (fun _ _ _ _ _ _ us hl => match us, hl with | [_, _, _, _], _ => rfl) (fun _ _ h => by cases h <;> rfl) fun cdv A outer s H E hr => ⟨_, R_law_ways,
    (b_cons (s_parN (i := 4) (j := 5) sc61.nd (pn_lst pa_no) (pd_new (pn_lst (pa_co (pd_tup (pa_co (pd_tup pa_no) (pa_co (pd_tup (pa_co (pd_var 1) pa_no)) (pa_co (pd_tup (pa_co pd_int (pa_co pd_int pa_no))) pa_no)))) pa_no))))
      (b_cons (s_while PassesOwn.never (pt_ne hr (pd_var 5) (pd_new (pn_lst pa_no)))
      (b_cons (s_setN (i := 6) sc61.nd (pn_lst pa_no))
      (b_cons (s_for PassesOwn.never (px_seq (pd_var 5)) (gx_tup (gx_cons (gx_name (i := 7) sc61.nd) (gx_cons (gx_name (i := 8) sc61.nd) (gx_cons (gx_name (i := 9) sc61.nd) gx_nil))))
      (b_cons (s_if (pt_eq hr (pd_ix (pd_var 8) (pd_neg pd_int)) (pd_var 2))
      (b_cons (s_app 4 (pd_tup (pa_co (pd_var 7) (pa_co (pd_var 9) pa_no))))
      (b_one s_cont)) b_nil)
      (b_one (s_for PassesOwn.never (px_enum T.toMc (pa_co (pd_ix (pd_var 0) pd_int) pa_no)) (gx_tup (gx_cons (gx_name (i := 10) sc61.nd) (gx_cons (gx_name (i := 11) sc61.nd) gx_nil)))
      (b_one (s_if (pt_w (pw_an (pt_ne hr (pd_var 10) (pd_var 3)) (pw_an (pt_eq hr (pd_ix (pd_var 11) pd_int) (pd_ix (pd_var 8) (pd_neg pd_int))) (pw_a1 (pt_nin hr (pd_ix (pd_var 11) pd_int) (pd_var 8))))))
      (b_one (s_app 6 (pd_tup (pa_co (pd_catT (pd_var 7) (pd_tup (pa_co (pd_tup (pa_co pd_str (pa_co (pd_var 10) pa_no))) pa_no))) (pa_co (pd_catT (pd_var 8) (pd_tup (pa_co (pd_ix (pd_var 11) pd_int) pa_no))) (pa_co (pd_call (ok_law_plus T) (hr.mono (by decide)) (pa_co (pd_var 9) (pa_co (pd_ix (pd_var 11) pd_int) pa_no))) pa_no)))))) b_nil))))))
      (b_one (s_set (i := 5) sc61.nd (pd_frz 6))))))
      (b_one (s_ret (pd_frz 4))))), go_law_ways⟩
end
end Dw
set_option maxRecDepth 100000
set_option maxHeartbeats 4000000
/-! The defs keep their contracts: printed by gen.py. -/
namespace Dw
open PySem PySem.Spec PyProof.Rows L2
section
variable {P : Program} {w : World} {K : Fg} {mg : Str → Option Value} {base : Heap}
theorem ok_no_room (T : Mg K mg) : OkD P w K mg base CX0 22 "no_room" ["sheet"] (spD K CNoRoom) :=
  ok_of (T.fn (25, "no_room") (by decide)) sc25 (by decide) (fun _ _ _ _ _ _ us hl => match us, hl with | [_], _ => rfl) (fun _ _ h => by cases h <;> rfl) fun cdv A outer s H E hr => ⟨_, R_no_room,
    (b_cons (s_set (i := 1) sc25.nd (pd_call (ok_tuple_of T) (hr.mono (by decide)) (pa_co (pd_ix (pd_var 0) pd_int) pa_no)))
      (b_cons (s_par3K (i := 2) (j := 3) (l := 4) sc25.nd)
      (b_cons (s_for PassesOwn.never (px_seq (pd_var 1)) (gx_tup (gx_cons (gx_name (i := 5) sc25.nd) (gx_cons (gx_name (i := 6) sc25.nd) (gx_cons (gx_name (i := 7) sc25.nd) gx_nil))))
      (b_one (s_asg (pd_tup (pa_co (pd_NONE T.toMc) (pa_co (pd_NONE T.toMc) pa_no))) (gx_tup (gx_cons (gx_setK 2 hr (pd_var 5)) (gx_cons (gx_setK 2 hr (pd_var 6)) gx_nil))))))
      (b_cons (s_for PassesOwn.never (px_range T.toMc (pa_co (pd_lenK 2 T.toMc) pa_no)) (gx_name (i := 7) sc25.nd)
      (b_cons (s_set (i := 4) sc25.nd pd_non)
      (b_one (s_for PassesOwn.never (px_enum T.toMc (pa_co (pd_var 1) pa_no)) (gx_tup (gx_cons (gx_name (i := 8) sc25.nd) (gx_cons (gx_tup (gx_cons (gx_name (i := 5) sc25.nd) (gx_cons (gx_name (i := 6) sc25.nd) (gx_cons (gx_name (i := 9) sc25.nd) gx_nil)))) gx_nil)))
      (b_one (s_if (pt_gt (pd_call (ok_order T) (hr.mono (by decide)) (pa_co (pd_call (ok_plus T) (hr.mono (by decide)) (pa_co (pd_ixK 2 hr (pd_var 5)) (pa_co (pd_var 9) pa_no))) (pa_co (pd_ixK 2 hr (pd_var 6)) pa_no))) pd_int)
      (b_one (s_asg (pd_tup (pa_co (pd_call (ok_plus T) (hr.mono (by decide)) (pa_co (pd_ixK 2 hr (pd_var 5)) (pa_co (pd_var 9) pa_no))) (pa_co (pd_var 8) (pa_co (pd_var 6) pa_no)))) (gx_tup (gx_cons (gx_setK 2 hr (pd_var 6)) (gx_cons (gx_setK 3 hr (pd_var 6)) (gx_cons (gx_name (i := 4) sc25.nd) gx_nil)))))) b_nil))))))
      (b_cons (s_if (pt_isN (pd_var 4))
      (b_one (s_ret pd_non)) b_nil)
      (b_cons s_never
      (b_cons s_never
      (b_cons s_never
      (b_one s_never))))))))), go_no_room⟩
theorem ok_sure_room (T : Mg K mg) : OkD P w K mg base CX0 23 "sure_room" ["sheet"] (spD K CSureRoom) :=
  ok_of (T.fn (26, "sure_room") (by decide)) sc26 (by decide) (fun _ _ _ _ _ _ us hl => match us, hl with | [_], _ => rfl) (fun _ _ h => by cases h <;> rfl) fun cdv A outer s H E hr => ⟨_, R_sure_room,
    (b_cons (s_set (i := 1) sc26.nd (pd_call (ok_tuple_of T) (hr.mono (by decide)) (pa_co (pd_var 0) pa_no)))
      (b_cons (s_set (i := 2) sc26.nd (pd_call (ok_no_room T) (hr.mono (by decide)) (pa_co (pd_var 1) pa_no)))
      (b_cons (s_if (pt_notN (pd_var 2))
      (b_one s_never) b_nil)
      (b_one (s_ret (pd_var 1)))))), go_sure_room⟩
theorem ok_sure_hard (T : Mg K mg) : OkD P w K mg base CX0 24 "sure_hard" ["sheet", "k"] (spD K CSureHard) :=
  ok_of (T.fn (35, "sure_hard") (by decide)) sc35 (by decide) (fun _ _ _ _ _ _ us hl => match us, hl with | [_, _], _ => rfl) (fun _ _ h => by cases h <;> rfl) fun cdv A outer s H E hr => ⟨_, R_sure_hard,
    (b_cons (s_set (i := 2) sc35.nd (pd_call (ok_sure_room T) (hr.mono (by decide)) (pa_co (pd_var 0) pa_no)))
      (b_cons (s_if (pt_w (pw_or' (pt_no (pt_va (pd_call (ok_is_number T) (hr.mono (by decide)) (pa_co (pd_var 1) pa_no)))) (pw_o1 (pt_no (pt_ch pd_int (pd_var 1) (pd_len T.toMc (pa_co (pd_ix (pd_var 2) pd_int) pa_no)))))))
      (b_one s_never) b_nil)
      (b_one (s_ret (pd_var 2))))), go_sure_hard⟩
theorem ok_is_idle (T : Mg K mg) : OkD P w K mg base CX0 4 "is_idle" ["sheet", "k"] (spD K CIsIdle) :=
  ok_of (T.fn (36, "is_idle") (by decide)) sc36 (by decide) (fun _ _ _ _ _ _ us hl => match us, hl with | [_, _], _ => rfl) (fun _ _ h => by cases h <;> rfl) fun cdv A outer s H E hr => ⟨_, R_is_idle,
    (b_cons (s_asg (pd_ix (pd_ix (pd_var 0) pd_int) (pd_var 1)) (gx_tup (gx_cons (gx_name (i := 2) sc36.nd) (gx_cons (gx_name (i := 3) sc36.nd) (gx_cons (gx_name (i := 4) sc36.nd) gx_nil)))))
      (b_cons (s_set (i := 5) sc36.nd (pd_ix (pd_call (ok_gaps_from T) (hr.mono (by decide)) (pa_co (pd_call (ok_without T) (hr.mono (by decide)) (pa_co (pd_var 0) (pa_co (pd_tup (pa_co (pd_HARD T.toMc) (pa_co (pd_var 1) pa_no))) pa_no))) (pa_co (pd_var 2) pa_no))) (pd_var 3)))
      (b_one (s_ret (pd_and (pd_notN (pd_var 5)) (pd_one (pd_ge (pd_call (ok_order T) (hr.mono (by decide)) (pa_co (pd_var 5) (pa_co (pd_var 4) pa_no))) pd_int))))))), go_is_idle⟩
theorem ok_idle_hard (T : Mg K mg) : OkD P w K mg base CX0 24 "idle_hard" ["sheet"] (spD K CIdleHard) :=
  ok_of (T.fn (37, "idle_hard") (by decide)) sc37 (by decide) (fun _ _ _ _ _ _ us hl => match us, hl with | [_], _ => rfl) (fun _ _ h => by cases h <;> rfl) fun cdv A outer s H E hr => ⟨_, R_idle_hard,
    (b_cons (s_set (i := 1) sc37.nd (pd_call (ok_sure_room T) (hr.mono (by decide)) (pa_co (pd_var 0) pa_no)))
      (b_one (s_ret (pd_tuple T.toMc (pa_co (pd_new (pn_lc (own := [("k", 2)]) sc37.nd (px_range T.toMc (pa_co (pd_len T.toMc (pa_co (pd_ix (pd_var 1) pd_int) pa_no)) pa_no)) (blkOk_by (own := [("k", 2)]) (N := n37) (sc := defScope (topS 37)) (by decide +kernel)) (fun _ _ _ _ _ => (gx_name (i := 2) sc37.nd)) (fun _ _ _ _ _ => (pt_one (pt_va (pd_call (ok_is_idle T) (hr.mono (by decide)) (pa_co (pd_var 1) (pa_co (pd_var 2) pa_no)))))) (fun _ _ _ _ _ => (pd_var 2)))) pa_no))))), go_idle_hard⟩
theorem ok_is_bypass (T : Mg K mg) : OkD P w K mg base CX0 25 "is_bypass" ["sheet", "k", "thing"] (spD K CIsBypass) :=
  ok_of (T.fn (40, "is_bypass") (by decide)) sc40 (by decide) (fun _ _ _ _ _ _ us hl => match us, hl with | [_, _, _], _ => rfl) (fun _ _ h => by cases h <;> rfl) fun cdv A outer s H E hr => ⟨_, R_is_bypass,
    (b_cons (s_set (i := 3) sc40.nd (pd_call (ok_sure_hard T) (hr.mono (by decide)) (pa_co (pd_var 0) (pa_co (pd_var 1) pa_no))))
      (b_cons (s_asg (pd_ix (pd_ix (pd_var 3) pd_int) (pd_var 1)) (gx_tup (gx_cons (gx_name (i := 4) sc40.nd) (gx_cons (gx_name (i := 5) sc40.nd) (gx_cons (gx_name (i := 6) sc40.nd) gx_nil)))))
      (b_cons (s_if (pt_w (pw_or' (pt_no (pt_va (pd_isi (A := "tuple") T.toMc (pd_var 2)))) (pw_o1 (pt_no (pt_va (pd_all T.toMc (pa_co (pd_new (pn_lc (own := [("mark", 7)]) sc40.nd (px_seq (pd_var 2)) (blkOk_by (own := [("mark", 7)]) (N := n40) (sc := defScope (topS 40)) (by decide +kernel)) (fun _ _ _ _ _ => (gx_name (i := 7) sc40.nd)) (fun _ _ _ _ _ => pt_nil) (fun _ _ _ _ _ => (pd_and (pd_call (ok_has_mark T) (hr.mono (by decide)) (pa_co (pd_var 3) (pa_co (pd_var 7) pa_no))) (pd_one (pd_eq hr (pd_ix (pd_var 7) pd_int) (pd_HARD T.toMc))))))) pa_no)))))))
      (b_one (s_ret pd_bl)) b_nil)
      (b_cons (s_setN (i := 8) sc40.nd (pn_lst (pa_co (pd_var 4) pa_no)))
      (b_cons (s_for PassesOwn.never (px_seq (pd_var 2)) (gx_name (i := 7) sc40.nd)
      (b_cons (s_asg (pd_call (ok_rule_of T) (hr.mono (by decide)) (pa_co (pd_var 3) (pa_co (pd_var 7) pa_no))) (gx_tup (gx_cons (gx_name (i := 9) sc40.nd) (gx_cons (gx_name (i := 10) sc40.nd) (gx_cons (gx_name (i := 11) sc40.nd) gx_nil)))))
      (b_cons (s_if (pt_w (pw_or' (pt_eq hr (pd_var 7) (pd_tup (pa_co (pd_HARD T.toMc) (pa_co (pd_var 1) pa_no)))) (pw_or' (pt_ne hr (pd_var 9) (pd_ixO 8 (pd_neg pd_int))) (pw_o1 (pt_inO 8 hr (pd_var 10))))))
      (b_one (s_ret pd_bl)) b_nil)
      (b_one (s_app 8 (pd_var 10))))))
      (b_one (s_ret (pd_and (pd_eq hr (pd_ixO 8 (pd_neg pd_int)) (pd_var 5)) (pd_one (pd_ge (pd_call (ok_order T) (hr.mono (by decide)) (pa_co (pd_call (ok_ring_far T) (hr.mono (by decide)) (pa_co (pd_var 3) (pa_co (pd_var 2) pa_no))) (pa_co (pd_var 6) pa_no))) pd_int)))))))))), go_is_bypass⟩
theorem ok_is_slip (T : Mg K mg) : OkD P w K mg base CX0 25 "is_slip" ["sheet", "k", "thing"] (spD K CIsSlip) :=
  ok_of (T.fn (43, "is_slip") (by decide)) sc43 (by decide) (fun _ _ _ _ _ _ us hl => match us, hl with | [_, _, _], _ => rfl) (fun _ _ h => by cases h <;> rfl) fun cdv A outer s H E hr => ⟨_, R_is_slip,
    (b_cons (s_set (i := 3) sc43.nd (pd_call (ok_sure_hard T) (hr.mono (by decide)) (pa_co (pd_var 0) (pa_co (pd_var 1) pa_no))))
      (b_one (s_ret (pd_and (pd_call (ok_is_layout T) (hr.mono (by decide)) (pa_co (pd_call (ok_without T) (hr.mono (by decide)) (pa_co (pd_var 3) (pa_co (pd_tup (pa_co (pd_HARD T.toMc) (pa_co (pd_var 1) pa_no))) pa_no))) (pa_co (pd_var 2) pa_no))) (pd_one (pd_not (pd_call (ok_is_layout T) (hr.mono (by decide)) (pa_co (pd_var 3) (pa_co (pd_var 2) pa_no))))))))), go_is_slip⟩
end
end Dw
set_option maxRecDepth 100000
set_option maxHeartbeats 4000000
/-! Defs that answer or raise. -/
namespace Dw
open PySem PySem.Spec PyProof.Rows L2
section
variable {X : Cx} {C : Addr} {bmB : List Value} {B newId initId : String}
/-- X() -/
theorem pmk_own0 {x : Str} {p pos : Pos} (F : ExcBaseFacts B newId initId bmB) (q : PySem.W.excIn X.K C bmB newId = true) (gC : X.mg x = some (.ref C)) (kC : PySem.W.keepIn X.K (.ref C) = true) (r : Raises X (.ref C)) (hg : Gl X x)
    (hdb : (x == ("__debug__" : Str)) = false := by decide) : PMk X (.Call (.Name x p) [] [] pos) (fun _ H Q => Q (.ref C) none H) := by
  intro pins s σ H Q I h
  refine wpAny_Call_Name_kw (ld_glob I hg gC ?_ hdb)
  obtain ⟨bm, N, nm, qn, bs, hdct, sn, sub, ab, col, dd, k0, k1, k2, k3, k5, mN, hC, hN, hni, T⟩ := exc_obj I.kIn q
  refine PySem.W.callWith_K0 I.kIn kC ?_
  exact wpAny_call_exc_subT F T hC hN hni (fun h' e hm => mk_of I hm r h (I.hok.gone hm.new)) (Nat.zero_le _)
theorem s_raise0 {x : Str} {p pos pos2 : Pos} (W : WX) (q : PySem.W.excIn X.K C He.veBase "ValueError.__new__" = true) (gC : X.mg x = some (.ref C)) (kC : PySem.W.keepIn X.K (.ref C) = true)
    (h1 : PySem.W.subIn X.K (.ref C) (.type "BaseException") = some true) (h2 : PySem.W.typeIn X.K (.ref C) = some (.type "type")) (tk : Takes X W) (hg : Gl X x := by rfl) (hc : X.calm = true := by rfl) (hdb : (x == ("__debug__" : Str)) = false := by decide) :
    PS X (.Raise (some (.Call (.Name x p) [] [] pos)) none pos2) (fun _ σ H => W (.ref C) none σ H) := ps_raise hc tk (pmk_own0 PySem.F.excBase_ValueError q gC kC (raises_own h1 h2) hg hdb)
/-- a body that may raise behind its first row -/
structure PRx (X : Cx) (b : List Stmt) (R : TS) (t1 : TS) (tt : TT) (tr : TS) (T1 : DS) (D : DT) : Prop where
  ps : PSs X b (tSeq t1 (tSeq (tIfS tt R tNext) tr))
  s1 : SS X.K t1 T1
  s2 : ST X.K tt D
theorem b_raise {s r : Stmt} {c : Expr} {rest : List Stmt} {pos : Pos} {R t1 : TS} {tt : TT} {T1 : DS} {D : DT} (h1 : PSx X s t1 T1) (h2 : PTx X c tt D) (hr : PS X r R) : PRx X (s :: .If c [r] [] pos :: rest) R t1 tt tNever T1 D :=
  ⟨pss_cons h1.ps (pss_cons (ps_if h2.pt (pss_one hr) pss_nil) pss_never), h1.sn, h2.sn⟩
end
/-- it raises an error of the class at C, and changes nothing that stands -/
def spX (K : Fg) (C : Addr) (ε : List PyData → Prop)  : L2.Sp := fun vs H _ E => ∃ H0 ds, Same H0 H ∧ DpAll K H0 vs ds ∧ ε ds ∧ ∀ H', Same H H' → E (.ref C) none H'
def spB (K : Fg) (C : Addr) (ρ : Ct) (ε : List PyData → Prop)  : L2.Sp := fun vs H Q E => spD K ρ vs H Q E ∨ spX K C ε vs H Q E
section
variable {P : Program} {w : World} {K : Fg} {mg : Str → Option Value} {base : Heap}
theorem fn_up {CX' : CXT} {k : Nat} {f : Addr} {fd : FuncData} {ps : List Str} {sp : L2.Sp} (F : FnOk P w K mg base CX0 k f fd ps sp) : FnOk P w K mg base CX' k f fd ps sp :=
  ⟨F.len, fun A outer s H args us vs Q E hr he hb hv hs => codeAny_mono (F.run A outer s H args us vs Q E hr he hb hv hs) fun r s' h => by
    cases r with
    | ok fl => cases fl <;> exact h
    | error e => exact h.elim⟩
theorem fn_or {CX : CXT} {k : Nat} {f : Addr} {fd : FuncData} {ps : List Str} {sp sp' : L2.Sp} (F : FnOk P w K mg base CX k f fd ps sp) (G : FnOk P w K mg base CX k f fd ps sp') : FnOk P w K mg base CX k f fd ps (fun vs H Q E => sp vs H Q E ∨ sp' vs H Q E) :=
  ⟨fun vs H Q E h => h.elim (F.len vs H Q E) (G.len vs H Q E), fun A outer s H args us vs Q E hr he hb hv hs => hs.elim (F.run A outer s H args us vs Q E hr he hb hv) (G.run A outer s H args us vs Q E hr he hb hv)⟩
theorem ok_both {x : Str} {st : Stmt} {N ps : List Str} {k : Nat} {ρ : Ct} {ε : List PyData → Prop} {C : Addr} (h : ∃ f fd, FnP K x st f fd ∧ mg x = some (.ref f)) (Sc : FnScope N ps (defScope st)) (hps : ps.length ≤ N.length)
    (hb : ∀ (kV doc pm : Value) (an : Option Addr) (cdv ct : Value) (us : List Value), us.length = ps.length → bindArgs (PySem.W.fnOf x x (defArgs st) (defBody st) (defScope st) .none kV doc pm an cdv ct) ⟨us, []⟩ = pure (ps.zip us))
    (len : ∀ ds Φ, ρ ds Φ → ds.length = ps.length) (lenE : ∀ ds, ε ds → ds.length = ps.length)
    (body : ∀ {f : Addr} (cdv : Value) (A : Around) (outer : List Env) (s : Shared) (H : Hp) (E : XK), Room k (A.deeper (envOfC x (defScope st) s.heap.objs.size f cdv)) →
      ∃ ts T, PBx (cxOf CX0 P w K mg base N x (defScope st) f cdv A outer s H E).nox (defBody st) ts T ∧ ∀ ds Φ, ρ ds Φ → T (endsD Φ) (startD N ds))
    (bodyE : ∀ {f : Addr} (cdv : Value) (A : Around) (outer : List Env) (s : Shared) (H : Hp) (E : XK), Room k (A.deeper (envOfC x (defScope st) s.heap.objs.size f cdv)) →
      ∃ t1 tt tr T1 D, PRx (cxOf (L2.CX P w) P w K mg base N x (defScope st) f cdv A outer s H E) (defBody st) (fun _ _ H' => E (.ref C) none H') t1 tt tr T1 D ∧
        ∀ ds, ε ds → T1 { nx := fun S => D S fun b _ => b = true, rt := fun _ _ => False } (startD N ds)) :
    ∃ f fd, mg x = some (.ref f) ∧ PySem.W.keepIn K (.ref f) = true ∧ Binds K fd ps [] ∧ FnOk P w K mg base (L2.CX P w) (k + 1) f fd ps (spB K C ρ ε) := by
  obtain ⟨f, fd, F, g⟩ := h
  refine ⟨f, fd, g, F.kp, F.bindsN hb, fn_or (fn_up (ok_bodyD F Sc hps len fun cdv A outer s H E hr => body cdv A outer s H E hr)) ?_⟩
  refine F.ok Sc (fun vs H Q E h => ?_) (fun cdv A outer s H vs Q E hr h => ?_)
  · obtain ⟨H0, ds, _, hd, r, _⟩ := h
    rw [Dps.len hd]
    exact lenE ds r
  · obtain ⟨H0, ds, e0, hd, r, kk⟩ := h
    obtain ⟨t1, tt, tr, T1, D, ⟨hP, h1, h2⟩, ht⟩ := bodyE cdv A outer s H E hr
    refine ⟨_, hP, h1 ⟨H, H0, fun _ => False⟩ H0 H _ (startD N ds) _ _ (start_sr e0 hd (by rw [lenE ds r]; exact hps)) (ht ds r) ⟨fun H1 H01 σ1 S1 e1 R1 p1 => ?_, fun _ _ _ _ _ _ _ _ _ q => q.elim, fun _ _ _ _ _ _ q => q.elim, fun _ _ _ _ _ _ q => q.elim⟩⟩
    refine h2 _ H01 H1 σ1 S1 _ _ R1 p1 fun b H2 H02 S2 e2 R2 p2 => ?_
    subst p2
    exact kk H2 fun b o z => R2.fr b o z fun z => z
/-- where bypass, slip raise -/
def EBypass : List PyData → Prop := fun ds => ∃ (s : Sh) (d : PyData) (k : Nat), ds = [d, nt k] ∧ Ok s ∧ Feas s.hard ∧ plainD d = true ∧ dep d ≤ 15 ∧ tuD d = shD s ∧ k < s.hard.length ∧ idle s k = false
def ESlip : List PyData → Prop := fun ds => ∃ (s : Sh) (d : PyData) (k : Nat), ds = [d, nt k] ∧ Ok s ∧ Feas s.hard ∧ plainD d = true ∧ dep d ≤ 15 ∧ tuD d = shD s ∧ k < s.hard.length ∧ idle s k = true
theorem r_bypass : ∀ ds, EBypass ds → dAsg (dCall CSureHard (dCons (dVar 0) (dCons (dVar 1) dNil))) (dgN 2) { nx := fun S => (dNot (dTst (dCall CIsIdle (dCons (dVar 2) (dCons (dVar 1) dNil))))) S fun b _ => b = true, rt := fun _ _ => False } (startD ["sheet", "k", "own", "i", "j", "far", "ways", "goods", "way", "met"] ds) := by
  rintro ds ⟨s, d, k, rfl, ok, f, p, dp, e, l, y⟩
  refine CSureHard.mk s d k _ ok f p dp e l (CIsIdle.mk s k _ ok l ?_)
  show (!idle s k) = true
  rw [y]
  rfl
theorem r_slip : ∀ ds, ESlip ds → dAsg (dCall CSureHard (dCons (dVar 0) (dCons (dVar 1) dNil))) (dgN 2) { nx := fun S => (dTst (dCall CIsIdle (dCons (dVar 2) (dCons (dVar 1) dNil)))) S fun b _ => b = true, rt := fun _ _ => False } (startD ["sheet", "k", "own", "i", "j", "far", "left", "gap", "most"] ds) := by
  rintro ds ⟨s, d, k, rfl, ok, f, p, dp, e, l, y⟩
  exact CSureHard.mk s d k _ ok f p dp e l (CIsIdle.mk s k _ ok l y)
theorem ok_bypass (T : Mg K mg) : ∃ f fd, mg "bypass" = some (.ref f) ∧ PySem.W.keepIn K (.ref f) = true ∧ Binds K fd ["sheet", "k"] [] ∧ FnOk P w K mg base (L2.CX P w) 25 f fd ["sheet", "k"] (spB K T.can CBypass EBypass) :=
  ok_both (T.fn (39, ("bypass" : Str)) (by decide)) sc39 (by decide) (fun _ _ _ _ _ _ us hl => match us, hl with | [_, _], _ => rfl) (fun _ _ h => by cases h <;> rfl) (fun ds h => by
    obtain ⟨s, d, k, rfl, _⟩ := h
    rfl) (fun cdv A outer s H E hr => ⟨_, R_bypass,
    (b_cons (s_set (i := 2) sc39.nd (pd_call (ok_sure_hard T) (hr.mono (by decide)) (pa_co (pd_var 0) (pa_co (pd_var 1) pa_no))))
      (b_cons (s_if (pt_no (pt_va (pd_call (ok_is_idle T) (hr.mono (by decide)) (pa_co (pd_var 2) (pa_co (pd_var 1) pa_no)))))
      (b_one s_never) b_nil)
      (b_cons (s_asg (pd_ix (pd_ix (pd_var 2) pd_int) (pd_var 1)) (gx_tup (gx_cons (gx_name (i := 3) sc39.nd) (gx_cons (gx_name (i := 4) sc39.nd) (gx_cons (gx_name (i := 5) sc39.nd) gx_nil)))))
      (b_cons (s_par (i := 6) (j := 7) sc39.nd (pd_new (pn_lst (pa_co (pd_tup (pa_co (pd_tup pa_no) (pa_co (pd_tup (pa_co (pd_var 3) pa_no)) pa_no))) pa_no))) (pd_new (pn_lst pa_no)))
      (b_cons (s_while PassesOwn.never (pt_eq hr (pd_len T.toMc (pa_co (pd_var 7) pa_no)) pd_int)
      (b_cons (s_set (i := 6) sc39.nd (pd_call (ok_longer_ways T) (hr.mono (by decide)) (pa_co (pd_var 2) (pa_co (pd_var 6) (pa_co (pd_var 1) pa_no)))))
      (b_one (s_lc (i := 7) (own := [("way", 8), ("met", 9)]) sc39.nd (px_seq (pd_var 6)) (blkOk_by (own := [("way", 8), ("met", 9)]) (N := n39) (sc := defScope (topS 39)) (by decide +kernel)) (fun _ _ _ _ _ => (gx_tup (gx_cons (gx_name (i := 8) sc39.nd) (gx_cons (gx_name (i := 9) sc39.nd) gx_nil)))) (fun _ _ _ _ _ => (pt_one (pt_w (pw_an (pt_eq hr (pd_ix (pd_var 9) (pd_neg pd_int)) (pd_var 4)) (pw_a1 (pt_ge (pd_call (ok_order T) (hr.mono (by decide)) (pa_co (pd_call (ok_ring_far T) (hr.mono (by decide)) (pa_co (pd_var 2) (pa_co (pd_var 8) pa_no))) (pa_co (pd_var 5) pa_no))) pd_int)))))) (fun _ _ _ _ _ => (pd_var 8)) (sw_true rfl rfl rfl (by decide +kernel))))))
      (b_one (s_ret (pd_min T.toMc hr (pa_co (pd_var 7) pa_no))))))))), go_bypass⟩) fun cdv A outer s H E hr => ⟨_, _, tNever, (dAsg (dCall CSureHard (dCons (dVar 0) (dCons (dVar 1) dNil))) (dgN 2)), (dNot (dTst (dCall CIsIdle (dCons (dVar 2) (dCons (dVar 1) dNil))))),
    b_raise (s_set (i := 2) sc39.nd (pd_call (ok_sure_hard T) (hr.mono (by decide)) (pa_co (pd_var 0) (pa_co (pd_var 1) pa_no)))) (pt_no (pt_va (pd_call (ok_is_idle T) (hr.mono (by decide)) (pa_co (pd_var 2) (pa_co (pd_var 1) pa_no))))) (s_raise0 (fun cls d _ H => E cls d H) T.can_x T.can_g T.can_p T.can_s T.can_t (by exact takes_of rfl rfl rfl rfl)), r_bypass⟩
theorem ok_slip (T : Mg K mg) : ∃ f fd, mg "slip" = some (.ref f) ∧ PySem.W.keepIn K (.ref f) = true ∧ Binds K fd ["sheet", "k"] [] ∧ FnOk P w K mg base (L2.CX P w) 25 f fd ["sheet", "k"] (spB K T.can CSlip ESlip) :=
  ok_both (T.fn (42, ("slip" : Str)) (by decide)) sc42 (by decide) (fun _ _ _ _ _ _ us hl => match us, hl with | [_, _], _ => rfl) (fun _ _ h => by cases h <;> rfl) (fun ds h => by
    obtain ⟨s, d, k, rfl, _⟩ := h
    rfl) (fun cdv A outer s H E hr => ⟨_, R_slip,
    (b_cons (s_set (i := 2) sc42.nd (pd_call (ok_sure_hard T) (hr.mono (by decide)) (pa_co (pd_var 0) (pa_co (pd_var 1) pa_no))))
      (b_cons (s_if (pt_va (pd_call (ok_is_idle T) (hr.mono (by decide)) (pa_co (pd_var 2) (pa_co (pd_var 1) pa_no))))
      (b_one s_never) b_nil)
      (b_cons (s_asg (pd_ix (pd_ix (pd_var 2) pd_int) (pd_var 1)) (gx_tup (gx_cons (gx_name (i := 3) sc42.nd) (gx_cons (gx_name (i := 4) sc42.nd) (gx_cons (gx_name (i := 5) sc42.nd) gx_nil)))))
      (b_cons (s_set (i := 6) sc42.nd (pd_call (ok_without T) (hr.mono (by decide)) (pa_co (pd_var 2) (pa_co (pd_tup (pa_co (pd_HARD T.toMc) (pa_co (pd_var 1) pa_no))) pa_no))))
      (b_cons (s_set (i := 7) sc42.nd (pd_ix (pd_call (ok_gaps_from T) (hr.mono (by decide)) (pa_co (pd_var 6) (pa_co (pd_var 3) pa_no))) (pd_var 4)))
      (b_cons (s_set (i := 8) sc42.nd (pd_if (pt_isN (pd_var 7)) (pd_call (ok_minus T) (hr.mono (by decide)) (pa_co (pd_var 5) (pa_co (pd_tup (pa_co pd_int (pa_co pd_int pa_no))) pa_no))) (pd_var 7)))
      (b_one (s_ret (pd_call (ok_some_layout T) (hr.mono (by decide)) (pa_co (pd_tup (pa_co (pd_ix (pd_var 6) pd_int) (pa_co (pd_tup (pa_st (pd_ix (pd_var 6) pd_int) (pa_co (pd_tup (pa_co (pd_var 4) (pa_co (pd_var 3) (pa_co (pd_call (ok_minus T) (hr.mono (by decide)) (pa_co (pd_NONE T.toMc) (pa_co (pd_var 8) pa_no))) pa_no)))) pa_no))) (pa_co (pd_tup pa_no) pa_no)))) pa_no)))))))))), go_slip⟩) fun cdv A outer s H E hr => ⟨_, _, tNever, (dAsg (dCall CSureHard (dCons (dVar 0) (dCons (dVar 1) dNil))) (dgN 2)), (dTst (dCall CIsIdle (dCons (dVar 2) (dCons (dVar 1) dNil)))),
    b_raise (s_set (i := 2) sc42.nd (pd_call (ok_sure_hard T) (hr.mono (by decide)) (pa_co (pd_var 0) (pa_co (pd_var 1) pa_no)))) (pt_va (pd_call (ok_is_idle T) (hr.mono (by decide)) (pa_co (pd_var 2) (pa_co (pd_var 1) pa_no)))) (s_raise0 (fun cls d _ H => E cls d H) T.can_x T.can_g T.can_p T.can_s T.can_t (by exact takes_of rfl rfl rfl rfl)), r_slip⟩
end
end Dw
set_option maxRecDepth 100000
set_option maxHeartbeats 4000000
/-! What the law hears: try, except. -/
namespace Dw
open PySem PySem.Spec PyProof.Rows L2
abbrev nH : List Str := ["_law_door", "_law_sheet", "_law_k", "error"]
theorem scH : FnScope nH ["_law_door", "_law_sheet", "_law_k"] (defScope (topS 58)) := ⟨rfl, rfl, rfl, by decide +kernel, rfl, by decide +kernel, by decide +kernel⟩
def rIsC (K : Fg) (C a : Addr) (cls : Value) (d : Option Addr) : List V → Hp → VK → Prop := fun xs H Q => cls = .ref C ∧ d = none ∧ rIsE K C a xs H Q
theorem call_isC {X : Cx} {a C : Addr} {oe : Obj} {pn : List (Addr × Obj)} {cls : Value} {d : Option Addr} (c : ExcC X.K C) (hz : Zc cls d oe) (hf : ∃ vs, oe.data = .fields vs) : CallR (X.suite a ((a, oe) :: pn)) (.builtin "isinstance") (rIsC X.K C a cls d) := by
  intro pins s σ H xs us Q I r h
  obtain ⟨e1, e2, h⟩ := h
  subst e1
  subst e2
  exact call_isE c hz hf pins s σ H xs us Q I r h
def tBody (K : Fg) (C : Addr) (W : WX) : TS := tRet (tIf (tTest (tOp (rEqD K) (tVar 0) (tC (.int 0)))) (tCallS (spB K C CBypass EBypass) (WE W) (tCons (tVar 1) (tCons (tVar 2) tNil))) (tCallS (spB K C CSlip ESlip) (WE W) (tCons (tVar 1) (tCons (tVar 2) tNil))))
def tSuite (K : Fg) (C : Addr) : Addr → Value → Option Addr → TS := fun a cls d => tRet (tLst (tCons (tC (.str "can not")) (tCons (tCB (rIsC K C a cls d) (tCons (tVar 3) (tCons (tC (.ty "ValueError")) tNil))) tNil)))
def tHeard (K : Fg) (C : Addr) : TS := fun D σ H => tBody K C (wAs K (.ref C) 3 (tSuite K C) (fun _ _ _ _ => False) D) D σ H
section
variable {P : Program} {w : World} {K : Fg} {mg : Str → Option Value} {base : Heap}
theorem sem_heard (T : Mg K mg) {vs : List V} {H : Hp} {Q : VK} {E : XK} (h : spD K CLawHeard vs H Q E) : tHeard K T.can { nx := fun _ H' => Q .non H', rt := Q } (start nH vs) H := by
  obtain ⟨H0, ds, Φ, e0, hd, r, kk⟩ := h
  have out : ∀ {H' H0' : Hp} {σ' : L2.St} {S' : DSt} {v : V} {d : PyData}, SR K ⟨H, H0, fun _ => False⟩ H0' H' σ' S' → Dp K H0' v d → Φ d → Q v H' := fun {H' H0' σ' S' v d} R hv q =>
    kk v d H' H0' (fun b o z => R.fr b o z fun z => z) R.e0 R.le (fun b o z => by
      rcases R.nw b o z with a | a | a
      · exact Or.inl a
      · exact Or.inr a
      · exact a.elim) hv q
  -- the suite
  have suite : ∀ (v1 v2 v3 : V) (H01 H1 H' : Hp) (S1 : DSt), SR K ⟨H, H0, fun _ => False⟩ H01 H1 (start nH [v1, v2, v3]) S1 → Same H1 H' → Φ canNotD →
      wAs K (.ref T.can) 3 (tSuite K T.can) (fun _ _ _ _ => False) { nx := fun _ H' => Q .non H', rt := Q } (.ref T.can) none (start nH [v1, v2, v3]) H' := fun v1 v2 v3 H01 H1 H' S1 R1 hs hΦ => by
    refine ⟨true, T.can_e, fun _ a ha => ?_, fun z => by cases z⟩
    have R3 := R1.ext (Same.refl H01) (R1.le.trans hs) hs fun b o z => Or.inl z
    refine ⟨.ref a, rfl, rfl, rfl, .ty "ValueError", .type "ValueError", true, rfl, fun u hu => hu, T.can_k, by show 2 ≤ sizeLine; decide, fun p hp => ?_⟩
    obtain ⟨R4, e4, hv⟩ := R3.lst (vs := [.str "can not", .bl true]) (ds := [.str "can not", .bool true]) (.cons (.str _) (.cons (.bl true) .nil)) hp
    exact out R4 hv hΦ
  cases r with
  | by1 s d k Φ ok f p dp e l hh =>
    have hdk := hd
    cases hd with
    | @cons v1 _ xs _ h1 hd => cases hd with
      | @cons v2 _ xs _ h2 hd => cases hd with
        | @cons v3 _ xs _ h3 hd =>
          cases hd
          have R := start_sr (N := nH) e0 hdk (Nat.le_of_ble_eq_true rfl)
          refine st_test (se_op s2_eq (se_var (i := 0)) (se_c (v := .int 0) (d := .int 0) fun _ => .int 0)) _ H0 H _ _ (fun b S' => b = true ∧ S' = startD nH [.int 0, d, nt k]) _ R ⟨rfl, rfl, rfl, rfl⟩ fun b H1 H01 S1 f1 R1 p1 => ?_
          obtain ⟨rfl, rfl⟩ := p1
          refine iteY rfl (sa_cons (se_var (i := 1)) (sa_cons (se_var (i := 2)) sa_nil) _ H01 H1 _ _ (fun ds' S' => ds' = [d, nt k]) _ R1 rfl fun vs1 ds1 H2 H02 S2 f2 R2 hv1 p2 => ?_)
          subst p2
          cases y : idle s k with
          | true =>
            refine Or.inl ⟨H02, _, Φ, R2.le, hv1, CBypass.mk s d k _ ok f p dp e l y fun ks hk => hh _ ?_, fun v d' H' H0' g1 g2 g3 g4 hv q => out (R2.ext g2 g3 g1 g4) hv q⟩
            rw [if_pos y]
            exact ⟨ks, hk, rfl⟩
          | false =>
            refine Or.inr ⟨H02, _, R2.le, hv1, ⟨s, d, k, rfl, ok, f, p, dp, e, l, y⟩, fun H' hs => suite v1 v2 v3 H02 H2 H' S2 R2 hs (hh _ ?_)⟩
            rw [if_neg (by rw [y]; exact Bool.false_ne_true)]
  | sl s d k Φ ok f p dp e l hh =>
    have hdk := hd
    cases hd with
    | @cons v1 _ xs _ h1 hd => cases hd with
      | @cons v2 _ xs _ h2 hd => cases hd with
        | @cons v3 _ xs _ h3 hd =>
          cases hd
          have R := start_sr (N := nH) e0 hdk (Nat.le_of_ble_eq_true rfl)
          refine st_test (se_op s2_eq (se_var (i := 0)) (se_c (v := .int 0) (d := .int 0) fun _ => .int 0)) _ H0 H _ _ (fun b S' => b = false ∧ S' = startD nH [.int 1, d, nt k]) _ R ⟨rfl, rfl, rfl, rfl⟩ fun b H1 H01 S1 f1 R1 p1 => ?_
          obtain ⟨rfl, rfl⟩ := p1
          refine iteN rfl (sa_cons (se_var (i := 1)) (sa_cons (se_var (i := 2)) sa_nil) _ H01 H1 _ _ (fun ds' S' => ds' = [d, nt k]) _ R1 rfl fun vs1 ds1 H2 H02 S2 f2 R2 hv1 p2 => ?_)
          subst p2
          cases y : idle s k with
          | false =>
            rw [if_neg (by rw [y]; exact Bool.false_ne_true)] at hh
            exact Or.inl ⟨H02, _, Φ, R2.le, hv1, CSlip.mk s d k _ ok f p dp e l y hh, fun v d' H' H0' g1 g2 g3 g4 hv q => out (R2.ext g2 g3 g1 g4) hv q⟩
          | true =>
            rw [if_pos y] at hh
            exact Or.inr ⟨H02, _, R2.le, hv1, ⟨s, d, k, rfl, ok, f, p, dp, e, l, y⟩, fun H' hs => suite v1 v2 v3 H02 H2 H' S2 R2 hs hh⟩
theorem ok_law_heard (T : Mg K mg) : OkD P w K mg base CX0 26 "_law_heard" ["_law_door", "_law_sheet", "_law_k"] (spD K CLawHeard) := by
  obtain ⟨f, fd, F, g⟩ := T.fn (58, ("_law_heard" : Str)) (by decide)
  obtain ⟨f1, fd1, g1, k1, b1, F1⟩ := ok_bypass (P := P) (w := w) (base := base) T
  obtain ⟨f2, fd2, g2, k2, b2, F2⟩ := ok_slip (P := P) (w := w) (base := base) T
  refine ⟨f, fd, g, F.kp, F.bindsN fun _ _ _ _ _ _ us hl => match us, hl with | [_, _, _], _ => rfl, F.ok scH (fun vs H Q E h => ?_) (fun cdv A outer s H vs Q E hr h => ⟨tHeard K T.can, PSs.nox ?_, sem_heard T h⟩)⟩
  · obtain ⟨H0, ds, Φ, _, hd, r, _⟩ := h
    rw [Dps.len hd]
    cases r <;> rfl
  · exact pss_one (ps_try_as (i := 3) (tb := tBody K T.can) (ts := tSuite K T.can) (Wout := fun _ _ _ _ => False) rfl rfl scH.nd rfl rfl ⟨rfl, by decide, Or.inl T.can_g⟩ takes0
      (fun W pn xe tk _ => pss_one (ps_ret (pe_ifExp (pt_eq hr (pd_var 0) pd_int).pt
        (pe_callS F1 (hr.mono (by decide)) rfl g1 k1 b1 (fun σ => passAt tk σ) (by exact (pa_co (pd_var 1) (pa_co (pd_var 2) pa_no)).pa))
        (pe_callS F2 (hr.mono (by decide)) rfl g2 k2 b2 (fun σ => passAt tk σ) (by exact (pa_co (pd_var 1) (pa_co (pd_var 2) pa_no)).pa)))))
      (fun a oe cls d pn hz hf => pss_one (ps_ret (pe_lst (pa_cons pe_str (pa_cons
        (pe_callB (call_isC T.can_c hz hf) rfl (T.free _ (by decide)) (by decide +kernel) (pa_cons (pe_var (i := 3) rfl (Or.inl rfl)) (pa_cons (pe_bltn rfl (T.free _ (by decide)) boot_ValueError rfl (by decide) (by decide)) pa_nil)) (by decide) (by decide)) pa_nil))))))
end
end Dw
set_option maxRecDepth 100000
set_option maxHeartbeats 4000000
/-! The defs keep their contracts: printed by gen.py. -/
namespace Dw
open PySem PySem.Spec PyProof.Rows L2
section
variable {P : Program} {w : World} {K : Fg} {mg : Str → Option Value} {base : Heap}
theorem ok_law_by_hand_right (T : Mg K mg) : OkD P w K mg base CX0 27 "_law_by_hand_right" [] (spD K CLawByHandRight) :=
  ok_of (T.fn (60, "_law_by_hand_right") (by decide)) sc60 (by decide) (fun _ _ _ _ _ _ us hl => match us, hl with | [], _ => rfl) (fun _ _ h => by cases h <;> rfl) fun cdv A outer s H E hr => ⟨_, R_law_by_hand_right,
    (b_cons (s_par (i := 0) (j := 1) sc60.nd (pd_call0 (ok_law_boxes T) (hr.mono (by decide))) (pd_tup (pa_co (pd_tup (pa_co pd_int (pa_co pd_int pa_no))) (pa_co (pd_tup (pa_co pd_int (pa_co pd_int pa_no))) (pa_co (pd_tup (pa_co pd_int (pa_co pd_int pa_no))) pa_no)))))
      (b_cons (s_set (i := 2) sc60.nd (pd_new (pn_lst (pa_co (pd_call (ok_idle_hard T) (hr.mono (by decide)) (pa_co (pd_var 0) pa_no)) (pa_co (pd_call (ok_law_heard T) (hr.mono (by decide)) (pa_co pd_int (pa_co (pd_var 0) (pa_co pd_int pa_no)))) (pa_co (pd_call (ok_law_heard T) (hr.mono (by decide)) (pa_co pd_int (pa_co (pd_var 0) (pa_co pd_int pa_no)))) (pa_co (pd_call (ok_law_heard T) (hr.mono (by decide)) (pa_co pd_int (pa_co (pd_var 0) (pa_co pd_int pa_no)))) (pa_co (pd_call (ok_is_slip T) (hr.mono (by decide)) (pa_co (pd_var 0) (pa_co pd_int (pa_co (pd_var 1) pa_no)))) pa_no))))))))
      (b_cons (s_set (i := 3) sc60.nd (pd_new (pn_lst (pa_co (pd_tup (pa_co pd_int pa_no)) (pa_co (pd_tup (pa_co (pd_tup (pa_co pd_str (pa_co pd_int pa_no))) (pa_co (pd_tup (pa_co pd_str (pa_co pd_int pa_no))) pa_no))) (pa_co (pd_new (pn_lst (pa_co pd_str (pa_co pd_bl pa_no)))) (pa_co (pd_new (pn_lst (pa_co pd_str (pa_co pd_bl pa_no)))) (pa_co pd_bl pa_no))))))))
      (b_cons (s_set (i := 2) sc60.nd (pd_catL (pd_var 2) (pd_new (pn_lst (pa_co (pd_call (ok_is_bypass T) (hr.mono (by decide)) (pa_co (pd_var 0) (pa_co pd_int (pa_co (pd_tup (pa_co (pd_tup (pa_co pd_str (pa_co pd_int pa_no))) pa_no)) pa_no)))) (pa_co (pd_call (ok_is_slip T) (hr.mono (by decide)) (pa_co (pd_var 0) (pa_co pd_int (pa_co (pd_tup (pa_co (pd_tup (pa_co pd_int (pa_co pd_int pa_no))) (pa_co (pd_tup (pa_co pd_int (pa_co pd_int pa_no))) (pa_co (pd_tup (pa_co pd_int (pa_co pd_int pa_no))) pa_no)))) pa_no)))) pa_no))))))
      (b_one (s_ret (pd_call (ok_law_same T) (hr.mono (by decide)) (pa_co (pd_var 2) (pa_co (pd_catL (pd_var 3) (pd_new (pn_lst (pa_co pd_bl (pa_co pd_bl pa_no))))) pa_no))))))))), go_law_by_hand_right⟩
end
end Dw
set_option maxRecDepth 100000
set_option maxHeartbeats 4000000
/-! Lists that the caller lends: an urn, a list that is only read. -/
namespace Dw
open PySem PySem.Spec PyProof.Rows L2

def onU (S : DSt) (i : Nat) (k : Addr → List PyData → Prop) : Prop := match S.o[i]? with
  | some (some (.fix l x)) => k l x
  | _ => False
theorem onU_of {S : DSt} {i : Nat} {k : Addr → List PyData → Prop} (h : onU S i k) : ∃ l x, S.o[i]? = some (some (.fix l x)) ∧ k l x := by
  unfold onU at h
  split at h
  · exact ⟨_, _, by assumption, h⟩
  · exact h.elim
def dIxU (i : Nat) (U : DE) : DE := fun S Ψ => onU S i fun _ _ => U S fun y S1 => onU S1 i fun _ xs => onI y fun j => onO (atI xs j) fun d => Ψ d S1
def dgU (i : Nat) (U : DE) : DG := fun d S Ψ => onU S i fun _ _ => U S fun y S1 => onI y fun j => onU S1 i fun l xs => onO (ixN xs.length j) fun m => Ψ (S1.setO i (.fix l (xs.set m d)))
def dLenU (i : Nat) : DE := fun S Ψ => onU S i fun _ xs => Ψ (.int (xs.length : Nat)) S
section
variable {K : Fg} {G : Gh} {H0 H H0' H' : Hp} {σ : L2.St} {S : DSt} {tb : TE} {U : DE}
theorem SR.ownU {i : Nat} {l : Addr} {xs : List PyData} (R : SR K G H0 H σ S) (h : S.o[i]? = some (some (.fix l xs))) : ∃ vs, σ[i]? = some (some (V.ref l)) ∧ H l = some (.lst vs) ∧ DpAll K H0 vs xs ∧ H0 l = none ∧ (G.He l = none ∨ G.M l) := by
  obtain ⟨l', a, b, m, e, vs, c, d⟩ := R.own i _ h
  subst e
  exact ⟨vs, a, c, d, b, m⟩
theorem se_ixU {i : Nat} (hb : SE K tb U) : SE K (tOp (rIxL K) (tVar i) tb) (dIxU i U) := fun G H0 H σ S Ψ Q R p k => by
  obtain ⟨l, xs, h1, p1⟩ := onU_of p
  obtain ⟨vs, a, _⟩ := R.ownU h1
  refine ⟨_, a, hb G H0 H σ S _ _ R p1 fun y e H1 H01 S1 e1 R1 hy p2 => ?_⟩
  obtain ⟨l2, zs, h2, p3⟩ := onU_of p2
  obtain ⟨ws, a2, b2, c2, _⟩ := R1.ownU h2
  rw [a] at a2
  cases a2
  obtain ⟨j, rfl, p4⟩ := onI_of p3
  obtain ⟨d, hd, p5⟩ := onO_of p4
  obtain ⟨v, hv, hvd⟩ := atI_dps c2 hd
  exact ⟨l, ws, j, v, rfl, dp_intV hy, SqL.of b2, hv, k v d H1 H01 S1 e1 R1 hvd p5⟩
theorem sg_setU {i : Nat} (hb : SE K tb U) : SG K (gSub (tVar i) tb rSetL) (dgU i U) [] := fun G H0 H σ S v d Ψ Q R hv p k => by
  obtain ⟨l, xs, h1, p1⟩ := onU_of p
  obtain ⟨vs, a, _⟩ := R.ownU h1
  refine ⟨_, a, hb G H0 H σ S _ _ R p1 fun y e H1 H01 S1 e1 R1 hy p2 => ?_⟩
  obtain ⟨j, rfl, p3⟩ := onI_of p2
  obtain ⟨l2, zs, h2, p4⟩ := onU_of p3
  obtain ⟨m, hm, p5⟩ := onO_of p4
  obtain ⟨ws, a2, b2, c2, _, mine⟩ := R1.ownU h2
  rw [a] at a2
  cases a2
  refine ⟨l, ws, j, m, rfl, dp_intV hy, b2, by rw [Dps.len c2]; exact hm, ?_⟩
  exact k _ H01 σ _ e1 (R1.mut (o' := .lst (ws.set m v)) (ob' := .fix l (zs.set m d)) h2 a ⟨mine, rfl, _, upd_same, Dps.set (dp_up e1 _ _ hv) m c2⟩) ⟨rfl, fun _ _ => rfl⟩ p5
theorem se_lenU {i : Nat} : SE K (tCB (rLen K) (tCons (tVar i) tNil)) (dLenU i) := fun G H0 H σ S Ψ Q R p k => by
  obtain ⟨l, xs, h1, p1⟩ := onU_of p
  obtain ⟨ws, a, b, c, _⟩ := R.ownU h1
  refine ⟨_, a, l, ws, rfl, Or.inl (SqL.of b), ?_⟩
  rw [Dps.len c]
  exact k _ _ H H0 S (Same.refl _) R (.int _) p1
end

/-! ### the urn -/
structure Ur where
  a : Int
  b : Int
  c : Int
def urD (u : Ur) : List PyData := [.int u.a, .int u.b, .int u.c]
def urV (u : Ur) : List V := [.int u.a, .int u.b, .int u.c]
theorem ur_dp (K : Fg) (H : Hp) (u : Ur) : DpAll K H (urV u) (urD u) := .cons (.int _) (.cons (.int _) (.cons (.int _) .nil))
theorem ur_eq {K : Fg} {H : Hp} {u : Ur} {vs : List V} (h : DpAll K H vs (urD u)) : vs = urV u := by
  cases h with
  | cons a h => cases h with
    | cons b h => cases h with
      | cons c h =>
        cases h
        rw [dp_intV a, dp_intV b, dp_intV c]
        rfl
abbrev CtU := Ur → List PyData → (PyData → Ur → Prop) → Prop
/-- f(urn, ..) -/
def spU (K : Fg) (ρ : CtU) : L2.Sp := fun vs H Q _ => ∃ H0 l vs' ds u Φ, vs = .ref l :: vs' ∧ Same H0 H ∧ H0 l = none ∧ H l = some (.lst (urV u)) ∧ DpAll K H0 vs' ds ∧ ρ u ds Φ ∧
  ∀ v d H' H0' u', (∀ b o, b ≠ l → H b = some o → H' b = some o) → H' l = some (.lst (urV u')) → Same H0 H0' → Same H0' H' → (∀ b o, H0' b = some o → H0 b = some o ∨ H b = none) → Dp K H0' v d → Φ d u' → Q v H'
/-- f(urn, xs), xs a list that is read -/
def spO (K : Fg) (ρ : CtU) : L2.Sp := fun vs H Q _ => ∃ H0 l m ws ds u Φ, vs = [.ref l, .ref m] ∧ l ≠ m ∧ Same H0 H ∧ H0 l = none ∧ H0 m = none ∧ H l = some (.lst (urV u)) ∧ H m = some (.lst ws) ∧ DpAll K H0 ws ds ∧ ρ u ds Φ ∧
  ∀ v d H' H0' u', (∀ b o, b ≠ l → H b = some o → H' b = some o) → H' l = some (.lst (urV u')) → Same H0 H0' → Same H0' H' → (∀ b o, H0' b = some o → H0 b = some o ∨ H b = none) → Dp K H0' v d → Φ d u' → Q v H'
def onUr (xs : List PyData) (k : Ur → Prop) : Prop := match xs with
  | [.int a, .int b, .int c] => k ⟨a, b, c⟩
  | _ => False
theorem onUr_of {xs : List PyData} {k : Ur → Prop} (h : onUr xs k) : ∃ u, xs = urD u ∧ k u := by
  match xs, h with
  | [.int a, .int b, .int c], h => exact ⟨⟨a, b, c⟩, rfl, h⟩
def dCallU (ρ : CtU) (i : Nat) (L : DA) : DE := fun S Ψ => onU S i fun _ _ => L S fun ds S1 => onU S1 i fun l xs => onUr xs fun u => ρ u ds fun d u' => Ψ d (S1.setO i (.fix l (urD u')))
/-- f(urn, xs), xs our own -/
def dCallO (ρ : CtU) (i j : Nat) : DE := fun S Ψ => onU S i fun l xs => onUr xs fun u => onOL S j fun ds => ρ u ds fun d u' => Ψ d (S.setO i (.fix l (urD u')))
section
variable {K : Fg} {G : Gh} {H0 H H0' H' : Hp} {σ : L2.St} {S : DSt} {i : Nat} {l : Addr}
/-- behind a call that changed what stands at l alone -/
theorem SR.lent {o o' : HO} {ob ob' : Ob} (R : SR K G H0 H σ S) (hi : S.o[i]? = some (some ob)) (hl : σ[i]? = some (some (V.ref l))) (ho : H l = some o) (ho' : H' l = some o') (fr : ∀ b x, b ≠ l → H b = some x → H' b = some x) (e0 : Same H0 H0') (le : Same H0' H')
    (nw : ∀ b x, H0' b = some x → H0 b = some x ∨ H b = none) (h : ObR K G H0' H' l ob') : SR K G H0' H' σ (S.setO i ob') := by
  obtain ⟨l', a, hn, _⟩ := R.own i ob hi
  rw [hl] at a
  cases a
  have hn' : H0' l = none := by
    cases q : H0' l with
    | none => rfl
    | some x =>
      rcases nw l x q with z | z
      · rw [hn] at z
        cases z
      · rw [ho] at z
        cases z
  have R1 : SR K G H0' (upd H' l o) σ S := R.ext e0 (fun b x e => by
    have hb : b ≠ l := fun z => by
      rw [z, hn'] at e
      cases e
    rw [upd_ne hb]
    exact le b x e) (fun b x e => by
    by_cases hb : b = l
    · subst hb
      rw [upd_same, ← e, ho]
    · rw [upd_ne hb]
      exact fr b x hb e) nw
  have e2 : upd (upd H' l o) l o' = H' := by
    funext b
    by_cases hb : b = l
    · subst hb
      rw [upd_same, ho']
    · rw [upd_ne hb, upd_ne hb]
  have R2 := R1.mut (o' := o') (ob' := ob') hi hl (by rw [e2]; exact h)
  rw [e2] at R2
  exact R2
theorem se_callU {ta : TA} {L : DA} {ρ : CtU} {E : XK} (h : SA K ta L) : SE K (tCall (spU K ρ) [] E (tCons (tVar i) ta)) (dCallU ρ i L) := fun G H0 H σ S Ψ Q R p k => by
  obtain ⟨l, xs, h1, p1⟩ := onU_of p
  obtain ⟨vs, a, _⟩ := R.ownU h1
  refine ⟨_, a, h G H0 H σ S _ _ R p1 fun vs1 ds H1 H01 S1 e1 R1 hv p2 => ?_⟩
  obtain ⟨l2, zs, h2, p3⟩ := onU_of p2
  obtain ⟨u, rfl, p4⟩ := onUr_of p3
  obtain ⟨ws, a2, b2, c2, d2, mine⟩ := R1.ownU h2
  rw [a] at a2
  cases a2
  have ew := ur_eq c2
  subst ew
  refine ⟨H01, l, vs1, ds, u, _, by rw [List.append_nil], R1.le, d2, b2, hv, p4, fun v d H' H0' u' f1 f2 f3 f4 f5 hd q => ?_⟩
  have mine' : G.He l = none ∨ G.M l := mine
  exact k v d H' H0' _ (e1.trans f3) (R1.lent (ob' := .fix l (urD u')) h2 a b2 f2 f1 f3 f4 f5 ⟨mine', rfl, _, f2, ur_dp K H0' u'⟩) hd q
theorem se_callO {j : Nat} {ρ : CtU} {E : XK} (hij : i ≠ j) : SE K (tCall (spO K ρ) [] E (tCons (tVar i) (tCons (tVar j) tNil))) (dCallO ρ i j) := fun G H0 H σ S Ψ Q R p k => by
  obtain ⟨l, xs, h1, p1⟩ := onU_of p
  obtain ⟨u, rfl, p2⟩ := onUr_of p1
  obtain ⟨ds, h2, p3⟩ := onOL_of p2
  obtain ⟨vs, a, b, c, d, mine⟩ := R.ownU h1
  obtain ⟨m, ws, a2, b2, c2, d2⟩ := R.ownL h2
  have ew := ur_eq c
  subst ew
  refine ⟨_, a, _, a2, H0, l, m, ws, ds, u, _, rfl, fun z => ?_, R.le, d, d2, b, b2, c2, p3, fun v d' H' H0' u' f1 f2 f3 f4 f5 hd q => ?_⟩
  · subst z
    exact R.ne i j _ _ _ hij h1 h2 a a2
  · exact k v d' H' H0' _ f3 (R.lent (ob' := .fix l (urD u')) h1 a b f2 f1 f3 f4 f5 ⟨mine, rfl, _, f2, ur_dp K H0' u'⟩) hd q
end

/-! ### defs that take the urn -/
def endsU (Φ : PyData → Ur → Prop) (l : Addr) : DEnds := { nx := fun _ => False, rt := fun d S => ∃ u, S.o[0]? = some (some (.fix l (urD u))) ∧ Φ d u }
def startU (N : List Str) (l : Addr) (u : Ur) (ds : List PyData) : DSt := ⟨none :: (ds.map some ++ List.replicate (N.length - 1 - ds.length) none), some (.fix l (urD u)) :: List.replicate (N.length - 1) none⟩
def startO (N : List Str) (l m : Addr) (u : Ur) (ds : List PyData) : DSt := ⟨List.replicate N.length none, some (.fix l (urD u)) :: some (.fix m ds) :: List.replicate (N.length - 2) none⟩
section
variable {K : Fg} {H0 H : Hp}
theorem rep_no {α : Type} {n i : Nat} {x : α} : (List.replicate n (none : Option α))[i]? ≠ some (some x) := fun q => by
  rw [List.getElem?_replicate] at q
  split at q <;> cases q
theorem startU_sr {N : List Str} {l : Addr} {u : Ur} {vs : List V} {ds : List PyData} (e : Same H0 H) (hl : H0 l = none) (hu : H l = some (.lst (urV u))) (h : DpAll K H0 vs ds) (hn : ds.length + 1 ≤ N.length) :
    SR K ⟨H, H0, fun b => b = l⟩ H0 H (L2.start N (.ref l :: vs)) (startU N l u ds) where
  le := e
  fr := fun _ _ q _ => q
  lv := fun _ q => q
  e0 := Same.refl _
  nw := fun _ _ q => Or.inl q
  ln := by
    unfold L2.start startU
    simp only [List.length_append, List.length_map, List.length_replicate, List.length_cons, Dps.len h]
    omega
  lo := by
    unfold startU
    simp only [List.length_append, List.length_map, List.length_replicate, List.length_cons]
    omega
  dat := fun i d q => by
    cases i with
    | zero => cases q
    | succ i =>
      have q' : (ds.map some ++ List.replicate (N.length - 1 - ds.length) none)[i]? = some (some d) := q
      have hi : i < ds.length := by
        refine Nat.lt_of_not_le fun z => ?_
        rw [List.getElem?_append_right (by rw [List.length_map]; exact z)] at q'
        exact rep_no q'
      rw [List.getElem?_append_left (by rw [List.length_map]; exact hi), List.getElem?_map] at q'
      have q2 : ds[i]? = some d := by
        cases z : ds[i]? with
        | none =>
          rw [z] at q'
          cases q'
        | some c =>
          rw [z] at q'
          exact Option.some.inj q'
      obtain ⟨v, hv, hvd⟩ := Dps.get h q2
      refine ⟨v, ?_, hvd⟩
      show ((V.ref l :: vs).map some ++ _)[i + 1]? = _
      rw [List.getElem?_append_left (by rw [List.length_map, List.length_cons, Dps.len h]; omega), List.getElem?_map, List.getElem?_cons_succ, hv]
      rfl
  own := fun i ob q => by
    cases i with
    | zero =>
      cases q
      exact ⟨l, rfl, hl, Or.inr rfl, rfl, _, hu, ur_dp K H0 u⟩
    | succ i => exact absurd q rep_no
  ne := fun i j a b x hij h1 h2 => by
    cases i with
    | zero =>
      cases j with
      | zero => exact absurd rfl hij
      | succ j => exact absurd h2 rep_no
    | succ i => exact absurd h1 rep_no
theorem startO_sr {N : List Str} {l m : Addr} {u : Ur} {ws : List V} {ds : List PyData} (e : Same H0 H) (hlm : l ≠ m) (hl : H0 l = none) (hm : H0 m = none) (hu : H l = some (.lst (urV u))) (hw : H m = some (.lst ws)) (h : DpAll K H0 ws ds) (hn : 2 ≤ N.length) :
    SR K ⟨H, H0, fun b => b = l ∨ b = m⟩ H0 H (L2.start N [.ref l, .ref m]) (startO N l m u ds) where
  le := e
  fr := fun _ _ q _ => q
  lv := fun _ q => q
  e0 := Same.refl _
  nw := fun _ _ q => Or.inl q
  ln := by
    unfold L2.start startO
    simp only [List.length_append, List.length_map, List.length_replicate, List.length_cons, List.length_nil]
    omega
  lo := by
    unfold startO
    simp only [List.length_replicate, List.length_cons]
    omega
  dat := fun i d q => absurd q rep_no
  own := fun i ob q => by
    cases i with
    | zero =>
      cases q
      exact ⟨l, rfl, hl, Or.inr (Or.inl rfl), rfl, _, hu, ur_dp K H0 u⟩
    | succ i =>
      cases i with
      | zero =>
        cases q
        exact ⟨m, rfl, hm, Or.inr (Or.inr rfl), rfl, _, hw, h⟩
      | succ i => exact absurd q rep_no
  ne := fun i j a b x hij h1 h2 h3 h4 => by
    match i, j, hij, h1, h2, h3, h4 with
    | 0, 0, hij, _, _, _, _ => exact absurd rfl hij
    | 1, 1, hij, _, _, _, _ => exact absurd rfl hij
    | 0, 1, _, _, _, h3, h4 =>
      cases h3
      cases h4
      exact hlm rfl
    | 1, 0, _, _, _, h3, h4 =>
      cases h3
      cases h4
      exact hlm rfl
    | i + 2, _, _, h1, _, _, _ => exact absurd h1 rep_no
    | _, j + 2, _, _, h2, _, _ => exact absurd h2 rep_no
end
section
variable {X : Cx} {a b e : Expr} {es : List Expr} {tb : TE} {tr : TA} {U : DE} {L : DA} {pos p p2 : Pos} {k : Nat}
theorem pd_ixU (i : Nat) {x : Str} (h2 : PDx X b tb U) (hs : PlainIx b := by exact fun _ _ => rfl) (hN : X.N[i]? = some x := by rfl) (hv : Vis X.env.scope x := by first | exact Or.inl rfl | exact Or.inr (Or.inl rfl) | exact Or.inr (Or.inr rfl)) (hd : (x == ("__debug__" : Str)) = false := by decide)
    (hcd : (x == ("__classdict__" : Str)) = false := by decide) : PDx X (.Subscript (.Name x p2) b pos) (tOp (rIxL X.K) (tVar i) tb) (dIxU i U) := ⟨pe_ix ix_list (pe_var hN hv hd hcd) h2.pe hs, se_ixU h2.sn⟩
theorem gx_setU (i : Nat) {x : Str} (h2 : PDx X b tb U) (hN : X.N[i]? = some x := by rfl) (hv : Vis X.env.scope x := by first | exact Or.inl rfl | exact Or.inr (Or.inl rfl) | exact Or.inr (Or.inr rfl)) (hd : (x == ("__debug__" : Str)) = false := by decide)
    (hcd : (x == ("__classdict__" : Str)) = false := by decide)
    (ha : ∀ v, assign (.Subscript (.Name x p2) b pos) X.env v = (do
      let ov ← holding [v] (eval (.Name x p2) X.env)
      let iv ← holding [v, ov] (eval b X.env)
      standAt pos
      holding [v, ov, iv] (setItem ov iv v)
      release [v, ov, iv] []) := by intro _; rfl) : PGx X (.Subscript (.Name x p2) b pos) (gSub (tVar i) tb rSetL) (dgU i U) [] := ⟨pg_sub (pe_var hN hv hd hcd) h2.pe set_list ha, sg_setU h2.sn⟩
theorem pd_lenU (i : Nat) {x : Str} (m : Mc X.K X.mg) (hN : X.N[i]? = some x := by rfl) (hv : Vis X.env.scope x := by first | exact Or.inl rfl | exact Or.inr (Or.inl rfl) | exact Or.inr (Or.inr rfl)) (hd : (x == ("__debug__" : Str)) = false := by decide)
    (hcd : (x == ("__classdict__" : Str)) = false := by decide)
    (hg : Gl X "len" := by rfl) (he : starEach [.Name x p2] X.env = (false, eval (.Name x p2) X.env) :: starEach [] X.env := by rfl) (hpl : (backTo pos (starEach [] X.env)).any (·.1) = false := by rfl) :
    PDx X (.Call (.Name "len" p) [.Name x p2] [] pos) (tCB (rLen X.K) (tCons (tVar i) tNil)) (dLenU i) := ⟨pe_callB call_len_seq hg (mfree m _ (by decide)) PySem.boot_len (pa_cons (pe_var hN hv hd hcd) pa_nil he) (by decide) (by decide) he hpl, se_lenU⟩
theorem pd_callU (i : Nat) {x f : Str} {ps : List Str} {ρ : CtU} (G : OkD X.prog X.w X.K X.mg X.base CX0 k f ps (spU X.K ρ)) (hr : Room k X.A) (h : PAx X es tr L) (hN : X.N[i]? = some x := by rfl) (hv : Vis X.env.scope x := by first | exact Or.inl rfl | exact Or.inr (Or.inl rfl) | exact Or.inr (Or.inr rfl)) (hd : (x == ("__debug__" : Str)) = false := by decide)
    (hcd : (x == ("__classdict__" : Str)) = false := by decide)
    (hg : Gl X f := by rfl) (hdb : (f == ("__debug__" : Str)) = false := by decide) (he : starEach (.Name x p2 :: es) X.env = (false, eval (.Name x p2) X.env) :: starEach es X.env := by rfl) (hpl : (backTo pos (starEach es X.env)).any (·.1) = false := by rfl) :
    PDx X (.Call (.Name f p) (.Name x p2 :: es) [] pos) (tCall (spU X.K ρ) [] E0 (tCons (tVar i) tr)) (dCallU ρ i L) := by
  obtain ⟨f, fd, hm, hk, hb, F⟩ := G.ex
  exact ⟨pe_call F hr hg hm hk hb .nil pass0 (pa_cons (pe_var hN hv hd hcd) h.pa he) hdb he hpl, se_callU h.sn⟩
theorem pd_callO (i j : Nat) {x y f : Str} {p3 : Pos} {ps : List Str} {ρ : CtU} (G : OkD X.prog X.w X.K X.mg X.base CX0 k f ps (spO X.K ρ)) (hr : Room k X.A) (hN : X.N[i]? = some x := by rfl) (hv : Vis X.env.scope x := by first | exact Or.inl rfl | exact Or.inr (Or.inl rfl) | exact Or.inr (Or.inr rfl)) (hd : (x == ("__debug__" : Str)) = false := by decide)
    (hcd : (x == ("__classdict__" : Str)) = false := by decide)
    (hN2 : X.N[j]? = some y := by rfl) (hv2 : Vis X.env.scope y := by first | exact Or.inl rfl | exact Or.inr (Or.inl rfl) | exact Or.inr (Or.inr rfl)) (hd2 : (y == ("__debug__" : Str)) = false := by decide)
    (hcd2 : (y == ("__classdict__" : Str)) = false := by decide)
    (hij : i ≠ j := by decide) (hg : Gl X f := by rfl) (hdb : (f == ("__debug__" : Str)) = false := by decide) (he : starEach [.Name x p2, .Name y p3] X.env = (false, eval (.Name x p2) X.env) :: starEach [.Name y p3] X.env := by rfl)
    (he2 : starEach [.Name y p3] X.env = (false, eval (.Name y p3) X.env) :: starEach [] X.env := by rfl) (hpl : (backTo pos (starEach [.Name y p3] X.env)).any (·.1) = false := by rfl) :
    PDx X (.Call (.Name f p) [.Name x p2, .Name y p3] [] pos) (tCall (spO X.K ρ) [] E0 (tCons (tVar i) (tCons (tVar j) tNil))) (dCallO ρ i j) := by
  obtain ⟨f, fd, hm, hk, hb, F⟩ := G.ex
  exact ⟨pe_call F hr hg hm hk hb .nil pass0 (pa_cons (pe_var hN hv hd hcd) (pa_cons (pe_var hN2 hv2 hd2 hcd2) pa_nil he2) he) hdb he hpl, se_callO hij⟩
end
/-! ### x or [..]: a new list -/
def dOrN (T U : DA) : DA := fun S Ψ => T S fun xs S1 => if xs = [] then U S1 Ψ else Ψ xs S1
def dListN (L : DA) : DA := fun S Ψ => L S fun xs S1 => match xs with
  | [d] => onS d fun ys => Ψ ys S1
  | _ => False
section
variable {K : Fg} {ta tb : TE} {tr : TA} {L M : DA}
theorem sn_listN (h : SA K tr L) : SN K (tCB (rList K) tr) (dListN L) := fun G H0 H σ S Ψ Q R p k => by
  refine h G H0 H σ S _ _ R p fun vs ds H1 H01 S1 e1 R1 hx p1 => ?_
  match ds, hx, p1 with
  | [d], hx, p1 =>
    obtain ⟨v, rfl, hv⟩ := dps_one hx
    obtain ⟨es, he, p2⟩ := onS_of p1
    obtain ⟨a, ys, rfl, hs, hh⟩ := dp_refS hv he
    refine ⟨a, ys, rfl, ?_, fun l hl => ?_⟩
    · rcases hs with hs | hs
      · exact Or.inr (R1.seqT hs)
      · exact Or.inl (R1.seqL hs)
    · obtain ⟨R2, N⟩ := R1.allocN (o := .lst ys) hl
      exact k l ys es _ H01 S1 e1 R2 N upd_same hh p2
theorem sn_orN (ha : SN K ta L) (hb : SN K tb M) : SN K (tOrT K ta tb) (dOrN L M) := fun G H0 H σ S Ψ Q R p k => by
  refine ha G H0 H σ S _ _ R p fun l vs ds H1 H01 S1 e1 R1 N hl hd p1 => ?_
  have len := Dps.len hd
  refine ⟨!vs.isEmpty, Or.inl ⟨vs, SqL.of hl, rfl⟩, ?_⟩
  by_cases he : ds = []
  · rw [if_pos he] at p1
    have hx0 : vs = [] := List.eq_nil_of_length_eq_zero (by rw [len, he]; rfl)
    subst hx0
    exact hb G H01 H1 σ S1 _ _ R1 p1 fun p vs2 ds2 H2 H02 S2 e2 R2 N2 hp2 hd2 p2 => k p vs2 ds2 H2 H02 S2 (e1.trans e2) R2 N2 hp2 hd2 p2
  · rw [if_neg he] at p1
    cases vs with
    | nil => exact absurd (List.eq_nil_of_length_eq_zero len.symm) he
    | cons y ys => exact k l _ ds H1 H01 S1 e1 R1 N hl hd p1
end
section
variable {X : Cx} {a b e : Expr} {ta tb : TE} {tr : TA} {L M : DA} {pos p : Pos}
theorem pn_list (m : Mc X.K X.mg) (h : PAx X [a] tr L) (hg : Gl X "list" := by rfl) (he : starEach [a] X.env = (false, eval a X.env) :: starEach [] X.env := by rfl) (hpl : (backTo pos (starEach [] X.env)).any (·.1) = false := by rfl) :
    PNx X (.Call (.Name "list" p) [a] [] pos) (tCB (rList X.K) tr) (dListN L) := ⟨pe_callTy call_list_of hg (mfree m _ (by decide)) (by decide +kernel) h.pa (by decide) (by decide) he hpl, sn_listN h.sn⟩
theorem pn_orN (h : PNx X a ta L) (h2 : PNx X b tb M) : PNx X (.BoolOp .Or [a, b] pos) (tOrT X.K ta tb) (dOrN L M) := ⟨pe_orT h.pe (pe_one h2.pe), sn_orN h.sn h2.sn⟩
end
end Dw
set_option maxRecDepth 100000
set_option maxHeartbeats 4000000
/-! The contracts of the law's defs that draw. -/
namespace Dw
open PySem PySem.Spec PyProof.Rows L2
structure UrOk (u : Ur) (B : Int) : Prop where
  a0 : 0 ≤ u.a
  c0 : 0 ≤ u.c
  cB : u.c ≤ B
theorem UrOk.up {u : Ur} {B C : Int} (h : UrOk u B) (l : B ≤ C) : UrOk u C := ⟨h.a0, h.c0, Int.le_trans h.cB l⟩
inductive CLawTake : CtU
  | mk (u : Ur) (low B : Int) (Φ) (l1 : 1 ≤ low) (l2 : low ≤ 1000000) (ok : UrOk u B) (hB : B ≤ 1000000) (h : ∀ r u', 0 ≤ r → r < low → UrOk u' (B + 1) → Φ (.int r) u') : CLawTake u [.int low] Φ
inductive CLawOf : CtU
  | mk (u : Ur) (ds : List PyData) (B : Int) (Φ) (l1 : ds ≠ []) (l2 : ds.length ≤ 1000) (ok : UrOk u B) (hB : B ≤ 1000000) (h : ∀ d u', d ∈ ds → UrOk u' (B + 1) → Φ d u') : CLawOf u [.list ds] Φ
mutual
/-- no list in it -/
def noL : PyData → Bool
  | .none => true
  | .bool _ => true
  | .int _ => true
  | .str _ => true
  | .list _ => false
  | .tuple ds => noLs ds
  | .dict _ => false
def noLs : List PyData → Bool
  | [] => true
  | d :: ds => noL d && noLs ds
end
inductive CLawOfO : CtU
  | mk (u : Ur) (ds : List PyData) (B : Int) (Φ) (l1 : ds ≠ []) (l2 : ds.length ≤ 1000) (ok : UrOk u B) (hB : B ≤ 1000000) (nl : ∀ d ∈ ds, noL d = true) (h : ∀ d u', d ∈ ds → UrOk u' (B + 1) → Φ d u') : CLawOfO u ds Φ
inductive CLawDrawnSheet : CtU
  | mk (u : Ur) (B : Int) (Φ) (ok : UrOk u B) (hB : B ≤ 1000) (h : ∀ s u', Ok s → Feas s.hard → s.hard ≠ [] → UrOk u' (B + 100) → Φ (shD s) u') : CLawDrawnSheet u [] Φ
inductive CLawRuleRight : CtU
  | mk (u : Ur) (s : Sh) (k : Nat) (B : Int) (Φ) (ok : UrOk u B) (hB : B ≤ 10000) (so : Ok s) (f : Feas s.hard) (l : k < s.hard.length) (h : ∀ u', UrOk u' (B + 100) → Φ (.bool true) u') : CLawRuleRight u [shD s, nt k] Φ
def R_law_take : DS := (dSeq (dIfS (dTst (dOp oGt (dIxU 0 (dC (.int 0))) (dC (.int 0))))
    (dSeq (dAsg (dOp oMod (dCB cInt (dCons (dIxU 0 (dC (.int 0))) dNil)) (dVar 1)) (dgN 2))
    (dSeq (dAsg (dOp oDiv (dIxU 0 (dC (.int 0))) (dVar 1)) (dgU 0 (dC (.int 0))))
    (dRet (dVar 2)))) dNext)
    (dSeq (dAsg (dOp oAdd (dIxU 0 (dC (.int 2))) (dC (.int 1))) (dgU 0 (dC (.int 2))))
    (dSeq (dAsg (dOp oMod (dCB cInt (dCons (dOp oMul (dOp oAdd (dIxU 0 (dC (.int 1))) (dOp oMul (dC (.int 48271)) (dIxU 0 (dC (.int 2))))) (dOp oAdd (dC (.int 39373)) (dIxU 0 (dC (.int 2))))) dNil)) (dC (.int 2147483647))) (dgN 3))
    (dSeq (dAsg (dOp oAdd (dOp oMod (dCB cInt (dCons (dVar 3) dNil)) (dC (.int 40009))) (dC (.int 7))) (dgN 4))
    (dSeq (dAsg (dOp oMod (dCB cInt (dCons (dOp oMul (dOp oAdd (dOp oAdd (dVar 3) (dIxU 0 (dC (.int 2)))) (dOp oDiv (dIxU 0 (dC (.int 1))) (dC (.int 1000003)))) (dVar 4)) dNil)) (dC (.int 2147483629))) (dgN 5))
    (dRet (dOp oMod (dCB cInt (dCons (dOp oDiv (dOp oMod (dCB cInt (dCons (dOp oAdd (dOp oMul (dVar 5) (dC (.int 48271))) (dVar 3)) dNil)) (dC (.int 2147483587))) (dC (.int 64))) dNil)) (dVar 1))))))))
def R_law_of : DS := (dRet (dOp oIx (dVar 1) (dCallU CLawTake 0 (dCons (dCB cLen (dCons (dVar 1) dNil)) dNil))))
def R_law_drawn_sheet : DS := (dSeq (dAsg (dOp oAdd (dC (.int 2)) (dCallU CLawTake 0 (dCons (dC (.int 4)) dNil))) (dgN 1))
    (dSeq (dAsg (dNew (dLc (dItR (dCons (dVar 1) dNil)) (dgN 3) dYes (dCall CLawCut (dCons (dOp oSub (dCallU CLawTake 0 (dCons (dC (.int 13)) dNil)) (dC (.int 6))) (dCons (dOp oAdd (dC (.int 1)) (dCallU CLawTake 0 (dCons (dC (.int 2)) dNil))) dNil))) [3])) (dgN 2))
    (dSeq (dAsgN (dLst dNil) 4)
    (dSeq (dFor (dItR (dCons (dOp oAdd (dC (.int 1)) (dCallU CLawTake 0 (dCons (dC (.int 6)) dNil))) dNil)) (dgN 5)
    (dSeq (dAsg (dCallU CLawTake 0 (dCons (dVar 1) dNil)) (dgN 3))
    (dSeq (dAsg (dOp oMod (dOp oAdd (dOp oAdd (dVar 3) (dC (.int 1))) (dCallU CLawTake 0 (dCons (dOp oSub (dVar 1) (dC (.int 1))) dNil))) (dVar 1)) (dgN 6))
    (dApp 4 (dTup (dCons (dVar 3) (dCons (dVar 6) (dCons (dCall CLawMinus (dCons (dCall CLawMinus (dCons (dOp oIx (dVar 2) (dVar 6)) (dCons (dOp oIx (dVar 2) (dVar 3)) dNil))) (dCons (dTup (dCons (dCallU CLawOf 0 (dCons (dNew (dLst (dCons (dC (.int 0)) (dCons (dC (.int 0)) (dCons (dC (.int 1)) (dCons (dC (.int 2)) (dCons (dC (.int 4)) dNil))))))) dNil)) (dCons (dC (.int 1)) dNil))) dNil))) dNil))))))))
    (dSeq (dIfS (dTst (dOp oEq (dCallU CLawTake 0 (dCons (dC (.int 3)) dNil)) (dC (.int 0))))
    (dApp 4 (dCallO CLawOfO 0 4)) dNext)
    (dSeq (dAsg (dTup (dCons (dTup (dCons (dTup (dCons (dC (.int 0)) (dCons (dC (.int 1)) dNil))) (dCons (dTup (dCons (dC (.int 0)) (dCons (dC (.int 1)) dNil))) dNil))) (dCons (dTup (dCons (dTup (dCons (dC (.int 1)) (dCons (dC (.int 1)) dNil))) (dCons (dTup (dCons (dC (.int 1)) (dCons (dC (.int 1)) dNil))) dNil))) dNil))) (dgN 7))
    (dRet (dTup (dCons (dVar 1) (dCons (dCB cTuple (dCons (dFrz 4) dNil)) (dCons (dOp oRep01 (dTup (dCons (dTup (dCons (dC (.int 0)) (dCons (dC (.int 1)) (dCons (dVar 7) dNil)))) dNil)) (dCallU CLawTake 0 (dCons (dC (.int 2)) dNil))) dNil)))))))))))
def R_law_rule_right : DS := (dSeq (dAsg (dOp oIx (dOp oIx (dVar 1) (dC (.int 1))) (dVar 2)) (dgTup 3 (dgCons (dgN 3) (dgCons (dgN 4) (dgCons (dgN 5) dgNil)))))
    (dSeq (dAsg (dCall CLawWays (dCons (dVar 1) (dCons (dVar 3) (dCons (dVar 4) (dCons (dVar 2) dNil))))) (dgN 6))
    (dSeq (dAsg (dNew (dLc (dItS (dVar 6)) (dgTup 2 (dgCons (dgN 8) (dgCons (dgN 9) dgNil))) (dNot (dTst (dCall CLawUnder (dCons (dVar 9) (dCons (dVar 5) dNil))))) (dVar 8) [8, 9])) (dgN 7))
    (dSeq (dAsg (dTup (dCons (dOp oIx (dVar 1) (dC (.int 0))) (dCons (dOp oCatT (dSlT (dOp oIx (dVar 1) (dC (.int 1))) doNone (doSome (dVar 2))) (dSlT (dOp oIx (dVar 1) (dC (.int 1))) (doSome (dOp oAdd (dVar 2) (dC (.int 1)))) doNone)) (dCons (dOp oIx (dVar 1) (dC (.int 2))) dNil)))) (dgN 10))
    (dSeq (dPar 11 12 (dCall CLawHeard (dCons (dC (.int 0)) (dCons (dCall (CLawLists 20) (dCons (dVar 1) dNil)) (dCons (dVar 2) dNil)))) (dCall CLawHeard (dCons (dC (.int 1)) (dCons (dVar 1) (dCons (dVar 2) dNil)))))
    (dSeq (dIfS (dTst (dOp oNe (dVar 7) (dNew (dLst dNil))))
    (dIfS (dNot (dTst (dCall (CLawSame 20) (dCons (dNew (dLst (dCons (dVar 11) (dCons (dVar 12) dNil)))) (dCons (dNew (dLst (dCons (dOp oIx (dCB cMin (dCons (dNew (dLc (dItS (dVar 7)) (dgN 8) dYes (dTup (dCons (dCB cLen (dCons (dVar 8) dNil)) (dCons (dVar 8) dNil))) [8])) dNil)) (dC (.int 1))) (dCons (dNew (dLst (dCons (dC (.str "can not")) (dCons (dC (.bool true)) dNil)))) dNil)))) dNil)))))
    (dRet (dC (.bool false))) dNext) (dIfS (dOr (dNot (dTst (dCall (CLawSame 20) (dCons (dVar 11) (dCons (dNew (dLst (dCons (dC (.str "can not")) (dCons (dC (.bool true)) dNil)))) dNil))))) (dOr (dNot (dTst (dCall CLawIsLaid (dCons (dVar 10) (dCons (dVar 12) dNil))))) (dTst (dCall CLawIsLaid (dCons (dVar 1) (dCons (dVar 12) dNil))))))
    (dRet (dC (.bool false))) dNext))
    (dSeq (dAsg (dNew (dLc (dItS (dSlL (dVar 6) doNone (doSome (dC (.int 6))))) (dgTup 2 (dgCons (dgN 8) (dgCons (dgN 9) dgNil))) dYes (dVar 8) [8, 9])) (dgN 13))
    (dSeq (dAsg (dNew (dLc (dItS (dVar 13)) (dgN 8) dYes (dOp oIn (dVar 8) (dVar 7)) [8])) (dgN 14))
    (dSeq (dAsg (dIf (dTst (dOp oNe (dVar 13) (dNew (dLst dNil)))) (dOp oIx (dVar 13) (dC (.int 0))) (dTup (dCons (dTup (dCons (dC (.str "hard")) (dCons (dVar 2) dNil))) dNil))) (dgN 8))
    (dSeq (dAsg (dNew (dLst (dCons (dCB cList (dCons (dVar 8) dNil)) (dCons (dRevT (dVar 8)) (dCons (dOp oCatT (dVar 8) (dVar 8)) (dCons (dTup (dCons (dTup (dCons (dC (.str "hard")) (dCons (dVar 2) dNil))) dNil)) (dCons (dTup dNil) (dCons (dC .none) (dCons (dSlT (dVar 8) doNone (doSome (dUn oNeg (dC (.int 1))))) dNil))))))))) (dgN 15))
    (dSeq (dAsg (dNew (dLst (dCons (dC (.bool false)) (dCons (dOp oIn (dRevT (dVar 8)) (dVar 7)) (dCons (dC (.bool false)) (dCons (dC (.bool false)) (dCons (dC (.bool false)) (dCons (dC (.bool false)) (dCons (dOp oIn (dSlT (dVar 8) doNone (doSome (dUn oNeg (dC (.int 1))))) (dVar 7)) dNil))))))))) (dgN 16))
    (dSeq (dIfS (dNot (dTst (dCall (CLawSame 20) (dCons (dNew (dLc (dItS (dOp oCatL (dVar 13) (dVar 15))) (dgN 17) dYes (dCall CIsBypass (dCons (dCall (CLawLists 20) (dCons (dVar 1) dNil)) (dCons (dVar 2) (dCons (dVar 17) dNil)))) [17])) (dCons (dOp oCatL (dVar 14) (dVar 16)) dNil)))))
    (dRet (dC (.bool false))) dNext)
    (dSeq (dAsg (dIf (dTst (dOp oEq (dVar 7) (dNew (dLst dNil)))) (dVar 12) (dCB cTuple (dCons (dNew (dLc (dItR (dCons (dOp oIx (dVar 1) (dC (.int 0))) dNil)) (dgN 19) dYes (dTup (dCons (dVar 19) (dCons (dC (.int 1)) dNil))) [19])) dNil))) (dgN 18))
    (dSeq (dAsg (dOp oCatT (dSlT (dVar 18) doNone (doSome (dC (.int 1)))) (dCB cTuple (dCons (dNew (dLc (dItS (dSlT (dVar 18) (doSome (dC (.int 1))) doNone)) (dgN 17) dYes (dCall CLawPlus (dCons (dVar 17) (dCons (dTup (dCons (dOp oAdd (dC (.int 1)) (dCallU CLawTake 0 (dCons (dC (.int 3)) dNil))) (dCons (dC (.int 1)) dNil))) dNil))) [17])) dNil))) (dgN 20))
    (dSeq (dAsg (dNew (dLst (dCons (dVar 18) (dCons (dCB cList (dCons (dVar 18) dNil)) (dCons (dVar 20) (dCons (dSlT (dVar 18) doNone (doSome (dUn oNeg (dC (.int 1))))) (dCons (dOp oCatT (dVar 18) (dSlT (dVar 18) doNone (doSome (dC (.int 1))))) (dCons (dC .none) (dCons (dOp oCatT (dSlT (dVar 20) (doSome (dC (.int 1))) doNone) (dSlT (dVar 20) doNone (doSome (dC (.int 1))))) dNil))))))))) (dgN 13))
    (dSeq (dAsg (dNew (dLc (dItS (dVar 13)) (dgN 17) dYes (dAndV (dCall CLawIsLaid (dCons (dVar 10) (dCons (dVar 17) dNil))) (dNotV (dCall CLawIsLaid (dCons (dVar 1) (dCons (dVar 17) dNil))))) [17])) (dgN 14))
    (dRet (dCall (CLawSame 20) (dCons (dNew (dLc (dItS (dVar 13)) (dgN 17) dYes (dCall CIsSlip (dCons (dCall (CLawLists 20) (dCons (dVar 1) dNil)) (dCons (dVar 2) (dCons (dVar 17) dNil)))) [17])) (dCons (dVar 14) dNil))))))))))))))))))))
theorem fmod_in {a b : Int} (h : 0 < b) : 0 ≤ a.fmod b ∧ a.fmod b < b := by
  rw [Int.fmod_eq_emod_of_nonneg _ (by omega)]
  exact ⟨Int.emod_nonneg _ (by omega), Int.emod_lt_of_pos _ h⟩
theorem fdiv_nn {a b : Int} (h : 0 ≤ a) (h2 : 0 < b) : 0 ≤ a.fdiv b := by
  rw [Int.fdiv_eq_ediv_of_nonneg _ (by omega)]
  exact Int.ediv_nonneg h (by omega)
theorem go_law_take (l : Addr) : ∀ u ds Φ, CLawTake u ds Φ → R_law_take (endsU Φ l) (startU ["_law_urn", "_law_low_so", "_law_drawn", "_law_once", "_law_far", "_law_twice"] l u ds) := by
  intro u ds Φ h
  cases h with
  | mk u low B Φ l1 l2 ok hB h =>
    have a0 := ok.a0
    have c0 := ok.c0
    have cB := ok.cB
    have cd : ∀ x : Int, CDivN x low := fun x => ⟨by omega, by omega⟩
    refine iteS (fun z => ?_) fun z => ?_
    · have z' : 0 < u.a := of_decide_eq_true z
      have hr := fmod_in (a := u.a) (b := low) (by omega)
      refine ⟨by omega, cd _, ⟨u.a.fdiv low, u.b, u.c⟩, rfl, h _ _ hr.1 hr.2 ⟨fdiv_nn ok.a0 (by omega), ok.c0, ?_⟩⟩
      show u.c ≤ B + 1
      omega
    · have h1 := fmod_in (a := (u.b + 48271 * (u.c + 1)) * (39373 + (u.c + 1))) (b := 2147483647) (by decide)
      have h2 := fmod_in (a := ((u.b + 48271 * (u.c + 1)) * (39373 + (u.c + 1))).fmod 2147483647) (b := 40009) (by decide)
      refine ⟨Or.inl (by decide), Or.inr ⟨by omega, by omega⟩, show (2147483647 : Int) ≠ 0 by decide, show (40009 : Int) ≠ 0 by decide, ⟨by decide, by decide⟩, Or.inr ⟨by omega, by omega⟩, show (2147483629 : Int) ≠ 0 by decide, Or.inr (by decide), show (2147483587 : Int) ≠ 0 by decide, ⟨by decide, by decide⟩, by omega, ⟨u.a, u.b, u.c + 1⟩, rfl, ?_⟩
      have hr : ∀ x : Int, 0 ≤ x.fmod low ∧ x.fmod low < low := fun x => fmod_in (by omega)
      exact h _ _ (hr _).1 (hr _).2 ⟨ok.a0, by show 0 ≤ u.c + 1; omega, by show u.c + 1 ≤ B + 1; omega⟩
theorem pick {ds : List PyData} {r : Int} (h0 : 0 ≤ r) (h1 : r < (ds.length : Int)) : ∃ d, atI ds r = some d ∧ d ∈ ds := by
  have e : r = ((r.toNat : Nat) : Int) := by omega
  have hl : r.toNat < ds.length := by omega
  refine ⟨ds[r.toNat], ?_, List.getElem_mem _⟩
  have z : atI ds ((r.toNat : Nat) : Int) = some ds[r.toNat] := atI_nat (List.getElem?_eq_getElem hl)
  rw [← e] at z
  exact z
theorem len_pos {ds : List PyData} (h : ds ≠ []) : 1 ≤ (ds.length : Int) := by
  have := List.length_pos_iff.mpr h
  omega
theorem go_law_of (l : Addr) : ∀ u ds Φ, CLawOf u ds Φ → R_law_of (endsU Φ l) (startU ["_law_urn", "_law_some_so"] l u ds) := by
  intro u ds Φ h
  cases h with
  | mk u ds B Φ l1 l2 ok hB h =>
    refine CLawTake.mk u _ B _ (len_pos l1) (by omega) ok hB fun r u' r0 r1 ok' => ?_
    obtain ⟨d, e, hd⟩ := pick r0 r1
    exact onO_some e ⟨u', rfl, h d u' hd ok'⟩
end Dw
set_option maxRecDepth 100000
set_option maxHeartbeats 4000000
/-! The drawn sheet. -/
namespace Dw
open PySem PySem.Spec PyProof.Rows L2
theorem lc_inv {α : Type} {Γ : DG} {C : DT} {E : DE} {vs : List Nat} {d0 : List (Option PyData)} {Ψ : List PyData → List (Option Ob) → Prop} (g : α → PyData) (Inv : List α → List PyData → List (Option Ob) → Prop)
    (step : ∀ x rest acc o, Inv (x :: rest) acc o → ∀ (K : PyData → List (Option Ob) → Prop) (K0 : List (Option Ob) → Prop), (∀ d o', Inv rest (acc ++ [d]) o' → K d o') → (∀ o', Inv rest acc o' → K0 o') →
      Γ (g x) ⟨wipeD d0 vs, o⟩ fun S1 => C S1 fun b S2 => if b = true then E S2 fun d S3 => okS vs S3.o = true ∧ K d S3.o else okS vs S2.o = true ∧ K0 S2.o)
    (done : ∀ acc o, Inv [] acc o → Ψ acc o) : ∀ (xs : List α) {items : List PyData} (acc : List PyData) (o : List (Option Ob)), items = xs.map g → Inv xs acc o → dLcGo Γ C E vs d0 Ψ items acc o
  | [], _, acc, o, e, h => by
    subst e
    exact done acc o h
  | x :: xs, _, acc, o, e, h => by
    subst e
    exact step x xs acc o h (fun d o' => dLcGo Γ C E vs d0 Ψ (xs.map g) (acc ++ [d]) o') (fun o' => dLcGo Γ C E vs d0 Ψ (xs.map g) acc o') (fun d o' h' => lc_inv g Inv step done xs (acc ++ [d]) o' rfl h') fun o' h' => lc_inv g Inv step done xs acc o' rfl h'
theorem addTo {i j k : Int} {Φ : PyData → Prop} (e : i + j = k) (h : Φ (.int k)) : oAdd (.int i) (.int j) Φ := by
  subst e
  exact h
theorem modTo {i j k : Int} {Φ : PyData → Prop} (hj : j ≠ 0) (e : i.fmod j = k) (h : Φ (.int k)) : oMod (.int i) (.int j) Φ := by
  subst e
  exact ⟨hj, h⟩
theorem turn_other {n a : Nat} {r : Int} (ha : a < n) (h0 : 0 ≤ r) (h1 : r < (n : Int) - 1) : ∃ b : Nat, ((a : Int) + 1 + r).fmod (n : Int) = (b : Int) ∧ b < n ∧ b ≠ a := by
  rw [Int.fmod_eq_emod_of_nonneg _ (by omega)]
  by_cases h : (a : Int) + 1 + r < (n : Int)
  · refine ⟨((a : Int) + 1 + r).toNat, ?_, by omega, by omega⟩
    rw [Int.emod_eq_of_lt (by omega) h]
    omega
  · refine ⟨((a : Int) + 1 + r - n).toNat, ?_, by omega, by omega⟩
    rw [← Int.sub_emod_right, Int.emod_eq_of_lt (by omega) (by omega)]
    omega
theorem go_law_drawn_sheet (l : Addr) : ∀ u ds Φ, CLawDrawnSheet u ds Φ → R_law_drawn_sheet (endsU Φ l) (startU ["_law_urn", "_law_many", "_law_spots", "_law_one", "_law_hard", "_law_lap", "_law_other", "_law_plain"] l u ds) := by
  intro u ds Φ h
  cases h with
  | mk u B Φ ok hB h =>
    refine CLawTake.mk u 4 B _ (by decide) (by decide) ok (by omega) fun r u1 r0 r1 ok1 => ?_
    obtain ⟨n, hn, n2, n5⟩ : ∃ n : Nat, 2 + r = (n : Int) ∧ 2 ≤ n ∧ n ≤ 5 := ⟨(2 + r).toNat, by omega, by omega, by omega⟩
    refine addTo hn ⟨by omega, by omega, by rw [range_eq, List.length_map, List.length_range]; omega, rfl, ?_⟩
    refine lc_inv nt (fun rest acc o => ∃ (ps : List Int) (u2 : Ur), acc = ps.map fr ∧ ps.length + rest.length = n ∧ UrOk u2 (B + 1 + 2 * ps.length) ∧ o = [some (.fix l (urD u2)), none, none, none, none, none, none, none])
      (fun x rest acc o hI K K0 h1 h2 => ?_) (fun acc o hI => ?_) (List.range n) [] _ (range_eq n) ⟨[], u1, rfl, by rw [List.length_range]; exact Nat.zero_add n, ok1.up (by simp), rfl⟩
    · obtain ⟨ps, u2, rfl, hl, ok2, rfl⟩ := hI
      rw [List.length_cons] at hl
      refine CLawTake.mk u2 13 _ _ (by decide) (by decide) ok2 (by omega) fun q u3 q0 q1 ok3 => ?_
      refine CLawTake.mk u3 2 _ _ (by decide) (by decide) ok3 (by omega) fun q' u4 q0' q1' ok4 => ?_
      have step : ∀ a : Int, 2 * (q - 6) = a * (1 + q') → CLawCut [.int (q - 6), .int (1 + q')] fun d => okS [3] [some (Ob.fix l (urD u4)), none, none, none, none, none, none, none] = true ∧ K d [some (Ob.fix l (urD u4)), none, none, none, none, none, none, none] := fun a e => by
        refine CLawCut.mk _ _ a _ (by omega) e ⟨rfl, h1 _ _ ⟨ps ++ [a], u4, by rw [List.map_append]; rfl, by rw [List.length_append]; show ps.length + 1 + rest.length = n; omega, ok4.up ?_, rfl⟩⟩
        rw [List.length_append]
        show B + 1 + 2 * (ps.length : Int) + 1 + 1 ≤ B + 1 + 2 * ((ps.length + 1 : Nat) : Int)
        omega
      have hq : q' = 0 ∨ q' = 1 := by omega
      rcases hq with e | e
      · subst e
        exact step (2 * (q - 6)) (by omega)
      · subst e
        exact step (q - 6) (by omega)
    obtain ⟨ps, u2, rfl, hl, ok2, rfl⟩ := hI
    have hl' : ps.length = n := hl
    refine ⟨le0 rfl, ?_⟩
    refine CLawTake.mk u2 6 _ _ (by decide) (by decide) ok2 (by omega) fun q u3 q0 q1 ok3 => ?_
    obtain ⟨m, hm, m1, m6⟩ : ∃ m : Nat, 1 + q = (m : Int) ∧ 1 ≤ m ∧ m ≤ 6 := ⟨(1 + q).toNat, by omega, by omega, by omega⟩
    refine addTo hm ⟨by omega, by omega, ?_⟩
    refine for_inv nt (fun rest S => ∃ (hs : List Ru) (u4 : Ur) (o3 o5 o6 : Option PyData), hs.length + rest.length = m ∧ UrOk u4 (B + 12 + 3 * hs.length) ∧ (∀ r ∈ hs, r.1 < n ∧ r.2.1 < n ∧ r.1 ≠ r.2.1 ∧ ps.getD r.1 0 + r.2.2 ≤ ps.getD r.2.1 0) ∧
        S = ⟨[none, some (nt n), some (.list (ps.map fr)), o3, none, o5, o6, none], [some (.fix l (urD u4)), none, none, none, some (.lst (hs.map ruD)), none, none, none]⟩)
      (fun x rest S hI nx' hnx => ?_) (fun S hI => ?_) (List.range m) _ rfl ⟨[], u3, none, none, none, by rw [List.length_range]; exact Nat.zero_add m, ok3.up (by show B + 1 + 2 * (ps.length : Int) + 1 ≤ B + 12 + 3 * 0; omega), fun r hr => (nomatch hr), rfl⟩
    · obtain ⟨hs, u4, o3, o5, o6, hlen, ok4, hall, rfl⟩ := hI
      rw [List.length_cons] at hlen
      refine CLawTake.mk u4 n _ _ (by omega) (by omega) ok4 (by omega) fun a u5 a0 a1 ok5 => ?_
      obtain ⟨a, rfl⟩ : ∃ k : Nat, a = (k : Int) := ⟨a.toNat, by omega⟩
      refine CLawTake.mk u5 ((n : Int) - 1) _ _ (by omega) (by omega) ok5 (by omega) fun c u6 c0 c1 ok6 => ?_
      obtain ⟨b, hb, bn, ba⟩ := turn_other (n := n) (a := a) (by omega) c0 c1
      refine ⟨by omega, ?_⟩
      simp only [hb]
      refine onO_some (map_at (by omega)) (onO_some (map_at (by omega)) (CLawMinus.mk _ _ _ ⟨le0 rfl, CLawOf.mk u6 _ _ _ (List.cons_ne_nil _ _) (le0 rfl) ok6 (by omega) fun d u7 hd ok7 => ?_⟩))
      have fin : ∀ y : Int, 0 ≤ y → CLawMinus [fr (ps.getD b 0 - ps.getD a 0), fr y] fun d => 3 ≤ 100000 ∧ (hs.map ruD).length < 100000 ∧ nx' ⟨[none, some (nt n), some (.list (ps.map fr)), some (nt a), none, some (nt x), some (nt b), none], [some (.fix l (urD u7)), none, none, none, some (.lst (hs.map ruD ++ [.tuple [nt a, nt b, d]])), none, none, none]⟩ := fun y hy => by
        refine CLawMinus.mk _ _ _ ⟨by decide, by rw [List.length_map]; omega, hnx _ ⟨hs ++ [(a, b, ps.getD b 0 - ps.getD a 0 - y)], u7, some (nt a), some (nt x), some (nt b), by rw [List.length_append]; show hs.length + 1 + rest.length = m; omega, ok7.up ?_, fun r hr => ?_, ?_⟩⟩
        · rw [List.length_append]
          show B + 12 + 3 * (hs.length : Int) + 1 + 1 + 1 ≤ B + 12 + 3 * ((hs.length + 1 : Nat) : Int)
          omega
        · rcases List.mem_append.mp hr with z | z
          · exact hall r z
          · rw [List.mem_singleton.mp z]
            refine ⟨by show a < n; omega, bn, fun z => ba z.symm, ?_⟩
            show ps.getD a 0 + (ps.getD b 0 - ps.getD a 0 - y) ≤ ps.getD b 0
            omega
        · rw [List.map_append]
          rfl
      have hx : d = .int 0 ∨ d = .int 1 ∨ d = .int 2 ∨ d = .int 4 := by
        simp at hd
        rcases hd with e | e | e | e
        · exact Or.inl e
        · exact Or.inr (Or.inl e)
        · exact Or.inr (Or.inr (Or.inl e))
        · exact Or.inr (Or.inr (Or.inr e))
      rcases hx with e | e | e | e
      · subst e
        exact ⟨le0 rfl, fin 0 (by decide)⟩
      · subst e
        exact ⟨le0 rfl, fin 2 (by decide)⟩
      · subst e
        exact ⟨le0 rfl, fin 4 (by decide)⟩
      · subst e
        exact ⟨le0 rfl, fin 8 (by decide)⟩
    · obtain ⟨hs, u4, o3, o5, o6, hlen, ok4, hall, rfl⟩ := hI
      have hlen' : hs.length = m := hlen
      have fin : ∀ (hs' : List Ru) (u' : Ur), (∀ r ∈ hs', r ∈ hs) → hs' ≠ [] → hs'.length ≤ 7 → UrOk u' (B + 90) →
          dSeq (dAsg (dTup (dCons (dTup (dCons (dTup (dCons (dC (.int 0)) (dCons (dC (.int 1)) dNil))) (dCons (dTup (dCons (dC (.int 0)) (dCons (dC (.int 1)) dNil))) dNil))) (dCons (dTup (dCons (dTup (dCons (dC (.int 1)) (dCons (dC (.int 1)) dNil))) (dCons (dTup (dCons (dC (.int 1)) (dCons (dC (.int 1)) dNil))) dNil))) dNil))) (dgN 7))
            (dRet (dTup (dCons (dVar 1) (dCons (dCB cTuple (dCons (dFrz 4) dNil)) (dCons (dOp oRep01 (dTup (dCons (dTup (dCons (dC (.int 0)) (dCons (dC (.int 1)) (dCons (dVar 7) dNil)))) dNil)) (dCallU CLawTake 0 (dCons (dC (.int 2)) dNil))) dNil)))))
            (endsU Φ l) ⟨[none, some (nt n), some (.list (ps.map fr)), o3, none, o5, o6, none], [some (.fix l (urD u')), none, none, none, some (.lst (hs'.map ruD)), none, none, none]⟩ := fun hs' u' hsub hne hl7 ok' => by
        have F : Feas hs' := ⟨fun v => ps.getD v 0, fun r hr => (hall r (hsub r hr)).2.2.2⟩
        have okS : ∀ ease : List PyData, (ease = [] ∨ ease = [easeE 0 1]) → Ok ⟨n, hs', ease⟩ := fun ease he => by
          refine ⟨n2, n5, hl7, fun r hr => ⟨(hall r (hsub r hr)).1, (hall r (hsub r hr)).2.1⟩, fun r hr => (hall r (hsub r hr)).2.2.1, ?_, ?_, ?_, ?_⟩
          · rcases he with e | e <;> subst e <;> exact le0 rfl
          · rcases he with e | e <;> subst e
            · exact fun e h => nomatch h
            · intro e h
              rw [List.mem_singleton.mp h]
              rfl
          · rcases he with e | e <;> subst e
            · exact fun e h => nomatch h
            · intro e h
              rw [List.mem_singleton.mp h]
              exact le0 rfl
          · rcases he with e | e <;> subst e
            · exact fun e h => nomatch h
            · intro e h
              rw [List.mem_singleton.mp h]
              rfl
        refine ⟨le0 rfl, le0 rfl, le0 rfl, le0 rfl, le0 rfl, le0 rfl, le0 rfl, le0 rfl, le0 rfl, ?_⟩
        refine CLawTake.mk u' 2 _ _ (by decide) (by decide) ok' (by omega) fun c u6 c0 c1 ok6 => ⟨List.cons_ne_nil _ _, by omega, le0 rfl, u6, rfl, ?_⟩
        have hc : c = 0 ∨ c = 1 := by omega
        rcases hc with e | e
        · subst e
          exact h ⟨n, hs', []⟩ u6 (okS _ (Or.inl rfl)) F hne (ok6.up (by omega))
        · subst e
          exact h ⟨n, hs', [easeE 0 1]⟩ u6 (okS _ (Or.inr rfl)) F hne (ok6.up (by omega))
      have hne : hs ≠ [] := fun z => by
        rw [z] at hlen'
        simp at hlen'
        omega
      refine CLawTake.mk u4 3 _ _ (by decide) (by decide) ok4 (by omega) fun c u5 c0 c1 ok5 => ⟨rfl, rfl, ?_⟩
      show if PyData.eqv (.int c) (.int 0) = true then _ else _
      refine iteS (fun z => ?_) fun z => ?_
      · refine CLawOfO.mk u5 (hs.map ruD) _ _ (by simpa using hne) (by rw [List.length_map]; omega) ok5 (by omega) (fun d hd => by
          obtain ⟨r, _, rfl⟩ := List.mem_map.mp hd
          rfl) fun d u6 hd ok6 => ⟨by rw [List.length_map]; omega, ?_⟩
        obtain ⟨r, hr, rfl⟩ := List.mem_map.mp hd
        have := fin (hs ++ [r]) u6 (fun q hq => by
          rcases List.mem_append.mp hq with z | z
          · exact z
          · rw [List.mem_singleton.mp z]
            exact hr) (by simp) (by rw [List.length_append]; show hs.length + 1 ≤ 7; omega) (ok6.up (by omega))
        rw [List.map_append] at this
        exact this
      · exact fin hs u5 (fun q hq => hq) hne (by omega) (ok5.up (by omega))
end Dw
set_option maxRecDepth 100000
set_option maxHeartbeats 4000000
/-! One rule, beside all ways: in parts. -/
namespace Dw
open PySem PySem.Spec PyProof.Rows L2
def R_rr14 : DS := (dSeq (dAsg (dNew (dLst (dCons (dVar 18) (dCons (dCB cList (dCons (dVar 18) dNil)) (dCons (dVar 20) (dCons (dSlT (dVar 18) doNone (doSome (dUn oNeg (dC (.int 1))))) (dCons (dOp oCatT (dVar 18) (dSlT (dVar 18) doNone (doSome (dC (.int 1))))) (dCons (dC .none) (dCons (dOp oCatT (dSlT (dVar 20) (doSome (dC (.int 1))) doNone) (dSlT (dVar 20) doNone (doSome (dC (.int 1))))) dNil))))))))) (dgN 13))
    (dSeq (dAsg (dNew (dLc (dItS (dVar 13)) (dgN 17) dYes (dAndV (dCall CLawIsLaid (dCons (dVar 10) (dCons (dVar 17) dNil))) (dNotV (dCall CLawIsLaid (dCons (dVar 1) (dCons (dVar 17) dNil))))) [17])) (dgN 14))
    (dRet (dCall (CLawSame 20) (dCons (dNew (dLc (dItS (dVar 13)) (dgN 17) dYes (dCall CIsSlip (dCons (dCall (CLawLists 20) (dCons (dVar 1) dNil)) (dCons (dVar 2) (dCons (dVar 17) dNil)))) [17])) (dCons (dVar 14) dNil))))))
def R_rr13 : DS := (dSeq (dAsg (dOp oCatT (dSlT (dVar 18) doNone (doSome (dC (.int 1)))) (dCB cTuple (dCons (dNew (dLc (dItS (dSlT (dVar 18) (doSome (dC (.int 1))) doNone)) (dgN 17) dYes (dCall CLawPlus (dCons (dVar 17) (dCons (dTup (dCons (dOp oAdd (dC (.int 1)) (dCallU CLawTake 0 (dCons (dC (.int 3)) dNil))) (dCons (dC (.int 1)) dNil))) dNil))) [17])) dNil))) (dgN 20))
    R_rr14)
def R_rr12 : DS := (dSeq (dAsg (dIf (dTst (dOp oEq (dVar 7) (dNew (dLst dNil)))) (dVar 12) (dCB cTuple (dCons (dNew (dLc (dItR (dCons (dOp oIx (dVar 1) (dC (.int 0))) dNil)) (dgN 19) dYes (dTup (dCons (dVar 19) (dCons (dC (.int 1)) dNil))) [19])) dNil))) (dgN 18))
    R_rr13)
def R_rr6 : DS := (dSeq (dAsg (dNew (dLc (dItS (dSlL (dVar 6) doNone (doSome (dC (.int 6))))) (dgTup 2 (dgCons (dgN 8) (dgCons (dgN 9) dgNil))) dYes (dVar 8) [8, 9])) (dgN 13))
    (dSeq (dAsg (dNew (dLc (dItS (dVar 13)) (dgN 8) dYes (dOp oIn (dVar 8) (dVar 7)) [8])) (dgN 14))
    (dSeq (dAsg (dIf (dTst (dOp oNe (dVar 13) (dNew (dLst dNil)))) (dOp oIx (dVar 13) (dC (.int 0))) (dTup (dCons (dTup (dCons (dC (.str "hard")) (dCons (dVar 2) dNil))) dNil))) (dgN 8))
    (dSeq (dAsg (dNew (dLst (dCons (dCB cList (dCons (dVar 8) dNil)) (dCons (dRevT (dVar 8)) (dCons (dOp oCatT (dVar 8) (dVar 8)) (dCons (dTup (dCons (dTup (dCons (dC (.str "hard")) (dCons (dVar 2) dNil))) dNil)) (dCons (dTup dNil) (dCons (dC .none) (dCons (dSlT (dVar 8) doNone (doSome (dUn oNeg (dC (.int 1))))) dNil))))))))) (dgN 15))
    (dSeq (dAsg (dNew (dLst (dCons (dC (.bool false)) (dCons (dOp oIn (dRevT (dVar 8)) (dVar 7)) (dCons (dC (.bool false)) (dCons (dC (.bool false)) (dCons (dC (.bool false)) (dCons (dC (.bool false)) (dCons (dOp oIn (dSlT (dVar 8) doNone (doSome (dUn oNeg (dC (.int 1))))) (dVar 7)) dNil))))))))) (dgN 16))
    (dSeq (dIfS (dNot (dTst (dCall (CLawSame 20) (dCons (dNew (dLc (dItS (dOp oCatL (dVar 13) (dVar 15))) (dgN 17) dYes (dCall CIsBypass (dCons (dCall (CLawLists 20) (dCons (dVar 1) dNil)) (dCons (dVar 2) (dCons (dVar 17) dNil)))) [17])) (dCons (dOp oCatL (dVar 14) (dVar 16)) dNil)))))
    (dRet (dC (.bool false))) dNext)
    R_rr12))))))
abbrev no20 : List (Option Ob) := [none, none, none, none, none, none, none, none, none, none, none, none, none, none, none, none, none, none, none, none]
/-! ### lists of lists -/
mutual
theorem ls_tu : ∀ d : PyData, tuD (lsD d) = tuD d
  | .none => rfl
  | .bool _ => rfl
  | .int _ => rfl
  | .str _ => rfl
  | .dict _ => rfl
  | .list ds => congrArg PyData.tuple (lss_tu ds)
  | .tuple ds => congrArg PyData.tuple (lss_tu ds)
theorem lss_tu : ∀ ds : List PyData, tuDs (lsDs ds) = tuDs ds
  | [] => rfl
  | d :: ds => by
    show tuD (lsD d) :: tuDs (lsDs ds) = tuD d :: tuDs ds
    rw [ls_tu d, lss_tu ds]
end
mutual
theorem ls_dep : ∀ d : PyData, dep (lsD d) = dep d
  | .none => rfl
  | .bool _ => rfl
  | .int _ => rfl
  | .str _ => rfl
  | .dict _ => rfl
  | .list ds => congrArg (· + 1) (lss_dep ds)
  | .tuple ds => congrArg (· + 1) (lss_dep ds)
theorem lss_dep : ∀ ds : List PyData, PyData.depthAll (lsDs ds) = PyData.depthAll ds
  | [] => rfl
  | d :: ds => by
    show max (dep (lsD d)) (PyData.depthAll (lsDs ds)) = max (dep d) (PyData.depthAll ds)
    rw [ls_dep d, lss_dep ds]
end
theorem lsDs_len : ∀ ds : List PyData, (lsDs ds).length = ds.length
  | [] => rfl
  | d :: ds => congrArg (· + 1) (lsDs_len ds)
mutual
theorem ls_lay : ∀ d : PyData, PyData.canLay0 (lsD d) = PyData.canLay0 d
  | .none => rfl
  | .bool _ => rfl
  | .int _ => rfl
  | .str _ => rfl
  | .dict _ => rfl
  | .list ds => lss_lay ds
  | .tuple ds => lss_lay ds
theorem lss_lay : ∀ ds : List PyData, PyData.canLayAll0 (lsDs ds) = PyData.canLayAll0 ds
  | [] => rfl
  | d :: ds => by
    show (PyData.canLay0 (lsD d) && PyData.canLayAll0 (lsDs ds)) = (PyData.canLay0 d && PyData.canLayAll0 ds)
    rw [ls_lay d, lss_lay ds]
end
mutual
theorem ls_few : ∀ d : PyData, fewD (lsD d) = fewD d
  | .none => rfl
  | .bool _ => rfl
  | .int _ => rfl
  | .str _ => rfl
  | .dict _ => rfl
  | .list ds => by
    show (decide ((lsDs ds).length < 1000) && fewDs (lsDs ds)) = (decide (ds.length < 1000) && fewDs ds)
    rw [lsDs_len, lss_few ds]
  | .tuple ds => by
    show (decide ((lsDs ds).length < 1000) && fewDs (lsDs ds)) = (decide (ds.length < 1000) && fewDs ds)
    rw [lsDs_len, lss_few ds]
theorem lss_few : ∀ ds : List PyData, fewDs (lsDs ds) = fewDs ds
  | [] => rfl
  | d :: ds => by
    show (fewD (lsD d) && fewDs (lsDs ds)) = (fewD d && fewDs ds)
    rw [ls_few d, lss_few ds]
end
theorem ls_plain (d : PyData) : plainD (lsD d) = plainD d := by
  unfold plainD
  rw [ls_lay, ls_few]
theorem lsh {s : Sh} (ok : Ok s) : plainD (lsD (shD s)) = true ∧ dep (lsD (shD s)) ≤ 15 ∧ tuD (lsD (shD s)) = shD s := by
  refine ⟨by rw [ls_plain]; exact sh_plain ok, by rw [ls_dep]; exact Nat.le_trans (sh_dep ok) (by decide), by rw [ls_tu]; exact sh_tu ok⟩
/-! ### slices -/
theorem cut_to {α : Type} (xs : List α) (k : Nat) : cutP xs none (some (k : Int)) = xs.take k := by
  unfold cutP
  rw [HT.sIx_none, HT.sIx_nat, List.drop_zero, Nat.sub_zero]
  by_cases h : k ≤ xs.length
  · rw [Nat.min_eq_left h]
  · rw [Nat.min_eq_right (by omega), List.take_of_length_le (Nat.le_refl _), List.take_of_length_le (by omega)]
theorem cut_from {α : Type} (xs : List α) (k : Nat) : cutP xs (some (k : Int)) none = xs.drop k := by
  unfold cutP
  rw [HT.sIx_none, HT.sIx_nat]
  by_cases h : k ≤ xs.length
  · rw [Nat.min_eq_left h, List.take_of_length_le (by rw [List.length_drop]; exact Nat.le_refl _)]
  · rw [Nat.min_eq_right (by omega), List.drop_of_length_le (Nat.le_refl _), List.drop_of_length_le (by omega), List.take_nil]
theorem cut_last {α : Type} (xs : List α) : cutP xs none (some (-1)) = xs.dropLast := by
  unfold cutP
  rw [HT.sIx_none, List.drop_zero, Nat.sub_zero, List.dropLast_eq_take]
  congr 1
  show (if (-1 : Int) < 0 then (-1 + (xs.length : Int)).toNat else min (-1 : Int).toNat xs.length) = xs.length - 1
  rw [if_pos (by decide)]
  omega
theorem sameTo {a b : PyData} {Φ : PyData → Prop} (e : a = b) (p : plainD b = true) (l : dep b < 20) (h : Φ (.bool true)) : CLawSame 20 [a, b] Φ := by
  subst e
  exact .mk _ _ p l h
theorem laidTo {d : PyData} {s : Sh} {t : Told} {Φ : PyData → Prop} (ok : Ok s) (h : Φ (.bool (isLaid s t))) : CLawIsLaid [shD s, toldD t] Φ := .mk s t _ ok h
theorem boolsPlain {α : Type} (f : α → Bool) (xs : List α) (h : xs.length < 1000) : plainD (.list (xs.map fun x => PyData.bool (f x))) = true ∧ dep (.list (xs.map fun x => PyData.bool (f x))) ≤ 1 := by
  refine ⟨(plain_of_all (by rw [List.length_map]; exact h) fun d hd => ?_).2, ?_⟩
  · obtain ⟨x, _, rfl⟩ := List.mem_map.mp hd
    rfl
  · show PyData.depthAll _ + 1 ≤ 1
    have := depth_all (ds := xs.map fun x => PyData.bool (f x)) (k := 0) fun d hd => by
      obtain ⟨x, _, rfl⟩ := List.mem_map.mp hd
      exact Nat.le_refl 0
    omega
theorem asg_to {T : DS} {D : DEnds} {S S' : DSt} {i : Nat} {v : PyData} (h : T D S') (e : S' = S.setD i v) : dgN i v S (T D) := by
  subst e
  exact h
theorem var_to {i : Nat} {x : PyData} {S : DSt} {Ψ : PyData → DSt → Prop} (e : S.d[i]? = some (some x)) (h : Ψ x S) : dVar i S Ψ := by
  unfold dVar onD
  rw [e]
  exact h
theorem tuplc_to {L : DA} {S : DSt} {Ψ : PyData → DSt → Prop} (h : L S fun xs S1 => Ψ (.tuple xs) S1) : dCB cTuple (dCons (dNew L) dNil) S Ψ := h
/-- what is told of layouts -/
def slipsT (ps qs : List Int) : List Told := [.tup ps, .lst (ps.map fr), .tup qs, .tup ps.dropLast, .tup (ps ++ ps.take 1), .non, .tup (qs.drop 1 ++ qs.take 1)]
section
variable {s : Sh} {k : Nat} {l : Addr} {u : Ur} {Φ : PyData → Ur → Prop}
theorem go_rr14 (so : Ok s) (f : Feas s.hard) (lk : k < s.hard.length) {ps qs : List Int} (hp : ps.length = s.n) (hq : qs.length = s.n) (d3 d4 d5 d6 d7 d8 d9 d11 d12 d13 d14 d15 d16 d17 d19 : Option PyData) (h : Φ (.bool true) u) :
    R_rr14 (endsU Φ l) ⟨[none, some (shD s), some (nt k), d3, d4, d5, d6, d7, d8, d9, some (shD (s.drop k)), d11, d12, d13, d14, d15, d16, d17, some (.tuple (ps.map fr)), d19, some (.tuple (qs.map fr))], some (.fix l (urD u)) :: no20⟩ := by
  have n5 := so.n5
  obtain ⟨a, b, c⟩ := lsh so
  have e : [PyData.tuple (ps.map fr), PyData.list (ps.map fr), PyData.tuple (qs.map fr), .tuple (cutP (ps.map fr) none (some (-1))), .tuple (ps.map fr ++ cutP (ps.map fr) none (some 1)), PyData.none, .tuple (cutP (qs.map fr) (some 1) none ++ cutP (qs.map fr) none (some 1))] = (slipsT ps qs).map toldD := by
    have e1 : cutP (ps.map fr) none (some 1) = (ps.take 1).map fr := by
      rw [List.map_take]
      exact cut_to _ 1
    have e2 : cutP (qs.map fr) none (some 1) = (qs.take 1).map fr := by
      rw [List.map_take]
      exact cut_to _ 1
    have e3 : cutP (qs.map fr) (some 1) none = (qs.drop 1).map fr := by
      rw [List.map_drop]
      exact cut_from _ 1
    rw [e1, e2, e3, cut_last, ← List.map_dropLast, ← List.map_append, ← List.map_append]
    rfl
  have l1 : ∀ lo hi, (cutP (ps.map fr) lo hi).length ≤ 5 := fun lo hi => by
    unfold cutP
    rw [List.length_take, List.length_drop, List.length_map]
    omega
  have l2 : ∀ lo hi, (cutP (qs.map fr) lo hi).length ≤ 5 := fun lo hi => by
    unfold cutP
    rw [List.length_take, List.length_drop, List.length_map]
    omega
  refine ⟨by have := l1 none (some 1); rw [List.length_map]; omega, by have := l2 (some 1) none; have := l2 none (some 1); omega, le0 rfl, ?_⟩
  refine ⟨le0 rfl, rfl, lc_map toldD (fun t => .bool (isLaid (s.drop k) t && !isLaid s t)) (slipsT ps qs) e (fun t ht K hk => ?_) ?_⟩
  · refine CLawIsLaid.mk (s.drop k) t _ (so.drop k) (iteS (fun z => CLawIsLaid.mk s t _ so ⟨rfl, ?_⟩) fun z => ⟨rfl, ?_⟩)
    · rw [z, Bool.true_and] at hk
      exact hk
    · rw [z, Bool.false_and] at hk
      exact hk
  · refine ⟨le0 rfl, rfl, lc_map toldD (fun t => .bool (isLaid (s.drop k) t && !isLaid s t)) (slipsT ps qs) e (fun t ht K hk => ?_) ?_⟩
    · exact CLawLists.mk _ _ (sh_plain so) (Nat.lt_of_le_of_lt (sh_dep so) (by decide)) (CIsSlip.mk s _ k t _ so f a b c lk ⟨rfl, hk⟩)
    · exact CLawSame.mk _ _ rfl (le0 rfl) ⟨u, rfl, h⟩
theorem go_rr13 (so : Ok s) (f : Feas s.hard) (lk : k < s.hard.length) {B : Int} (ok : UrOk u B) (hB : B ≤ 10000) {ps : List Int} (hp : ps.length = s.n) (d3 d4 d5 d6 d7 d8 d9 d11 d12 d13 d14 d15 d16 d17 d19 d20 : Option PyData) (h : ∀ u', UrOk u' (B + 100) → Φ (.bool true) u') :
    R_rr13 (endsU Φ l) ⟨[none, some (shD s), some (nt k), d3, d4, d5, d6, d7, d8, d9, some (shD (s.drop k)), d11, d12, d13, d14, d15, d16, d17, some (.tuple (ps.map fr)), d19, d20], some (.fix l (urD u)) :: no20⟩ := by
  have n5 := so.n5
  have n2 := so.n2
  have e1 : cutP (ps.map fr) none (some 1) = (ps.take 1).map fr := by
    rw [List.map_take]
    exact cut_to _ 1
  have e3 : cutP (ps.map fr) (some 1) none = (ps.drop 1).map fr := by
    rw [List.map_drop]
    exact cut_from _ 1
  have hd : (ps.drop 1).length = s.n - 1 := by rw [List.length_drop, hp]
  refine ⟨by rw [e3, List.length_map]; omega, rfl, ?_⟩
  refine lc_inv fr (fun rest acc o => ∃ (qs : List Int) (u2 : Ur), acc = qs.map fr ∧ qs.length + rest.length = s.n - 1 ∧ UrOk u2 (B + qs.length) ∧ o = some (.fix l (urD u2)) :: no20)
    (fun x rest acc o hI K K0 h1 h2 => ?_) (fun acc o hI => ?_) (ps.drop 1) [] _ e3 ⟨[], u, rfl, by rw [hd]; exact Nat.zero_add _, ok.up (by show B ≤ B + 0; omega), rfl⟩
  · obtain ⟨qs, u2, rfl, hl, ok2, rfl⟩ := hI
    rw [List.length_cons] at hl
    refine CLawTake.mk u2 3 _ _ (by decide) (by decide) ok2 (by omega) fun r u3 r0 r1 ok3 => ?_
    have fin : ∀ y : Int, CLawPlus [fr x, fr y] fun d => okS [17] (some (Ob.fix l (urD u3)) :: no20) = true ∧ K d (some (Ob.fix l (urD u3)) :: no20) := fun y => by
      refine CLawPlus.mk _ _ _ ⟨rfl, h1 _ _ ⟨qs ++ [x + y], u3, by rw [List.map_append]; rfl, by rw [List.length_append]; show qs.length + 1 + rest.length = s.n - 1; omega, ok3.up ?_, rfl⟩⟩
      rw [List.length_append]
      show B + (qs.length : Int) + 1 ≤ B + ((qs.length + 1 : Nat) : Int)
      omega
    have hr : r = 0 ∨ r = 1 ∨ r = 2 := by omega
    rcases hr with e | e | e
    · subst e
      exact ⟨le0 rfl, fin 2⟩
    · subst e
      exact ⟨le0 rfl, fin 4⟩
    · subst e
      exact ⟨le0 rfl, fin 6⟩
  · obtain ⟨qs, u2, rfl, hl, ok2, rfl⟩ := hI
    have hl' : qs.length = s.n - 1 := hl
    have e4 : cutP (ps.map fr) none (some 1) ++ qs.map fr = (ps.take 1 ++ qs).map fr := by
      rw [e1, List.map_append]
    have hq : (ps.take 1 ++ qs).length = s.n := by
      rw [List.length_append, List.length_take, hp]
      omega
    refine ⟨?_, ?_⟩
    · rw [← List.length_append, e4, List.length_map]
      omega
    · have := go_rr14 (l := l) (u := u2) (Φ := Φ) so f lk hp hq d3 d4 d5 d6 d7 d8 d9 d11 d12 d13 d14 d15 d16 d17 d19 (h u2 (ok2.up (by omega)))
      rw [← e4] at this
      exact asg_to (T := R_rr14) this rfl
theorem fr_two (x : Int) : fr (2 * x) = .tuple [.int x, .int 1] := by
  show PyData.tuple [.int (fnum (2 * x)), .int (fden (2 * x))] = _
  unfold fnum fden
  rw [if_pos (by omega), if_pos (by omega)]
  rw [show 2 * x / 2 = x by omega]
theorem goods_any (gs : List (List Nat)) (a : List Nat) : ((gs.map rowT).any fun z => PyData.eqv z (rowT a)) = decide (a ∈ gs) := by
  rw [List.any_map]
  apply Bool.eq_iff_iff.mpr
  rw [List.any_eq_true, decide_eq_true_iff]
  constructor
  · rintro ⟨y, hy, e⟩
    have e' : PyData.eqv (rowT y) (rowT a) = true := e
    rw [eqv_row, decide_eq_true_iff] at e'
    subst e'
    exact hy
  · intro h
    refine ⟨a, h, ?_⟩
    show PyData.eqv (rowT a) (rowT a) = true
    rw [eqv_row]
    exact decide_eq_true rfl
theorem row_lay (ks : List Nat) : PyData.canLay0 (rowT ks) = true := canLay_all hms_canLay
theorem row_shaped (ks : List Nat) : SeqAt.shaped (rowT ks) = true := shaped_list (k := 1) hms_canLay (fun d hd => by
  obtain ⟨x, _, rfl⟩ := List.mem_map.mp hd
  exact Nat.le_refl 1) (by decide)
theorem rows_shaped (gs : List (List Nat)) : SeqAt.shaped (.list (gs.map rowT)) = true := shaped_list (k := 2) (fun d hd => by
  obtain ⟨x, _, rfl⟩ := List.mem_map.mp hd
  exact row_lay x) (fun d hd => by
  obtain ⟨x, _, rfl⟩ := List.mem_map.mp hd
  exact row_dep x) (by decide)
theorem go_rr12 (so : Ok s) (f : Feas s.hard) (lk : k < s.hard.length) {B : Int} (ok : UrOk u B) (hB : B ≤ 10000) (bared : PyData) (hb : lgoods s k = [] → bared = .tuple ((slipL s k).map fr)) (d3 d4 d5 d6 d8 d9 d11 d13 d14 d15 d16 d17 d18 d19 d20 : Option PyData) (h : ∀ u', UrOk u' (B + 100) → Φ (.bool true) u') :
    R_rr12 (endsU Φ l) ⟨[none, some (shD s), some (nt k), d3, d4, d5, d6, some (.list ((lgoods s k).map rowT)), d8, d9, some (shD (s.drop k)), d11, some bared, d13, d14, d15, d16, d17, d18, d19, d20], some (.fix l (urD u)) :: no20⟩ := by
  have n5 := so.n5
  refine ⟨le0 rfl, rows_shaped _, rfl, ?_⟩
  show if PyData.eqvAll ((lgoods s k).map rowT) [] = true then _ else _
  cases e : lgoods s k with
  | nil =>
    have := go_rr13 (l := l) (Φ := Φ) so f lk ok hB (ps := slipL s k) (lay_len (slipSh s k)) d3 d4 d5 d6 (some (.list [])) d8 d9 d11 (some bared) d13 d14 d15 d16 d17 d19 d20 h
    rw [← hb e] at this
    exact iteY rfl (var_to (x := bared) rfl (asg_to (T := R_rr13) this rfl))
  | cons g gs =>
    refine iteN rfl (tuplc_to ⟨by omega, by omega, by rw [range_eq, List.length_map, List.length_range]; omega, rfl, lc_map nt (fun x => .tuple [nt x, .int 1]) (List.range s.n) rfl (fun x hx K hk => ⟨le0 rfl, rfl, hk⟩) ?_⟩)
    have e2 : (List.range s.n).map (fun x => PyData.tuple [nt x, .int 1]) = ((List.range s.n).map fun (x : Nat) => 2 * (x : Int)).map fr := by
      rw [List.map_map]
      refine List.map_congr_left fun x _ => ?_
      exact (fr_two x).symm
    have := go_rr13 (l := l) (Φ := Φ) so f lk ok hB (ps := (List.range s.n).map fun (x : Nat) => 2 * (x : Int)) (by rw [List.length_map, List.length_range]) d3 d4 d5 d6 (some (.list ((g :: gs).map rowT))) d8 d9 d11 (some bared) d13 d14 d15 d16 d17 d19 d20 h
    rw [← e2] at this
    exact asg_to (T := R_rr13) this rfl
/-! ### the told ways -/
theorem way_met {s : Sh} {k : Nat} : ∀ (t : Nat) (ks met : List Nat), (ks, met) ∈ waysN s.hard k (s.at k).1 t → met = (s.at k).1 :: ks.map fun m => (s.at m).2.1
  | 0, ks, met, h => by
    have e : (ks, met) = ([], [(s.at k).1]) := List.mem_singleton.mp h
    cases e
    rfl
  | t + 1, ks, met, h => by
    obtain ⟨v, hv, hw⟩ := List.mem_flatMap.mp h
    obtain ⟨r, m, hm, c1, c2, c3, e⟩ := ext_mem hw
    cases e
    have ih := way_met t v.1 v.2 hv
    have hat : s.at m = r := getD_of hm
    rw [List.map_append, ← List.cons_append, ← ih, List.map_cons, List.map_nil, hat]
theorem by_nil (so : Ok s) (lk : k < s.hard.length) : isBy s k [] = false := by
  have : byGo s k [] [(s.at k).1] = false := decide_eq_false (so.ne _ (at_mem lk))
  unfold isBy
  rw [this, Bool.false_and]
theorem by_self (s : Sh) (k : Nat) : isBy s k [k] = false := by
  have : byGo s k [k] [(s.at k).1] = false := if_pos (Or.inl rfl)
  unfold isBy
  rw [this, Bool.false_and]
theorem by_twice (so : Ok s) (lk : k < s.hard.length) {ks : List Nat} (hl : ∀ m ∈ ks, m < s.hard.length) : isBy s k (ks ++ ks) = false := by
  cases ks with
  | nil => exact by_nil so lk
  | cons a r =>
    obtain ⟨r1, r2⟩ := so.rin _ (at_mem lk)
    rw [Bool.eq_false_iff]
    intro h
    have hl2 : ∀ m ∈ (a :: r) ++ (a :: r), m < s.hard.length := fun m hm => by
      rcases List.mem_append.mp hm with z | z
      · exact hl m z
      · exact hl m z
    obtain ⟨met, h1, _, _⟩ := mem_goods.mp ((isBy_iff so lk hl2).mp h)
    have W := waysN_ok so r1 _ _ h1
    have nd := W.sp.nodup
    rw [show met = _ from way_met _ _ _ h1] at nd
    have nd2 := (List.nodup_cons.mp nd).2
    rw [List.map_append, List.nodup_append] at nd2
    exact nd2.2.2 (s.at a).2.1 (by simp) (s.at a).2.1 (by simp) rfl
theorem by_dec (so : Ok s) (lk : k < s.hard.length) {ks : List Nat} (hl : ∀ m ∈ ks, m < s.hard.length) : isBy s k ks = decide (ks ∈ lgoods s k) := by
  apply Bool.eq_iff_iff.mpr
  rw [decide_eq_true_iff, isBy_iff so lk hl, mem_lgoods so lk]
end
end Dw
set_option maxRecDepth 100000
set_option maxHeartbeats 4000000
/-! One rule, beside all ways. -/
namespace Dw
open PySem PySem.Spec PyProof.Rows L2
def R_rs9 (T : DS) : DS := (dSeq (dAsg (dNew (dLst (dCons (dCB cList (dCons (dVar 8) dNil)) (dCons (dRevT (dVar 8)) (dCons (dOp oCatT (dVar 8) (dVar 8)) (dCons (dTup (dCons (dTup (dCons (dC (.str "hard")) (dCons (dVar 2) dNil))) dNil)) (dCons (dTup dNil) (dCons (dC .none) (dCons (dSlT (dVar 8) doNone (doSome (dUn oNeg (dC (.int 1))))) dNil))))))))) (dgN 15))
    (dSeq (dAsg (dNew (dLst (dCons (dC (.bool false)) (dCons (dOp oIn (dRevT (dVar 8)) (dVar 7)) (dCons (dC (.bool false)) (dCons (dC (.bool false)) (dCons (dC (.bool false)) (dCons (dC (.bool false)) (dCons (dOp oIn (dSlT (dVar 8) doNone (doSome (dUn oNeg (dC (.int 1))))) (dVar 7)) dNil))))))))) (dgN 16))
    (dSeq (dIfS (dNot (dTst (dCall (CLawSame 20) (dCons (dNew (dLc (dItS (dOp oCatL (dVar 13) (dVar 15))) (dgN 17) dYes (dCall CIsBypass (dCons (dCall (CLawLists 20) (dCons (dVar 1) dNil)) (dCons (dVar 2) (dCons (dVar 17) dNil)))) [17])) (dCons (dOp oCatL (dVar 14) (dVar 16)) dNil)))))
    (dRet (dC (.bool false))) dNext)
    T)))
def R_rs6 (T : DS) : DS := (dSeq (dAsg (dNew (dLc (dItS (dSlL (dVar 6) doNone (doSome (dC (.int 6))))) (dgTup 2 (dgCons (dgN 8) (dgCons (dgN 9) dgNil))) dYes (dVar 8) [8, 9])) (dgN 13))
    (dSeq (dAsg (dNew (dLc (dItS (dVar 13)) (dgN 8) dYes (dOp oIn (dVar 8) (dVar 7)) [8])) (dgN 14))
    (dSeq (dAsg (dIf (dTst (dOp oNe (dVar 13) (dNew (dLst dNil)))) (dOp oIx (dVar 13) (dC (.int 0))) (dTup (dCons (dTup (dCons (dC (.str "hard")) (dCons (dVar 2) dNil))) dNil))) (dgN 8))
    T)))
def R_rs5 (T : DS) : DS := (dSeq (dIfS (dTst (dOp oNe (dVar 7) (dNew (dLst dNil))))
    (dIfS (dNot (dTst (dCall (CLawSame 20) (dCons (dNew (dLst (dCons (dVar 11) (dCons (dVar 12) dNil)))) (dCons (dNew (dLst (dCons (dOp oIx (dCB cMin (dCons (dNew (dLc (dItS (dVar 7)) (dgN 8) dYes (dTup (dCons (dCB cLen (dCons (dVar 8) dNil)) (dCons (dVar 8) dNil))) [8])) dNil)) (dC (.int 1))) (dCons (dNew (dLst (dCons (dC (.str "can not")) (dCons (dC (.bool true)) dNil)))) dNil)))) dNil)))))
    (dRet (dC (.bool false))) dNext) (dIfS (dOr (dNot (dTst (dCall (CLawSame 20) (dCons (dVar 11) (dCons (dNew (dLst (dCons (dC (.str "can not")) (dCons (dC (.bool true)) dNil)))) dNil))))) (dOr (dNot (dTst (dCall CLawIsLaid (dCons (dVar 10) (dCons (dVar 12) dNil))))) (dTst (dCall CLawIsLaid (dCons (dVar 1) (dCons (dVar 12) dNil))))))
    (dRet (dC (.bool false))) dNext))
    T)
def R_rs0 (T : DS) : DS := (dSeq (dAsg (dOp oIx (dOp oIx (dVar 1) (dC (.int 1))) (dVar 2)) (dgTup 3 (dgCons (dgN 3) (dgCons (dgN 4) (dgCons (dgN 5) dgNil)))))
    (dSeq (dAsg (dCall CLawWays (dCons (dVar 1) (dCons (dVar 3) (dCons (dVar 4) (dCons (dVar 2) dNil))))) (dgN 6))
    (dSeq (dAsg (dNew (dLc (dItS (dVar 6)) (dgTup 2 (dgCons (dgN 8) (dgCons (dgN 9) dgNil))) (dNot (dTst (dCall CLawUnder (dCons (dVar 9) (dCons (dVar 5) dNil))))) (dVar 8) [8, 9])) (dgN 7))
    (dSeq (dAsg (dTup (dCons (dOp oIx (dVar 1) (dC (.int 0))) (dCons (dOp oCatT (dSlT (dOp oIx (dVar 1) (dC (.int 1))) doNone (doSome (dVar 2))) (dSlT (dOp oIx (dVar 1) (dC (.int 1))) (doSome (dOp oAdd (dVar 2) (dC (.int 1)))) doNone)) (dCons (dOp oIx (dVar 1) (dC (.int 2))) dNil)))) (dgN 10))
    (dSeq (dPar 11 12 (dCall CLawHeard (dCons (dC (.int 0)) (dCons (dCall (CLawLists 20) (dCons (dVar 1) dNil)) (dCons (dVar 2) dNil)))) (dCall CLawHeard (dCons (dC (.int 1)) (dCons (dVar 1) (dCons (dVar 2) dNil)))))
    T)))))
section
variable {s : Sh} {k : Nat} {l : Addr} {u : Ur} {Φ : PyData → Ur → Prop}
theorem lways_ok (so : Ok s) {i j : Nat} (hi : i < s.n) {q : List Nat × Int} (h : q ∈ lways s i j k) : q.1.length < s.n ∧ ∀ m ∈ q.1, m < s.hard.length := by
  obtain ⟨t, _, h1⟩ := List.mem_flatMap.mp h
  obtain ⟨w, hw, rfl⟩ := List.mem_map.mp h1
  have hm : strip w ∈ (waysN s.hard k i t).filter (fun w => decide (w.2.getLastD 0 = j)) := by
    rw [← (lnow_ways s.hard k i j t).2]
    exact List.mem_map_of_mem hw
  have W := waysN_ok so hi t _ (List.mem_filter.mp hm).1
  refine ⟨?_, W.ks⟩
  have := W.short
  have := W.l1
  show w.1.length < s.n
  have e : (strip w).1 = w.1 := rfl
  rw [e] at this
  omega
theorem lways_len (so : Ok s) {i j : Nat} (hi : i < s.n) : (lways s i j k).length < 100000 := by
  have n5 := so.n5
  rw [lways_found so hi (lnow_nil so hi (Nat.le_refl s.n)) (by omega)]
  exact Nat.lt_of_le_of_lt (Nat.le_trans (lfound_len so i j k s.n) (Nat.pow_le_pow_right (by decide) n5)) (by decide)
def waysW (k : Nat) (sm : List (List Nat)) (rw_ : List Nat) : List Way := sm.map Way.tup ++ [.lst (rw_.map hm), .tup rw_.reverse, .tup (rw_ ++ rw_), .tup [k], .tup [], .non, .tup rw_.dropLast]
theorem waysW_eq (k : Nat) (sm : List (List Nat)) (rw_ : List Nat) : sm.map rowT ++ [.list (rw_.map hm), .tuple (rw_.map hm).reverse, .tuple (rw_.map hm ++ rw_.map hm), .tuple [hm k], .tuple [], .none, .tuple (cutP (rw_.map hm) none (some (-1)))] = (waysW k sm rw_).map wayD := by
  rw [cut_last, ← List.map_dropLast, ← List.map_reverse]
  have e : rw_.map hm ++ rw_.map hm = (rw_ ++ rw_).map hm := List.map_append.symm
  rw [e]
  unfold waysW
  rw [List.map_append (f := wayD), List.map_map]
  rfl
theorem waysW_ok {sm : List (List Nat)} {rw_ : List Nat} (n5 : s.n ≤ 5) (lk : k < s.hard.length) (h1 : ∀ ks ∈ sm, ks.length < s.n ∧ ∀ m ∈ ks, m < s.hard.length) (h2 : rw_.length ≤ 5 ∧ ∀ m ∈ rw_, m < s.hard.length) :
    ∀ w ∈ waysW k sm rw_, ∀ ks, w = .tup ks → ks.length < 1000 ∧ ∀ m ∈ ks, m < s.hard.length := by
  intro w hw ks e
  subst e
  unfold waysW at hw
  rcases List.mem_append.mp hw with z | z
  · obtain ⟨a, ha, e⟩ := List.mem_map.mp z
    cases e
    exact ⟨by have := (h1 _ ha).1; omega, (h1 _ ha).2⟩
  · simp only [List.mem_cons, List.not_mem_nil, or_false, reduceCtorEq, false_or, Way.tup.injEq] at z
    rcases z with e | e | e | e | e
    · subst e
      exact ⟨by rw [List.length_reverse]; omega, fun m hm => h2.2 m (List.mem_reverse.mp hm)⟩
    · subst e
      refine ⟨by rw [List.length_append]; omega, fun m hm => ?_⟩
      rcases List.mem_append.mp hm with z | z
      · exact h2.2 m z
      · exact h2.2 m z
    · subst e
      exact ⟨by show 1 < 1000; decide, fun m hm => by rw [List.mem_singleton.mp hm]; exact lk⟩
    · subst e
      exact ⟨by decide, fun m hm => nomatch hm⟩
    · subst e
      exact ⟨by rw [List.length_dropLast]; omega, fun m hm => h2.2 m (List.dropLast_subset _ hm)⟩
theorem waysW_by (so : Ok s) (lk : k < s.hard.length) {sm : List (List Nat)} {rw_ : List Nat} (h1 : ∀ ks ∈ sm, ks.length < s.n ∧ ∀ m ∈ ks, m < s.hard.length) (h2 : rw_.length ≤ 5 ∧ ∀ m ∈ rw_, m < s.hard.length) :
    (waysW k sm rw_).map (fun w => PyData.bool (isByW s k w)) = sm.map (fun ks => PyData.bool (decide (ks ∈ lgoods s k))) ++
      [.bool false, .bool (((lgoods s k).map rowT).any fun z => PyData.eqv z (.tuple (rw_.map hm).reverse)), .bool false, .bool false, .bool false, .bool false, .bool (((lgoods s k).map rowT).any fun z => PyData.eqv z (.tuple (cutP (rw_.map hm) none (some (-1)))))] := by
  rw [cut_last, ← List.map_dropLast, ← List.map_reverse]
  rw [show (((lgoods s k).map rowT).any fun z => PyData.eqv z (.tuple (rw_.reverse.map hm))) = decide (rw_.reverse ∈ lgoods s k) from goods_any _ _]
  rw [show (((lgoods s k).map rowT).any fun z => PyData.eqv z (.tuple (rw_.dropLast.map hm))) = decide (rw_.dropLast ∈ lgoods s k) from goods_any _ _]
  unfold waysW
  rw [List.map_append, List.map_map]
  have e1 : sm.map ((fun w => PyData.bool (isByW s k w)) ∘ Way.tup) = sm.map (fun ks => PyData.bool (decide (ks ∈ lgoods s k))) := by
    refine List.map_congr_left fun ks hks => ?_
    exact congrArg PyData.bool (by_dec so lk (h1 ks hks).2)
  rw [e1, ← by_dec so lk (ks := rw_.reverse) fun m hm => h2.2 m (List.mem_reverse.mp hm), ← by_dec so lk (ks := rw_.dropLast) fun m hm => h2.2 m (List.dropLast_subset _ hm)]
  have a1 : isByW s k (.tup (rw_ ++ rw_)) = false := by_twice so lk h2.2
  have a2 : isByW s k (.tup [k]) = false := by_self s k
  have a3 : isByW s k (.tup []) = false := by_nil so lk
  simp only [List.map_cons, List.map_nil, a1, a2, a3]
  rfl
theorem go_rs9 {T : DS} (so : Ok s) (f : Feas s.hard) (lk : k < s.hard.length) {sm : List (List Nat)} {rw_ : List Nat} (l6 : sm.length ≤ 6) (h1 : ∀ ks ∈ sm, ks.length < s.n ∧ ∀ m ∈ ks, m < s.hard.length) (h2 : rw_.length ≤ 5 ∧ ∀ m ∈ rw_, m < s.hard.length)
    (d3 d4 d5 d6 d9 d10 d11 d12 d15 d16 d17 d18 d19 d20 : Option PyData)
    (h : ∀ d13 d14 d15 d16, T (endsU Φ l) ⟨[none, some (shD s), some (nt k), d3, d4, d5, d6, some (.list ((lgoods s k).map rowT)), some (rowT rw_), d9, d10, d11, d12, d13, d14, d15, d16, d17, d18, d19, d20], some (.fix l (urD u)) :: no20⟩) :
    R_rs9 T (endsU Φ l) ⟨[none, some (shD s), some (nt k), d3, d4, d5, d6, some (.list ((lgoods s k).map rowT)), some (rowT rw_), d9, d10, d11, d12, some (.list (sm.map rowT)), some (.list (sm.map fun ks => PyData.bool (decide (ks ∈ lgoods s k)))), d15, d16, d17, d18, d19, d20], some (.fix l (urD u)) :: no20⟩ := by
  have n5 := so.n5
  obtain ⟨a, b, c⟩ := lsh so
  refine ⟨by rw [List.length_map]; omega, le0 rfl, le0 rfl, le0 rfl, le0 rfl, ?_⟩
  refine ⟨by rw [← List.map_reverse]; exact row_shaped _, rows_shaped _, by rw [cut_last, ← List.map_dropLast]; exact row_shaped _, rows_shaped _, le0 rfl, ?_⟩
  refine ⟨by rw [List.length_map]; show sm.length + 7 ≤ 100000; omega, ?_, rfl, lc_map wayD (fun w => .bool (isByW s k w)) (waysW k sm rw_) (waysW_eq k sm rw_) (fun w hw K hk => ?_) ?_⟩
  · rw [List.length_append, List.length_map]
    show sm.length + 7 < 100000
    omega
  · exact CLawLists.mk _ _ (sh_plain so) (Nat.lt_of_le_of_lt (sh_dep so) (by decide)) (CIsBypass.mk s _ k w _ so f a b c lk (waysW_ok n5 lk h1 h2 w hw) ⟨rfl, hk⟩)
  · refine ⟨by rw [List.length_map]; show sm.length + 7 ≤ 100000; omega, ?_⟩
    have hl : (waysW k sm rw_).length < 1000 := by
      unfold waysW
      rw [List.length_append, List.length_map]
      show sm.length + 7 < 1000
      omega
    obtain ⟨p1, p2⟩ := boolsPlain (fun w => isByW s k w) (waysW k sm rw_) hl
    rw [waysW_by so lk h1 h2] at p1 p2
    exact sameTo (congrArg PyData.list (waysW_by so lk h1 h2)) p1 (Nat.lt_of_le_of_lt p2 (by decide)) (h _ _ _ _)
theorem go_rs6 {T : DS} (so : Ok s) (lk : k < s.hard.length) (d3 d4 d5 d8 d9 d10 d11 d12 d13 d14 d15 d16 d17 d18 d19 d20 : Option PyData)
    (h : ∀ (sm : List (List Nat)) (rw_ : List Nat), sm.length ≤ 6 → (∀ ks ∈ sm, ks.length < s.n ∧ ∀ m ∈ ks, m < s.hard.length) → (rw_.length ≤ 5 ∧ ∀ m ∈ rw_, m < s.hard.length) →
      T (endsU Φ l) ⟨[none, some (shD s), some (nt k), d3, d4, d5, some (.list ((lways s (s.at k).1 (s.at k).2.1 k).map rowD)), some (.list ((lgoods s k).map rowT)), some (rowT rw_), d9, d10, d11, d12, some (.list (sm.map rowT)), some (.list (sm.map fun ks => PyData.bool (decide (ks ∈ lgoods s k)))), d15, d16, d17, d18, d19, d20], some (.fix l (urD u)) :: no20⟩) :
    R_rs6 T (endsU Φ l) ⟨[none, some (shD s), some (nt k), d3, d4, d5, some (.list ((lways s (s.at k).1 (s.at k).2.1 k).map rowD)), some (.list ((lgoods s k).map rowT)), d8, d9, d10, d11, d12, d13, d14, d15, d16, d17, d18, d19, d20], some (.fix l (urD u)) :: no20⟩ := by
  obtain ⟨r1, r2⟩ := so.rin _ (at_mem lk)
  have n5 := so.n5
  have e6 : cutP ((lways s (s.at k).1 (s.at k).2.1 k).map rowD) none (some 6) = ((lways s (s.at k).1 (s.at k).2.1 k).take 6).map rowD := by
    rw [List.map_take]
    exact cut_to _ 6
  have hsm : ∀ ks ∈ ((lways s (s.at k).1 (s.at k).2.1 k).take 6).map (·.1), ks.length < s.n ∧ ∀ m ∈ ks, m < s.hard.length := fun ks hks => by
    obtain ⟨q, hq, rfl⟩ := List.mem_map.mp hks
    exact lways_ok so r1 (List.mem_of_mem_take hq)
  have hl6 : (((lways s (s.at k).1 (s.at k).2.1 k).take 6).map (·.1)).length ≤ 6 := by
    rw [List.length_map, List.length_take]
    omega
  refine ⟨by rw [e6, List.length_map, List.length_take]; omega, rfl, lc_map rowD (fun q => rowT q.1) ((lways s (s.at k).1 (s.at k).2.1 k).take 6) e6 (fun q hq K hk => ⟨rfl, rfl, hk⟩) ?_⟩
  rw [show ((lways s (s.at k).1 (s.at k).2.1 k).take 6).map (fun q => rowT q.1) = (((lways s (s.at k).1 (s.at k).2.1 k).take 6).map (·.1)).map rowT by rw [List.map_map]; rfl]
  generalize ((lways s (s.at k).1 (s.at k).2.1 k).take 6).map (·.1) = sm at hsm hl6 ⊢
  refine ⟨by rw [List.length_map]; omega, rfl, lc_map rowT (fun ks => .bool (decide (ks ∈ lgoods s k))) sm rfl (fun ks hks K hk => ⟨row_shaped ks, rows_shaped _, rfl, ?_⟩) ?_⟩
  · show K (.bool (((lgoods s k).map rowT).any fun z => PyData.eqv z (rowT ks))) _
    rw [goods_any]
    exact hk
  · refine ⟨le0 rfl, rows_shaped sm, rfl, ?_⟩
    show if (!PyData.eqvAll (sm.map rowT) []) = true then _ else _
    by_cases e : sm = []
    · refine iteN (by rw [e]; rfl) ⟨le0 rfl, le0 rfl, ?_⟩
      exact h sm [k] hl6 hsm ⟨by show 1 ≤ 5; decide, fun m hm => by rw [List.mem_singleton.mp hm]; exact lk⟩
    · obtain ⟨g, gs, eg⟩ := List.exists_cons_of_ne_nil e
      refine iteY (by rw [eg]; rfl) (onO_some (x := rowT g) (by rw [eg]; exact atI_nat (ds := (g :: gs).map rowT) (i := 0) (d := rowT g) rfl) ?_)
      have hg := hsm g (by rw [eg]; exact List.mem_cons_self)
      exact h sm g hl6 hsm ⟨by omega, hg.2⟩
end
end Dw
set_option maxRecDepth 100000
set_option maxHeartbeats 4000000
/-! One rule, beside all ways: the whole. -/
namespace Dw
open PySem PySem.Spec PyProof.Rows L2
section
variable {s : Sh} {k : Nat} {l : Addr} {u : Ur} {Φ : PyData → Ur → Prop}
theorem row_plain {ks : List Nat} (h : ks.length < 1000) : plainD (rowT ks) = true := (plain_of_all (by rw [List.length_map]; exact h) fun d hd => by
  obtain ⟨x, _, rfl⟩ := List.mem_map.mp hd
  exact hm_plain x).1
theorem can_plain : plainD canNotD = true := by decide +kernel
theorem lgoods_len (so : Ok s) (lk : k < s.hard.length) : (lgoods s k).length < 100000 := by
  obtain ⟨r1, r2⟩ := so.rin _ (at_mem lk)
  unfold lgoods
  rw [List.length_map]
  exact Nat.lt_of_le_of_lt (List.length_filter_le _ _) (lways_len so r1)
theorem pairs_ready (g : List Nat) (gs : List (List Nat)) : PySem.W.AlikeAll (pairT g :: gs.map pairT) ∧ PyData.depthAll (pairT g :: gs.map pairT) ≤ 64 := by
  have mem : ∀ x ∈ pairT g :: gs.map pairT, ∃ ks, x = pairT ks := fun x hx => by
    rcases List.mem_cons.mp hx with e | e
    · exact ⟨g, e⟩
    · obtain ⟨ks, _, rfl⟩ := List.mem_map.mp e
      exact ⟨ks, rfl⟩
  refine ⟨⟨fun x hx y hy => ?_, fun x hx => ?_⟩, ?_⟩
  · obtain ⟨a, rfl⟩ := mem x hx
    obtain ⟨b, rfl⟩ := mem y hy
    show (true && (PySem.W.alike (rowT a) (rowT b) && true)) = true
    rw [alike_row]
    rfl
  · obtain ⟨a, rfl⟩ := mem x hx
    exact fun z => nomatch z
  · exact depth_all fun x hx => by
      obtain ⟨a, rfl⟩ := mem x hx
      have := row_dep a
      show max 0 (max (dep (rowT a)) 0) + 1 ≤ 64
      omega
theorem go_rs5_yes {T : DS} (so : Ok s) (lk : k < s.hard.length) {ks : List Nat} (hk : LeastBy s k ks) (d3 d4 d5 d6 d8 d9 d10 d13 d14 d15 d16 d17 d18 d19 d20 : Option PyData)
    (h : T (endsU Φ l) ⟨[none, some (shD s), some (nt k), d3, d4, d5, d6, some (.list ((lgoods s k).map rowT)), d8, d9, d10, some (rowT ks), some canNotD, d13, d14, d15, d16, d17, d18, d19, d20], some (.fix l (urD u)) :: no20⟩) :
    R_rs5 T (endsU Φ l) ⟨[none, some (shD s), some (nt k), d3, d4, d5, d6, some (.list ((lgoods s k).map rowT)), d8, d9, d10, some (rowT ks), some canNotD, d13, d14, d15, d16, d17, d18, d19, d20], some (.fix l (urD u)) :: no20⟩ := by
  obtain ⟨g, gs, e1, e2⟩ := least_eq so lk hk
  have lg := lgoods_len so lk
  have hks : ks.length < 1000 := by
    obtain ⟨t, a, as, h1, h2, h3⟩ := hk
    have e : rowT ks = rowT (minL a as) := by
      have : rowT ks = PySem.W.minD (rowT a) (as.map rowT) := h3
      rw [this, minL_row]
    have e3 := eqv_row ks (minL a as)
    rw [e, eqv_row, decide_eq_true rfl] at e3
    have e4 := of_decide_eq_true e3.symm
    have hm := minL_mem as a
    rw [← h2, ← e4] at hm
    have := goods_len so lk hm
    have := so.n5
    omega
  refine ⟨le0 rfl, rows_shaped _, rfl, ?_⟩
  show if (!PyData.eqvAll ((lgoods s k).map rowT) []) = true then _ else _
  refine iteY (by rw [e1]; rfl) ⟨le0 rfl, by rw [List.length_map]; exact lg, rfl, lc_map rowT (fun ks => .tuple [.int ((ks.map hm).length : Nat), rowT ks]) (lgoods s k) rfl (fun ks hks K hk => ⟨le0 rfl, rfl, hk⟩) ?_⟩
  have ef : (lgoods s k).map (fun ks => PyData.tuple [.int ((ks.map hm).length : Nat), rowT ks]) = pairT g :: gs.map pairT := by
    rw [e1]
    show ((g :: gs).map fun ks => PyData.tuple [.int ((ks.map hm).length : Nat), rowT ks]) = (g :: gs).map pairT
    refine List.map_congr_left fun x _ => ?_
    rw [List.length_map]
    rfl
  rw [ef]
  obtain ⟨q1, q2⟩ := pairs_ready g gs
  refine ⟨q1, q2, ?_⟩
  rw [e2]
  have pl : plainD (.list [rowT ks, canNotD]) = true := (plain_of_all (ds := [rowT ks, canNotD]) (by show 2 < 1000; decide) fun d hd => by
    rcases List.mem_cons.mp hd with e | hd
    · rw [e]
      exact row_plain hks
    · rw [List.mem_singleton.mp hd]
      exact can_plain).2
  have dp : dep (.list [rowT ks, canNotD]) < 20 := by
    have := row_dep ks
    show max (dep (rowT ks)) (max 1 0) + 1 < 20
    omega
  exact ⟨le0 rfl, le0 rfl, CLawSame.mk (.list [rowT ks, canNotD]) _ pl dp h⟩
theorem go_rs5_no {T : DS} (so : Ok s) (f : Feas s.hard) (lk : k < s.hard.length) (y : idle s k = false) (e : lgoods s k = []) (d3 d4 d5 d6 d8 d9 d13 d14 d15 d16 d17 d18 d19 d20 : Option PyData)
    (h : T (endsU Φ l) ⟨[none, some (shD s), some (nt k), d3, d4, d5, d6, some (.list ((lgoods s k).map rowT)), d8, d9, some (shD (s.drop k)), some canNotD, some (.tuple ((slipL s k).map fr)), d13, d14, d15, d16, d17, d18, d19, d20], some (.fix l (urD u)) :: no20⟩) :
    R_rs5 T (endsU Φ l) ⟨[none, some (shD s), some (nt k), d3, d4, d5, d6, some (.list ((lgoods s k).map rowT)), d8, d9, some (shD (s.drop k)), some canNotD, some (.tuple ((slipL s k).map fr)), d13, d14, d15, d16, d17, d18, d19, d20], some (.fix l (urD u)) :: no20⟩ := by
  obtain ⟨h1, h2⟩ := slip_laid so f lk y
  refine ⟨le0 rfl, rows_shaped _, rfl, ?_⟩
  show if (!PyData.eqvAll ((lgoods s k).map rowT) []) = true then _ else _
  refine iteN (by rw [e]; rfl) ⟨le0 rfl, CLawSame.mk canNotD _ can_plain (le0 rfl) (CLawIsLaid.mk (s.drop k) (.tup (slipL s k)) _ (so.drop k) ?_)⟩
  rw [h1]
  refine CLawIsLaid.mk s (.tup (slipL s k)) _ so ?_
  rw [h2]
  exact h
theorem go_rs0 {T : DS} (so : Ok s) (f : Feas s.hard) (lk : k < s.hard.length)
    (h : ∀ told bared d3 d4 d5, ((idle s k = true ∧ bared = canNotD ∧ ∃ ks, LeastBy s k ks ∧ told = rowT ks) ∨ (idle s k = false ∧ told = canNotD ∧ bared = .tuple ((slipL s k).map fr))) →
      T (endsU Φ l) ⟨[none, some (shD s), some (nt k), d3, d4, d5, some (.list ((lways s (s.at k).1 (s.at k).2.1 k).map rowD)), some (.list ((lgoods s k).map rowT)), none, none, some (shD (s.drop k)), some told, some bared, none, none, none, none, none, none, none, none], some (.fix l (urD u)) :: no20⟩) :
    R_rs0 T (endsU Φ l) ⟨[none, some (shD s), some (nt k), none, none, none, none, none, none, none, none, none, none, none, none, none, none, none, none, none, none], some (.fix l (urD u)) :: no20⟩ := by
  obtain ⟨r1, r2⟩ := so.rin _ (at_mem lk)
  have few := so.few
  obtain ⟨a, b, c⟩ := lsh so
  refine onO_some (sh_atD lk) ⟨rfl, CLawWays.mk s (s.at k).1 (s.at k).2.1 k _ so r1 ?_⟩
  refine ⟨by rw [List.length_map]; exact lways_len so r1, rfl, lc_run rowD (fun q => if decide ((s.at k).2.2 ≤ q.2) = true then some (rowT q.1) else none) (lways s (s.at k).1 (s.at k).2.1 k) [] rfl (fun q hq K K0 h1 h2 => ⟨rfl, CLawUnder.mk _ _ _ ?_⟩) ?_⟩
  · by_cases z : (s.at k).2.2 ≤ q.2
    · show if (!decide (q.2 < (s.at k).2.2)) = true then _ else _
      rw [decide_eq_false (show ¬ q.2 < (s.at k).2.2 by omega)]
      exact ⟨rfl, h1 _ (if_pos (decide_eq_true z))⟩
    · show if (!decide (q.2 < (s.at k).2.2)) = true then _ else _
      rw [decide_eq_true (show q.2 < (s.at k).2.2 by omega)]
      exact ⟨rfl, h2 (if_neg (by rw [decide_eq_false z]; exact Bool.false_ne_true))⟩
  · rw [List.nil_append, filter_map_if (fun q : List Nat × Int => decide ((s.at k).2.2 ≤ q.2)) fun q => rowT q.1]
    rw [show ((lways s (s.at k).1 (s.at k).2.1 k).filter fun q => decide ((s.at k).2.2 ≤ q.2)).map (fun q => rowT q.1) = (lgoods s k).map rowT by unfold lgoods; rw [List.map_map]; rfl]
    have el : cutP (s.hard.map ruD) none (some (k : Int)) ++ cutP (s.hard.map ruD) (some ((k : Int) + 1)) none = (s.drop k).hard.map ruD := by
      rw [cut_to, show ((k : Int) + 1) = ((k + 1 : Nat) : Int) by omega, cut_from]
      show _ = (s.hard.eraseIdx k).map ruD
      rw [List.eraseIdx_eq_take_drop_succ, List.map_append, List.map_take, List.map_drop]
    have ll : (cutP (s.hard.map ruD) none (some (k : Int))).length + (cutP (s.hard.map ruD) (some ((k : Int) + 1)) none).length ≤ 100000 := by
      rw [← List.length_append, el, List.length_map]
      have := (so.drop k).few
      omega
    refine ⟨ll, le0 rfl, CLawLists.mk _ _ (sh_plain so) (Nat.lt_of_le_of_lt (sh_dep so) (by decide)) ?_⟩
    have es : PyData.tuple [.int (s.n : Nat), .tuple (cutP (s.hard.map ruD) none (some (k : Int)) ++ cutP (s.hard.map ruD) (some ((k : Int) + 1)) none), .tuple s.ease] = shD (s.drop k) := by
      rw [el]
      rfl
    cases y : idle s k with
    | true =>
      refine CLawHeard.by1 s _ k _ so f a b c lk fun r hr => ?_
      rw [if_pos y] at hr
      obtain ⟨ks, hk, rfl⟩ := hr
      refine CLawHeard.sl s (shD s) k _ so f (sh_plain so) (Nat.le_trans (sh_dep so) (by decide)) (sh_tu so) lk ?_
      rw [if_pos y]
      have := h (rowT ks) canNotD (some (nt (s.at k).1)) (some (nt (s.at k).2.1)) (some (fr (s.at k).2.2)) (Or.inl ⟨y, rfl, ks, hk, rfl⟩)
      rw [← es] at this
      exact this
    | false =>
      refine CLawHeard.by1 s _ k _ so f a b c lk fun r hr => ?_
      rw [if_neg (by rw [y]; exact Bool.false_ne_true)] at hr
      subst hr
      refine CLawHeard.sl s (shD s) k _ so f (sh_plain so) (Nat.le_trans (sh_dep so) (by decide)) (sh_tu so) lk ?_
      rw [if_neg (by rw [y]; exact Bool.false_ne_true)]
      have := h canNotD (.tuple ((slipL s k).map fr)) (some (nt (s.at k).1)) (some (nt (s.at k).2.1)) (some (fr (s.at k).2.2)) (Or.inr ⟨y, rfl, rfl⟩)
      rw [← es] at this
      exact this
end
theorem go_law_rule_right (l : Addr) : ∀ u ds Φ, CLawRuleRight u ds Φ → R_law_rule_right (endsU Φ l) (startU ["_law_urn", "_law_sheet", "_law_k", "_law_i", "_law_j", "_law_far", "_law_ways_here", "_law_goods", "_law_row", "_law_sum_so", "_law_left", "_law_told", "_law_bared", "_law_some", "_law_due", "_law_more", "_law_same_so", "_law_own", "_law_laid", "_law_one", "_law_moved"] l u ds) := by
  intro u ds Φ h
  cases h with
  | mk u s k B Φ ok hB so f lk h =>
    have main : R_rs0 (R_rs5 (R_rs6 (R_rs9 R_rr12))) (endsU Φ l) ⟨[none, some (shD s), some (nt k), none, none, none, none, none, none, none, none, none, none, none, none, none, none, none, none, none, none], some (.fix l (urD u)) :: no20⟩ := by
      refine go_rs0 so f lk fun told bared d3 d4 d5 hc => ?_
      have tail : ∀ told bared, (lgoods s k = [] → bared = .tuple ((slipL s k).map fr)) → R_rs6 (R_rs9 R_rr12) (endsU Φ l) ⟨[none, some (shD s), some (nt k), d3, d4, d5, some (.list ((lways s (s.at k).1 (s.at k).2.1 k).map rowD)), some (.list ((lgoods s k).map rowT)), none, none, some (shD (s.drop k)), some told, some bared, none, none, none, none, none, none, none, none], some (.fix l (urD u)) :: no20⟩ := fun told bared hb => by
        refine go_rs6 so lk _ _ _ _ _ _ _ _ _ _ _ _ _ _ _ _ fun sm rw_ l6 h1 h2 => ?_
        refine go_rs9 so f lk l6 h1 h2 _ _ _ _ _ _ _ _ _ _ _ _ _ _ fun d13 d14 d15 d16 => ?_
        exact go_rr12 so f lk ok hB bared hb _ _ _ _ _ _ _ _ _ _ _ _ _ _ _ h
      rcases hc with ⟨y, rfl, ks, hk, rfl⟩ | ⟨y, rfl, rfl⟩
      · exact go_rs5_yes so lk hk _ _ _ _ _ _ _ _ _ _ _ _ _ _ _ (tail _ _ fun e => absurd e ((idle_iff so f lk).mp y))
      · have e : lgoods s k = [] := by
          by_cases z : lgoods s k = []
          · exact z
          · rw [(idle_iff so f lk).mpr z] at y
            cases y
        exact go_rs5_no so f lk y e _ _ _ _ _ _ _ _ _ _ _ _ _ _ (tail _ _ fun _ => rfl)
    exact main
end Dw
set_option maxRecDepth 100000
set_option maxHeartbeats 4000000
/-! The defs that draw keep their contracts. -/
namespace Dw
open PySem PySem.Spec PyProof.Rows L2
section
variable {P : Program} {w : World} {K : Fg} {mg : Str → Option Value} {base : Heap}
theorem outU {H H0 H' H0' : Hp} {l : Addr} {N : Addr → Prop} {σ' : L2.St} {S' : DSt} {u' : Ur} (R : SR K ⟨H, H0, fun b => b = l ∨ N b⟩ H0' H' σ' S') (hN : ∀ b, N b → H0' b = none ∧ (∀ o, H b = some o → H' b = some o)) (h : S'.o[0]? = some (some (.fix l (urD u')))) :
    (∀ b o, b ≠ l → H b = some o → H' b = some o) ∧ H' l = some (.lst (urV u')) ∧ ∀ b o, H0' b = some o → H0 b = some o ∨ H b = none := by
  obtain ⟨vs, _, b2, c2, d2, _⟩ := R.ownU h
  rw [ur_eq c2] at b2
  refine ⟨fun b o hb e => ?_, b2, fun b o e => ?_⟩
  · by_cases n : N b
    · exact (hN b n).2 o e
    · exact R.fr b o e fun z => z.elim hb n
  · rcases R.nw b o e with z | z | z
    · exact Or.inl z
    · exact Or.inr z
    · rcases z with z | z
      · rw [z, d2] at e
        cases e
      · rw [(hN b z).1] at e
        cases e
theorem srM {G : Gh} {M : Addr → Prop} {H0 H : Hp} {σ : L2.St} {S : DSt} (R : SR K G H0 H σ S) (h : ∀ b, G.M b ↔ M b) : SR K ⟨G.He, G.H0e, M⟩ H0 H σ S := by
  have e : (⟨G.He, G.H0e, M⟩ : Gh) = G := by
    obtain ⟨a, b, c⟩ := G
    congr 1
    funext x
    exact propext (h x).symm
  rw [e]
  exact R
theorem ok_ofU {x : Str} {st : Stmt} {N : List Str} {p0 : Str} {ps : List Str} {k : Nat} {ρ : CtU} (h : ∃ f fd, FnP K x st f fd ∧ mg x = some (.ref f)) (Sc : FnScope N (p0 :: ps) (defScope st)) (hps : ps.length + 1 ≤ N.length)
    (hb : ∀ (kV doc pm : Value) (an : Option Addr) (cdv ct : Value) (us : List Value), us.length = (p0 :: ps).length → bindArgs (PySem.W.fnOf x x (defArgs st) (defBody st) (defScope st) .none kV doc pm an cdv ct) ⟨us, []⟩ = pure ((p0 :: ps).zip us))
    (len : ∀ u ds Φ, ρ u ds Φ → ds.length = ps.length)
    (body : ∀ {f : Addr} (cdv : Value) (A : Around) (outer : List Env) (s : Shared) (H : Hp) (E : XK), Room k (A.deeper (envOfC x (defScope st) s.heap.objs.size f cdv)) →
      ∃ ts T, PBx (cxOf CX0 P w K mg base N x (defScope st) f cdv A outer s H E).nox (defBody st) ts T ∧ ∀ l u ds Φ, ρ u ds Φ → T (endsU Φ l) (startU N l u ds)) :
    OkD P w K mg base CX0 (k + 1) x (p0 :: ps) (spU K ρ) := by
  obtain ⟨f, fd, F, g⟩ := h
  refine ⟨f, fd, g, F.kp, F.bindsN hb, F.ok Sc (fun vs H Q E h => ?_) (fun cdv A outer s H vs Q E hr h => ?_)⟩
  · obtain ⟨H0, l, vs', ds, u, Φ, rfl, _, _, _, hd, r, _⟩ := h
    rw [List.length_cons, Dps.len hd, len u ds Φ r]
    rfl
  · obtain ⟨H0, l, vs', ds, u, Φ, rfl, e0, hl, hu, hd, r, kk⟩ := h
    obtain ⟨ts, T, hb, ht⟩ := body cdv A outer s H E hr
    have R0 := startU_sr (N := N) e0 hl hu hd (by rw [len u ds Φ r]; exact hps)
    refine ⟨ts, PSs.nox hb.ps, hb.sn _ H0 H _ (startU N l u ds) (endsU Φ l) _ R0 (ht l u ds Φ r) ⟨fun _ _ _ _ _ _ q => q.elim, fun v d H' H0' σ' S' _ R hv q => ?_, fun _ _ _ _ _ _ q => q.elim, fun _ _ _ _ _ _ q => q.elim⟩⟩
    obtain ⟨u', hu', q⟩ := q
    have R' := srM (M := fun b => b = l ∨ False) R fun b => by simp
    obtain ⟨a, b, c⟩ := outU R' (fun _ z => z.elim) hu'
    exact kk v d H' H0' u' a b R.e0 R.le c hv q
/-- the known heap but for what stands at m -/
def butH (H : Hp) (m : Addr) : Hp := fun b => if b = m then none else H b
mutual
theorem dp_but {H : Hp} {m : Addr} {ws : List V} (hm : H m = some (.lst ws)) : ∀ (d : PyData) (v : V), noL d = true → Dp K H v d → Dp K (butH H m) v d
  | .none, _, _, h => by
    cases h
    exact .non
  | .bool b, _, _, h => by
    cases h
    exact .bl b
  | .int i, _, _, h => by
    cases h
    exact .int i
  | .str x, _, _, h => by
    cases h
    exact .str x
  | .list ds, _, n, h => by cases n
  | .tuple ds, _, n, h => by
    cases h with
    | @tup a xs _ hs ha =>
      refine .tup ?_ (dps_but hm ds _ n ha)
      have key : ∀ o, H a = some o → (∀ ys, o ≠ .lst ys) → butH H m a = some o := fun o e no => by
        unfold butH
        rw [if_neg fun z => by
          subst z
          rw [hm] at e
          cases e
          exact no _ rfl]
        exact e
      rcases hs with (h | ⟨o, h⟩) | h
      · exact Or.inl (Or.inl (key _ h fun ys z => nomatch z))
      · exact Or.inl (Or.inr ⟨o, key _ h fun ys z => nomatch z⟩)
      · exact Or.inr h
  | .dict _, _, n, h => by cases n
theorem dps_but {H : Hp} {m : Addr} {ws : List V} (hm : H m = some (.lst ws)) : ∀ (ds : List PyData) (vs : List V), noLs ds = true → DpAll K H vs ds → DpAll K (butH H m) vs ds
  | [], _, _, h => by
    cases h
    exact .nil
  | d :: ds, _, n, h => by
    have n' : (noL d && noLs ds) = true := n
    rw [Bool.and_eq_true] at n'
    cases h with
    | cons a b => exact .cons (dp_but hm d _ n'.1 a) (dps_but hm ds _ n'.2 b)
end
theorem spO_spU {vs : List V} {H : Hp} {Q : VK} {E : XK} (h : spO K CLawOfO vs H Q E) : spU K CLawOf vs H Q E := by
  obtain ⟨H0, l, m, ws, ds, u, Φ, rfl, hlm, e0, hl, hm, hu, hw, hd, r, kk⟩ := h
  have e1 : Same H0 (upd H0 m (.lst ws)) := same_new hm
  refine ⟨upd H0 m (.lst ws), l, [.ref m], [.list ds], u, fun d u' => Φ d u' ∧ noL d = true, rfl, fun b o e => ?_, by rw [upd_ne hlm]; exact hl, hu, .cons (.lst (SqL.of upd_same) (dps_up e1 _ _ hd)) .nil, ?_, fun v d H' H0' u' f1 f2 f3 f4 f5 hv q => ?_⟩
  · by_cases hb : b = m
    · subst hb
      rw [upd_same] at e
      rw [hw]
      exact e
    · rw [upd_ne hb] at e
      exact e0 b o e
  · cases r with
    | mk u ds B Φ l1 l2 ok hB nl h => exact CLawOf.mk u ds B _ l1 l2 ok hB fun d u' hd ok' => ⟨h d u' hd ok', nl d hd⟩
  · have hm' : H0' m = some (.lst ws) := f3 m _ upd_same
    refine kk v d H' (butH H0' m) u' f1 f2 (fun b o e => ?_) (fun b o e => ?_) (fun b o e => ?_) (dp_but hm' d v q.2 hv) q.1
    · have hb : b ≠ m := fun z => by
        rw [z, hm] at e
        cases e
      unfold butH
      rw [if_neg hb]
      exact f3 b o (e1 b o e)
    · unfold butH at e
      split at e
      · cases e
      · exact f4 b o e
    · unfold butH at e
      split at e
      · cases e
      · rename_i hb
        rcases f5 b o e with z | z
        · rw [upd_ne hb] at z
          exact Or.inl z
        · exact Or.inr z
theorem ok_law_take (T : Mg K mg) : OkD P w K mg base CX0 1 "_law_take" ["_law_urn", "_law_low_so"] (spU K CLawTake) :=
  ok_ofU (T.fn (46, ("_law_take" : Str)) (by decide)) sc46 (by decide) (fun _ _ _ _ _ _ us hl => match us, hl with | [_, _], _ => rfl) (fun _ _ _ h => by cases h <;> rfl) fun cdv A outer s H E hr => ⟨_, R_law_take,
    (b_cons (s_if (pt_gt (pd_ixU 0 pd_int) pd_int)
      (b_cons (s_set (i := 2) sc46.nd (pd_mod (pd_intc T.toMc (pa_co (pd_ixU 0 pd_int) pa_no)) (pd_var 1)))
      (b_cons (s_asg (pd_div (pd_ixU 0 pd_int) (pd_var 1)) (gx_setU 0 pd_int))
      (b_one (s_ret (pd_var 2))))) b_nil)
      (b_cons (s_asg (pd_add (pd_ixU 0 pd_int) pd_int) (gx_setU 0 pd_int))
      (b_cons (s_set (i := 3) sc46.nd (pd_mod (pd_intc T.toMc (pa_co (pd_mul (pd_add (pd_ixU 0 pd_int) (pd_mul pd_int (pd_ixU 0 pd_int))) (pd_add pd_int (pd_ixU 0 pd_int))) pa_no)) pd_int))
      (b_cons (s_set (i := 4) sc46.nd (pd_add (pd_mod (pd_intc T.toMc (pa_co (pd_var 3) pa_no)) pd_int) pd_int))
      (b_cons (s_set (i := 5) sc46.nd (pd_mod (pd_intc T.toMc (pa_co (pd_mul (pd_add (pd_add (pd_var 3) (pd_ixU 0 pd_int)) (pd_div (pd_ixU 0 pd_int) pd_int)) (pd_var 4)) pa_no)) pd_int))
      (b_one (s_ret (pd_mod (pd_intc T.toMc (pa_co (pd_div (pd_mod (pd_intc T.toMc (pa_co (pd_add (pd_mul (pd_var 5) pd_int) (pd_var 3)) pa_no)) pd_int) pd_int) pa_no)) (pd_var 1))))))))), go_law_take⟩
theorem ok_law_of (T : Mg K mg) : OkD P w K mg base CX0 2 "_law_of" ["_law_urn", "_law_some_so"] (spU K CLawOf) :=
  ok_ofU (T.fn (48, ("_law_of" : Str)) (by decide)) sc48 (by decide) (fun _ _ _ _ _ _ us hl => match us, hl with | [_, _], _ => rfl) (fun _ _ _ h => by cases h <;> rfl) fun cdv A outer s H E hr => ⟨_, R_law_of,
    (b_one (s_ret (pd_ix (pd_var 1) (pd_callU 0 (ok_law_take T) (hr.mono (by decide)) (pa_co (pd_len T.toMc (pa_co (pd_var 1) pa_no)) pa_no))))), go_law_of⟩
theorem ok_law_ofO (T : Mg K mg) : OkD P w K mg base CX0 2 "_law_of" ["_law_urn", "_law_some_so"] (spO K CLawOfO) := by
  obtain ⟨f, fd, g, kp, b, F⟩ := ok_law_of (P := P) (w := w) (base := base) T
  exact ⟨f, fd, g, kp, b, F.imp fun vs H Q E h => spO_spU h⟩
theorem ok_law_drawn_sheet (T : Mg K mg) : OkD P w K mg base CX0 3 "_law_drawn_sheet" ["_law_urn"] (spU K CLawDrawnSheet) :=
  ok_ofU (T.fn (62, ("_law_drawn_sheet" : Str)) (by decide)) sc62 (by decide) (fun _ _ _ _ _ _ us hl => match us, hl with | [_], _ => rfl) (fun _ _ _ h => by cases h <;> rfl) fun cdv A outer s H E hr => ⟨_, R_law_drawn_sheet,
    (b_cons (s_set (i := 1) sc62.nd (pd_add pd_int (pd_callU 0 (ok_law_take T) (hr.mono (by decide)) (pa_co pd_int pa_no))))
      (b_cons (s_lc (i := 2) (own := [("_law_one", 3)]) sc62.nd (px_range T.toMc (pa_co (pd_var 1) pa_no)) (blkOk_by (own := [("_law_one", 3)]) (N := n62) (sc := defScope (topS 62)) (by decide +kernel)) (fun _ _ _ _ _ => (gx_name (i := 3) sc62.nd)) (fun _ _ _ _ _ => pt_nil) (fun _ _ _ _ _ => (pd_call (ok_law_cut T) (hr.mono (by decide)) (pa_co (pd_sub (pd_callU 0 (ok_law_take T) (hr.mono (by decide)) (pa_co pd_int pa_no)) pd_int) (pa_co (pd_add pd_int (pd_callU 0 (ok_law_take T) (hr.mono (by decide)) (pa_co pd_int pa_no))) pa_no)))) (sw_true rfl rfl rfl (by decide +kernel)))
      (b_cons (s_setN (i := 4) sc62.nd (pn_lst pa_no))
      (b_cons (s_for PassesOwn.never (px_range T.toMc (pa_co (pd_add pd_int (pd_callU 0 (ok_law_take T) (hr.mono (by decide)) (pa_co pd_int pa_no))) pa_no)) (gx_name (i := 5) sc62.nd)
      (b_cons (s_set (i := 3) sc62.nd (pd_callU 0 (ok_law_take T) (hr.mono (by decide)) (pa_co (pd_var 1) pa_no)))
      (b_cons (s_set (i := 6) sc62.nd (pd_mod (pd_add (pd_add (pd_var 3) pd_int) (pd_callU 0 (ok_law_take T) (hr.mono (by decide)) (pa_co (pd_sub (pd_var 1) pd_int) pa_no))) (pd_var 1)))
      (b_one (s_app 4 (pd_tup (pa_co (pd_var 3) (pa_co (pd_var 6) (pa_co (pd_call (ok_law_minus T) (hr.mono (by decide)) (pa_co (pd_call (ok_law_minus T) (hr.mono (by decide)) (pa_co (pd_ix (pd_var 2) (pd_var 6)) (pa_co (pd_ix (pd_var 2) (pd_var 3)) pa_no))) (pa_co (pd_tup (pa_co (pd_callU 0 (ok_law_of T) (hr.mono (by decide)) (pa_co (pd_new (pn_lst (pa_co pd_int (pa_co pd_int (pa_co pd_int (pa_co pd_int (pa_co pd_int pa_no))))))) pa_no)) (pa_co pd_int pa_no))) pa_no))) pa_no)))))))))
      (b_cons (s_if (pt_eq hr (pd_callU 0 (ok_law_take T) (hr.mono (by decide)) (pa_co pd_int pa_no)) pd_int)
      (b_one (s_app 4 (pd_callO 0 4 (ok_law_ofO T) (hr.mono (by decide))))) b_nil)
      (b_cons (s_set (i := 7) sc62.nd (pd_tup (pa_co (pd_tup (pa_co (pd_tup (pa_co pd_int (pa_co pd_int pa_no))) (pa_co (pd_tup (pa_co pd_int (pa_co pd_int pa_no))) pa_no))) (pa_co (pd_tup (pa_co (pd_tup (pa_co pd_int (pa_co pd_int pa_no))) (pa_co (pd_tup (pa_co pd_int (pa_co pd_int pa_no))) pa_no))) pa_no))))
      (b_one (s_ret (pd_tup (pa_co (pd_var 1) (pa_co (pd_tuple T.toMc (pa_co (pd_frz 4) pa_no)) (pa_co (pd_rep01 (pd_tup (pa_co (pd_tup (pa_co pd_int (pa_co pd_int (pa_co (pd_var 7) pa_no)))) pa_no)) (pd_callU 0 (ok_law_take T) (hr.mono (by decide)) (pa_co pd_int pa_no))) pa_no)))))))))))), go_law_drawn_sheet⟩
theorem ok_law_rule_right (T : Mg K mg) : OkD P w K mg base CX0 27 "_law_rule_right" ["_law_urn", "_law_sheet", "_law_k"] (spU K CLawRuleRight) :=
  ok_ofU (T.fn (63, ("_law_rule_right" : Str)) (by decide)) sc63 (by decide) (fun _ _ _ _ _ _ us hl => match us, hl with | [_, _, _], _ => rfl) (fun _ _ _ h => by cases h <;> rfl) fun cdv A outer s H E hr => ⟨_, R_law_rule_right,
    (b_cons (s_asg (pd_ix (pd_ix (pd_var 1) pd_int) (pd_var 2)) (gx_tup (gx_cons (gx_name (i := 3) sc63.nd) (gx_cons (gx_name (i := 4) sc63.nd) (gx_cons (gx_name (i := 5) sc63.nd) gx_nil)))))
      (b_cons (s_set (i := 6) sc63.nd (pd_call (ok_law_ways T) (hr.mono (by decide)) (pa_co (pd_var 1) (pa_co (pd_var 3) (pa_co (pd_var 4) (pa_co (pd_var 2) pa_no))))))
      (b_cons (s_set (i := 7) sc63.nd (pd_new (pn_lc (own := [("_law_row", 8), ("_law_sum_so", 9)]) sc63.nd (px_seq (pd_var 6)) (blkOk_by (own := [("_law_row", 8), ("_law_sum_so", 9)]) (N := n63) (sc := defScope (topS 63)) (by decide +kernel)) (fun _ _ _ _ _ => (gx_tup (gx_cons (gx_name (i := 8) sc63.nd) (gx_cons (gx_name (i := 9) sc63.nd) gx_nil)))) (fun _ _ _ _ _ => (pt_one (pt_no (pt_va (pd_call (ok_law_under T) (hr.mono (by decide)) (pa_co (pd_var 9) (pa_co (pd_var 5) pa_no))))))) (fun _ _ _ _ _ => (pd_var 8)))))
      (b_cons (s_set (i := 10) sc63.nd (pd_tup (pa_co (pd_ix (pd_var 1) pd_int) (pa_co (pd_catT (pd_slT (pd_ix (pd_var 1) pd_int) po_no (po_so (pd_var 2))) (pd_slT (pd_ix (pd_var 1) pd_int) (po_so (pd_add (pd_var 2) pd_int)) po_no)) (pa_co (pd_ix (pd_var 1) pd_int) pa_no)))))
      (b_cons (s_par (i := 11) (j := 12) sc63.nd (pd_call (ok_law_heard T) (hr.mono (by decide)) (pa_co pd_int (pa_co (pd_call (ok_law_lists T) (hr.mono (by decide)) (pa_co (pd_var 1) pa_no)) (pa_co (pd_var 2) pa_no)))) (pd_call (ok_law_heard T) (hr.mono (by decide)) (pa_co pd_int (pa_co (pd_var 1) (pa_co (pd_var 2) pa_no)))))
      (b_cons (s_if (pt_ne hr (pd_var 7) (pd_new (pn_lst pa_no)))
      (b_one (s_if (pt_no (pt_va (pd_call (ok_law_same T) (hr.mono (by decide)) (pa_co (pd_new (pn_lst (pa_co (pd_var 11) (pa_co (pd_var 12) pa_no)))) (pa_co (pd_new (pn_lst (pa_co (pd_ix (pd_min T.toMc hr (pa_co (pd_new (pn_lc (own := [("_law_row", 8)]) sc63.nd (px_seq (pd_var 7)) (blkOk_by (own := [("_law_row", 8)]) (N := n63) (sc := defScope (topS 63)) (by decide +kernel)) (fun _ _ _ _ _ => (gx_name (i := 8) sc63.nd)) (fun _ _ _ _ _ => pt_nil) (fun _ _ _ _ _ => (pd_tup (pa_co (pd_len T.toMc (pa_co (pd_var 8) pa_no)) (pa_co (pd_var 8) pa_no)))))) pa_no)) pd_int) (pa_co (pd_new (pn_lst (pa_co pd_str (pa_co pd_bl pa_no)))) pa_no)))) pa_no)))))
      (b_one (s_ret pd_bl)) b_nil)) (b_one (s_if (pt_w (pw_or' (pt_no (pt_va (pd_call (ok_law_same T) (hr.mono (by decide)) (pa_co (pd_var 11) (pa_co (pd_new (pn_lst (pa_co pd_str (pa_co pd_bl pa_no)))) pa_no))))) (pw_or' (pt_no (pt_va (pd_call (ok_law_is_laid T) (hr.mono (by decide)) (pa_co (pd_var 10) (pa_co (pd_var 12) pa_no))))) (pw_o1 (pt_va (pd_call (ok_law_is_laid T) (hr.mono (by decide)) (pa_co (pd_var 1) (pa_co (pd_var 12) pa_no))))))))
      (b_one (s_ret pd_bl)) b_nil)))
      (b_cons (s_lc (i := 13) (own := [("_law_row", 8), ("_law_sum_so", 9)]) sc63.nd (px_seq (pd_slL (pd_var 6) po_no (po_so pd_int))) (blkOk_by (own := [("_law_row", 8), ("_law_sum_so", 9)]) (N := n63) (sc := defScope (topS 63)) (by decide +kernel)) (fun _ _ _ _ _ => (gx_tup (gx_cons (gx_name (i := 8) sc63.nd) (gx_cons (gx_name (i := 9) sc63.nd) gx_nil)))) (fun _ _ _ _ _ => pt_nil) (fun _ _ _ _ _ => (pd_var 8)) (sw_true rfl rfl rfl (by decide +kernel)))
      (b_cons (s_lc (i := 14) (own := [("_law_row", 8)]) sc63.nd (px_seq (pd_var 13)) (blkOk_by (own := [("_law_row", 8)]) (N := n63) (sc := defScope (topS 63)) (by decide +kernel)) (fun _ _ _ _ _ => (gx_name (i := 8) sc63.nd)) (fun _ _ _ _ _ => pt_nil) (fun _ _ _ _ _ => (pd_in hr (pd_var 8) (pd_var 7))) (sw_true rfl rfl rfl (by decide +kernel)))
      (b_cons (s_set (i := 8) sc63.nd (pd_if (pt_ne hr (pd_var 13) (pd_new (pn_lst pa_no))) (pd_ix (pd_var 13) pd_int) (pd_tup (pa_co (pd_tup (pa_co pd_str (pa_co (pd_var 2) pa_no))) pa_no))))
      (b_cons (s_set (i := 15) sc63.nd (pd_new (pn_lst (pa_co (pd_list T.toMc (pa_co (pd_var 8) pa_no)) (pa_co (pd_rev (pd_var 8)) (pa_co (pd_catT (pd_var 8) (pd_var 8)) (pa_co (pd_tup (pa_co (pd_tup (pa_co pd_str (pa_co (pd_var 2) pa_no))) pa_no)) (pa_co (pd_tup pa_no) (pa_co pd_non (pa_co (pd_slT (pd_var 8) po_no (po_so (pd_neg pd_int))) pa_no))))))))))
      (b_cons (s_set (i := 16) sc63.nd (pd_new (pn_lst (pa_co pd_bl (pa_co (pd_in hr (pd_rev (pd_var 8)) (pd_var 7)) (pa_co pd_bl (pa_co pd_bl (pa_co pd_bl (pa_co pd_bl (pa_co (pd_in hr (pd_slT (pd_var 8) po_no (po_so (pd_neg pd_int))) (pd_var 7)) pa_no))))))))))
      (b_cons (s_if (pt_no (pt_va (pd_call (ok_law_same T) (hr.mono (by decide)) (pa_co (pd_new (pn_lc (own := [("_law_own", 17)]) sc63.nd (px_seq (pd_catL (pd_var 13) (pd_var 15))) (blkOk_by (own := [("_law_own", 17)]) (N := n63) (sc := defScope (topS 63)) (by decide +kernel)) (fun _ _ _ _ _ => (gx_name (i := 17) sc63.nd)) (fun _ _ _ _ _ => pt_nil) (fun _ _ _ _ _ => (pd_call (ok_is_bypass T) (hr.mono (by decide)) (pa_co (pd_call (ok_law_lists T) (hr.mono (by decide)) (pa_co (pd_var 1) pa_no)) (pa_co (pd_var 2) (pa_co (pd_var 17) pa_no))))))) (pa_co (pd_catL (pd_var 14) (pd_var 16)) pa_no)))))
      (b_one (s_ret pd_bl)) b_nil)
      (b_cons (s_set (i := 18) sc63.nd (pd_if (pt_eq hr (pd_var 7) (pd_new (pn_lst pa_no))) (pd_var 12) (pd_tuple T.toMc (pa_co (pd_new (pn_lc (own := [("_law_one", 19)]) sc63.nd (px_range T.toMc (pa_co (pd_ix (pd_var 1) pd_int) pa_no)) (blkOk_by (own := [("_law_one", 19)]) (N := n63) (sc := defScope (topS 63)) (by decide +kernel)) (fun _ _ _ _ _ => (gx_name (i := 19) sc63.nd)) (fun _ _ _ _ _ => pt_nil) (fun _ _ _ _ _ => (pd_tup (pa_co (pd_var 19) (pa_co pd_int pa_no)))))) pa_no))))
      (b_cons (s_set (i := 20) sc63.nd (pd_catT (pd_slT (pd_var 18) po_no (po_so pd_int)) (pd_tuple T.toMc (pa_co (pd_new (pn_lc (own := [("_law_own", 17)]) sc63.nd (px_seq (pd_slT (pd_var 18) (po_so pd_int) po_no)) (blkOk_by (own := [("_law_own", 17)]) (N := n63) (sc := defScope (topS 63)) (by decide +kernel)) (fun _ _ _ _ _ => (gx_name (i := 17) sc63.nd)) (fun _ _ _ _ _ => pt_nil) (fun _ _ _ _ _ => (pd_call (ok_law_plus T) (hr.mono (by decide)) (pa_co (pd_var 17) (pa_co (pd_tup (pa_co (pd_add pd_int (pd_callU 0 (ok_law_take T) (hr.mono (by decide)) (pa_co pd_int pa_no))) (pa_co pd_int pa_no))) pa_no)))))) pa_no))))
      (b_cons (s_set (i := 13) sc63.nd (pd_new (pn_lst (pa_co (pd_var 18) (pa_co (pd_list T.toMc (pa_co (pd_var 18) pa_no)) (pa_co (pd_var 20) (pa_co (pd_slT (pd_var 18) po_no (po_so (pd_neg pd_int))) (pa_co (pd_catT (pd_var 18) (pd_slT (pd_var 18) po_no (po_so pd_int))) (pa_co pd_non (pa_co (pd_catT (pd_slT (pd_var 20) (po_so pd_int) po_no) (pd_slT (pd_var 20) po_no (po_so pd_int))) pa_no))))))))))
      (b_cons (s_lc (i := 14) (own := [("_law_own", 17)]) sc63.nd (px_seq (pd_var 13)) (blkOk_by (own := [("_law_own", 17)]) (N := n63) (sc := defScope (topS 63)) (by decide +kernel)) (fun _ _ _ _ _ => (gx_name (i := 17) sc63.nd)) (fun _ _ _ _ _ => pt_nil) (fun _ _ _ _ _ => (pd_and (pd_call (ok_law_is_laid T) (hr.mono (by decide)) (pa_co (pd_var 10) (pa_co (pd_var 17) pa_no))) (pd_one (pd_not (pd_call (ok_law_is_laid T) (hr.mono (by decide)) (pa_co (pd_var 1) (pa_co (pd_var 17) pa_no))))))) (sw_true rfl rfl rfl (by decide +kernel)))
      (b_one (s_ret (pd_call (ok_law_same T) (hr.mono (by decide)) (pa_co (pd_new (pn_lc (own := [("_law_own", 17)]) sc63.nd (px_seq (pd_var 13)) (blkOk_by (own := [("_law_own", 17)]) (N := n63) (sc := defScope (topS 63)) (by decide +kernel)) (fun _ _ _ _ _ => (gx_name (i := 17) sc63.nd)) (fun _ _ _ _ _ => pt_nil) (fun _ _ _ _ _ => (pd_call (ok_is_slip T) (hr.mono (by decide)) (pa_co (pd_call (ok_law_lists T) (hr.mono (by decide)) (pa_co (pd_var 1) pa_no)) (pa_co (pd_var 2) (pa_co (pd_var 17) pa_no))))))) (pa_co (pd_var 14) pa_no))))))))))))))))))))), go_law_rule_right⟩
end
end Dw
set_option maxRecDepth 100000
set_option maxHeartbeats 4000000
/-! x, y = e, [..], where x or y is a cell: a tuple is made and taken apart. -/
namespace Dw
open PySem PySem.Spec PyProof.Rows L2
theorem ss_parT {K : Fg} {te tf : TE} {E : DE} {L : DA} {i j : Nat} (h : SE K te E) (h2 : SN K tf L) : SS K (tAsg (tTup (tCons te (tCons tf tNil))) (gTup K 2 (gCons (gName i) (gCons (gName j) gNil)))) (dParM i j E L) := fun G H0 H σ S D D' R p k =>
  h G H0 H σ S _ _ R p fun v d H1 H01 S1 e1 R1 hv p1 => h2 G H01 H1 σ S1 _ _ R1 p1 fun l vs ds H2 H02 S2 e2 R2 N hl hd p2 => by
    refine ⟨by show 2 ≤ sizeLine; decide, fun q hq => ?_⟩
    have hql : l ≠ q := fun z => by
      rw [← z, hl] at hq
      cases hq
    obtain ⟨R3, _⟩ := R2.allocN (o := .tup [v, .ref l]) hq
    have N3 : New K G H02 (upd H2 q (.tup [v, .ref l])) σ S2 l := ⟨N.n0, N.ne, N.ns⟩
    have hl3 : (upd H2 q (.tup [v, .ref l])) l = some (.lst vs) := by
      rw [upd_ne hql]
      exact hl
    have R4 := R3.asg (i := i) (dp_up e2 _ _ hv)
    have N4 : New K G H02 (upd H2 q (.tup [v, .ref l])) (σ.set i (some v)) (S2.setD i d) l := ⟨N3.n0, N3.ne, fun m ob hm z => by
      by_cases hj : m = i
      · subst hj
        exact absurd hm gs_none
      · rw [gs_ne hj] at hm z
        exact N3.ns m ob hm z⟩
    exact ⟨q, _, rfl, SqT.of upd_same, rfl, v, _, rfl, _, _, rfl, rfl, k.nx _ H02 _ _ (e1.trans e2) (R4.asgN (ob := .lst ds) N4 ⟨Or.inl N4.ne, vs, hl3, hd⟩) p2⟩
section
variable {X : Cx} {a b : Expr} {ta tb : TE} {T : DE} {L : DA} {pos : Pos}
theorem s_parT {i j : Nat} {x y : Str} {px py pt pt2 : Pos} {kt k2 : Nat} (hN : X.N.Nodup) (h : PDx X a ta T) (h2 : PNx X b tb L) (hi : X.N[i]? = some x := by rfl) (hj : X.N[j]? = some y := by rfl)
    (hx : Loc X.env.scope x := by first | exact Or.inl rfl | exact Or.inr rfl) (hy : Loc X.env.scope y := by first | exact Or.inl rfl | exact Or.inr rfl) (hfx : X.fn x = true ∨ X.env.scope.names.lookup x = some .local := by first | exact Or.inl rfl | exact Or.inr rfl)
    (hfy : X.fn y = true ∨ X.env.scope.names.lookup y = some .local := by first | exact Or.inl rfl | exact Or.inr rfl)
    (hs : swapsWithSole [.Tuple [.Name x px, .Name y py] kt pt] (.Tuple [a, b] k2 pt2) pos.line X.env = pure false := by rfl) (hw : swappedStores [.Tuple [.Name x px, .Name y py] kt pt] (.Tuple [a, b] k2 pt2) X.env = pure none := by rfl)
    (h1 : (assignEach [.Tuple [.Name x px, .Name y py] kt pt] X.env).map (·.2) = [assign (.Tuple [.Name x px, .Name y py] kt pt) X.env] := by rfl) (hc : X.calm = true := by rfl)
    (he : starEach [a, b] X.env = (false, eval a X.env) :: starEach [b] X.env := by rfl) (he2 : starEach [b] X.env = (false, eval b X.env) :: starEach [] X.env := by rfl)
    (g1 : (assignEach [.Name x px, .Name y py] X.env).map (·.2) = assign (.Name x px) X.env :: (assignEach [.Name y py] X.env).map (·.2) := by rfl) (g2 : (assignEach [.Name y py] X.env).map (·.2) = assign (.Name y py) X.env :: (assignEach [] X.env).map (·.2) := by rfl)
    (hn : (assignEach [.Name x px, .Name y py] X.env).length = 2 := by rfl) (hst : (assignEach [.Name x px, .Name y py] X.env).findIdx? (·.1) = none := by rfl) :
    PSx X (.Assign [.Tuple [.Name x px, .Name y py] kt pt] (.Tuple [a, b] k2 pt2) pos) (tAsg (tTup (tCons ta (tCons tb tNil))) (gTup X.K 2 (gCons (gName i) (gCons (gName j) gNil)))) (dParM i j T L) :=
  ⟨ps_asg (pe_tup (pa_cons h.pe (pa_cons h2.pe pa_nil he2) he)) (pg_tup hc (pgs_cons (pg_name hN hi hx hfx) (pgs_cons (pg_name hN hj hy hfy) pgs_nil g2) g1) hn hst) hs hw h1, ss_parT h.sn h2.sn⟩
end
end Dw
set_option maxRecDepth 100000
set_option maxHeartbeats 4000000
/-! set(xs), xs a list of ints: the call by what its init does; the init of an empty set. -/
namespace Dw
open PySem PySem.Spec PyProof.Rows L2
section
variable {P : Program} {w : World} {A : Around} {E : Value → Shared → Prop} {s : Shared}
/-- an empty set as the machine makes it -/
abbrev set0 (w : World) : Obj := { cls := .type "set", dict := none, data := .set #[] 0 (.fresh 0 0 (!w.params.followText "set-order")) }
/-- the call, by what the init does with the new set -/
theorem call_set_by {x : Value} {Q : Value → Shared → Prop} (h : ∀ A' : Around, A'.handled = A.handled → wpAny (model P w) A' (Builtin.«set.__init__» ⟨[.ref s.heap.objs.size, x], []⟩) (fun r s2 => r = .done (.ret .none) ∧ Q (.ref s.heap.objs.size) s2) E { s with heap := s.heap.push (set0 w) }) :
    wpAny (model P w) A (call (.type "set") [x]) Q E s := by
  have hnew : (s.heap.push (set0 w)).get? s.heap.objs.size = some (set0 w) := Heap.get?_push_size _ rfl
  have isT : Shared.TypeIs { s with heap := s.heap.push (set0 w) } (.ref s.heap.objs.size) "set" := ⟨_, hnew, rfl⟩
  obtain ⟨_, _, f1⟩ := F.called_set.mro
  have f2 := F.called_set.made
  have f3 := F.called_set.sub
  have f4 := F.called_set.notType
  have f5 := F.called_set.canCreate
  have f6 := F.typeCall_set_1 x
  have f7 := F.called_set.init.lookup
  have f8 := F.called_set.init.bind (.ref s.heap.objs.size)
  refine wpAny_call (codeAny_of_tree (show wpAny _ _ (callAny (.type "set") _) _ _ _ from wpAny_pure ⟨Code.quiet_builtin _ (by decide +kernel), codeAny_builtin F.entry_type_call ?_⟩))
  rw [Around.under_plain (weight_type_call_type "set" [x] []) rfl]
  repeat (any_goals (first | assumption | wp_step))
  refine codeAny_mono (code_set_led1 x (E := E) (Q₁ := fun v s1 => v = .ref s.heap.objs.size ∧ s1 = { s with heap := s.heap.push (set0 w) }) ⟨rfl, rfl⟩) fun r s1 hr => ?_
  rcases r with e | fl
  · exact hr
  rcases fl with _ | _ | _ | v
  all_goals try exact hr.elim
  obtain ⟨rfl, rfl⟩ := hr
  repeat (any_goals (first | assumption | wp_step))
  refine codeAny_mono (codeAny_call_builtin (R := wants (fun v s2 => v = .none ∧ Q (.ref s.heap.objs.size) s2) E) F.called_set.init.plain F.entry_set_init (check_set_init_1 isT (wpAny_mono (h A.in1.in1 ?_) (fun r s2 z => ?_) fun _ _ z => z))) fun r s2 z => ?_
  · rfl
  · obtain ⟨rfl, q⟩ := z
    exact ⟨rfl, q⟩
  · rcases r with e | fl
    · exact z
    rcases fl with _ | _ | _ | v
    all_goals try exact z.elim
    obtain ⟨rfl, q⟩ := z
    repeat (any_goals (first | assumption | wp_step))
/-- the init of an empty set, from a list of ints -/
theorem set_init_ints {S l : Addr} {items : Array Value} {ns : List Int} {Q : Value → Shared → Prop} (hh : A.handled = none) (hS : s.heap.get? S = some (set0 w)) (hl : s.heap.IsList l items) (hi : IntsAre items.toList ns) (hb : ns.length + 1 < scanBound)
    (h : ∀ (h' : Heap) (tk c : Nat), SetR w h' S (fun j => decide (j ∈ ns)) c → c ≤ ns.length → (∀ b o, b ≠ S → s.heap.get? b = some o → h'.get? b = some o) → Q .none { s with heap := h', toks := tk }) :
    wpAny (model P w) A (Builtin.«set.__init__» ⟨[.ref S, .ref l], []⟩) (fun r s2 => ∃ v, r = .done (.ret v) ∧ Q v s2) E s := by
  have n1 : items.size = ns.length := (Array.length_toList (xs := items)).symm.trans (IntsAre.length hi)
  have f1 := F.sub_list_set
  have f2 := F.sub_list_frozenset
  have hT : s.TypeIs (.ref S) "set" := ⟨_, hS, rfl⟩
  have hL : s.TypeIs (.ref l) "list" := by
    obtain ⟨o, a, b, _⟩ := hl
    exact ⟨o, a, b⟩
  have ne : (Value.type "list" == Value.type "dict") = false := by decide
  unfold Builtin.«set.__init__» noKeywords Builtin.Frozenset.updateFrom
  generalize hP : pyIter = it
  wp_walk
  subst hP
  have lS : S < s.heap.objs.size := Heap.lt_size hS
  have ll : l < s.heap.objs.size := by
    obtain ⟨_, a, _⟩ := hl
    exact Heap.lt_size a
  have nSl : S ≠ l := fun e => by
    obtain ⟨o, a, b, _⟩ := hl
    rw [← e, hS] at a
    cases a
    exact absurd (Value.type.inj b) (by decide)
  have get : ∀ (i : Nat) (v : Value), items[i]? = some v → ∃ k t, ns[i]? = some k ∧ v = .int k t := fun i v e => by
    have e' : items.toList[i]? = some v := by rw [Array.getElem?_toList, e]
    obtain ⟨t, q⟩ := IntsAre.int_at hi i v e'
    have li : i < ns.length := n1 ▸ (Array.getElem?_eq_some_iff.mp e).1
    exact ⟨ns[i], t, List.getElem?_eq_getElem li, by rw [q, List.getD_eq_getElem?_getD, List.getElem?_eq_getElem li, Option.getD_some]⟩
  refine wpAny_pyIter_list hl (wpAny_bind (wpAny_runValue (set_update_ints ((Walks.list (show A.in1.handled = none from hh) _ l (Nat.ne_of_lt ll) items).toS) S ?_ ns n1 hb get (items.size - 0) 0 _ (by omega) (Nat.zero_le _) ⟨⟨_, Heap.get?_push_size _ rfl, rfl, rfl⟩, hl.push _⟩ ⟨0, Nat.le_refl 0, setR_new_at (Heap.get?_push_of_some _ hS)⟩ fun s2 c mv hc R => ?_)))
  · intro z
    rcases List.mem_cons.mp z with z | z
    · exact Nat.ne_of_lt lS z
    · exact nSl (List.mem_singleton.mp z)
  · obtain ⟨h2, g2, d2, t2, o2⟩ := s2
    cases (show g2 = s.gens from mv.gens)
    cases (show d2 = s.drawn from mv.drawn)
    cases (show o2 = s.os from mv.os)
    refine wpAny_pure (wpAny_pure ⟨_, rfl, h h2 t2 c R (n1 ▸ hc) fun b o nb e => mv.heap b o ?_ (Heap.get?_push_of_some _ e)⟩)
    intro z
    rcases List.mem_cons.mp z with z | z
    · exact nb z
    · exact Nat.ne_of_lt (Heap.lt_size e) (List.mem_singleton.mp z)
/-- set(xs), xs a list of ints -/
theorem call_set_lst {l : Addr} {items : Array Value} {ns : List Int} {Q : Value → Shared → Prop} (hh : A.handled = none) (hl : s.heap.IsList l items) (hi : IntsAre items.toList ns) (hb : ns.length + 1 < scanBound)
    (h : ∀ (h' : Heap) (tk c : Nat), SetR w h' s.heap.objs.size (fun j => decide (j ∈ ns)) c → c ≤ ns.length → (∀ b o, s.heap.get? b = some o → h'.get? b = some o) → Q (.ref s.heap.objs.size) { s with heap := h', toks := tk }) :
    wpAny (model P w) A (call (.type "set") [.ref l]) Q E s :=
  call_set_by fun A' hA => wpAny_mono (set_init_ints (Q := fun v s2 => v = .none ∧ Q (.ref s.heap.objs.size) s2) (hA.trans hh) (Heap.get?_push_size _ rfl) (hl.push _) hi hb fun h' tk c R hc k =>
    ⟨rfl, h h' tk c R hc fun b o e => k b o (Nat.ne_of_lt (Heap.lt_size e)) (Heap.get?_push_of_some _ e)⟩) (fun r s2 z => by
      obtain ⟨v, rfl, rfl, q⟩ := z
      exact ⟨rfl, q⟩) fun _ _ z => z
end
end Dw
set_option maxRecDepth 100000
set_option maxHeartbeats 4000000
/-! sorted(set(xs)), xs a list of ints. -/
namespace Dw
open PySem PySem.Spec PyProof.Rows L2
def rSetI (K : Fg) (w : World) : List V → Hp → VK → Prop := fun xs H Q => ∃ (p : Addr) (ns : List Int), xs = [.ref p] ∧ SqL K H p (ns.map V.int) ∧ ns.length ≤ 60 ∧ ∀ a c, H a = none → c ≤ ns.length → Q (.ref a) (upd H a (SetO w a (fun j => decide (j ∈ ns)) c))
theorem cr_setI {X : Cx} (hc : X.calm = true) : CallR X (.type "set") (rSetI X.K X.w) := by
  intro pins s σ H xs us Q I r h
  obtain ⟨p, ns, rfl, hs, hl, q⟩ := h
  obtain ⟨u, rfl, ru⟩ := vals1 r
  cases (show u = Value.ref p from ru)
  obtain ⟨its, rv, pl, hz⟩ := I.list hs
  have hb : ns.length + 1 < scanBound := Nat.lt_of_le_of_lt (Nat.succ_le_succ hl) (by decide)
  refine call_set_lst (ns := ns) (I.ok.hd hc) pl.isList (by simpa using ints_of_vals rv) hb fun h' tk c hS hle hk => ?_
  exact ⟨.ref _, upd H s.heap.objs.size (SetO X.w s.heap.objs.size (fun j => decide (j ∈ ns)) c), I.laid (t' := tk) hk (Nat.le_refl _) (setO_new hS), rfl, q _ c (I.hok.fresh (Nat.le_refl _)) hle⟩
def dSortSet (L : DA) : DE := fun S Ψ => L S fun xs S1 => match xs with
  | [d] => onL d fun ys => ∃ ns : List Int, ys = ns.map PyData.int ∧ ns.length ≤ 60 ∧ ∀ out : List Int, out.Pairwise (· < ·) → (∀ k, k ∈ out ↔ k ∈ ns) → Ψ (.list (out.map PyData.int)) S1
  | _ => False
theorem ints_dps {K : Fg} {H : Hp} : ∀ {ns : List Int} {vs : List V}, DpAll K H vs (ns.map PyData.int) → vs = ns.map V.int
  | [], _, h => by
    cases h
    rfl
  | n :: ns, _, h => by
    cases h with
    | cons a b => rw [dp_intV a, ints_dps b]; rfl
theorem dps_ints {K : Fg} {H : Hp} : ∀ ns : List Int, DpAll K H (ns.map V.int) (ns.map PyData.int)
  | [] => .nil
  | n :: ns => .cons (.int n) (dps_ints ns)
theorem se_sortSet {K : Fg} {w : World} {ta : TA} {L : DA} (h : SA K ta L) : SE K (tCB (rSortedSet w) (tCons (tCB (rSetI K w) ta) tNil)) (dSortSet L) := fun G H0 H σ S Ψ Q R p k => by
  refine h G H0 H σ S _ _ R p fun vs ds H1 H01 S1 e1 R1 hx p1 => ?_
  match ds, hx, p1 with
  | [d], hx, p1 =>
    obtain ⟨v, rfl, hv⟩ := dps_one hx
    obtain ⟨es, rfl, ns, rfl, hl, p2⟩ := onL_of p1
    obtain ⟨a, ys, rfl, hs, hh⟩ := dp_refL hv
    have ey := ints_dps hh
    subst ey
    refine ⟨a, ns, rfl, R1.seqL hs, hl, fun b c hb hc => ?_⟩
    obtain ⟨R2, N⟩ := R1.allocN (o := SetO w b (fun j => decide (j ∈ ns)) c) hb
    refine ⟨b, _, c, rfl, upd_same, by omega, fun out q ho hmem _ hq => ?_⟩
    obtain ⟨R3, e3, hv3⟩ := R2.lst (vs := out.map V.int) (ds := out.map PyData.int) (dps_ints out) hq
    exact k _ _ _ _ S1 (e1.trans e3) R3 hv3 (p2 out ho fun k => by rw [hmem k]; exact decide_eq_true_iff)
theorem pd_sortSet {X : Cx} {a : Expr} {tr : TA} {L : DA} {pos p p2 p3 : Pos} (m : Mc X.K X.mg) (h : PAx X [a] tr L) (hc : X.calm = true := by rfl) (hg : Gl X "sorted" := by rfl) (hg2 : Gl X "set" := by rfl)
    (he : starEach [.Call (.Name "set" p2) [a] [] p3] X.env = (false, eval (.Call (.Name "set" p2) [a] [] p3) X.env) :: starEach [] X.env := by rfl) (hpl : (backTo pos (starEach [] X.env)).any (·.1) = false := by rfl)
    (he2 : starEach [a] X.env = (false, eval a X.env) :: starEach [] X.env := by rfl) (hpl2 : (backTo p3 (starEach [] X.env)).any (·.1) = false := by rfl) :
    PDx X (.Call (.Name "sorted" p) [.Call (.Name "set" p2) [a] [] p3] [] pos) (tCB (rSortedSet X.w) (tCons (tCB (rSetI X.K X.w) tr) tNil)) (dSortSet L) :=
  ⟨pe_callB (cr_sortedSet hc) hg (mfree m _ (by decide)) (by decide +kernel) (pa_cons (pe_callTy (cr_setI hc) hg2 (mfree m _ (by decide)) (by decide +kernel) h.pa (by decide) (by decide) he2 hpl2) pa_nil he) (by decide) (by decide) he hpl, se_sortSet h.sn⟩
end Dw
set_option maxRecDepth 100000
set_option maxHeartbeats 4000000
/-! The law behind the urn. -/
namespace Dw
open PySem PySem.Spec PyProof.Rows L2
inductive CLawRight : CtU
  | mk (u : Ur) (Φ) (ok : UrOk u 0) (h : ∀ u', Φ (.bool true) u') : CLawRight u [] Φ
def R_law_right : DS := (dSeq (dParM 1 2 (dCallU CLawDrawnSheet 0 dNil) (dLst dNil))
    (dSeq (dFor (dItE (dCons (dOp oIx (dVar 1) (dC (.int 1))) dNil)) (dgTup 2 (dgCons (dgN 3) (dgCons (dgN 4) dgNil)))
    (dIfS (dTst (dOp oNe (dNew (dLc (dItS (dCall CLawWays (dCons (dVar 1) (dCons (dOp oIx (dVar 4) (dC (.int 0))) (dCons (dOp oIx (dVar 4) (dC (.int 1))) (dCons (dVar 3) dNil)))))) (dgTup 2 (dgCons (dgN 5) (dgCons (dgN 6) dgNil))) (dNot (dTst (dCall CLawUnder (dCons (dVar 6) (dCons (dOp oIx (dVar 4) (dC (.int 2))) dNil))))) (dC (.int 1)) [5, 6])) (dNew (dLst dNil))))
    (dApp 2 (dVar 3)) dNext))
    (dSeq (dIfS (dNot (dTst (dCall (CLawSame 20) (dCons (dNew (dLst (dCons (dCall CIdleHard (dCons (dVar 1) dNil)) (dCons (dCall CIdleHard (dCons (dCall (CLawLists 20) (dCons (dVar 1) dNil)) dNil)) dNil)))) (dCons (dNew (dRep (dLst (dCons (dCB cTuple (dCons (dFrz 2) dNil)) dNil)) (dC (.int 2)))) dNil)))))
    (dRet (dC (.bool false))) dNext)
    (dSeq (dAsg (dSortSet (dCons (dNew (dLc (dItR (dCons (dC (.int 3)) dNil)) (dgN 8) dYes (dCallU CLawTake 0 (dCons (dCB cLen (dCons (dOp oIx (dVar 1) (dC (.int 1))) dNil)) dNil)) [8])) dNil)) (dgN 7))
    (dRet (dCB cAll (dCons (dNew (dLc (dItS (dVar 7)) (dgN 3) dYes (dCallU CLawRuleRight 0 (dCons (dVar 1) (dCons (dVar 3) dNil))) [3])) dNil)))))))
theorem zip_snd {α : Type} : ∀ (xs : List α) (k : Nat), (xs.zipIdx k).map (·.2) = List.range' k xs.length
  | [], _ => rfl
  | x :: xs, k => by
    rw [List.zipIdx_cons, List.map_cons, zip_snd xs (k + 1)]
    rfl
theorem nts_plain {ks : List Nat} (h : ks.length < 1000) : plainD (.tuple (ks.map nt)) = true := (plain_of_all (by rw [List.length_map]; exact h) fun d hd => by
  obtain ⟨x, _, rfl⟩ := List.mem_map.mp hd
  rfl).1
theorem nts_dep (ks : List Nat) : dep (.tuple (ks.map nt)) ≤ 1 := by
  show PyData.depthAll _ + 1 ≤ 1
  have := depth_all (ds := ks.map nt) (k := 0) fun d hd => by
    obtain ⟨x, _, rfl⟩ := List.mem_map.mp hd
    exact Nat.le_refl 0
  omega
theorem bools_all : ∀ bs : List Bool, boolsD (bs.map PyData.bool) = some bs
  | [] => rfl
  | b :: bs => by
    show (boolsD (bs.map PyData.bool)).map (b :: ·) = _
    rw [bools_all bs]
    rfl
theorem go_law_right (l : Addr) : ∀ u ds Φ, CLawRight u ds Φ → R_law_right (endsU Φ l) (startU ["_law_urn", "_law_sheet", "_law_found", "_law_k", "_law_rule", "_law_row", "_law_far", "_law_some", "_law_lap"] l u ds) := by
  intro u ds Φ h
  cases h with
  | mk u Φ ok h =>
    refine CLawDrawnSheet.mk u 0 _ ok (by decide) fun s u1 so f hne ok1 => ⟨le0 rfl, ?_⟩
    have few := so.few
    refine for_inv (fun q : Ru × Nat => .tuple [nt q.2, ruD q.1]) (fun rest S => ∃ (acc : List Nat) (o3 o4 : Option PyData), acc ++ (rest.filter fun q => idle s q.2).map (·.2) = (List.range s.hard.length).filter (fun k => idle s k) ∧ (∀ q ∈ rest, s.hard[q.2]? = some q.1) ∧ acc.length + rest.length ≤ 7 ∧
        S = ⟨[none, some (shD s), none, o3, o4, none, none, none, none], [some (.fix l (urD u1)), none, some (.lst (acc.map nt)), none, none, none, none, none, none]⟩)
      (fun q rest S hI nx' hn => ?_) (fun S hI => ?_) s.hard.zipIdx _ (enum_map ruD s.hard 0) ⟨[], none, none, ?_, fun q hq => List.mk_mem_zipIdx_iff_getElem?.mp hq, by rw [List.length_zipIdx]; show 0 + s.hard.length ≤ 7; omega, rfl⟩
    · obtain ⟨acc, o3, o4, ha, hq, hlen, rfl⟩ := hI
      obtain ⟨r, k⟩ := q
      rw [List.length_cons] at hlen
      have hk : s.hard[k]? = some r := hq (r, k) List.mem_cons_self
      have lk := (List.getElem?_eq_some_iff.mp hk).1
      have hat : s.at k = r := getD_of hk
      have hin := so.rin r (List.mem_of_getElem? hk)
      refine ⟨rfl, CLawWays.mk s r.1 r.2.1 k _ so hin.1 ⟨by rw [List.length_map]; exact lways_len so hin.1, rfl, lc_run rowD (fun q => if decide (r.2.2 ≤ q.2) = true then some (.int 1) else none) (lways s r.1 r.2.1 k) [] rfl (fun q hq K K0 h1 h2 => ⟨rfl, CLawUnder.mk _ _ _ ?_⟩) ?_⟩⟩
      · by_cases z : r.2.2 ≤ q.2
        · show if (!decide (q.2 < r.2.2)) = true then _ else _
          rw [decide_eq_false (show ¬ q.2 < r.2.2 by omega)]
          exact ⟨rfl, h1 _ (if_pos (decide_eq_true z))⟩
        · show if (!decide (q.2 < r.2.2)) = true then _ else _
          rw [decide_eq_true (show q.2 < r.2.2 by omega)]
          exact ⟨rfl, h2 (if_neg (by rw [decide_eq_false z]; exact Bool.false_ne_true))⟩
      · rw [List.nil_append, filter_map_if (fun q : List Nat × Int => decide (r.2.2 ≤ q.2)) fun _ => .int 1]
        refine ⟨le0 rfl, shaped_list (k := 0) (fun d hd => ?_) (fun d hd => ?_) (by decide), rfl, ?_⟩
        · obtain ⟨x, _, rfl⟩ := List.mem_map.mp hd
          rfl
        · obtain ⟨x, _, rfl⟩ := List.mem_map.mp hd
          exact Nat.le_refl 0
        · show if (!PyData.eqvAll (((lways s r.1 r.2.1 k).filter fun q => decide (r.2.2 ≤ q.2)).map fun _ => .int 1) []) = true then _ else _
          have hl : lgoods s k = ((lways s r.1 r.2.1 k).filter fun q => decide (r.2.2 ≤ q.2)).map (·.1) := by
            unfold lgoods
            rw [hat]
          cases e : (lways s r.1 r.2.1 k).filter fun q => decide (r.2.2 ≤ q.2) with
          | nil =>
            rw [e] at hl
            have y : idle s k = false := by
              cases z : idle s k with
              | false => rfl
              | true => exact absurd hl ((idle_iff so f lk).mp z)
            rw [List.filter_cons_of_neg (by show ¬ idle s k = true; rw [y]; exact Bool.false_ne_true)] at ha
            exact hn _ ⟨acc, _, _, ha, fun q hq' => hq q (List.mem_cons_of_mem _ hq'), by omega, rfl⟩
          | cons a b =>
            rw [e] at hl
            have y : idle s k = true := (idle_iff so f lk).mpr (by rw [hl]; exact fun z => nomatch z)
            rw [List.filter_cons_of_pos (by exact y), List.map_cons] at ha
            refine ⟨by rw [List.length_map]; omega, hn _ ⟨acc ++ [k], some (nt k), some (ruD r), by rw [List.append_assoc]; exact ha, fun q hq' => hq q (List.mem_cons_of_mem _ hq'), by rw [List.length_append]; show acc.length + 1 + rest.length ≤ 7; omega, ?_⟩⟩
            rw [List.map_append]
            rfl
    · obtain ⟨acc, o3, o4, ha, _, hlen, rfl⟩ := hI
      have ea : acc = (List.range s.hard.length).filter fun k => idle s k := by
        rw [← ha]
        exact (List.append_nil _).symm
      have hl7 : acc.length ≤ 7 := by
        have : acc.length + 0 ≤ 7 := hlen
        omega
      obtain ⟨a, b, c⟩ := lsh so
      refine CIdleHard.mk s (shD s) _ so f (sh_plain so) (Nat.le_trans (sh_dep so) (by decide)) (sh_tu so) (CLawLists.mk _ _ (sh_plain so) (Nat.lt_of_le_of_lt (sh_dep so) (by decide)) (CIdleHard.mk s _ _ so f a b c ?_))
      rw [← ea]
      refine ⟨le0 rfl, le0 rfl, by decide, by decide, le0 rfl, ?_⟩
      have pl : plainD (.list [.tuple (acc.map nt), .tuple (acc.map nt)]) = true := (plain_of_all (by show 2 < 1000; decide) fun d hd => by
        rcases List.mem_cons.mp hd with e | hd
        · rw [e]
          exact nts_plain (by omega)
        · rw [List.mem_singleton.mp hd]
          exact nts_plain (by omega)).2
      have dp : dep (.list [.tuple (acc.map nt), .tuple (acc.map nt)]) < 20 := by
        have := nts_dep acc
        show max (dep (.tuple (acc.map nt))) (max (dep (.tuple (acc.map nt))) 0) + 1 < 20
        omega
      have hpos : 1 ≤ s.hard.length := List.length_pos_iff.mpr hne
      refine CLawSame.mk (.list [.tuple (acc.map nt), .tuple (acc.map nt)]) _ pl dp ⟨by decide, by decide, le0 rfl, rfl, ?_⟩
      refine lc_inv nt (fun rest ac o => ∃ (ns : List Int) (u2 : Ur), ac = ns.map PyData.int ∧ ns.length + rest.length = 3 ∧ (∀ n ∈ ns, 0 ≤ n ∧ n < (s.hard.length : Int)) ∧ UrOk u2 (100 + ns.length) ∧ o = [some (.fix l (urD u2)), none, none, none, none, none, none, none, none])
        (fun x rest ac o hI K K0 h1 h2 => ?_) (fun ac o hI => ?_) (List.range 3) [] _ rfl ⟨[], u1, rfl, rfl, fun n hn => (nomatch hn), ok1.up (by decide), rfl⟩
      · obtain ⟨ns, u2, rfl, hl, hns, ok2, rfl⟩ := hI
        rw [List.length_cons] at hl
        refine CLawTake.mk u2 _ _ _ ?_ ?_ ok2 (by omega) fun r u3 r0 r1 ok3 => ⟨rfl, h1 _ _ ⟨ns ++ [r], u3, by rw [List.map_append]; rfl, by rw [List.length_append]; show ns.length + 1 + rest.length = 3; omega, fun n hn => ?_, ok3.up ?_, rfl⟩⟩
        · rw [List.length_map]
          omega
        · rw [List.length_map]
          omega
        · rcases List.mem_append.mp hn with z | z
          · exact hns n z
          · rw [List.mem_singleton.mp z]
            rw [List.length_map] at r1
            exact ⟨r0, r1⟩
        · rw [List.length_append]
          show 100 + (ns.length : Int) + 1 ≤ 100 + ((ns.length + 1 : Nat) : Int)
          omega
      · obtain ⟨ns, u2, rfl, hl, hns, ok2, rfl⟩ := hI
        have hl3 : ns.length = 3 := hl
        refine ⟨ns, rfl, by omega, fun out ho hmem => ?_⟩
        have ol : out.length ≤ 3 := by
          have := nodup_sub (ys := ns) (xs := out) (ho.imp fun h => by omega) fun x hx => (hmem x).mp hx
          omega
        refine ⟨by rw [List.length_map]; omega, rfl, ?_⟩
        refine lc_inv PyData.int (fun rest ac o => ∃ (bs : List Bool) (u3 : Ur), ac = bs.map PyData.bool ∧ (∀ b ∈ bs, b = true) ∧ bs.length + rest.length ≤ 3 ∧ (∀ k ∈ rest, 0 ≤ k ∧ k < (s.hard.length : Int)) ∧ UrOk u3 (103 + 100 * bs.length) ∧ o = [some (.fix l (urD u3)), none, none, none, none, none, none, none, none])
          (fun x rest ac o hI K K0 h1 h2 => ?_) (fun ac o hI => ?_) out [] _ rfl ⟨[], u2, rfl, fun b hb => (nomatch hb), by show 0 + out.length ≤ 3; omega, fun k hk => hns k ((hmem k).mp hk), ok2.up (by rw [hl3]; decide), rfl⟩
        · obtain ⟨bs, u3, rfl, hb, hl', hk, ok3, rfl⟩ := hI
          rw [List.length_cons] at hl'
          obtain ⟨k0, k1⟩ := hk x List.mem_cons_self
          obtain ⟨j, rfl⟩ : ∃ j : Nat, x = (j : Int) := ⟨x.toNat, by omega⟩
          refine CLawRuleRight.mk u3 s j _ _ ok3 (by omega) so f (by omega) fun u4 ok4 => ⟨rfl, h1 _ _ ⟨bs ++ [true], u4, by rw [List.map_append]; rfl, fun b hb' => ?_, by rw [List.length_append]; show bs.length + 1 + rest.length ≤ 3; omega, fun k hk' => hk k (List.mem_cons_of_mem _ hk'), ok4.up ?_, rfl⟩⟩
          · rcases List.mem_append.mp hb' with z | z
            · exact hb b z
            · exact List.mem_singleton.mp z
          · rw [List.length_append]
            show 103 + 100 * (bs.length : Int) + 100 ≤ 103 + 100 * ((bs.length + 1 : Nat) : Int)
            omega
        · obtain ⟨bs, u3, rfl, hb, _, _, ok3, rfl⟩ := hI
          refine onO_some (bools_all bs) ⟨u3, rfl, ?_⟩
          have e : bs.all id = true := List.all_eq_true.mpr fun b hb' => hb b hb'
          rw [e]
          exact h u3
    · rw [List.nil_append]
      have e := List.filter_map (f := fun q : Ru × Nat => q.2) (p := fun k => idle s k) (l := s.hard.zipIdx)
      rw [zip_snd, ← List.range_eq_range'] at e
      exact e.symm
end Dw
set_option maxRecDepth 100000
set_option maxHeartbeats 4000000
/-! The law. -/
namespace Dw
open PySem PySem.Spec PyProof.Rows L2
inductive CLawCells : Ct
  | mk (ns : List Int) (Φ) (h : ∀ x : Int, Φ (.list [.int x])) : CLawCells [.list (ns.map PyData.int), .int 1] Φ
def R_law_cells : DS := (dSeq (dAsgN (dOrN (dListN (dCons (dSlL (dVar 0) doNone (doSome (dVar 1))) dNil)) (dLst (dCons (dC (.int 0)) dNil))) 2)
    (dSeq (dFor (dItE (dCons (dSlL (dVar 0) (doSome (dVar 1)) (doSome (dC (.int 63)))) dNil)) (dgTup 2 (dgCons (dgN 3) (dgCons (dgN 4) dgNil)))
    (dSeq (dAsg (dOp oMod (dCB cInt (dCons (dVar 3) dNil)) (dVar 1)) (dgN 5))
    (dAsg (dOp oAdd (dIxO 2 (dVar 5)) (dOp oMul (dVar 4) (dOp oAdd (dVar 3) (dC (.int 2))))) (dgL 2 (dVar 5)))))
    (dRet (dFrz 2))))
theorem orN_to {T U : DA} {S : DSt} {Ψ : List PyData → DSt → Prop} (h : T S fun xs S1 => (xs = [] ∧ U S1 Ψ) ∨ (xs ≠ [] ∧ Ψ xs S1)) (mono : ∀ Ψ Ψ' : List PyData → DSt → Prop, (∀ xs S1, Ψ xs S1 → Ψ' xs S1) → T S Ψ → T S Ψ') : dOrN T U S Ψ := mono _ _ (fun xs S1 z => by
  rcases z with ⟨e, z⟩ | ⟨e, z⟩
  · rw [if_pos e]
    exact z
  · rw [if_neg e]
    exact z) h
theorem ifN {p : Prop} {inst : Decidable p} {A B : Prop} (h : ¬ p) (b : B) : @ite Prop p inst A B := by
  rw [if_neg h]
  exact b
theorem go_law_cells : ∀ ds Φ, CLawCells ds Φ → R_law_cells (endsD Φ) (startD ["_law_script", "_law_top", "_law_cells_here", "_law_k", "_law_cell", "_law_at_so"] ds) := by
  intro ds Φ h
  cases h with
  | mk ns Φ h =>
    have rest : ∀ x : Int, dSeq (dFor (dItE (dCons (dSlL (dVar 0) (doSome (dVar 1)) (doSome (dC (.int 63)))) dNil)) (dgTup 2 (dgCons (dgN 3) (dgCons (dgN 4) dgNil)))
    (dSeq (dAsg (dOp oMod (dCB cInt (dCons (dVar 3) dNil)) (dVar 1)) (dgN 5))
    (dAsg (dOp oAdd (dIxO 2 (dVar 5)) (dOp oMul (dVar 4) (dOp oAdd (dVar 3) (dC (.int 2))))) (dgL 2 (dVar 5)))))
        (dRet (dFrz 2)) (endsD Φ) ⟨[some (.list (ns.map PyData.int)), some (.int 1), none, none, none, none], [none, none, some (.lst [.int x]), none, none, none]⟩ := fun x => by
      have e1 : cutP (ns.map PyData.int) (some 1) (some 63) = ((ns.drop 1).take 62).map PyData.int := by
        rw [List.map_take, List.map_drop]
        unfold cutP
        have h63 : ∀ n d, HT.sIx n d (some (63 : Int)) = min 63 n := fun n d => HT.sIx_nat n d 63
        have h01 : ∀ n d, HT.sIx n d (some (1 : Int)) = min 1 n := fun n d => HT.sIx_nat n d 1
        rw [h63, h01]
        by_cases hl : 63 ≤ (ns.map PyData.int).length
        · rw [Nat.min_eq_left hl, Nat.min_eq_left (by omega)]
        · rw [Nat.min_eq_right (by omega)]
          by_cases hl2 : 1 ≤ (ns.map PyData.int).length
          · rw [Nat.min_eq_left hl2, List.take_of_length_le (by rw [List.length_drop]; omega), List.take_of_length_le (by rw [List.length_drop]; omega)]
          · have : ns = [] := List.eq_nil_of_length_eq_zero (by rw [List.length_map] at hl2; omega)
            subst this
            rfl
      refine for_inv (fun q : Int × Nat => .tuple [nt q.2, .int q.1]) (fun rest S => ∃ (x : Int) (o3 o4 o5 : Option PyData), (∀ q ∈ rest, q.2 < 1000) ∧ S = ⟨[some (.list (ns.map PyData.int)), some (.int 1), none, o3, o4, o5], [none, none, some (.lst [.int x]), none, none, none]⟩)
        (fun q rest S hI nx' hn => ?_) (fun S hI => ?_) ((ns.drop 1).take 62).zipIdx _ (by rw [e1]; exact enum_map PyData.int _ 0) ⟨x, none, none, none, fun q hq => ?_, rfl⟩
      · obtain ⟨x, o3, o4, o5, hq, rfl⟩ := hI
        obtain ⟨c, k⟩ := q
        have hk : k < 1000 := hq (c, k) List.mem_cons_self
        have em : (k : Int).fmod 1 = 0 := Int.fmod_one _
        refine ⟨rfl, show (1 : Int) ≠ 0 by decide, ?_⟩
        simp only [em]
        exact ⟨Or.inr ⟨by omega, by omega⟩, hn _ ⟨x + c * ((k : Int) + 2), some (nt k), some (.int c), some (.int 0), fun q hq' => hq q (List.mem_cons_of_mem _ hq'), rfl⟩⟩
      · obtain ⟨x, o3, o4, o5, _, rfl⟩ := hI
        exact h x
      · have := (List.mem_zipIdx hq).2.1
        rw [List.length_take] at this
        omega
    cases ns with
    | nil => exact ⟨le0 rfl, rest 0⟩
    | cons a b =>
      have e : cutP ((a :: b).map PyData.int) none (some 1) = [.int a] := by
        have := cut_to ((a :: b).map PyData.int) 1
        exact this
      have z := rest a
      rw [← e] at z
      exact z
section
variable {P : Program} {w : World} {K : Fg} {mg : Str → Option Value} {base : Heap}
theorem ok_law_cells (T : Mg K mg) : OkD P w K mg base CX0 1 "_law_cells" ["_law_script", "_law_top"] (spD K CLawCells) :=
  ok_of (T.fn (47, ("_law_cells" : Str)) (by decide)) sc47 (by decide) (fun _ _ _ _ _ _ us hl => match us, hl with | [_, _], _ => rfl) (fun _ _ h => by cases h <;> rfl) fun cdv A outer s H E hr => ⟨_, R_law_cells,
    (b_cons (s_setN (i := 2) sc47.nd (pn_orN (pn_list T.toMc (pa_co (pd_slL (pd_var 0) po_no (po_so (pd_var 1))) pa_no)) (pn_lst (pa_co pd_int pa_no))))
      (b_cons (s_for PassesOwn.never (px_enum T.toMc (pa_co (pd_slL (pd_var 0) (po_so (pd_var 1)) (po_so pd_int)) pa_no)) (gx_tup (gx_cons (gx_name (i := 3) sc47.nd) (gx_cons (gx_name (i := 4) sc47.nd) gx_nil)))
      (b_cons (s_set (i := 5) sc47.nd (pd_mod (pd_intc T.toMc (pa_co (pd_var 3) pa_no)) (pd_var 1)))
      (b_one (s_asg (pd_add (pd_ixO 2 (pd_var 5)) (pd_mul (pd_var 4) (pd_add (pd_var 3) pd_int))) (gx_setL 2 (pd_var 5))))))
      (b_one (s_ret (pd_frz 2))))), go_law_cells⟩
theorem ok_law_right (T : Mg K mg) : OkD P w K mg base CX0 28 "_law_right" ["_law_urn"] (spU K CLawRight) :=
  ok_ofU (T.fn (64, ("_law_right" : Str)) (by decide)) sc64 (by decide) (fun _ _ _ _ _ _ us hl => match us, hl with | [_], _ => rfl) (fun _ _ _ h => by cases h <;> rfl) fun cdv A outer s H E hr => ⟨_, R_law_right,
    (b_cons (s_parT (i := 1) (j := 2) sc64.nd (pd_callU 0 (ok_law_drawn_sheet T) (hr.mono (by decide)) pa_no) (pn_lst pa_no))
      (b_cons (s_for PassesOwn.never (px_enum T.toMc (pa_co (pd_ix (pd_var 1) pd_int) pa_no)) (gx_tup (gx_cons (gx_name (i := 3) sc64.nd) (gx_cons (gx_name (i := 4) sc64.nd) gx_nil)))
      (b_one (s_if (pt_ne hr (pd_new (pn_lc (own := [("_law_row", 5), ("_law_far", 6)]) sc64.nd (px_seq (pd_call (ok_law_ways T) (hr.mono (by decide)) (pa_co (pd_var 1) (pa_co (pd_ix (pd_var 4) pd_int) (pa_co (pd_ix (pd_var 4) pd_int) (pa_co (pd_var 3) pa_no)))))) (blkOk_by (own := [("_law_row", 5), ("_law_far", 6)]) (N := n64) (sc := defScope (topS 64)) (by decide +kernel)) (fun _ _ _ _ _ => (gx_tup (gx_cons (gx_name (i := 5) sc64.nd) (gx_cons (gx_name (i := 6) sc64.nd) gx_nil)))) (fun _ _ _ _ _ => (pt_one (pt_no (pt_va (pd_call (ok_law_under T) (hr.mono (by decide)) (pa_co (pd_var 6) (pa_co (pd_ix (pd_var 4) pd_int) pa_no))))))) (fun _ _ _ _ _ => pd_int))) (pd_new (pn_lst pa_no)))
      (b_one (s_app 2 (pd_var 3))) b_nil)))
      (b_cons (s_if (pt_no (pt_va (pd_call (ok_law_same T) (hr.mono (by decide)) (pa_co (pd_new (pn_lst (pa_co (pd_call (ok_idle_hard T) (hr.mono (by decide)) (pa_co (pd_var 1) pa_no)) (pa_co (pd_call (ok_idle_hard T) (hr.mono (by decide)) (pa_co (pd_call (ok_law_lists T) (hr.mono (by decide)) (pa_co (pd_var 1) pa_no)) pa_no)) pa_no)))) (pa_co (pd_new (pn_rep (pn_lst (pa_co (pd_tuple T.toMc (pa_co (pd_frz 2) pa_no)) pa_no)) pd_int)) pa_no)))))
      (b_one (s_ret pd_bl)) b_nil)
      (b_cons (s_set (i := 7) sc64.nd (pd_sortSet T.toMc (pa_co (pd_new (pn_lc (own := [("_law_lap", 8)]) sc64.nd (px_range T.toMc (pa_co pd_int pa_no)) (blkOk_by (own := [("_law_lap", 8)]) (N := n64) (sc := defScope (topS 64)) (by decide +kernel)) (fun _ _ _ _ _ => (gx_name (i := 8) sc64.nd)) (fun _ _ _ _ _ => pt_nil) (fun _ _ _ _ _ => (pd_callU 0 (ok_law_take T) (hr.mono (by decide)) (pa_co (pd_len T.toMc (pa_co (pd_ix (pd_var 1) pd_int) pa_no)) pa_no))))) pa_no)))
      (b_one (s_ret (pd_all T.toMc (pa_co (pd_new (pn_lc (own := [("_law_k", 3)]) sc64.nd (px_seq (pd_var 7)) (blkOk_by (own := [("_law_k", 3)]) (N := n64) (sc := defScope (topS 64)) (by decide +kernel)) (fun _ _ _ _ _ => (gx_name (i := 3) sc64.nd)) (fun _ _ _ _ _ => pt_nil) (fun _ _ _ _ _ => (pd_callU 0 (ok_law_rule_right T) (hr.mono (by decide)) (pa_co (pd_var 1) (pa_co (pd_var 3) pa_no)))))) pa_no)))))))), go_law_right⟩
end
end Dw
set_option maxRecDepth 100000
set_option maxHeartbeats 400000
/-! The urn is made. -/
namespace Dw
open PySem PySem.Spec PyProof.Rows L2
section
variable {P : Program} {w : World} {K : Fg} {mg : Str → Option Value} {base : Heap}
structure PRn (X : Cx) (b : List Stmt) (t1 : TS) (te : TE) (T1 : DS) (L : DA) : Prop where
  ps : PSs X b (tSeq t1 (tRet te))
  s1 : SS X.K t1 T1
  s2 : SN X.K te L
theorem b_new {X : Cx} {s : Stmt} {e : Expr} {pos : Pos} {t1 : TS} {te : TE} {T1 : DS} {L : DA} (h1 : PSx X s t1 T1) (h2 : PNx X e te L) : PRn X [s, .Return (some e) pos] t1 te T1 L := ⟨pss_cons h1.ps (pss_one (ps_ret h2.pe)), h1.sn, h2.sn⟩
/-- the urn is new -/
def spBox (K : Fg) : L2.Sp := fun vs H Q _ => ∃ H0 x, Same H0 H ∧ DpAll K H0 vs [.list [.int x], .int 0] ∧ ∀ p H' u, Same H H' → H p = none → H' p = some (.lst (urV u)) → UrOk u 0 → Q (.ref p) H'
theorem box_go (x : Int) : (dAsg (dIf (dTst (dOp oLt (dVar 1) (dCB cLen (dCons (dVar 0) dNil)))) (dOp oIx (dVar 0) (dVar 1)) (dC (.int 0))) (dgN 2)) { nx := fun S1 => (dLst (dCons (dOp oMul (dCB cAbs (dCons (dVar 2) dNil)) (dCB cInt (dCons (dOp oGe (dCB cAbs (dCons (dVar 2) dNil)) (dOp oPow (dC (.int 10)) (dC (.int 18)))) dNil))) (dCons (dOp oAdd (dOp oAdd (dOp oMod (dCB cInt (dCons (dVar 2) dNil)) (dC (.int 2305843009213693951))) (dOp oMul (dC (.int 39373)) (dVar 1))) (dC (.int 98203))) (dCons (dC (.int 0)) dNil)))) S1 fun ds _ => ∃ u, ds = urD u ∧ UrOk u 0, rt := fun _ _ => False } (startD n45 [.list [.int x], .int 0]) := by
  have hb : ∀ b : Bool, (0 : Int) ≤ (if b = true then 1 else 0) := fun b => by cases b <;> decide
  have hb2 : ∀ b : Bool, (-(2 ^ 64) : Int) < (if b = true then 1 else 0) ∧ (if b = true then (1 : Int) else 0) < 2 ^ 64 := fun b => by cases b <;> decide
  have hm : CMul (if x < 0 then -x else x) (if decide ((10 : Int) ^ (18 : Int).toNat ≤ if x < 0 then -x else x) = true then 1 else 0) := by
    exact Or.inr (hb2 _)
  refine ⟨⟨by decide, by decide, by decide⟩, hm, show (2305843009213693951 : Int) ≠ 0 by decide, Or.inl (by decide), le0 rfl, ⟨_, _, _⟩, rfl, ⟨Int.mul_nonneg (by split <;> omega) (hb _), Int.le_refl _, Int.le_refl _⟩⟩
theorem ok_law_box (T : Mg K mg) : OkD P w K mg base CX0 1 "_law_box" ["_law_script", "_law_k"] (spBox K) := by
  obtain ⟨f, fd, F, g⟩ := T.fn (45, ("_law_box" : Str)) (by decide)
  refine ⟨f, fd, g, F.kp, F.bindsN (fun _ _ _ _ _ _ us hl => match us, hl with | [_, _], _ => rfl), F.ok sc45 (fun vs H Q E h => ?_) (fun cdv A outer s H vs Q E hr h => ?_)⟩
  · obtain ⟨H0, x, _, hd, _⟩ := h
    rw [Dps.len hd]
    rfl
  · obtain ⟨H0, x, e0, hd, kk⟩ := h
    obtain ⟨t1, te, T1, L, hB, hbox⟩ : ∃ t1 te T1 L, PRn (cxOf CX0 P w K mg base n45 "_law_box" (defScope (topS 45)) f cdv A outer s H E).nox (defBody (topS 45)) t1 te T1 L ∧ T1 { nx := fun S1 => L S1 fun ds _ => ∃ u, ds = urD u ∧ UrOk u 0, rt := fun _ _ => False } (startD n45 [.list [.int x], .int 0]) := ⟨_, _, _, _, b_new (s_set (i := 2) sc45.nd (pd_if (pt_lt (pd_var 1) (pd_len T.toMc (pa_co (pd_var 0) pa_no))) (pd_ix (pd_var 0) (pd_var 1)) pd_int)) (pn_lst (pa_co (pd_mul (pd_abs T.toMc (pa_co (pd_var 2) pa_no)) (pd_intc T.toMc (pa_co (pd_ge (pd_abs T.toMc (pa_co (pd_var 2) pa_no)) (pd_pow pd_int pd_int)) pa_no))) (pa_co (pd_add (pd_add (pd_mod (pd_intc T.toMc (pa_co (pd_var 2) pa_no)) pd_int) (pd_mul pd_int (pd_var 1))) pd_int) (pa_co pd_int pa_no)))), box_go x⟩
    refine ⟨_, PSs.nox hB.ps, hB.s1 ⟨H, H0, fun _ => False⟩ H0 H _ (startD n45 [.list [.int x], .int 0]) _ _ (start_sr e0 hd (le0 rfl)) hbox ⟨fun H1 H01 σ1 S1 e1 R1 p1 => ?_, fun _ _ _ _ _ _ _ _ _ q => q.elim, fun _ _ _ _ _ _ q => q.elim, fun _ _ _ _ _ _ q => q.elim⟩⟩
    refine hB.s2 _ H01 H1 σ1 S1 _ _ R1 p1 fun p vs' ds H2 H02 S2 e2 R2 N hp hds p2 => ?_
    obtain ⟨u, rfl, hu⟩ := p2
    rw [ur_eq hds] at hp
    exact kk p H2 u (fun b o z => R2.fr b o z fun z => z) N.ne hp hu
end
end Dw
set_option maxRecDepth 100000
set_option maxHeartbeats 4000000
/-! The law's own def. -/
namespace Dw
open PySem PySem.Spec PyProof.Rows L2
def spLaw (K : Fg) : L2.Sp := fun vs H Q _ => ∃ (a : Addr) (ns : List Int), vs = [.ref a] ∧ SqL K H a (ns.map V.int) ∧ ∀ H', Q (.bl true) H'
structure PLx (X : Cx) (b : List Stmt) (t1 : TT) (ta tz : TA) (tf : TE) (C : DT) (LA : DA) : Prop where
  ps : PSs X b (tSeq (tIfS t1 (tRet tf) tNext) (tRet (tCall (spU X.K CLawRight) [] E0 (tCons (tCall (spBox X.K) [] E0 ta) tNil))))
  s1 : ST X.K t1 C
  s2 : SA X.K ta LA
theorem b_law {X : Cx} {c a b e0 : Expr} {t1 : TT} {ta : TA} {tf : TE} {C : DT} {LA : DA} {T0 : DE} {fr_ fb : Addr} {fdr fdb : FuncData} {q1 q2 p1 p2 p3 p4 p5 : Pos}
    (Fr : FnOk X.prog X.w X.K X.mg X.base CX0 28 fr_ fdr ["_law_urn"] (spU X.K CLawRight)) (gr : X.mg "_law_right" = some (.ref fr_)) (kr : PySem.W.keepIn X.K (.ref fr_) = true) (br : Binds X.K fdr ["_law_urn"] [])
    (Fb : FnOk X.prog X.w X.K X.mg X.base CX0 1 fb fdb ["_law_script", "_law_k"] (spBox X.K)) (gb : X.mg "_law_box" = some (.ref fb)) (kb : PySem.W.keepIn X.K (.ref fb) = true) (bb : Binds X.K fdb ["_law_script", "_law_k"] [])
    (hr : Room 39 X.A) (h : PTx X c t1 C) (h0 : PDx X e0 tf T0) (h3 : PAx X [a, b] ta LA) (hg1 : Gl X "_law_right" := by rfl) (hg2 : Gl X "_law_box" := by rfl)
    (he : starEach [a, b] X.env = (false, eval a X.env) :: starEach [b] X.env := by rfl) (hpl : (backTo p3 (starEach [b] X.env)).any (·.1) = false := by rfl)
    (he1 : starEach [.Call (.Name "_law_box" p2) [a, b] [] p3] X.env = (false, eval (.Call (.Name "_law_box" p2) [a, b] [] p3) X.env) :: starEach [] X.env := by rfl) (hpl1 : (backTo p4 (starEach [] X.env)).any (·.1) = false := by rfl) :
    PLx X [.If c [.Return (some e0) q1] [] q2, .Return (some (.Call (.Name "_law_right" p1) [.Call (.Name "_law_box" p2) [a, b] [] p3] [] p4)) p5] t1 ta tNil tf C LA :=
  ⟨pss_cons (ps_if h.pt (pss_one (ps_ret h0.pe)) pss_nil) (pss_one (ps_ret (pe_call Fr (hr.mono (by decide)) hg1 gr kr br .nil pass0 (pa_cons (pe_call Fb (hr.mono (by decide)) hg2 gb kb bb .nil pass0 h3.pa (by decide) he hpl) pa_nil he1) (by decide) he1 hpl1))), h.sn, h3.sn⟩
section
variable {P : Program} {w : World} {K : Fg} {mg : Str → Option Value} {base : Heap}
theorem ok_law (T : Mg K mg) {f : Addr} {fd : FuncData} (F : FnP K "law" (topS 65) f fd) : FnOk P w K mg base CX0 40 f fd ["_law_script"] (spLaw K) := by
  obtain ⟨fr_, fdr, gr, kr, br, Fr⟩ := (ok_law_right (P := P) (w := w) (base := base) T).ex
  obtain ⟨fb, fdb, gb, kb, bb, Fb⟩ := (ok_law_box (P := P) (w := w) (base := base) T).ex
  refine F.ok sc65 (fun vs H Q E h => ?_) (fun cdv A outer s H vs Q E hr h => ?_)
  · obtain ⟨a, ns, rfl, _⟩ := h
    rfl
  · obtain ⟨a, ns, rfl, hS, hQ⟩ := h
    obtain ⟨t1, ta, tz, tf, C, LA, hL, hc, ha⟩ : ∃ t1 ta tz tf C LA, PLx (cxOf CX0 P w K mg base n65 "law" (defScope (topS 65)) f cdv A outer s H E).nox (defBody (topS 65)) t1 ta tz tf C LA ∧ C (startD n65 [.list (ns.map PyData.int)]) (fun b S' => b = false ∧ S' = startD n65 [.list (ns.map PyData.int)]) ∧
        LA (startD n65 [.list (ns.map PyData.int)]) (fun ds _ => ∃ x : Int, ds = [.list [.int x], .int 0]) := by
      exact ⟨_, _, tNil, _, dNot (dTst (dCall CLawByHandRight dNil)), dCons (dCall CLawCells (dCons (dVar 0) (dCons (dC (.int 1)) dNil))) (dCons (dC (.int 0)) dNil),
        b_law Fr gr kr br Fb gb kb bb hr (pt_no (pt_va (pd_call0 (ok_law_by_hand_right T) (hr.mono (by decide))))) pd_bl (pa_co (pd_call (ok_law_cells T) (hr.mono (by decide)) (pa_co (pd_var 0) (pa_co pd_int pa_no))) (pa_co pd_int pa_no)),
        CLawByHandRight.mk _ ⟨rfl, rfl⟩, CLawCells.mk ns _ fun x => ⟨x, rfl⟩⟩
    have R := start_sr (K := K) (N := n65) (vs := [.ref a]) (ds := [.list (ns.map PyData.int)]) (Same.refl H) (.cons (.lst hS (dps_ints ns)) .nil) (le0 rfl)
    refine ⟨_, PSs.nox hL.ps, hL.s1 _ H H _ _ _ _ R hc fun b H1 H01 S1 e1 R1 p1 => ?_⟩
    obtain ⟨rfl, rfl⟩ := p1
    refine hL.s2 _ H01 H1 _ _ _ _ R1 ha fun vs1 ds1 H2 H02 S2 e2 R2 hv p2 => ?_
    obtain ⟨x, rfl⟩ := p2
    refine ⟨H02, x, R2.le, by rw [List.append_nil]; exact hv, fun p H3 u hs hp hu hok => ?_⟩
    refine ⟨H02, p, [], [], u, fun d _ => d = .bool true, rfl, R2.le.trans hs, R2.le.free hp, hu, .nil, CLawRight.mk u _ hok fun u' => rfl, fun v d H' H0' u' _ _ _ _ _ hv q => ?_⟩
    subst q
    rw [dp_blV hv]
    exact hQ H'
end
end Dw
set_option maxRecDepth 100000
set_option maxHeartbeats 4000000
/-! The end. -/
namespace Dw
open PySem PySem.Spec PyProof.Rows L2
theorem hMg {w : World} {K : Fg} {h : Heap} {mg : Str → Option Value} (X : K.In h) (G : h.Ns mainGlobals mg) (c : He.SaysX faL fnL [] [] exB w h K) : Nonempty (Mg K mg) := by
  have D : He.SaysD faL fnL K := c.t.d
  have hG : ∀ p ∈ defL, mg p.2 = some (.ref (He.ga K p.2)) := fun p hp => He.glo_ok X G (D.facts (f := .glo p.2) (List.mem_append_left _ (List.mem_append_left _ (List.mem_map_of_mem (f := fun p : Nat × Str => He.Fa.glo p.2) hp))))
  have hF : ∀ x ∈ freeN, mg x = none := fun x hx => He.free_ok X G (D.facts (f := .free x) (List.mem_append_left _ (List.mem_append_right _ (List.mem_map_of_mem (f := He.Fa.free) hx))))
  have hT : ∀ f ∈ tailF, f.ok K = true := fun f hf => D.facts (List.mem_append_right _ hf)
  have m := c.more
  unfold exB at m
  obtain ⟨m1, m⟩ := He.ba m
  obtain ⟨m2, m⟩ := He.ba m
  obtain ⟨m3, m⟩ := He.ba m
  obtain ⟨m4, m⟩ := He.ba m
  obtain ⟨m5, m⟩ := He.ba m
  obtain ⟨m6, m⟩ := He.ba m
  obtain ⟨m7, m⟩ := He.ba m
  obtain ⟨m8, m⟩ := He.ba m
  obtain ⟨m9, m⟩ := He.ba m
  obtain ⟨m10, m11⟩ := He.ba m
  obtain ⟨x1, x2, x3, x4⟩ := He.exc_ok (x := "CanNot") (hT (.exc "CanNot") (.tail _ (.tail _ (.tail _ (.tail _ (.tail _ (.head _)))))))
  exact ⟨{
    none_ := He.ga K "NONE"
    none_g := He.glo_ok X G (hT (.glo "NONE") (.head _))
    none_t := He.tupB_ok m1
    nought := He.ga K "NOUGHT"
    nought_g := He.glo_ok X G (hT (.glo "NOUGHT") (.tail _ (.head _)))
    nought_t := He.tupB_ok m2
    hard := He.str_ok X G (hT (.str "HARD" "hard") (.tail _ (.tail _ (.head _))))
    ease := He.str_ok X G (hT (.str "EASE" "ease") (.tail _ (.tail _ (.tail _ (.head _)))))
    gcd := PySem.W.mg_of X G (He.eqO_ok m3)
    free := hF
    fn := fun p hp => by
      obtain ⟨fd, F⟩ := D.defs (d := defD p) (List.mem_map_of_mem hp)
      exact ⟨_, fd, F, hG p hp⟩
    can := He.ga K "CanNot"
    can_g := He.glo_ok X G (hT (.glo "CanNot") (.tail _ (.tail _ (.tail _ (.tail _ (.head _))))))
    can_x := x1
    can_p := x2
    can_s := x3
    can_t := x4
    can_e := He.exm_ok (hT (.exm "CanNot" "CanNot" true) (.tail _ (.tail _ (.tail _ (.tail _ (.tail _ (.tail _ (.head _))))))))
    can_c := ⟨He.eqO_ok m4, He.eqO_ok m5, x3, m6, He.eqO_ok m7, He.eqO_ok m8, of_decide_eq_true m9, of_decide_eq_true m10⟩
    can_k := of_decide_eq_true m11 }⟩
theorem hLaw {P : Program} {w : World} {K : Fg} {h : Heap} {mg : Str → Option Value} {f : Addr} (X : K.In h) (G : h.Ns mainGlobals mg) (hfa : mg ("law" : Str) = some (.ref f)) (c : He.SaysX faL fnL [] [] exB w h K) :
    ∃ fd : FuncData, (∀ (s : Shared) (v : Value), BindsTo s fd ⟨[v], []⟩ [("_law_script", v)]) ∧ ∀ base : Heap, K.In base → base.Ns mainGlobals mg → FnOk P w K mg base CX0 40 f fd ["_law_script"] (spLaw K) := by
  obtain ⟨T⟩ := hMg X G c
  obtain ⟨f2, fd, F, g⟩ := T.fn (65, ("law" : Str)) (by decide)
  have e := hfa.symm.trans g
  cases e
  have b := FunD.bindsA (ps := ["_law_script"]) F fun _ _ _ _ _ _ us hl => match us, hl with | [_], _ => rfl
  exact ⟨fd, fun s v => b s [v] rfl, fun base _ _ => ok_law T F⟩
end Dw
open PySem PySem.W PySem.Calls PyProof.Rows
theorem PySem.Challenge.cw_likecuts_k31_whole_idle_hard_rules_holds : PySem.Challenge.rw_likecuts_k31_whole_idle_hard_rules.Holds := by
  w_on; o_law
  refine HandSHeadRun.head_imp (r := OpenLaw.row PySem.Challenge.rw_likecuts_k31_whole_idle_hard_rules) (q := view (OpenLaw.row PySem.Challenge.rw_likecuts_k31_whole_idle_hard_rules).prog [0, 65]) (H := Dw.hHook) (ob := Dw.hOb) (M := 3000) (loose := Dw.looseL) (d := HandSHeadRun.topDef (OpenLaw.row PySem.Challenge.rw_likecuts_k31_whole_idle_hard_rules).prog 65) (kwd := []) Dw.hOb_eq
    Dw.hRun (by kernel_rfl) (by kernel_rfl) (by kernel_rfl) (by rfl) (by first | assumption | decide +kernel) (by decide +kernel) ⟨rfl, rfl, rfl, rfl, rfl, by decide +kernel⟩ ?hw ?hc
  case hw => w_witness2
  case hc =>
    refine L2.walk_ofE (l := PySem.Challenge.rw_likecuts_k31_whole_idle_hard_rules) (n := 63) (k := 40) (x := "_law_script") (CX := L2.CX0) rfl (by decide) (by kernel_rfl) ⟨rfl, by decide, by decide⟩ ?F (fun _ _ _ _ z => z)
    intro w mg fa h Y G hmg0
    obtain ⟨K, KX, c⟩ := Y
    have hmg : mg ("law" : PySem.Str) = some (.ref fa) := by
      have e : (HandSHeadRun.topDef (OpenLaw.row PySem.Challenge.rw_likecuts_k31_whole_idle_hard_rules).prog 65).name = ("law" : PySem.Str) := by kernel_rfl
      rw [← e]
      exact hmg0
    obtain ⟨fd, hb, hF⟩ := Dw.hLaw (P := (PySem.Challenge.rw_likecuts_k31_whole_idle_hard_rules).prog) (w := w) KX G hmg c
    exact ⟨K, fd, Dw.spLaw K, KX, hb, fun H a ns hl _ hS => ⟨a, ns, rfl, hS, fun _ => rfl⟩, hF⟩
