import PyProof.Rows.All
import Wide.All
import OpenK.AllK
import Wide.FinOn
import HandS.ForMost
import HandS.Exc
import HandS.WordsExc
import HandS.IsInst
import HandS.StrMore
import HandS.Style
import HandS.Zip
import Wide.Txt
import HandS.Defaults
import HandS.ExcInit
import HandS.ExcField
import PyProof.EqKinds
import PyProof.FactsAll.dict_1
import HandS.Replace
import HandS.ReplaceLit
import HandS.ReplaceList
import HandS.HotCalls
import HandS.ExcInitHot
import HandS.TupAny
import HandS.TupLe
import HandS.SortOrd
import HandS.NamedTupSort
import HandS.Conv
import HandS.DictTup
import HandS.MakeKwOnly
import KE.KSortTupAny
import KE.KDictSum
import HandS.Star
import HandS.Deep
import HandS.Small
import HandS.Lambda
import HandS.EndTab
import HandS.TryMany
import HandS.TryOnly
import HandS.TupLen
import KE.KDictPairs
import KE.KDictCopyH
import PySem.Challenge.RW_unwalked_k53_whole_tidied_in_trees
set_option Elab.async false
set_option linter.all false
set_option maxRecDepth 100000
set_option maxHeartbeats 4000000
/-! DCore: data without addresses, and what a reading of the hand layer gives over such data. -/
namespace DD
open PySem L2

/-! ### 1. data -/
inductive D where
  | s (v : V)
  | lst (xs : List D)
  | tup (xs : List D)
  | dic (ks : List Key) (ds : List D)
  | ins (C : Addr) (ns : List Str) (ds : List D)
  /-- a tuple of texts that is tracked: it may be put as a key -/
  | pl (ns : List Str)

mutual
/-- the value v stands for the datum d in the heap H -/
def Rp (K : PySem.W.Frag) (H : Hp) : D → V → Prop
  | .s w, v => v = w
  | .lst xs, v => ∃ p vs, v = .ref p ∧ H p = some (.lst vs) ∧ RpL K H xs vs
  | .tup xs, v => ∃ p vs, v = .ref p ∧ SqT K H p vs ∧ RpL K H xs vs
  | .dic ks xs, v => ∃ p o vs, v = .ref p ∧ H p = some (.frz o (.dK (ks.zip vs))) ∧ RpL K H xs vs ∧ ks.length = xs.length
  | .ins C ns xs, v => ∃ p dx vs, v = .ref p ∧ H p = some (.ins C dx (ns.zip vs)) ∧ RpL K H xs vs ∧ ns.length = xs.length
  | .pl ns, v => ∃ p, v = .ref p ∧ H p = some (.tup (ns.map V.str))
def RpL (K : PySem.W.Frag) (H : Hp) : List D → List V → Prop
  | [], vs => vs = []
  | d :: ds, vs => ∃ v r, vs = v :: r ∧ Rp K H d v ∧ RpL K H ds r
end

theorem sameT {K : PySem.W.Frag} {H H' : Hp} {a : Addr} {xs : List V} (e : Same H H') (h : SqT K H a xs) : SqT K H' a xs := by
  rcases h with (h | ⟨o, h⟩) | h
  · exact .inl (.inl (e _ _ h))
  · exact .inl (.inr ⟨o, e _ _ h⟩)
  · exact .inr h
theorem Same.new {H : Hp} {p : Addr} {o : HO} (h : H p = none) : Same H (upd H p o) := fun a u e => by
  rw [upd_ne (ne_of_none e h)]
  exact e

mutual
theorem Rp.mono {K : PySem.W.Frag} {H H' : Hp} (e : Same H H') : ∀ (d : D) (v : V), Rp K H d v → Rp K H' d v
  | .s w, v, h => by
    unfold Rp at h ⊢
    exact h
  | .lst xs, v, h => by
    unfold Rp at h ⊢
    obtain ⟨p, vs, h1, h2, h3⟩ := h
    exact ⟨p, vs, h1, e _ _ h2, RpL.mono e xs vs h3⟩
  | .tup xs, v, h => by
    unfold Rp at h ⊢
    obtain ⟨p, vs, h1, h2, h3⟩ := h
    exact ⟨p, vs, h1, sameT e h2, RpL.mono e xs vs h3⟩
  | .dic ks xs, v, h => by
    unfold Rp at h ⊢
    obtain ⟨p, o, vs, h1, h2, h3, h4⟩ := h
    exact ⟨p, o, vs, h1, e _ _ h2, RpL.mono e xs vs h3, h4⟩
  | .ins C ns xs, v, h => by
    unfold Rp at h ⊢
    obtain ⟨p, dx, vs, h1, h2, h3, h4⟩ := h
    exact ⟨p, dx, vs, h1, e _ _ h2, RpL.mono e xs vs h3, h4⟩
  | .pl ns, v, h => by
    unfold Rp at h ⊢
    obtain ⟨p, h1, h2⟩ := h
    exact ⟨p, h1, e _ _ h2⟩
theorem RpL.mono {K : PySem.W.Frag} {H H' : Hp} (e : Same H H') : ∀ (ds : List D) (vs : List V), RpL K H ds vs → RpL K H' ds vs
  | [], vs, h => by
    unfold RpL at h ⊢
    exact h
  | d :: ds, vs, h => by
    unfold RpL at h ⊢
    obtain ⟨v, r, h1, h2, h3⟩ := h
    exact ⟨v, r, h1, Rp.mono e d v h2, RpL.mono e ds r h3⟩
end
section
variable {K : PySem.W.Frag} {H H' : Hp}
theorem RpL.length : ∀ {ds : List D} {vs : List V}, RpL K H ds vs → vs.length = ds.length
  | [], vs, h => by
    unfold RpL at h
    rw [h]
    rfl
  | d :: ds, vs, h => by
    unfold RpL at h
    obtain ⟨v, r, rfl, h2, h3⟩ := h
    simp [RpL.length h3]
theorem RpL.get : ∀ {ds : List D} {vs : List V} {i : Nat} {d : D}, RpL K H ds vs → ds[i]? = some d → ∃ v, vs[i]? = some v ∧ Rp K H d v
  | [], _, _, _, _, e => by simp at e
  | d :: ds, vs, 0, d', h, e => by
    unfold RpL at h
    obtain ⟨v, r, rfl, h2, h3⟩ := h
    simp at e
    subst e
    exact ⟨v, rfl, h2⟩
  | d :: ds, vs, i + 1, d', h, e => by
    unfold RpL at h
    obtain ⟨v, r, rfl, h2, h3⟩ := h
    obtain ⟨u, q1, q2⟩ := RpL.get (i := i) h3 (by simpa using e)
    exact ⟨u, by simpa using q1, q2⟩
theorem RpL.get' : ∀ {ds : List D} {vs : List V} {i : Nat} {v : V}, RpL K H ds vs → vs[i]? = some v → ∃ d, ds[i]? = some d ∧ Rp K H d v
  | [], vs, i, v, h, e => by
    unfold RpL at h
    subst h
    simp at e
  | d :: ds, vs, 0, v, h, e => by
    unfold RpL at h
    obtain ⟨v', r, rfl, h2, h3⟩ := h
    simp at e
    subst e
    exact ⟨d, rfl, h2⟩
  | d :: ds, vs, i + 1, v, h, e => by
    unfold RpL at h
    obtain ⟨v', r, rfl, h2, h3⟩ := h
    obtain ⟨u, q1, q2⟩ := RpL.get' (i := i) h3 (by simpa using e)
    exact ⟨u, by simpa using q1, q2⟩
theorem RpL.nil : RpL K H [] [] := by
  unfold RpL
  rfl
theorem RpL.cons {d : D} {v : V} {ds : List D} {vs : List V} (h : Rp K H d v) (hs : RpL K H ds vs) : RpL K H (d :: ds) (v :: vs) := by
  unfold RpL
  exact ⟨v, vs, rfl, h, hs⟩
theorem RpL.app : ∀ {ds es : List D} {vs us : List V}, RpL K H ds vs → RpL K H es us → RpL K H (ds ++ es) (vs ++ us)
  | [], es, vs, us, h, h' => by
    unfold RpL at h
    subst h
    exact h'
  | d :: ds, es, vs, us, h, h' => by
    unfold RpL at h
    obtain ⟨v, r, rfl, h2, h3⟩ := h
    exact RpL.cons h2 (RpL.app h3 h')
theorem RpL.take : ∀ {ds : List D} {vs : List V} (n : Nat), RpL K H ds vs → RpL K H (ds.take n) (vs.take n)
  | _, _, 0, _ => by
    simp
    exact RpL.nil
  | [], vs, n + 1, h => by
    unfold RpL at h
    subst h
    exact RpL.nil
  | d :: ds, vs, n + 1, h => by
    unfold RpL at h
    obtain ⟨v, r, rfl, h2, h3⟩ := h
    exact RpL.cons h2 (RpL.take n h3)
theorem RpL.drop : ∀ {ds : List D} {vs : List V} (n : Nat), RpL K H ds vs → RpL K H (ds.drop n) (vs.drop n)
  | _, _, 0, h => h
  | [], vs, n + 1, h => by
    unfold RpL at h
    subst h
    exact RpL.nil
  | d :: ds, vs, n + 1, h => by
    unfold RpL at h
    obtain ⟨v, r, rfl, h2, h3⟩ := h
    exact RpL.drop n h3
theorem RpL.ofScal : ∀ (vs : List V), RpL K H (vs.map D.s) vs
  | [] => RpL.nil
  | v :: vs => RpL.cons (by unfold Rp; rfl) (RpL.ofScal vs)
theorem RpL.scal : ∀ {vs us : List V}, RpL K H (vs.map D.s) us → us = vs
  | [], us, h => by
    unfold RpL at h
    exact h
  | v :: vs, us, h => by
    unfold RpL at h
    obtain ⟨u, r, rfl, h2, h3⟩ := h
    unfold Rp at h2
    rw [h2, RpL.scal h3]
theorem RpL.set : ∀ {ds : List D} {vs : List V} {d : D} {v : V} (i : Nat), RpL K H ds vs → Rp K H d v → RpL K H (ds.set i d) (vs.set i v)
  | [], vs, d, v, i, h, h' => by
    unfold RpL at h
    subst h
    exact RpL.nil
  | e :: ds, vs, d, v, 0, h, h' => by
    unfold RpL at h
    obtain ⟨u, r, rfl, h2, h3⟩ := h
    exact RpL.cons h' h3
  | e :: ds, vs, d, v, i + 1, h, h' => by
    unfold RpL at h
    obtain ⟨u, r, rfl, h2, h3⟩ := h
    exact RpL.cons h2 (RpL.set i h3 h')
end

/-! ### 2. what stands beside the data: owned objects, the number of draws -/
inductive MO where
  | lst (ds : List D)
  | ins (C : Addr) (ns : List Str) (ds : List D)
  | dK (ks : List Key) (ds : List D)
  | dT (ks : List (List Str)) (ds : List D)
  | stm (c : Addr)
  | cel
  /-- any other object that is no tuple, by what is true of it -/
  | gen (φ : Hp → HO → Prop)
structure Mem where
  cnt : Nat
  own : Addr → Option MO
def putM (m : Addr → Option MO) (a : Addr) (o : MO) : Addr → Option MO := fun b => if b = a then some o else m b
def dropM (m : Addr → Option MO) (a : Addr) : Addr → Option MO := fun b => if b = a then none else m b
theorem putM_same {m : Addr → Option MO} {a : Addr} {o : MO} : putM m a o a = some o := if_pos rfl
theorem putM_ne {m : Addr → Option MO} {a b : Addr} {o : MO} (h : b ≠ a) : putM m a o b = m b := if_neg h
theorem putM_put {m : Addr → Option MO} {a : Addr} {o u : MO} : putM (putM m a o) a u = putM m a u := by
  funext b
  unfold putM
  split <;> rfl
theorem dropM_same {m : Addr → Option MO} {a : Addr} : dropM m a a = none := if_pos rfl
theorem dropM_ne {m : Addr → Option MO} {a b : Addr} (h : b ≠ a) : dropM m a b = m b := if_neg h
theorem dropM_put {m : Addr → Option MO} {a : Addr} {o : MO} (h : m a = none) : dropM (putM m a o) a = m := by
  funext b
  unfold dropM putM
  split
  · rename_i e
    rw [e, h]
  · rfl
def StOk (s1 s2 s3 : Int) (cnt : Nat) : Prop := 0 ≤ s1 ∧ (0 ≤ s2 ∧ s2 ≤ cnt) ∧ 0 ≤ s3 ∧ s3 < 2147483647
def CelOk (ns : List Int) : Prop := ns.length ≤ 63
def RepM (K : PySem.W.Frag) (Hb H : Hp) (cnt : Nat) (a : Addr) : MO → Prop
  | .lst ds => ∃ vs, H a = some (.lst vs) ∧ RpL K Hb ds vs
  | .ins C ns ds => ∃ dx vs, H a = some (.ins C dx (ns.zip vs)) ∧ RpL K Hb ds vs ∧ ns.length = ds.length
  | .dK ks ds => ∃ vs, H a = some (.dK (ks.zip vs)) ∧ RpL K Hb ds vs ∧ ks.length = ds.length
  | .dT ks ds => ∃ vs, H a = some (.dT ((ks.map fun k => k.map Sum.inr).zip vs)) ∧ RpL K Hb ds vs ∧ ks.length = ds.length
  | .stm c => ∃ s1 s2 s3, H a = some (.lst [.ref c, .int s1, .int s2, .int s3]) ∧ StOk s1 s2 s3 cnt
  | .cel => ∃ ns : List Int, H a = some (.lst (ns.map V.int)) ∧ CelOk ns
  | .gen φ => ∃ o Hc, H a = some o ∧ Same Hc Hb ∧ φ Hc o ∧ ∀ xs, o ≠ .tup xs
structure Rel (K : PySem.W.Frag) (F Hb H : Hp) (m : Mem) : Prop where
  sub : Same Hb H
  fr : ∀ a o, F a = some o → H a = some o ∧ Hb a = none ∧ m.own a = none
  own : ∀ a mo, m.own a = some mo → Hb a = none ∧ RepM K Hb H m.cnt a mo
  nt : ∀ a xs, F a ≠ some (.tup xs)
theorem nt_upd {F : Hp} {p : Addr} {o : HO} (h : ∀ a xs, F a ≠ some (.tup xs)) (ho : ∀ xs, o ≠ .tup xs) : ∀ a xs, upd F p o a ≠ some (.tup xs) := fun a xs e => by
  by_cases ha : a = p
  · rw [ha, upd_same] at e
    exact ho xs (Option.some.inj e)
  · rw [upd_ne ha] at e
    exact h a xs e
theorem nt_of {F : Hp} {p : Addr} {o : HO} (h : ∀ a xs, upd F p o a ≠ some (.tup xs)) (hF : F p = none) : ∀ a xs, F a ≠ some (.tup xs) := fun a xs e => by
  refine h a xs ?_
  rw [upd_ne (ne_of_none e hF)]
  exact e
section
variable {K : PySem.W.Frag} {F Hb Hb' H H' : Hp} {m : Mem} {a p : Addr}
theorem RepM.some {cnt : Nat} {mo : MO} (h : RepM K Hb H cnt a mo) : ∃ o, H a = some o := by
  cases mo with
  | lst ds => obtain ⟨vs, e, _⟩ := h; exact ⟨_, e⟩
  | ins C ns ds => obtain ⟨dx, vs, e, _⟩ := h; exact ⟨_, e⟩
  | dK ks ds => obtain ⟨vs, e, _⟩ := h; exact ⟨_, e⟩
  | dT ks ds => obtain ⟨vs, e, _⟩ := h; exact ⟨_, e⟩
  | stm c => obtain ⟨s1, s2, s3, e, _⟩ := h; exact ⟨_, e⟩
  | cel => obtain ⟨ns, e, _⟩ := h; exact ⟨_, e⟩
  | gen φ => obtain ⟨o, Hc, e, _⟩ := h; exact ⟨_, e⟩
theorem RepM.mono {cnt cnt' : Nat} {mo : MO} (h : RepM K Hb H cnt a mo) (e : Same Hb Hb') (ea : H' a = H a) (hc : cnt ≤ cnt') : RepM K Hb' H' cnt' a mo := by
  cases mo with
  | lst ds => obtain ⟨vs, q, r⟩ := h; exact ⟨vs, ea.trans q, r.mono e⟩
  | ins C ns ds => obtain ⟨dx, vs, q, r, l⟩ := h; exact ⟨dx, vs, ea.trans q, r.mono e, l⟩
  | dK ks ds => obtain ⟨vs, q, r, l⟩ := h; exact ⟨vs, ea.trans q, r.mono e, l⟩
  | dT ks ds => obtain ⟨vs, q, r, l⟩ := h; exact ⟨vs, ea.trans q, r.mono e, l⟩
  | stm c => obtain ⟨s1, s2, s3, q, r1, r2, r3⟩ := h; exact ⟨s1, s2, s3, ea.trans q, r1, ⟨r2.1, by omega⟩, r3⟩
  | cel => obtain ⟨ns, q, r⟩ := h; exact ⟨ns, ea.trans q, r⟩
  | gen φ => obtain ⟨o, Hc, q, r, l⟩ := h; exact ⟨o, Hc, ea.trans q, r.trans e, l⟩
theorem Rel.fresh (r : Rel K F Hb H m) (h : H p = none) : Hb p = none := r.sub.free h
theorem Rel.free (r : Rel K F Hb H m) (h : H p = none) : m.own p = none := by
  cases e : m.own p with
  | none => rfl
  | some mo =>
    obtain ⟨o, q⟩ := (r.own p mo e).2.some
    rw [h] at q
    cases q
theorem Rel.nofr (r : Rel K F Hb H m) (h : H p = none) : F p = none := by
  cases e : F p with
  | none => rfl
  | some o =>
    rw [(r.fr p o e).1] at h
    cases h
theorem ne_fr {b : Addr} {o : HO} (h : F b = some o) (h' : F p = none) : b ≠ p := fun z => by
  rw [z, h'] at h
  cases h
/-- a new object that is data from now on -/
theorem Rel.data {o : HO} (r : Rel K F Hb H m) (h : H p = none) : Rel K F (upd Hb p o) (upd H p o) m := by
  refine ⟨fun b u e => ?_, fun b u e => ?_, fun b mo e => ?_, r.nt⟩
  · by_cases hb : b = p
    · subst hb
      rw [upd_same] at e ⊢
      exact e
    · rw [upd_ne hb] at e ⊢
      exact r.sub b u e
  · have hb := ne_fr e (r.nofr h)
    rw [upd_ne hb, upd_ne hb]
    exact r.fr b u e
  · obtain ⟨q1, q2⟩ := r.own b mo e
    have hb : b ≠ p := fun z => by
      rw [z, r.free h] at e
      cases e
    exact ⟨by rw [upd_ne hb]; exact q1, q2.mono (Same.new (r.fresh h)) (upd_ne hb) (Nat.le_refl _)⟩
/-- a new object that is owned -/
theorem Rel.owned {o : HO} {mo : MO} (r : Rel K F Hb H m) (h : H p = none) (new : RepM K Hb (upd H p o) m.cnt p mo) : Rel K F Hb (upd H p o) { m with own := putM m.own p mo } := by
  refine ⟨fun b u e => ?_, fun b u e => ?_, fun b mo' e => ?_, r.nt⟩
  · rw [upd_ne (ne_of_none (r.sub b u e) h)]
    exact r.sub b u e
  · have hb := ne_fr e (r.nofr h)
    rw [upd_ne hb]
    exact ⟨(r.fr b u e).1, (r.fr b u e).2.1, (putM_ne hb).trans (r.fr b u e).2.2⟩
  · by_cases hb : b = p
    · subst hb
      rw [show ({ m with own := putM m.own b mo } : Mem).own b = some mo from putM_same] at e
      cases e
      exact ⟨r.fresh h, new⟩
    · have e' : m.own b = some mo' := by
        rw [← e]
        exact (putM_ne hb).symm
      obtain ⟨q1, q2⟩ := r.own b mo' e'
      exact ⟨q1, q2.mono (Same.refl _) (upd_ne hb) (Nat.le_refl _)⟩
theorem Rel.ownF {mo : MO} (r : Rel K F Hb H m) (h : m.own p = some mo) : F p = none := by
  cases e : F p with
  | none => rfl
  | some o =>
    rw [(r.fr p o e).2.2] at h
    cases h
/-- an owned object changes -/
theorem Rel.change {o : HO} {mo mo' : MO} (r : Rel K F Hb H m) (h : m.own p = some mo) (new : RepM K Hb (upd H p o) m.cnt p mo') : Rel K F Hb (upd H p o) { m with own := putM m.own p mo' } := by
  have hn := (r.own p mo h).1
  refine ⟨fun b u e => ?_, fun b u e => ?_, fun b mo1 e => ?_, r.nt⟩
  · rw [upd_ne (ne_of_none e hn)]
    exact r.sub b u e
  · have hb := ne_fr e (r.ownF h)
    rw [upd_ne hb]
    exact ⟨(r.fr b u e).1, (r.fr b u e).2.1, (putM_ne hb).trans (r.fr b u e).2.2⟩
  · by_cases hb : b = p
    · subst hb
      rw [show ({ m with own := putM m.own b mo' } : Mem).own b = some mo' from putM_same] at e
      cases e
      exact ⟨hn, new⟩
    · have e' : m.own b = some mo1 := by
        rw [← e]
        exact (putM_ne hb).symm
      obtain ⟨q1, q2⟩ := r.own b mo1 e'
      exact ⟨q1, q2.mono (Same.refl _) (upd_ne hb) (Nat.le_refl _)⟩
/-- an owned object becomes data -/
theorem Rel.freeze {o : HO} {mo : MO} (r : Rel K F Hb H m) (h : m.own p = some mo) (hp : H p = some o) : Rel K F (upd Hb p o) H { m with own := dropM m.own p } := by
  have hn := (r.own p mo h).1
  refine ⟨fun b u e => ?_, fun b u e => ?_, fun b mo1 e => ?_, r.nt⟩
  · by_cases hb : b = p
    · subst hb
      rw [upd_same] at e
      rw [hp]
      exact e
    · rw [upd_ne hb] at e
      exact r.sub b u e
  · have hb := ne_fr e (r.ownF h)
    rw [upd_ne hb]
    exact ⟨(r.fr b u e).1, (r.fr b u e).2.1, (dropM_ne hb).trans (r.fr b u e).2.2⟩
  · by_cases hb : b = p
    · subst hb
      have q : (none : Option MO) = some mo1 := by
        rw [← e]
        exact dropM_same.symm
      cases q
    · have e' : m.own b = some mo1 := by
        rw [← e]
        exact (dropM_ne hb).symm
      obtain ⟨q1, q2⟩ := r.own b mo1 e'
      exact ⟨by rw [upd_ne hb]; exact q1, q2.mono (Same.new hn) rfl (Nat.le_refl _)⟩
/-- a new object that stands aside -/
theorem Rel.aside {o : HO} (r : Rel K F Hb H m) (h : H p = none) (ho : ∀ xs, o ≠ .tup xs := by intro _ z; cases z) : Rel K (upd F p o) Hb (upd H p o) m := by
  refine ⟨fun b u e => ?_, fun b u e => ?_, fun b mo e => ?_, nt_upd r.nt ho⟩
  · rw [upd_ne (ne_of_none (r.sub b u e) h)]
    exact r.sub b u e
  · by_cases hb : b = p
    · subst hb
      rw [upd_same] at e ⊢
      exact ⟨e, r.fresh h, r.free h⟩
    · rw [upd_ne hb] at e ⊢
      exact r.fr b u e
  · obtain ⟨q1, q2⟩ := r.own b mo e
    have hb : b ≠ p := fun z => by
      rw [z, r.free h] at e
      cases e
    exact ⟨q1, q2.mono (Same.refl _) (upd_ne hb) (Nat.le_refl _)⟩
theorem upd_back {F : Hp} {p : Addr} {o u : HO} (h : F p = none) {b : Addr} {x : HO} (e : F b = some x) : upd F p o b = some x := by
  rw [upd_ne (ne_of_none e h)]
  exact e
/-- what stands aside changes -/
theorem Rel.turnA {o u : HO} (r : Rel K (upd F p o) Hb H m) (hu : ∀ xs, u ≠ .tup xs := by intro _ z; cases z) : Rel K (upd F p u) Hb (upd H p u) m := by
  obtain ⟨h1, h2, h3⟩ := r.fr p o upd_same
  refine ⟨fun b x e => ?_, fun b x e => ?_, fun b mo e => ?_, fun a xs e => ?_⟩
  · rw [upd_ne (ne_of_none e h2)]
    exact r.sub b x e
  · by_cases hb : b = p
    · subst hb
      rw [upd_same] at e ⊢
      exact ⟨e, h2, h3⟩
    · rw [upd_ne hb] at e ⊢
      exact r.fr b x (by rw [upd_ne hb]; exact e)
  · obtain ⟨q1, q2⟩ := r.own b mo e
    have hb : b ≠ p := fun z => by
      rw [z, h3] at e
      cases e
    exact ⟨q1, q2.mono (Same.refl _) (upd_ne hb) (Nat.le_refl _)⟩
  · by_cases ha : a = p
    · rw [ha, upd_same] at e
      exact hu xs (Option.some.inj e)
    · rw [upd_ne ha] at e
      exact r.nt a xs (by rw [upd_ne ha]; exact e)
/-- what stood aside becomes data -/
theorem Rel.settle {o : HO} (r : Rel K (upd F p o) Hb H m) (hF : F p = none) : Rel K F (upd Hb p o) H m := by
  obtain ⟨h1, h2, h3⟩ := r.fr p o upd_same
  refine ⟨fun b x e => ?_, fun b x e => ?_, fun b mo e => ?_, nt_of r.nt hF⟩
  · by_cases hb : b = p
    · subst hb
      rw [upd_same] at e
      rw [h1]
      exact e
    · rw [upd_ne hb] at e
      exact r.sub b x e
  · have hb := ne_fr e hF
    rw [upd_ne hb]
    exact r.fr b x (by rw [upd_ne hb]; exact e)
  · obtain ⟨q1, q2⟩ := r.own b mo e
    have hb : b ≠ p := fun z => by
      rw [z, h3] at e
      cases e
    exact ⟨by rw [upd_ne hb]; exact q1, q2.mono (Same.new h2) rfl (Nat.le_refl _)⟩
/-- .. an owned object -/
theorem Rel.take {o : HO} {mo : MO} (r : Rel K (upd F p o) Hb H m) (hF : F p = none) (new : RepM K Hb H m.cnt p mo) : Rel K F Hb H { m with own := putM m.own p mo } := by
  obtain ⟨h1, h2, h3⟩ := r.fr p o upd_same
  refine ⟨r.sub, fun b x e => ?_, fun b mo' e => ?_, nt_of r.nt hF⟩
  · have hb := ne_fr e hF
    obtain ⟨z1, z2, z3⟩ := r.fr b x (by rw [upd_ne hb]; exact e)
    exact ⟨z1, z2, (putM_ne hb).trans z3⟩
  · by_cases hb : b = p
    · subst hb
      rw [show ({ m with own := putM m.own b mo } : Mem).own b = some mo from putM_same] at e
      cases e
      exact ⟨h2, new⟩
    · exact r.own b mo' (by rw [← e]; exact (putM_ne hb).symm)
theorem Rel.count {n : Nat} (r : Rel K F Hb H m) (h : m.cnt ≤ n) : Rel K F Hb H { m with cnt := n } :=
  ⟨r.sub, r.fr, fun b mo e => ⟨(r.own b mo e).1, (r.own b mo e).2.mono (Same.refl _) rfl h⟩, r.nt⟩
/-- an owned object is let go -/
theorem Rel.leave (r : Rel K F Hb H m) (a : Addr) : Rel K F Hb H { m with own := dropM m.own a } := by
  refine ⟨r.sub, fun b u e => ⟨(r.fr b u e).1, (r.fr b u e).2.1, ?_⟩, fun b mo e => ?_, r.nt⟩
  · show dropM m.own a b = none
    unfold dropM
    split
    · rfl
    · exact (r.fr b u e).2.2
  by_cases hb : b = a
  · subst hb
    have q : (none : Option MO) = some mo := by
      rw [← e]
      exact dropM_same.symm
    cases q
  · exact r.own b mo (by rw [← e]; exact (dropM_ne hb).symm)
end

/-! ### 3. slots -/
abbrev Env := List (Option D)
def RpS (K : PySem.W.Frag) (H : Hp) (ρ : Env) (σ : L2.St) : Prop := ρ.length = σ.length ∧ ∀ (i : Nat) d, ρ[i]? = some (some d) → ∃ v, σ[i]? = some (some v) ∧ Rp K H d v
section
variable {K : PySem.W.Frag} {H H' : Hp} {ρ : Env} {σ : L2.St}
theorem RpS.mono (e : Same H H') (h : RpS K H ρ σ) : RpS K H' ρ σ := ⟨h.1, fun i d q => by
  obtain ⟨v, h1, h2⟩ := h.2 i d q
  exact ⟨v, h1, h2.mono e⟩⟩
theorem RpS.set {i : Nat} {d : D} {v : V} (h : RpS K H ρ σ) (hv : Rp K H d v) : RpS K H (ρ.set i (some d)) (σ.set i (some v)) := by
  refine ⟨by simp [h.1], fun j d' q => ?_⟩
  by_cases hij : i = j
  · subst hij
    by_cases hl : i < ρ.length
    · rw [List.getElem?_set_self hl] at q
      cases q
      exact ⟨v, by rw [List.getElem?_set_self (by rw [← h.1]; exact hl)], hv⟩
    · rw [List.getElem?_eq_none (by simpa using hl)] at q
      cases q
  · rw [List.getElem?_set_ne hij] at q ⊢
    exact h.2 j d' q
theorem RpS.unset {i : Nat} {x : Option V} (h : RpS K H ρ σ) : RpS K H (ρ.set i none) (σ.set i x) := by
  refine ⟨by simp [h.1], fun j d' q => ?_⟩
  by_cases hij : i = j
  · subst hij
    by_cases hl : i < ρ.length
    · rw [List.getElem?_set_self hl] at q
      cases q
    · rw [List.getElem?_eq_none (by simpa using hl)] at q
      cases q
  · rw [List.getElem?_set_ne hij] at q ⊢
    exact h.2 j d' q
def wipeD (ρ : Env) : List Nat → Env
  | [] => ρ
  | v :: vs => (wipeD ρ vs).set v none
theorem RpS.wipe (h : RpS K H ρ σ) : ∀ vs : List Nat, RpS K H (wipeD ρ vs) (L2.wipe σ vs)
  | [] => h
  | v :: vs => by
    unfold wipeD L2.wipe
    exact (RpS.wipe h vs).unset
/-- the slots at a def's entry -/
def startD (N : List Str) (ds : List D) : Env := ds.map some ++ List.replicate (N.length - ds.length) none
theorem RpS.start {N : List Str} {ds : List D} {vs : List V} (h : RpL K H ds vs) : RpS K H (startD N ds) (L2.start N vs) := by
  have hl := h.length
  refine ⟨by simp [startD, L2.start, hl], fun i d q => ?_⟩
  unfold startD at q
  by_cases hi : i < ds.length
  · rw [List.getElem?_append_left (by simpa using hi), List.getElem?_map] at q
    cases e : ds[i]? with
    | none =>
      rw [e] at q
      cases q
    | some d' =>
      rw [e] at q
      cases q
      obtain ⟨v, h1, h2⟩ := h.get e
      refine ⟨v, ?_, h2⟩
      unfold L2.start
      rw [List.getElem?_append_left (by simp [hl]; exact hi), List.getElem?_map, h1]
      rfl
  · rw [List.getElem?_append_right (by simpa using hi), List.getElem?_replicate] at q
    split at q
    · cases q
    · cases q
/-- less may be known of the slots -/
def Sub1 (ρ ρ' : Env) : Prop := ρ.length = ρ'.length ∧ ∀ (i : Nat) d, ρ'[i]? = some (some d) → ρ[i]? = some (some d)
theorem RpS.sub {ρ' : Env} (h : RpS K H ρ σ) (s : Sub1 ρ ρ') : RpS K H ρ' σ := ⟨s.1.symm.trans h.1, fun i d q => h.2 i d (s.2 i d q)⟩
theorem Sub1.nil : Sub1 [] [] := ⟨rfl, fun i d q => by simp at q⟩
theorem Sub1.same {x : Option D} {ρ ρ' : Env} (h : Sub1 ρ ρ') : Sub1 (x :: ρ) (x :: ρ') := by
  refine ⟨by simp [h.1], fun i d q => ?_⟩
  cases i with
  | zero => simpa using q
  | succ i => simpa using h.2 i d (by simpa using q)
theorem Sub1.lose {x : Option D} {ρ ρ' : Env} (h : Sub1 ρ ρ') : Sub1 (x :: ρ) (none :: ρ') := by
  refine ⟨by simp [h.1], fun i d q => ?_⟩
  cases i with
  | zero => simp at q
  | succ i => simpa using h.2 i d (by simpa using q)
theorem Sub1.refl : ∀ ρ : Env, Sub1 ρ ρ
  | [] => Sub1.nil
  | x :: ρ => Sub1.same (Sub1.refl ρ)
end

/-! ### 4. what a reading gives -/
abbrev QD := D → Mem → Prop
structure DE where
  nx : Env → Mem → Prop
  rt : QD
  bk : Env → Mem → Prop := fun _ _ => False
  ct : Env → Mem → Prop := fun _ _ => False
/-- from the heap of data Hb on: what v, H' have to be -/
def OkV (K : PySem.W.Frag) (F Hb : Hp) (Q : QD) (R : VK) : Prop := ∀ v H' Hb' d m', Same Hb Hb' → Rel K F Hb' H' m' → Rp K Hb' d v → Q d m' → R v H'
def OkB (K : PySem.W.Frag) (F Hb : Hp) (Q : Bool → Mem → Prop) (R : Bool → Hp → Prop) : Prop := ∀ b H' Hb' m', Same Hb Hb' → Rel K F Hb' H' m' → Q b m' → R b H'
def OkA (K : PySem.W.Frag) (F Hb : Hp) (Q : List D → Mem → Prop) (R : List V → Hp → Prop) : Prop := ∀ vs H' Hb' ds m', Same Hb Hb' → Rel K F Hb' H' m' → RpL K Hb' ds vs → Q ds m' → R vs H'
def OkN (K : PySem.W.Frag) (F Hb : Hp) (Q : Env → Mem → Prop) (R : L2.St → Hp → Prop) : Prop := ∀ σ H' Hb' ρ m', Same Hb Hb' → Rel K F Hb' H' m' → RpS K Hb' ρ σ → Q ρ m' → R σ H'
structure OkE (K : PySem.W.Frag) (F Hb : Hp) (E : DE) (R : Ends) : Prop where
  nx : OkN K F Hb E.nx R.nx
  rt : OkV K F Hb E.rt R.rt
  bk : OkN K F Hb E.bk R.bk
  ct : OkN K F Hb E.ct R.ct
def WE (K : PySem.W.Frag) (F B : Hp) (te : TE) (ρ : Env) (m : Mem) (Q : QD) : Prop := ∀ Hb H σ R, Same B Hb → Rel K F Hb H m → RpS K Hb ρ σ → OkV K F Hb Q R → te σ H R
def WT (K : PySem.W.Frag) (F B : Hp) (tt : TT) (ρ : Env) (m : Mem) (Q : Bool → Mem → Prop) : Prop := ∀ Hb H σ R, Same B Hb → Rel K F Hb H m → RpS K Hb ρ σ → OkB K F Hb Q R → tt σ H R
def WA (K : PySem.W.Frag) (F B : Hp) (ta : TA) (ρ : Env) (m : Mem) (Q : List D → Mem → Prop) : Prop := ∀ Hb H σ R, Same B Hb → Rel K F Hb H m → RpS K Hb ρ σ → OkA K F Hb Q R → ta σ H R
def WO (K : PySem.W.Frag) (F B : Hp) (r : R2) (x y : D) (m : Mem) (Q : QD) : Prop := ∀ Hb H vx vy R, Same B Hb → Rel K F Hb H m → Rp K Hb x vx → Rp K Hb y vy → OkV K F Hb Q R → r vx vy H R
def WU (K : PySem.W.Frag) (F B : Hp) (r : V → Hp → VK → Prop) (x : D) (m : Mem) (Q : QD) : Prop := ∀ Hb H vx R, Same B Hb → Rel K F Hb H m → Rp K Hb x vx → OkV K F Hb Q R → r vx H R
def WC (K : PySem.W.Frag) (F B : Hp) (r : List V → Hp → VK → Prop) (xs : List D) (m : Mem) (Q : QD) : Prop := ∀ Hb H vs R, Same B Hb → Rel K F Hb H m → RpL K Hb xs vs → OkV K F Hb Q R → r vs H R
def WS (K : PySem.W.Frag) (F B : Hp) (t : TS) (ρ : Env) (m : Mem) (E : DE) : Prop := ∀ Hb H σ R, Same B Hb → Rel K F Hb H m → RpS K Hb ρ σ → OkE K F Hb E R → t R σ H
section
variable {K : PySem.W.Frag} {B F Hb Hb' H H' : Hp} {m : Mem} {ρ : Env}
theorem OkV.mono {Q : QD} {R : VK} (h : OkV K F Hb Q R) (e : Same Hb Hb') : OkV K F Hb' Q R := fun v H' H2 d m' e2 => h v H' H2 d m' (e.trans e2)
theorem OkB.mono {Q : Bool → Mem → Prop} {R : Bool → Hp → Prop} (h : OkB K F Hb Q R) (e : Same Hb Hb') : OkB K F Hb' Q R := fun v H' H2 m' e2 => h v H' H2 m' (e.trans e2)
theorem OkA.mono {Q : List D → Mem → Prop} {R : List V → Hp → Prop} (h : OkA K F Hb Q R) (e : Same Hb Hb') : OkA K F Hb' Q R := fun v H' H2 d m' e2 => h v H' H2 d m' (e.trans e2)
theorem OkN.mono {Q : Env → Mem → Prop} {R : L2.St → Hp → Prop} (h : OkN K F Hb Q R) (e : Same Hb Hb') : OkN K F Hb' Q R := fun v H' H2 d m' e2 => h v H' H2 d m' (e.trans e2)
theorem OkE.mono {E : DE} {R : Ends} (h : OkE K F Hb E R) (e : Same Hb Hb') : OkE K F Hb' E R := ⟨h.nx.mono e, h.rt.mono e, h.bk.mono e, h.ct.mono e⟩
theorem OkV.here {Q : QD} {R : VK} {v : V} {d : D} (h : OkV K F Hb Q R) (r : Rel K F Hb H m) (hd : Rp K Hb d v) (q : Q d m) : R v H := h v H Hb d m (Same.refl _) r hd q
theorem OkN.here {Q : Env → Mem → Prop} {R : L2.St → Hp → Prop} {σ : L2.St} (h : OkN K F Hb Q R) (r : Rel K F Hb H m) (hs : RpS K Hb ρ σ) (q : Q ρ m) : R σ H := h σ H Hb ρ m (Same.refl _) r hs q
theorem rp_s {v : V} : Rp K H (.s v) v := by unfold Rp; rfl

/-! ### 5. expressions -/
theorem we_imp {te : TE} {Q Q' : QD} (h : WE K F B te ρ m Q) (hq : ∀ d m', Q d m' → Q' d m') : WE K F B te ρ m Q' := fun Hb H σ R hB r hs k => h Hb H σ R hB r hs fun v H' Hb' d m' e r' hd q => k v H' Hb' d m' e r' hd (hq d m' q)
theorem wt_imp {tt : TT} {Q Q' : Bool → Mem → Prop} (h : WT K F B tt ρ m Q) (hq : ∀ d m', Q d m' → Q' d m') : WT K F B tt ρ m Q' := fun Hb H σ R hB r hs k => h Hb H σ R hB r hs fun v H' Hb' m' e r' q => k v H' Hb' m' e r' (hq v m' q)
theorem we_or1 {t u : TE} {Q : QD} (h : WE K F B t ρ m Q) : WE K F B (fun σ H R => t σ H R ∨ u σ H R) ρ m Q := fun Hb H σ R hB r hs k => .inl (h Hb H σ R hB r hs k)
theorem we_or2 {t u : TE} {Q : QD} (h : WE K F B u ρ m Q) : WE K F B (fun σ H R => t σ H R ∨ u σ H R) ρ m Q := fun Hb H σ R hB r hs k => .inr (h Hb H σ R hB r hs k)
theorem we_var {i : Nat} {d : D} {Q : QD} (h : ρ[i]? = some (some d)) (q : Q d m) : WE K F B (tVar i) ρ m Q := fun Hb H σ R hB r hs k => by
  obtain ⟨v, h1, h2⟩ := hs.2 i d h
  exact ⟨v, h1, k.here r h2 q⟩
theorem we_c {v : V} {Q : QD} (q : Q (.s v) m) : WE K F B (tC v) ρ m Q := fun Hb H σ R hB r hs k => k.here r rp_s q
theorem we_op {r2 : R2} {ta tb : TE} {Q : QD} (h : WE K F B ta ρ m fun x m1 => WE K F B tb ρ m1 fun y m2 => WO K F B r2 x y m2 Q) : WE K F B (tOp r2 ta tb) ρ m Q := fun Hb H σ R hB r hs k =>
  h Hb H σ _ hB r hs fun v H1 Hb1 x m1 e1 r1 hx q1 => q1 Hb1 H1 σ _ (hB.trans e1) r1 (hs.mono e1) fun u H2 Hb2 y m2 e2 r2 hy q2 =>
    q2 Hb2 H2 v u R ((hB.trans e1).trans e2) r2 (hx.mono e2) hy (k.mono (e1.trans e2))
theorem we_un {r1 : V → Hp → VK → Prop} {ta : TE} {Q : QD} (h : WE K F B ta ρ m fun x m1 => WU K F B r1 x m1 Q) : WE K F B (tUn r1 ta) ρ m Q := fun Hb H σ R hB r hs k =>
  h Hb H σ _ hB r hs fun v H1 Hb1 x m1 e1 r1 hx q1 => q1 Hb1 H1 v R (hB.trans e1) r1 hx (k.mono e1)
theorem we_if {t : TT} {ta tb : TE} {Q : QD} (h : WT K F B t ρ m fun b m1 => (b = true → WE K F B ta ρ m1 Q) ∧ (b = false → WE K F B tb ρ m1 Q)) : WE K F B (tIf t ta tb) ρ m Q := fun Hb H σ R hB r hs k =>
  h Hb H σ _ hB r hs fun b H1 Hb1 m1 e1 r1 q1 => by
    cases b with
    | true => exact q1.1 rfl Hb1 H1 σ R (hB.trans e1) r1 (hs.mono e1) (k.mono e1)
    | false => exact q1.2 rfl Hb1 H1 σ R (hB.trans e1) r1 (hs.mono e1) (k.mono e1)
theorem we_andV {ta tb : TE} {Q : QD} (h : WE K F B ta ρ m fun x m1 => ∃ b, x = .s (.bl b) ∧ (b = true → WE K F B tb ρ m1 Q) ∧ (b = false → Q (.s (.bl false)) m1)) : WE K F B (tAndV ta tb) ρ m Q := fun Hb H σ R hB r hs k =>
  h Hb H σ _ hB r hs fun v H1 Hb1 x m1 e1 r1 hx q1 => by
    obtain ⟨b, rfl, qt, qf⟩ := q1
    unfold Rp at hx
    refine ⟨b, hx, ?_⟩
    cases b with
    | true => exact iteT (qt rfl Hb1 H1 σ R (hB.trans e1) r1 (hs.mono e1) (k.mono e1))
    | false => exact iteF (k _ _ _ _ _ e1 r1 rp_s (qf rfl))
theorem we_orV {ta tb : TE} {Q : QD} (h : WE K F B ta ρ m fun x m1 => ∃ b, x = .s (.bl b) ∧ (b = false → WE K F B tb ρ m1 Q) ∧ (b = true → Q (.s (.bl true)) m1)) : WE K F B (tOrV ta tb) ρ m Q := fun Hb H σ R hB r hs k =>
  h Hb H σ _ hB r hs fun v H1 Hb1 x m1 e1 r1 hx q1 => by
    obtain ⟨b, rfl, qf, qt⟩ := q1
    unfold Rp at hx
    refine ⟨b, hx, ?_⟩
    cases b with
    | false => exact iteF (qf rfl Hb1 H1 σ R (hB.trans e1) r1 (hs.mono e1) (k.mono e1))
    | true => exact iteT (k _ _ _ _ _ e1 r1 rp_s (qt rfl))
theorem we_notV {ta : TE} {Q : QD} (h : WE K F B ta ρ m fun x m1 => ∃ b, x = .s (.bl b) ∧ Q (.s (.bl (!b))) m1) : WE K F B (tNotV ta) ρ m Q := fun Hb H σ R hB r hs k =>
  h Hb H σ _ hB r hs fun v H1 Hb1 x m1 e1 r1 hx q1 => by
    obtain ⟨b, rfl, q⟩ := q1
    unfold Rp at hx
    exact ⟨b, hx, k _ _ _ _ _ e1 r1 rp_s q⟩

/-! ### 6. tests -/
theorem wt_B {te : TE} {Q : Bool → Mem → Prop} (h : WE K F B te ρ m fun x m1 => ∃ b, x = .s (.bl b) ∧ Q b m1) : WT K F B (tB te) ρ m Q := fun Hb H σ R hB r hs k =>
  h Hb H σ _ hB r hs fun v H1 Hb1 x m1 e1 r1 hx q1 => by
    obtain ⟨b, rfl, q⟩ := q1
    unfold Rp at hx
    exact ⟨b, hx, k _ _ _ _ e1 r1 q⟩
theorem wt_test {te : TE} {Q : Bool → Mem → Prop} (h : WE K F B te ρ m fun x m1 => ∃ b, x = .s (.bl b) ∧ Q b m1) : WT K F B (tTest te) ρ m Q := wt_B h
theorem wt_and {t u : TT} {Q : Bool → Mem → Prop} (h : WT K F B t ρ m fun b m1 => (b = true → WT K F B u ρ m1 Q) ∧ (b = false → Q false m1)) : WT K F B (tAnd t u) ρ m Q := fun Hb H σ R hB r hs k =>
  h Hb H σ _ hB r hs fun b H1 Hb1 m1 e1 r1 q1 => by
    cases b with
    | true => exact iteT (q1.1 rfl Hb1 H1 σ R (hB.trans e1) r1 (hs.mono e1) (k.mono e1))
    | false => exact iteF (k _ _ _ _ e1 r1 (q1.2 rfl))
theorem wt_or {t u : TT} {Q : Bool → Mem → Prop} (h : WT K F B t ρ m fun b m1 => (b = false → WT K F B u ρ m1 Q) ∧ (b = true → Q true m1)) : WT K F B (tOr t u) ρ m Q := fun Hb H σ R hB r hs k =>
  h Hb H σ _ hB r hs fun b H1 Hb1 m1 e1 r1 q1 => by
    cases b with
    | false => exact iteF (q1.1 rfl Hb1 H1 σ R (hB.trans e1) r1 (hs.mono e1) (k.mono e1))
    | true => exact iteT (k _ _ _ _ e1 r1 (q1.2 rfl))
theorem wt_not {t : TT} {Q : Bool → Mem → Prop} (h : WT K F B t ρ m fun b m1 => Q (!b) m1) : WT K F B (tNot t) ρ m Q := fun Hb H σ R hB r hs k =>
  h Hb H σ _ hB r hs fun b H1 Hb1 m1 e1 r1 q1 => k _ _ _ _ e1 r1 q1
theorem wt_yes {Q : Bool → Mem → Prop} (q : Q true m) : WT K F B tYes ρ m Q := fun Hb H σ R hB r hs k => k _ _ _ _ (Same.refl _) r q

/-! ### 7. arguments, displays -/
theorem wa_nil {Q : List D → Mem → Prop} (q : Q [] m) : WA K F B tNil ρ m Q := fun Hb H σ R hB r hs k => k _ _ _ _ _ (Same.refl _) r RpL.nil q
theorem wa_cons {te : TE} {ta : TA} {Q : List D → Mem → Prop} (h : WE K F B te ρ m fun x m1 => WA K F B ta ρ m1 fun xs m2 => Q (x :: xs) m2) : WA K F B (tCons te ta) ρ m Q := fun Hb H σ R hB r hs k =>
  h Hb H σ _ hB r hs fun v H1 Hb1 x m1 e1 r1 hx q1 => q1 Hb1 H1 σ _ (hB.trans e1) r1 (hs.mono e1) fun vs H2 Hb2 xs m2 e2 r2 hxs q2 =>
    k _ _ _ _ _ (e1.trans e2) r2 (RpL.cons (hx.mono e2) hxs) q2
theorem we_tup {ta : TA} {Q : QD} (h : WA K F B ta ρ m fun xs m1 => xs.length ≤ sizeLine ∧ Q (.tup xs) m1) : WE K F B (tTup ta) ρ m Q := fun Hb H σ R hB r hs k =>
  h Hb H σ _ hB r hs fun vs H1 Hb1 xs m1 e1 r1 hx q1 => ⟨by rw [hx.length]; exact q1.1, fun p hp =>
    k _ _ _ (.tup xs) _ (e1.trans (Same.new (r1.fresh hp))) (r1.data hp) (by
      unfold Rp
      exact ⟨p, vs, rfl, SqT.of upd_same, hx.mono (Same.new (r1.fresh hp))⟩) q1.2⟩
theorem we_lst {ta : TA} {Q : QD} (h : WA K F B ta ρ m fun xs m1 => xs.length ≤ sizeLine ∧ Q (.lst xs) m1) : WE K F B (tLst ta) ρ m Q := fun Hb H σ R hB r hs k =>
  h Hb H σ _ hB r hs fun vs H1 Hb1 xs m1 e1 r1 hx q1 => ⟨by rw [hx.length]; exact q1.1, fun p hp =>
    k _ _ _ (.lst xs) _ (e1.trans (Same.new (r1.fresh hp))) (r1.data hp) (by
      unfold Rp
      exact ⟨p, vs, rfl, upd_same, hx.mono (Same.new (r1.fresh hp))⟩) q1.2⟩
/-- a list that is owned from now on -/
theorem we_lstO {ta : TA} {Q : QD} (h : WA K F B ta ρ m fun xs m1 => xs.length ≤ sizeLine ∧ ∀ a, m1.own a = none → Q (.s (.ref a)) { m1 with own := putM m1.own a (.lst xs) }) : WE K F B (tLst ta) ρ m Q := fun Hb H σ R hB r hs k =>
  h Hb H σ _ hB r hs fun vs H1 Hb1 xs m1 e1 r1 hx q1 => ⟨by rw [hx.length]; exact q1.1, fun p hp =>
    k _ _ _ _ _ e1 (r1.owned (mo := .lst xs) hp ⟨vs, upd_same, hx⟩) rp_s (q1.2 p (r1.free hp))⟩
theorem we_cb {r1 : List V → Hp → VK → Prop} {ta : TA} {Q : QD} (h : WA K F B ta ρ m fun xs m1 => WC K F B r1 xs m1 Q) : WE K F B (tCB r1 ta) ρ m Q := fun Hb H σ R hB r hs k =>
  h Hb H σ _ hB r hs fun vs H1 Hb1 xs m1 e1 r1 hx q1 => q1 Hb1 H1 vs R (hB.trans e1) r1 hx (k.mono e1)

/-! ### 8. statements -/
theorem ws_imp {t : TS} {E E' : DE} (h : WS K F B t ρ m E) (h1 : ∀ ρ m, E.nx ρ m → E'.nx ρ m) (h2 : ∀ d m, E.rt d m → E'.rt d m) (h3 : ∀ ρ m, E.bk ρ m → E'.bk ρ m) (h4 : ∀ ρ m, E.ct ρ m → E'.ct ρ m) : WS K F B t ρ m E' := fun Hb H σ R hB r hs k =>
  h Hb H σ R hB r hs ⟨fun _ _ _ _ _ e r q z => k.nx _ _ _ _ _ e r q (h1 _ _ z), fun _ _ _ _ _ e r q z => k.rt _ _ _ _ _ e r q (h2 _ _ z), fun _ _ _ _ _ e r q z => k.bk _ _ _ _ _ e r q (h3 _ _ z), fun _ _ _ _ _ e r q z => k.ct _ _ _ _ _ e r q (h4 _ _ z)⟩
theorem ws_next {E : DE} (q : E.nx ρ m) : WS K F B tNext ρ m E := fun Hb H σ R hB r hs k => k.nx.here r hs q
theorem ws_seq {t u : TS} {E : DE} (h : WS K F B t ρ m { E with nx := fun ρ1 m1 => WS K F B u ρ1 m1 E }) : WS K F B (tSeq t u) ρ m E := fun Hb H σ R hB r hs k =>
  h Hb H σ _ hB r hs ⟨fun σ1 H1 Hb1 ρ1 m1 e1 r1 hs1 q1 => q1 Hb1 H1 σ1 R (hB.trans e1) r1 hs1 (k.mono e1), k.rt, k.bk, k.ct⟩
theorem ws_brk {E : DE} (q : E.bk ρ m) : WS K F B tBreak ρ m E := fun Hb H σ R hB r hs k => k.bk.here r hs q
theorem ws_cont {E : DE} (q : E.ct ρ m) : WS K F B tCont ρ m E := fun Hb H σ R hB r hs k => k.ct.here r hs q
theorem ws_drop {te : TE} {E : DE} (h : WE K F B te ρ m fun _ m1 => E.nx ρ m1) : WS K F B (tDrop te) ρ m E := fun Hb H σ R hB r hs k =>
  h Hb H σ _ hB r hs fun v H1 Hb1 x m1 e1 r1 hx q1 => k.nx _ _ _ _ _ e1 r1 (hs.mono e1) q1
theorem ws_ret {te : TE} {E : DE} (h : WE K F B te ρ m E.rt) : WS K F B (tRet te) ρ m E := fun Hb H σ R hB r hs k => h Hb H σ _ hB r hs k.rt
theorem ws_retN {E : DE} (h : E.rt (.s .non) m) : WS K F B tRetN ρ m E := fun Hb H σ R hB r hs k => k.rt.here r rp_s h
theorem ws_if {t : TT} {tu tw : TS} {E : DE} (h : WT K F B t ρ m fun b m1 => (b = true → WS K F B tu ρ m1 E) ∧ (b = false → WS K F B tw ρ m1 E)) : WS K F B (tIfS t tu tw) ρ m E := fun Hb H σ R hB r hs k =>
  h Hb H σ _ hB r hs fun b H1 Hb1 m1 e1 r1 q1 => by
    cases b with
    | true => exact iteT (q1.1 rfl Hb1 H1 σ R (hB.trans e1) r1 (hs.mono e1) (k.mono e1))
    | false => exact iteF (q1.2 rfl Hb1 H1 σ R (hB.trans e1) r1 (hs.mono e1) (k.mono e1))
theorem ws_asg {te : TE} {i : Nat} {E : DE} (h : WE K F B te ρ m fun x m1 => E.nx (ρ.set i (some x)) m1) : WS K F B (tAsg te (gName i)) ρ m E := fun Hb H σ R hB r hs k =>
  h Hb H σ _ hB r hs fun v H1 Hb1 x m1 e1 r1 hx q1 => k.nx _ _ _ _ _ e1 r1 ((hs.mono e1).set hx) q1
theorem ws_never (E : DE) (h : False) {t : TS} : WS K F B t ρ m E := h.elim

/-! ### 9. targets -/
def WG (K : PySem.W.Frag) (F B : Hp) (g : TG) (x : D) (ρ : Env) (m : Mem) (Q : Env → Mem → Prop) : Prop := ∀ Hb H σ v (R : L2.St → Hp → Prop), Same B Hb → Rel K F Hb H m → RpS K Hb ρ σ → Rp K Hb x v → OkN K F Hb Q R → g v σ H R
def WGs (K : PySem.W.Frag) (F B : Hp) (g : TGs) (xs : List D) (ρ : Env) (m : Mem) (Q : Env → Mem → Prop) : Prop := ∀ Hb H σ vs (R : L2.St → Hp → Prop), Same B Hb → Rel K F Hb H m → RpS K Hb ρ σ → RpL K Hb xs vs → OkN K F Hb Q R → g vs σ H R
theorem wg_name {i : Nat} {x : D} {Q : Env → Mem → Prop} (q : Q (ρ.set i (some x)) m) : WG K F B (gName i) x ρ m Q := fun Hb H σ v R hB r hs hx k => k.here r (hs.set hx) q
theorem wgs_nil {Q : Env → Mem → Prop} (q : Q ρ m) : WGs K F B gNil [] ρ m Q := fun Hb H σ v R hB r hs hx k => by
  unfold RpL at hx
  exact ⟨hx, k.here r hs q⟩
theorem wgs_cons {g : TG} {gs : TGs} {x : D} {xs : List D} {Q : Env → Mem → Prop} (h : WG K F B g x ρ m fun ρ1 m1 => WGs K F B gs xs ρ1 m1 Q) : WGs K F B (gCons g gs) (x :: xs) ρ m Q := fun Hb H σ vs R hB r hs hx k => by
  unfold RpL at hx
  obtain ⟨v, us, rfl, h1, h2⟩ := hx
  exact ⟨v, us, rfl, h Hb H σ v _ hB r hs h1 fun σ1 H1 Hb1 ρ1 m1 e1 r1 hs1 q1 => q1 Hb1 H1 σ1 us R (hB.trans e1) r1 hs1 (h2.mono e1) (k.mono e1)⟩
theorem wg_tup {n : Nat} {gs : TGs} {xs : List D} {Q : Env → Mem → Prop} (hn : xs.length = n) (h : WGs K F B gs xs ρ m Q) : WG K F B (gTup K n gs) (.tup xs) ρ m Q := fun Hb H σ v R hB r hs hx k => by
  unfold Rp at hx
  obtain ⟨p, vs, rfl, h1, h2⟩ := hx
  exact ⟨p, vs, rfl, sameT r.sub h1, by rw [h2.length, hn], h Hb H σ vs R hB r hs h2 k⟩
theorem ws_asgG {te : TE} {g : TG} {E : DE} (h : WE K F B te ρ m fun x m1 => WG K F B g x ρ m1 E.nx) : WS K F B (tAsg te g) ρ m E := fun Hb H σ R hB r hs k =>
  h Hb H σ _ hB r hs fun v H1 Hb1 x m1 e1 r1 hx q1 => q1 Hb1 H1 σ v _ (hB.trans e1) r1 (hs.mono e1) hx (k.nx.mono e1)
theorem ws_par {i j : Nat} {ta : TA} {E : DE} (h : WA K F B ta ρ m fun xs m1 => ∃ x y, xs = [x, y] ∧ E.nx ((ρ.set i (some x)).set j (some y)) m1) : WS K F B (tPar i j ta) ρ m E := fun Hb H σ R hB r hs k =>
  h Hb H σ _ hB r hs fun vs H1 Hb1 xs m1 e1 r1 hx q1 => by
    obtain ⟨x, y, rfl, q⟩ := q1
    unfold RpL at hx
    obtain ⟨v, us, rfl, h1, h2⟩ := hx
    unfold RpL at h2
    obtain ⟨u, us', rfl, h3, h4⟩ := h2
    unfold RpL at h4
    subst h4
    exact ⟨v, u, rfl, k.nx _ _ _ _ _ e1 r1 (((hs.mono e1).set h1).set h3) q⟩
/-- less may be known behind -/
theorem ws_less {t : TS} {ρ' : Env} {E : DE} (h : WS K F B t ρ' m E) (s : Sub1 ρ ρ') : WS K F B t ρ m E := fun Hb H σ R hB r hs k => h Hb H σ R hB r (hs.sub s) k
theorem ws_count {t : TS} {n : Nat} {E : DE} (h : WS K F B t ρ { m with cnt := n } E) (hn : m.cnt ≤ n) : WS K F B t ρ m E := fun Hb H σ R hB r hs k => h Hb H σ R hB (r.count hn) hs k
end
end DD

/-! DFun: promises over data, calls, classes of one's own. -/
namespace DD
open PySem L2
open PySem.Spec PyProof.Rows

/-! ### promises -/
/-- what is wanted of an exception: its class, its attributes -/
abbrev XD := Addr → List Str → List D → Mem → Prop
abbrev Phi := List D → Mem → QD → XD → Prop
/-- the state beneath an exception with the dict d -/
def RelX (K : PySem.W.Frag) (F Hb H : Hp) (m : Mem) (d : Option Addr) (ns : List Str) (vs : List V) : Prop := match d with
  | none => ns = [] ∧ vs = [] ∧ Rel K F Hb H m
  | some dd => F dd = none ∧ Rel K (upd F dd (.xd (ns.zip vs))) Hb H m
def OkX (K : PySem.W.Frag) (F Hb : Hp) (X : XD) (E : XK) : Prop := ∀ C d H' Hb' ns ds vs m', Same Hb Hb' → RelX K F Hb' H' m' d ns vs → RpL K Hb' ds vs → ns.length = ds.length → X C ns ds m' → E (.ref C) d H'
def X0 : XD := fun _ _ _ _ => False
theorem okx0 {K : PySem.W.Frag} {F Hb : Hp} {E : XK} : OkX K F Hb X0 E := fun _ _ _ _ _ _ _ _ _ _ _ _ z => z.elim
theorem OkX.mono {K : PySem.W.Frag} {F Hb Hb' : Hp} {X : XD} {E : XK} (h : OkX K F Hb X E) (e : Same Hb Hb') : OkX K F Hb' X E := fun C d H' H2 ns ds vs m' e2 => h C d H' H2 ns ds vs m' (e.trans e2)
def spOf (K : PySem.W.Frag) (φ : Phi) : Sp := fun vs H Q E => ∃ ds m F Hb nx X, RpL K Hb ds vs ∧ Rel K F Hb H m ∧ φ ds m nx X ∧ OkV K F Hb nx Q ∧ OkX K F Hb X E
section
variable {P : Program} {w : World} {K : PySem.W.Frag} {mg : Str → Option Value} {base : Heap} {B F Hb H : Hp} {m : Mem} {ρ : Env}
theorem spOf_len {φ : Phi} {n : Nat} (h : ∀ ds m nx X, φ ds m nx X → ds.length = n) : ∀ vs H Q E, spOf K φ vs H Q E → vs.length = n := fun vs H Q E q => by
  obtain ⟨ds, m, F', Hb, nx, X, h1, _, h3, _⟩ := q
  rw [h1.length, h ds m nx X h3]
/-- what a def's body has to show -/
def BodyOk (K : PySem.W.Frag) (φ : Phi) (N : List Str) (E : XK) (t : TS) : Prop := ∀ ds m nx X F B, φ ds m nx X → OkX K F B X E → WS K F B t (startD N ds) m { nx := fun _ m' => nx (.s .non) m', rt := nx }
theorem okC {CX : CXT} {x qual : Str} {st : Stmt} {f : Addr} {fd : FuncData} {N ps : List Str} {k : Nat} {sp : Sp} (F : Fun K x qual st f fd) (S : FnScope N ps (defScope st)) (len : ∀ vs H Q E, sp vs H Q E → vs.length = ps.length)
    (hbody : ∀ (cdv : Value) (A : Around) (outer : List PySem.Env) (s : Shared) (H : Hp) (vs : List V) (Q : VK) (E : XK), Room k (A.deeper (envOfC qual (defScope st) s.heap.objs.size f cdv)) → sp vs H Q E →
      ∃ t, PSs (cxOf CX P w K mg base N qual (defScope st) f cdv A outer s H E) (defBody st) t ∧ t { nx := fun _ H' => Q .non H', rt := Q } (L2.start N vs) H) : FnOk P w K mg base CX (k + 1) f fd ps sp := by
  obtain ⟨oc, od, kV, doc, pm, an, cdv, ct, osl, rfl, lk, hcd⟩ := F.ex
  exact fn_of lk hcd S len fun A outer s H vs Q E hr hsp => hbody cdv A outer s H vs Q E hr hsp
theorem ok_D {CX : CXT} {x qual : Str} {st : Stmt} {f : Addr} {fd : FuncData} {N ps : List Str} {k : Nat} {φ : Phi} (F : Fun K x qual st f fd) (S : FnScope N ps (defScope st)) (hl : ∀ ds m nx X, φ ds m nx X → ds.length = ps.length)
    (hbody : ∀ (cdv : Value) (A : Around) (outer : List PySem.Env) (s : Shared) (H : Hp) (E : XK), Room k (A.deeper (envOfC qual (defScope st) s.heap.objs.size f cdv)) →
      ∃ t, PSs (cxOf CX P w K mg base N qual (defScope st) f cdv A outer s H E) (defBody st) t ∧ BodyOk K φ N E t) : FnOk P w K mg base CX (k + 1) f fd ps (spOf K φ) := by
  refine okC F S (spOf_len hl) fun cdv A outer s H vs Q E hr h => ?_
  obtain ⟨ds, m, F', Hb, nx, X, h1, h2, h3, h4, h5⟩ := h
  obtain ⟨t, ht, hw⟩ := hbody cdv A outer s H E hr
  exact ⟨t, ht, hw ds m nx X F' Hb h3 h5 Hb H _ _ (Same.refl _) h2 (RpS.start h1) ⟨fun σ H' Hb' ρ m' e r hs q => h4 _ _ _ _ _ e r rp_s q, h4, fun _ _ _ _ _ _ _ _ z => z.elim, fun _ _ _ _ _ _ _ _ z => z.elim⟩⟩

/-! ### calls -/
theorem we_callD {φ : Phi} {E : XK} {ta : TA} {dvs : List V} {dds : List D} {X : XD} {Q : QD} (hE : OkX K F B X E) (hd : RpL K B dds dvs) (h : WA K F B ta ρ m fun ds m1 => φ (ds ++ dds) m1 Q X) : WE K F B (tCall (spOf K φ) dvs E ta) ρ m Q := fun Hb H σ R hB r hs k =>
  h Hb H σ _ hB r hs fun vs H1 Hb1 ds m1 e1 r1 hx q1 => ⟨_, m1, F, Hb1, Q, X, hx.app (hd.mono (hB.trans e1)), r1, q1, k.mono e1, hE.mono (hB.trans e1)⟩
theorem we_call {φ : Phi} {E : XK} {ta : TA} {X : XD} {Q : QD} (hE : OkX K F B X E) (h : WA K F B ta ρ m fun ds m1 => φ ds m1 Q X) : WE K F B (tCall (spOf K φ) [] E ta) ρ m Q := fun Hb H σ R hB r hs k =>
  h Hb H σ _ hB r hs fun vs H1 Hb1 ds m1 e1 r1 hx q1 => ⟨_, m1, F, Hb1, Q, X, by rw [List.append_nil]; exact hx, r1, q1, k.mono e1, hE.mono (hB.trans e1)⟩
/-- an object as the receiver: data, or owned; nothing hides the method m -/
def Recv (m : Mem) (C : Addr) (f : Str) : D → Prop
  | .ins C' ns _ => C' = C ∧ f ∉ ns
  | .s (.ref a) => ∃ ns ds, m.own a = some (.ins C ns ds) ∧ f ∉ ns
  | _ => False
theorem zip_none {β : Type} {f : Str} : ∀ {ns : List Str} {vs : List β}, f ∉ ns → (ns.zip vs).lookup f = none
  | [], _, _ => rfl
  | _ :: _, [], _ => rfl
  | n :: ns, v :: vs, h => by
    have h1 : (f == n) = false := by
      simp only [List.mem_cons, not_or] at h
      simpa using h.1
    have h2 : f ∉ ns := fun z => h (List.mem_cons_of_mem _ z)
    show List.lookup f ((n, v) :: ns.zip vs) = none
    rw [List.lookup_cons, h1]
    exact zip_none h2
theorem Recv.at {x : D} {C : Addr} {f : Str} {v : V} (q : Recv m C f x) (r : Rel K F Hb H m) (hx : Rp K Hb x v) : ∃ a dx fs, v = .ref a ∧ H a = some (.ins C dx fs) ∧ fs.lookup f = none := by
  cases x with
  | ins C' ns ds =>
    obtain ⟨rfl, hn⟩ := q
    unfold Rp at hx
    obtain ⟨p, dx, vs, rfl, h1, h2, h3⟩ := hx
    exact ⟨p, dx, _, rfl, r.sub _ _ h1, zip_none hn⟩
  | s v' =>
    cases v' with
    | ref a =>
      obtain ⟨ns, ds, ho, hn⟩ := q
      unfold Rp at hx
      subst hx
      obtain ⟨_, dx, vs, h1, h2, h3⟩ := r.own _ _ ho
      exact ⟨a, dx, _, rfl, h1, zip_none hn⟩
    | _ => exact q.elim
  | _ => exact q.elim
theorem we_methD {C : Addr} {f : Str} {φ : Phi} {E : XK} {te : TE} {ta : TA} {dvs : List V} {dds : List D} {X : XD} {Q : QD} (hE : OkX K F B X E) (hd : RpL K B dds dvs)
    (h : WE K F B te ρ m fun x m1 => Recv m1 C f x ∧ WA K F B ta ρ m1 fun ds m2 => φ (x :: (ds ++ dds)) m2 Q X) : WE K F B (tMeth C f (spOf K φ) dvs E te ta) ρ m Q := fun Hb H σ R hB r hs k =>
  h Hb H σ _ hB r hs fun v H1 Hb1 x m1 e1 r1 hx q1 => by
    obtain ⟨a, dx, fs, rfl, h1, h2⟩ := q1.1.at r1 hx
    exact ⟨a, dx, fs, rfl, h1, h2, q1.2 Hb1 H1 σ _ (hB.trans e1) r1 (hs.mono e1) fun vs H2 Hb2 ds m2 e2 r2 hxs q2 =>
      ⟨_, m2, F, Hb2, Q, X, RpL.cons (hx.mono e2) (hxs.app (hd.mono ((hB.trans e1).trans e2))), r2, q2, k.mono (e1.trans e2), hE.mono ((hB.trans e1).trans e2)⟩⟩
theorem we_meth {C : Addr} {f : Str} {φ : Phi} {E : XK} {te : TE} {ta : TA} {X : XD} {Q : QD} (hE : OkX K F B X E)
    (h : WE K F B te ρ m fun x m1 => Recv m1 C f x ∧ WA K F B ta ρ m1 fun ds m2 => φ (x :: ds) m2 Q X) : WE K F B (tMeth C f (spOf K φ) [] E te ta) ρ m Q :=
  we_methD (dds := []) hE RpL.nil (we_imp h fun x m1 q => ⟨q.1, fun Hb H σ R hB r hs k => q.2 Hb H σ R hB r hs fun vs H1 Hb1 ds m2 e1 r1 hx q1 => k vs H1 Hb1 ds m2 e1 r1 hx (by show φ (x :: (ds ++ [])) m2 Q X; rw [List.append_nil]; exact q1)⟩)
/-- a new instance whose making is kept as data -/
theorem we_make {C : Addr} {φ : Phi} {E : XK} {ta : TA} {dvs : List V} {dds : List D} {X : XD} {Q : QD} (hE : OkX K F B X E) (hd : RpL K B dds dvs)
    (h : WA K F B ta ρ m fun ds m1 => ∀ x, m1.own x = none → φ (.s (.ref x) :: (ds ++ dds)) { m1 with own := putM m1.own x (.ins C [] []) }
      (fun d m2 => d = .s .non ∧ ∃ ns es, m2.own x = some (.ins C ns es) ∧ Q (.ins C ns es) { m2 with own := dropM m2.own x }) X) : WE K F B (tMake C (spOf K φ) dvs E ta) ρ m Q := fun Hb H σ R hB r hs k =>
  h Hb H σ _ hB r hs fun vs H1 Hb1 ds m1 e1 r1 hx q1 => fun x dx hxn hdn hne => by
    have r2 : Rel K F (upd Hb1 dx (.own x)) (upd H1 dx (.own x)) m1 := r1.data hdn
    have hx2 : upd H1 dx (.own x) x = none := by rw [upd_ne (Ne.symm hne)]; exact hxn
    have r3 : Rel K F (upd Hb1 dx (.own x)) (upd (upd H1 dx (.own x)) x (.ins C dx [])) { m1 with own := putM m1.own x (.ins C [] []) } :=
      r2.owned (mo := .ins C [] []) hx2 ⟨dx, [], upd_same, RpL.nil, rfl⟩
    have e2 : Same Hb1 (upd Hb1 dx (.own x)) := Same.new (r1.fresh hdn)
    refine ⟨_, _, F, _, _, X, RpL.cons rp_s ((hx.mono e2).app (hd.mono ((hB.trans e1).trans e2))), r3, q1 x (r1.free hxn), fun v H' Hb' d m' e3 r4 hd' q2 => ?_, hE.mono ((hB.trans e1).trans e2)⟩
    obtain ⟨rfl, ns, es, ho, q3⟩ := q2
    unfold Rp at hd'
    obtain ⟨hn, dx', vs', h1, h2, h3⟩ := r4.own _ _ ho
    have e4 : Same Hb' (upd Hb' x (.ins C dx' (ns.zip vs'))) := Same.new hn
    refine ⟨hd', k _ _ _ (.ins C ns es) _ ((e1.trans e2).trans (e3.trans e4)) (r4.freeze ho h1) ?_ q3⟩
    unfold Rp
    exact ⟨x, dx', vs', rfl, upd_same, h2.mono e4, h3⟩
/-- .. kept as an owned object -/
theorem we_makeO {C : Addr} {φ : Phi} {E : XK} {ta : TA} {dvs : List V} {dds : List D} {X : XD} {Q : QD} (hE : OkX K F B X E) (hd : RpL K B dds dvs)
    (h : WA K F B ta ρ m fun ds m1 => ∀ x, m1.own x = none → φ (.s (.ref x) :: (ds ++ dds)) { m1 with own := putM m1.own x (.ins C [] []) } (fun d m2 => d = .s .non ∧ Q (.s (.ref x)) m2) X) : WE K F B (tMake C (spOf K φ) dvs E ta) ρ m Q := fun Hb H σ R hB r hs k =>
  h Hb H σ _ hB r hs fun vs H1 Hb1 ds m1 e1 r1 hx q1 => fun x dx hxn hdn hne => by
    have r2 : Rel K F (upd Hb1 dx (.own x)) (upd H1 dx (.own x)) m1 := r1.data hdn
    have hx2 : upd H1 dx (.own x) x = none := by rw [upd_ne (Ne.symm hne)]; exact hxn
    have r3 : Rel K F (upd Hb1 dx (.own x)) (upd (upd H1 dx (.own x)) x (.ins C dx [])) { m1 with own := putM m1.own x (.ins C [] []) } :=
      r2.owned (mo := .ins C [] []) hx2 ⟨dx, [], upd_same, RpL.nil, rfl⟩
    have e2 : Same Hb1 (upd Hb1 dx (.own x)) := Same.new (r1.fresh hdn)
    refine ⟨_, _, F, _, _, X, RpL.cons rp_s ((hx.mono e2).app (hd.mono ((hB.trans e1).trans e2))), r3, q1 x (r1.free hxn), fun v H' Hb' d m' e3 r4 hd' q2 => ?_, hE.mono ((hB.trans e1).trans e2)⟩
    obtain ⟨rfl, q3⟩ := q2
    unfold Rp at hd'
    exact ⟨hd', k _ _ _ _ _ ((e1.trans e2).trans e3) r4 rp_s q3⟩

/-! ### attributes -/
theorem zip_get {f : Str} : ∀ {ns : List Str} {ds : List D} {vs : List V} {d : D}, RpL K H ds vs → (ns.zip ds).lookup f = some d → ∃ v, (ns.zip vs).lookup f = some v ∧ Rp K H d v
  | [], _, _, _, _, e => by cases e
  | _ :: _, [], _, _, _, e => by cases e
  | n :: ns, d0 :: ds, vs, d, h, e => by
    unfold RpL at h
    obtain ⟨v, r, rfl, h1, h2⟩ := h
    have e' : List.lookup f ((n, d0) :: ns.zip ds) = some d := e
    show ∃ u, List.lookup f ((n, v) :: ns.zip r) = some u ∧ _
    rw [List.lookup_cons] at e' ⊢
    cases hc : f == n with
    | true =>
      rw [hc] at e'
      cases e'
      exact ⟨v, rfl, h1⟩
    | false =>
      rw [hc] at e'
      exact zip_get h2 e'
/-- the attribute f of an object, data or owned -/
def FldD (m : Mem) (f : Str) (d : D) : D → Addr → Prop
  | .ins C ns ds, C' => C' = C ∧ (ns.zip ds).lookup f = some d
  | .s (.ref a), C => ∃ ns ds, m.own a = some (.ins C ns ds) ∧ (ns.zip ds).lookup f = some d
  | _, _ => False
theorem we_fld {te : TE} {f : Str} {Q : QD} (h : WE K F B te ρ m fun x m1 => ∃ C d, Cls K C ∧ NoAttr K C f ∧ FldD m1 f d x C ∧ Q d m1) : WE K F B (tFld K te f) ρ m Q := fun Hb H σ R hB r hs k =>
  h Hb H σ _ hB r hs fun v H1 Hb1 x m1 e1 r1 hx q1 => by
    obtain ⟨C, d, c, n, hf, q⟩ := q1
    cases x with
    | ins C' ns ds =>
      obtain ⟨rfl, hl⟩ := hf
      unfold Rp at hx
      obtain ⟨p, dx, vs, rfl, h1, h2, h3⟩ := hx
      obtain ⟨u, hu, ru⟩ := zip_get h2 hl
      exact ⟨p, C, dx, _, u, rfl, r1.sub _ _ h1, c, n, hu, k _ _ _ _ _ e1 r1 ru q⟩
    | s v' =>
      cases v' with
      | ref a =>
        obtain ⟨ns, ds, ho, hl⟩ := hf
        unfold Rp at hx
        subst hx
        obtain ⟨_, dx, vs, h1, h2, h3⟩ := r1.own _ _ ho
        obtain ⟨u, hu, ru⟩ := zip_get h2 hl
        exact ⟨a, C, dx, _, u, rfl, h1, c, n, hu, k _ _ _ _ _ e1 r1 ru q⟩
      | _ => exact hf.elim
    | _ => exact hf.elim
def putN (f : Str) : List Str → List Str
  | [] => [f]
  | n :: ns => if n = f then n :: ns else n :: putN f ns
def putE {α : Type} (f : Str) (x : α) : List Str → List α → List α
  | n :: ns, y :: ys => if n = f then x :: ys else y :: putE f x ns ys
  | _, ys => ys ++ [x]
theorem putF_zip (f : Str) (v : V) : ∀ (ns : List Str) (vs : List V), ns.length = vs.length → putF f v (ns.zip vs) = (putN f ns).zip (putE f v ns vs)
  | [], [], _ => rfl
  | n :: ns, u :: vs, h => by
    show putF f v ((n, u) :: ns.zip vs) = _
    unfold putF putN putE
    by_cases hn : n = f
    · rw [if_pos hn, if_pos hn, if_pos hn]
      rfl
    · rw [if_neg hn, if_neg hn, if_neg hn, putF_zip f v ns vs (by simpa using h)]
      rfl
theorem RpL.put {f : Str} {d : D} {v : V} : ∀ {ns : List Str} {ds : List D} {vs : List V}, RpL K H ds vs → Rp K H d v → ns.length = ds.length → RpL K H (putE f d ns ds) (putE f v ns vs)
  | [], ds, vs, h, hd, e => by
    have e1 : ds = [] := List.eq_nil_of_length_eq_zero e.symm
    subst e1
    unfold RpL at h
    subst h
    exact RpL.cons hd RpL.nil
  | n :: ns, [], vs, h, hd, e => by cases e
  | n :: ns, x :: ds, vs, h, hd, e => by
    unfold RpL at h
    obtain ⟨u, r, rfl, h1, h2⟩ := h
    unfold putE
    by_cases hn : n = f
    · rw [if_pos hn, if_pos hn]
      exact RpL.cons hd h2
    · rw [if_neg hn, if_neg hn]
      exact RpL.cons h1 (RpL.put h2 hd (by simpa using e))
theorem put_len {f : Str} {d : D} : ∀ {ns : List Str} {ds : List D}, ns.length = ds.length → (putN f ns).length = (putE f d ns ds).length
  | [], [], _ => rfl
  | n :: ns, x :: ds, e => by
    unfold putN putE
    by_cases hn : n = f
    · rw [if_pos hn, if_pos hn]
      exact e
    · rw [if_neg hn, if_neg hn]
      simp only [List.length_cons, put_len (f := f) (d := d) (show ns.length = ds.length by simpa using e)]
/-- o.f = e, o an owned object -/
theorem ws_fld {to te : TE} {f : Str} {E : DE} (h : WE K F B te ρ m fun y m1 => WE K F B to ρ m1 fun x m2 => ∃ a C ns ds, x = .s (.ref a) ∧ Cls K C ∧ NoAttr K C f ∧ m2.own a = some (.ins C ns ds) ∧ ns.length < 900 ∧
    E.nx ρ { m2 with own := putM m2.own a (.ins C (putN f ns) (putE f y ns ds)) }) : WS K F B (sFld K to te f) ρ m E := fun Hb H σ R hB r hs k =>
  h Hb H σ _ hB r hs fun u H1 Hb1 y m1 e1 r1 hy q1 => q1 Hb1 H1 σ _ (hB.trans e1) r1 (hs.mono e1) fun v H2 Hb2 x m2 e2 r2 hx q2 => by
    obtain ⟨a, C, ns, ds, rfl, c, n, ho, hl, q⟩ := q2
    unfold Rp at hx
    obtain ⟨_, dx, vs, h1, h2, h3⟩ := r2.own _ _ ho
    have h2l := h2.length
    refine ⟨a, C, dx, _, hx, h1, c, n, by rw [List.length_zip]; omega, k.nx _ _ _ _ _ (e1.trans e2) (r2.change (mo' := .ins C (putN f ns) (putE f y ns ds)) ho ?_) (hs.mono (e1.trans e2)) q⟩
    refine ⟨dx, putE f u ns vs, ?_, RpL.put h2 (hy.mono e2) h3, put_len h3⟩
    rw [upd_same, putF_zip f u ns vs (by omega)]
end
end DD

/-! DIter: loops and comprehensions over data. -/
namespace DD
open PySem L2
open PySem.Spec PyProof.Rows

/-- J goes through the data xs -/
def Iters (K : PySem.W.Frag) (Hb0 : Hp) (J : It) (xs : List D) : Prop := ∀ i F Hb H m, Same Hb0 Hb → Rel K F Hb H m → (xs.length ≤ i → J.stop i H) ∧ ∀ d, xs[i]? = some d → J.go i H ∧ ∀ x H', J.yld i H x H' → ∃ Hb', Same Hb Hb' ∧ Rel K F Hb' H' m ∧ Rp K Hb' d x
def WI (K : PySem.W.Frag) (F B : Hp) (wi : TI) (ρ : Env) (m : Mem) (Q : List D → Mem → Prop) : Prop := ∀ Hb H σ R, Same B Hb → Rel K F Hb H m → RpS K Hb ρ σ →
  (∀ J H' Hb' xs m', Same Hb Hb' → Rel K F Hb' H' m' → Iters K Hb' J xs → Q xs m' → R J H') → wi σ H R
section
variable {K : PySem.W.Frag} {B F Hb Hb' H H' : Hp} {m : Mem} {ρ : Env}
theorem Iters.mono {J : It} {xs : List D} (h : Iters K Hb J xs) (e : Same Hb Hb') : Iters K Hb' J xs := fun i F H2 H m e2 r => h i F H2 H m (e.trans e2) r
theorem wi_or1 {t u : TI} {Q : List D → Mem → Prop} (h : WI K F B t ρ m Q) : WI K F B (fun σ H R => t σ H R ∨ u σ H R) ρ m Q := fun Hb H σ R hB r hs k => .inl (h Hb H σ R hB r hs k)
theorem wi_or2 {t u : TI} {Q : List D → Mem → Prop} (h : WI K F B u ρ m Q) : WI K F B (fun σ H R => t σ H R ∨ u σ H R) ρ m Q := fun Hb H σ R hB r hs k => .inr (h Hb H σ R hB r hs k)
theorem it_seq {P : Hp → List V → Prop} {a : Addr} {ds : List D} {vs : List V} (mono : ∀ H H', Same H H' → P H vs → P H' vs) (h : P Hb vs) (hv : RpL K Hb ds vs) (J : It) (hs : ∀ i H, P H vs → vs.length ≤ i → J.stop i H) (hg : ∀ i H x, P H vs → vs[i]? = some x → J.go i H)
    (hy : ∀ i H x H', P H vs → J.yld i H x H' → H' = H ∧ vs[i]? = some x) : Iters K Hb J ds := by
  intro i F Hb1 H m e r
  have h1 : P H vs := mono _ _ r.sub (mono _ _ e h)
  have hl := hv.length
  refine ⟨fun hi => hs i H h1 (by omega), fun d hd => ?_⟩
  obtain ⟨v, hv1, hv2⟩ := hv.get hd
  refine ⟨hg i H v h1 hv1, fun x H' y => ?_⟩
  obtain ⟨rfl, hx⟩ := hy i H x H' h1 y
  rw [hv1] at hx
  cases hx
  exact ⟨Hb1, Same.refl _, r, hv2.mono e⟩
theorem it_list {a : Addr} {ds : List D} {vs : List V} (h : SqL K Hb a vs) (hv : RpL K Hb ds vs) : Iters K Hb (Itl K a) ds :=
  it_seq (P := fun H xs => SqL K H a xs) (a := a) (fun _ _ e q => e.seq q) h hv _ (fun i H q hi => ⟨vs, q, hi⟩) (fun i H x q hx => ⟨vs, x, q, hx⟩) fun i H x H' q y => ⟨y.1, y.2 vs q⟩
theorem it_tup {a : Addr} {ds : List D} {vs : List V} (h : SqT K Hb a vs) (hv : RpL K Hb ds vs) : Iters K Hb (Itt K a) ds :=
  it_seq (P := fun H xs => SqT K H a xs) (a := a) (fun _ _ e q => sameT e q) h hv _ (fun i H q hi => ⟨vs, q, hi⟩) (fun i H x q hx => ⟨vs, x, q, hx⟩) fun i H x H' q y => ⟨y.1, y.2 vs q⟩
theorem wi_list {tl : TE} {Q : List D → Mem → Prop} (h : WE K F B tl ρ m fun x m1 => ∃ xs, x = .lst xs ∧ Q xs m1) : WI K F B (iList K tl) ρ m Q := fun Hb H σ R hB r hs k =>
  h Hb H σ _ hB r hs fun v H1 Hb1 x m1 e1 r1 hx q1 => by
    obtain ⟨xs, rfl, q⟩ := q1
    unfold Rp at hx
    obtain ⟨p, vs, rfl, h1, h2⟩ := hx
    exact ⟨p, rfl, ⟨vs, SqL.of (r1.sub _ _ h1)⟩, k _ _ _ _ _ e1 r1 (it_list (SqL.of h1) h2) q⟩
theorem wi_tup {tl : TE} {Q : List D → Mem → Prop} (h : WE K F B tl ρ m fun x m1 => ∃ xs, x = .tup xs ∧ Q xs m1) : WI K F B (iTup K tl) ρ m Q := fun Hb H σ R hB r hs k =>
  h Hb H σ _ hB r hs fun v H1 Hb1 x m1 e1 r1 hx q1 => by
    obtain ⟨xs, rfl, q⟩ := q1
    unfold Rp at hx
    obtain ⟨p, vs, rfl, h1, h2⟩ := hx
    exact ⟨p, rfl, ⟨vs, sameT r1.sub h1⟩, k _ _ _ _ _ e1 r1 (it_tup h1 h2) q⟩
def chrs (x : Str) : List D := x.cps.toList.map fun c => .s (.str ⟨#[c]⟩)
theorem chrs_length (t : Str) : (chrs t).length = t.length := by
  unfold chrs
  rw [List.length_map]
  rfl
theorem wi_str {tl : TE} {Q : List D → Mem → Prop} (h : WE K F B tl ρ m fun x m1 => ∃ t, x = .s (.str t) ∧ Q (chrs t) m1) : WI K F B (iStr tl) ρ m Q := fun Hb H σ R hB r hs k =>
  h Hb H σ _ hB r hs fun v H1 Hb1 x m1 e1 r1 hx q1 => by
    obtain ⟨t, rfl, q⟩ := q1
    unfold Rp at hx
    refine ⟨t, hx, k _ _ _ _ _ e1 r1 (fun i F Hb2 H2 m2 e2 r2 => ⟨fun hi => ?_, fun d hd => ?_⟩) q⟩
    · show t.cps.size ≤ i
      simpa [chrs] using hi
    · unfold chrs at hd
      rw [List.getElem?_map] at hd
      cases hc : t.cps.toList[i]? with
      | none =>
        rw [hc] at hd
        cases hd
      | some c =>
        rw [hc] at hd
        cases hd
        have hc' : t.cps[i]? = some c := by simpa using hc
        refine ⟨?_, fun x H' y => ?_⟩
        · show i < t.cps.size
          exact (Array.getElem?_eq_some_iff.mp hc').1
        · obtain ⟨rfl, c', h1, rfl⟩ := y
          rw [hc'] at h1
          cases h1
          exact ⟨Hb2, Same.refl _, r2, rp_s⟩
def rngD (lo : Int) (n : Nat) : List D := (List.range n).map fun (i : Nat) => .s (.int (lo + (i : Int)))
theorem rngD_length {lo : Int} {n : Nat} : (rngD lo n).length = n := by simp [rngD]
theorem rngD_get {lo : Int} {n i : Nat} {d : D} (h : (rngD lo n)[i]? = some d) : i < n ∧ d = .s (.int (lo + (i : Int))) := by
  unfold rngD at h
  rw [List.getElem?_map] at h
  by_cases hi : i < n
  · rw [List.getElem?_range hi] at h
    cases h
    exact ⟨hi, rfl⟩
  · rw [List.getElem?_eq_none (by simpa using hi)] at h
    cases h
theorem it_rng {lo : Int} {n : Nat} : Iters K Hb (Itr lo n) (rngD lo n) := fun i F Hb2 H2 m2 e2 r2 => by
  refine ⟨fun hi => ?_, fun d hd => ?_⟩
  · show n ≤ i
    simpa [rngD] using hi
  · obtain ⟨hi, rfl⟩ := rngD_get hd
    refine ⟨hi, fun x H' y => ?_⟩
    obtain ⟨rfl, rfl⟩ := y
    exact ⟨Hb2, Same.refl _, r2, rp_s⟩
theorem wi_rng1 {ta : TA} {Q : List D → Mem → Prop} (h : WA K F B ta ρ m fun xs m1 => ∃ j : Int, xs = [.s (.int j)] ∧ -(2 ^ 62) ≤ j ∧ j < 2 ^ 62 ∧ Q (rngD 0 j.toNat) m1) : WI K F B (iRng1 ta) ρ m Q := fun Hb H σ R hB r hs k =>
  h Hb H σ _ hB r hs fun vs H1 Hb1 xs m1 e1 r1 hx q1 => by
    obtain ⟨j, rfl, h1, h2, q⟩ := q1
    have e : vs = [.int j] := RpL.scal (vs := [.int j]) hx
    subst e
    exact ⟨j, rfl, h1, h2, k _ _ _ _ _ e1 r1 it_rng q⟩
theorem wi_rng2 {ta : TA} {Q : List D → Mem → Prop} (h : WA K F B ta ρ m fun xs m1 => ∃ i j : Int, xs = [.s (.int i), .s (.int j)] ∧ (-(2 ^ 62) ≤ i ∧ i < 2 ^ 62 ∧ -(2 ^ 62) ≤ j ∧ j < 2 ^ 62) ∧ Q (rngD i (j - i).toNat) m1) : WI K F B (iRng2 ta) ρ m Q := fun Hb H σ R hB r hs k =>
  h Hb H σ _ hB r hs fun vs H1 Hb1 xs m1 e1 r1 hx q1 => by
    obtain ⟨i, j, rfl, h1, q⟩ := q1
    have e : vs = [.int i, .int j] := RpL.scal (vs := [.int i, .int j]) hx
    subst e
    exact ⟨i, j, rfl, h1, k _ _ _ _ _ e1 r1 it_rng q⟩
theorem new_pair {F Hb H : Hp} {m : Mem} {T : Addr} {x y : V} {d e : D} (r : Rel K F Hb H m) (hT : H T = none) (hx : Rp K Hb d x) (hy : Rp K Hb e y) :
    ∃ Hb', Same Hb Hb' ∧ Rel K F Hb' (upd H T (.tup [x, y])) m ∧ Rp K Hb' (.tup [d, e]) (.ref T) := by
  have e1 : Same Hb (upd Hb T (.tup [x, y])) := Same.new (r.fresh hT)
  refine ⟨_, e1, r.data hT, ?_⟩
  unfold Rp
  exact ⟨T, _, rfl, SqT.of upd_same, RpL.cons (hx.mono e1) (RpL.cons (hy.mono e1) RpL.nil)⟩
def enumD : Nat → List D → List D
  | _, [] => []
  | n, x :: xs => .tup [.s (.int (n : Int)), x] :: enumD (n + 1) xs
theorem enumD_length : ∀ (n : Nat) (xs : List D), (enumD n xs).length = xs.length
  | _, [] => rfl
  | n, x :: xs => by simp [enumD, enumD_length]
theorem enumD_get : ∀ {n : Nat} {xs : List D} {i : Nat} {d : D}, (enumD n xs)[i]? = some d → ∃ x, xs[i]? = some x ∧ d = .tup [.s (.int ((n + i : Nat) : Int)), x]
  | _, [], _, _, h => by simp [enumD] at h
  | n, x :: xs, 0, d, h => by
    simp [enumD] at h
    exact ⟨x, rfl, h.symm⟩
  | n, x :: xs, i + 1, d, h => by
    obtain ⟨y, h1, h2⟩ := enumD_get (n := n + 1) (xs := xs) (i := i) (by simpa [enumD] using h)
    exact ⟨y, by simpa using h1, by rw [h2, show n + 1 + i = n + (i + 1) by omega]⟩
theorem wi_enum {ta : TA} {Q : List D → Mem → Prop} (h : WA K F B ta ρ m fun xs m1 => ∃ ds, xs = [.lst ds] ∧ Q (enumD 0 ds) m1) : WI K F B (iEnum K ta) ρ m Q := fun Hb H σ R hB r hs k =>
  h Hb H σ _ hB r hs fun vs H1 Hb1 xs m1 e1 r1 hx q1 => by
    obtain ⟨ds, rfl, q⟩ := q1
    unfold RpL at hx
    obtain ⟨v, us, rfl, hv, hu⟩ := hx
    unfold RpL at hu
    subst hu
    unfold Rp at hv
    obtain ⟨p, vs, rfl, h1, h2⟩ := hv
    refine ⟨p, vs, rfl, SqL.of (r1.sub _ _ h1), k _ _ _ _ _ e1 r1 (fun i F Hb2 H2 m2 e2 r2 => ⟨fun hi => ?_, fun d hd => ?_⟩) q⟩
    · exact ⟨vs, SqL.of (r2.sub _ _ (e2 _ _ h1)), by rw [enumD_length] at hi; rw [h2.length]; exact hi⟩
    · obtain ⟨x, hx1, rfl⟩ := enumD_get hd
      obtain ⟨u, hu1, hu2⟩ := h2.get hx1
      have hq : SqL K H2 p vs := SqL.of (r2.sub _ _ (e2 _ _ h1))
      refine ⟨⟨vs, u, hq, hu1⟩, fun y H' hy => ?_⟩
      obtain ⟨T, z, rfl, hT, rfl, hz⟩ := hy
      have hz' := hz vs hq
      rw [hu1] at hz'
      cases hz'
      rw [show (0 + i : Nat) = i by omega]
      exact new_pair r2 hT rp_s (hu2.mono e2)
theorem wi_zip {ta : TA} {Q : List D → Mem → Prop} (h : WA K F B ta ρ m fun xs m1 => ∃ ds es, xs = [.lst ds, .lst es] ∧ Q ((ds.zip es).map fun p => .tup [p.1, p.2]) m1) : WI K F B (iZip K ta) ρ m Q := fun Hb H σ R hB r hs k =>
  h Hb H σ _ hB r hs fun vs H1 Hb1 xs m1 e1 r1 hx q1 => by
    obtain ⟨ds, es, rfl, q⟩ := q1
    unfold RpL at hx
    obtain ⟨v, us, rfl, hv, hu⟩ := hx
    unfold RpL at hu
    obtain ⟨v', us', rfl, hv', hu'⟩ := hu
    unfold RpL at hu'
    subst hu'
    unfold Rp at hv hv'
    obtain ⟨p, vs, rfl, h1, h2⟩ := hv
    obtain ⟨p', vs', rfl, h1', h2'⟩ := hv'
    have hl := h2.length
    have hl' := h2'.length
    refine ⟨p, p', vs, vs', rfl, SqL.of (r1.sub _ _ h1), SqL.of (r1.sub _ _ h1'), k _ _ _ _ _ e1 r1 (fun i F Hb2 H2 m2 e2 r2 => ?_) q⟩
    have hq : SqL K H2 p vs := SqL.of (r2.sub _ _ (e2 _ _ h1))
    have hq' : SqL K H2 p' vs' := SqL.of (r2.sub _ _ (e2 _ _ h1'))
    refine ⟨fun hi => ⟨vs, vs', hq, hq', by simp at hi; omega⟩, fun d hd => ?_⟩
    rw [List.getElem?_map] at hd
    cases hz : (ds.zip es)[i]? with
    | none =>
      rw [hz] at hd
      cases hd
    | some pr =>
      rw [hz] at hd
      cases hd
      obtain ⟨z1, z2⟩ := List.getElem?_zip_eq_some.mp hz
      obtain ⟨u, hu1, hu2⟩ := h2.get z1
      obtain ⟨u', hu1', hu2'⟩ := h2'.get z2
      refine ⟨⟨vs, vs', u, u', hq, hq', hu1, hu1'⟩, fun y H' hy => ?_⟩
      obtain ⟨T, z, z', rfl, hT, rfl, hz, hz'⟩ := hy
      have q1 := hz vs hq
      have q2 := hz' vs' hq'
      rw [hu1] at q1
      rw [hu1'] at q2
      cases q1
      cases q2
      exact new_pair r2 hT (hu2.mono e2) (hu2'.mono e2)

/-! ### a list, a tuple or a text, as it comes -/
def iAny (K : PySem.W.Frag) (te : TE) : TI := fun σ H R => te σ H fun v H1 => (∃ a, v = .ref a ∧ (∃ vs, SqL K H1 a vs) ∧ R (Itl K a) H1) ∨ (∃ a, v = .ref a ∧ (∃ vs, SqT K H1 a vs) ∧ R (Itt K a) H1) ∨ ∃ z, v = .str z ∧ R (Its z) H1
theorem pi_any {X : Cx} {tg e : Expr} {te : TE} (he : PE X e te) : PI X tg e (iAny X.K te) := by
  refine ⟨fun pins s σ H R I h => thn (he.run pins s σ H _ I h) fun v s1 ⟨y, H1, I1, r1, q⟩ => ?_⟩
  rcases q with ⟨a, rfl, ⟨vs, hq⟩, q⟩ | ⟨a, rfl, ⟨vs, hq⟩, q⟩ | ⟨z, rfl, q⟩
  · cases r1
    obtain ⟨its, _, p, _⟩ := I1.list hq
    exact wpAny_pyIter_list p.isList (pi_one (tk := s1.toks) I1 _ (turn_list a _) ⟨_, Heap.get?_push_size _ rfl, rfl, rfl⟩ q)
  · cases r1
    obtain ⟨its, _, p, _⟩ := I1.tuple hq
    exact wpAny_pyIter_tuple (show s1.heap.IsTuple a its.toArray from p) (pi_one (tk := s1.toks) I1 _ (turn_tuple a _) ⟨_, Heap.get?_push_size _ rfl, rfl, rfl⟩ q)
  · obtain ⟨t, rfl⟩ := r1
    cases ha : z.cps.all (· < 128) with
    | false => exact wpAny_pyIter_wide ha (pi_one (tk := s1.toks) I1 _ (turn_str _ z t "str_iterator" (.inr rfl)) ⟨_, Heap.get?_push_size _ rfl, rfl, rfl⟩ q)
    | true => exact wpAny_pyIter_ascii ha (pi_one (tk := s1.toks) I1 _ (turn_str _ z t "str_ascii_iterator" (.inl rfl)) ⟨_, Heap.get?_push_size _ rfl, rfl, rfl⟩ q)
theorem it_str {t : Str} : Iters K Hb (Its t) (chrs t) := fun i F Hb2 H2 m2 e2 r2 => ⟨fun hi => by
    show t.cps.size ≤ i
    simpa [chrs] using hi, fun d hd => by
    unfold chrs at hd
    rw [List.getElem?_map] at hd
    cases hc : t.cps.toList[i]? with
    | none =>
      rw [hc] at hd
      cases hd
    | some c =>
      rw [hc] at hd
      cases hd
      have hc' : t.cps[i]? = some c := by simpa using hc
      refine ⟨?_, fun x H' y => ?_⟩
      · show i < t.cps.size
        exact (Array.getElem?_eq_some_iff.mp hc').1
      · obtain ⟨rfl, c', h1, rfl⟩ := y
        rw [hc'] at h1
        cases h1
        exact ⟨Hb2, Same.refl _, r2, rp_s⟩⟩
def seqD : D → Option (List D)
  | .lst xs => some xs
  | .tup xs => some xs
  | .s (.str t) => some (chrs t)
  | .pl ns => some ((ns.map V.str).map D.s)
  | _ => none
theorem wi_any {te : TE} {Q : List D → Mem → Prop} (h : WE K F B te ρ m fun x m1 => ∃ xs, seqD x = some xs ∧ Q xs m1) : WI K F B (iAny K te) ρ m Q := fun Hb H σ R hB r hs k =>
  h Hb H σ _ hB r hs fun v H1 Hb1 x m1 e1 r1 hx q1 => by
    obtain ⟨xs, hs', q⟩ := q1
    cases x with
    | lst ys =>
      cases hs'
      unfold Rp at hx
      obtain ⟨p, vs, rfl, h1, h2⟩ := hx
      exact .inl ⟨p, rfl, ⟨vs, SqL.of (r1.sub _ _ h1)⟩, k _ _ _ _ _ e1 r1 (it_list (SqL.of h1) h2) q⟩
    | tup ys =>
      cases hs'
      unfold Rp at hx
      obtain ⟨p, vs, rfl, h1, h2⟩ := hx
      exact .inr (.inl ⟨p, rfl, ⟨vs, sameT r1.sub h1⟩, k _ _ _ _ _ e1 r1 (it_tup h1 h2) q⟩)
    | pl ns =>
      cases hs'
      unfold Rp at hx
      obtain ⟨p, rfl, h1⟩ := hx
      exact .inr (.inl ⟨p, rfl, ⟨_, .inl (.inl (r1.sub _ _ h1))⟩, k _ _ _ _ _ e1 r1 (it_tup (.inl (.inl h1)) (RpL.ofScal _)) q⟩)
    | s w =>
      cases w with
      | str t =>
        cases hs'
        unfold Rp at hx
        exact .inr (.inr ⟨t, hx, k _ _ _ _ _ e1 r1 it_str q⟩)
      | _ => cases hs'
    | _ => cases hs'

/-! ### for -/
theorem ws_for {wi : TI} {g : TG} {tb : TS} {E : DE} (h : WI K F B wi ρ m fun xs m1 => ∃ I : Nat → Env → Mem → Prop, I 0 ρ m1 ∧
      (∀ i d ρ' m', xs[i]? = some d → I i ρ' m' → WG K F B g d ρ' m' fun ρ2 m2 => WS K F B tb ρ2 m2 { nx := I (i + 1), ct := I (i + 1), bk := E.nx, rt := E.rt }) ∧ (∀ ρ' m', I xs.length ρ' m' → E.nx ρ' m')) :
    WS K F B (tFor wi g tb) ρ m E := fun Hb H σ R hB r hs k =>
  h Hb H σ _ hB r hs fun J H1 Hb1 xs m1 e1 r1 hj q1 => by
    obtain ⟨I, h0, ht, hd⟩ := q1
    refine ⟨fun i n σ' H' => n = xs.length - i ∧ i ≤ xs.length ∧ ∃ Hb' ρ' m', Same Hb1 Hb' ∧ Rel K F Hb' H' m' ∧ RpS K Hb' ρ' σ' ∧ I i ρ' m', ⟨xs.length, by simp, Nat.zero_le _, Hb1, ρ, m1, Same.refl _, r1, hs.mono e1, h0⟩, ?_⟩
    rintro i n σ' H' ⟨rfl, hi, Hb', ρ', m', e', r', hs', hI⟩
    by_cases hlt : i < xs.length
    · obtain ⟨hgo, hy⟩ := (hj i F Hb' H' m' e' r').2 xs[i] (by simp [hlt])
      refine .inr ⟨hgo, fun σ2 H2 => ∃ Hb2 ρ2 m2, Same Hb1 Hb2 ∧ Rel K F Hb2 H2 m2 ∧ RpS K Hb2 ρ2 σ2 ∧ I (i + 1) ρ2 m2, fun σ2 H2 q2 => ⟨xs.length - (i + 1), by omega, rfl, hlt, q2⟩, fun x H2 y => ?_⟩
      obtain ⟨Hb2, e2, r2, hx⟩ := hy x H2 y
      have eB : Same B Hb2 := (hB.trans e1).trans (e'.trans e2)
      refine ht i xs[i] ρ' m' (by simp [hlt]) hI Hb2 H2 σ' x _ eB r2 (hs'.mono e2) hx fun σ3 H3 Hb3 ρ3 m3 e3 r3 hs3 q3 => ?_
      have e13 : Same Hb1 Hb3 := (e'.trans e2).trans e3
      exact q3 Hb3 H3 σ3 _ (eB.trans e3) r3 hs3 ⟨fun σ4 H4 Hb4 ρ4 m4 e4 r4 hs4 q4 => ⟨Hb4, ρ4, m4, e13.trans e4, r4, hs4, q4⟩, k.rt.mono (e1.trans e13), k.nx.mono (e1.trans e13), fun σ4 H4 Hb4 ρ4 m4 e4 r4 hs4 q4 => ⟨Hb4, ρ4, m4, e13.trans e4, r4, hs4, q4⟩⟩
    · have e : i = xs.length := by omega
      subst e
      exact .inl ⟨(hj _ F Hb' H' m' e' r').1 (Nat.le_refl _), k.nx _ _ _ _ _ (e1.trans e') r' hs' (hd _ _ hI)⟩

/-! ### while -/
theorem ws_while {c : TT} {tb : TS} {E : DE} (I : Nat → Env → Mem → Prop) {n : Nat} (h0 : I n ρ m)
    (ht : ∀ n ρ' m', I n ρ' m' → WT K F B c ρ' m' fun b m1 => (b = true → WS K F B tb ρ' m1 { nx := fun ρ2 m2 => ∃ n', n' < n ∧ I n' ρ2 m2, ct := fun ρ2 m2 => ∃ n', n' < n ∧ I n' ρ2 m2, bk := E.nx, rt := E.rt }) ∧ (b = false → E.nx ρ' m1)) :
    WS K F B (tWhile c tb) ρ m E := fun Hb H σ R hB r hs k => by
  refine ⟨fun n σ' H' => ∃ Hb' ρ' m', Same Hb Hb' ∧ Rel K F Hb' H' m' ∧ RpS K Hb' ρ' σ' ∧ I n ρ' m', ⟨n, Hb, ρ, m, Same.refl _, r, hs, h0⟩, ?_⟩
  rintro n σ' H' ⟨Hb', ρ', m', e', r', hs', hI⟩
  refine ht n ρ' m' hI Hb' H' σ' _ (hB.trans e') r' hs' fun b H1 Hb1 m1 e1 r1 q1 => ?_
  have e01 : Same Hb Hb1 := e'.trans e1
  cases b with
  | true =>
    refine iteT ⟨fun σ2 H2 => ∃ n', n' < n ∧ ∃ Hb2 ρ2 m2, Same Hb Hb2 ∧ Rel K F Hb2 H2 m2 ∧ RpS K Hb2 ρ2 σ2 ∧ I n' ρ2 m2, fun σ2 H2 q => q, ?_⟩
    exact q1.1 rfl Hb1 H1 σ' _ (hB.trans e01) r1 (hs'.mono e1) ⟨fun σ4 H4 Hb4 ρ4 m4 e4 r4 hs4 ⟨n', hn, q4⟩ => ⟨n', hn, Hb4, ρ4, m4, e01.trans e4, r4, hs4, q4⟩, k.rt.mono e01, k.nx.mono e01, fun σ4 H4 Hb4 ρ4 m4 e4 r4 hs4 ⟨n', hn, q4⟩ => ⟨n', hn, Hb4, ρ4, m4, e01.trans e4, r4, hs4, q4⟩⟩
  | false => exact iteF (k.nx _ _ _ _ _ e01 r1 (hs'.mono e1) (q1.2 rfl))

/-! ### comprehensions -/
/-- a target within a comprehension: its own slots vs alone are stored -/
def WGw (K : PySem.W.Frag) (F B : Hp) (g : TG) (vs : List Nat) (x : D) (ρ : Env) (m : Mem) (Q : Env → Mem → Prop) : Prop := ∀ Hb H σ v (R : L2.St → Hp → Prop), Same B Hb → Rel K F Hb H m → RpS K Hb ρ σ → Rp K Hb x v → OkN K F Hb Q R → g v (L2.wipe σ vs) H fun σ2 H2 => L2.wipe σ2 vs = L2.wipe σ vs ∧ R σ2 H2
theorem wipe_set {σ : L2.St} {i : Nat} {x : Option V} : ∀ {vs : List Nat}, i ∈ vs → L2.wipe (σ.set i x) vs = L2.wipe σ vs
  | v :: vs, h => by
    unfold L2.wipe
    by_cases hv : i ∈ vs
    · rw [wipe_set hv]
    · have e : i = v := by
        rcases List.mem_cons.mp h with z | z
        · exact z
        · exact absurd z hv
      subst e
      have comm : ∀ {us : List Nat} {σ : L2.St}, i ∉ us → L2.wipe (σ.set i x) us = (L2.wipe σ us).set i x := fun {us} => by
        induction us with
        | nil =>
          intro σ _
          rfl
        | cons u us ih =>
          intro σ hu
          simp only [List.mem_cons, not_or] at hu
          unfold L2.wipe
          rw [ih hu.2, List.set_comm _ _ hu.1]
      rw [comm hv, List.set_set]
theorem wipe_wipe {σ : L2.St} : ∀ {vs : List Nat}, (∀ us : List Nat, (∀ u ∈ us, u ∈ vs) → L2.wipe (L2.wipe σ us) vs = L2.wipe σ vs) := fun {vs} us => by
  induction us with
  | nil =>
    intro _
    rfl
  | cons u us ih =>
    intro h
    show L2.wipe ((L2.wipe σ us).set u none) vs = L2.wipe σ vs
    rw [wipe_set (h u List.mem_cons_self)]
    exact ih fun z hz => h z (List.mem_cons_of_mem _ hz)
theorem wgw_name {i : Nat} {vs : List Nat} {x : D} {Q : Env → Mem → Prop} (hi : i ∈ vs) (q : Q ((wipeD ρ vs).set i (some x)) m) : WGw K F B (gName i) vs x ρ m Q := fun Hb H σ v R hB r hs hx k => by
  show L2.wipe ((L2.wipe σ vs).set i (some v)) vs = L2.wipe σ vs ∧ R ((L2.wipe σ vs).set i (some v)) H
  exact ⟨by rw [wipe_set hi, wipe_wipe vs fun _ z => z], k.here r ((hs.wipe vs).set hx) q⟩
theorem wgw_pair {i j : Nat} {vs : List Nat} {x y : D} {Q : Env → Mem → Prop} (hi : i ∈ vs) (hj : j ∈ vs) (q : Q (((wipeD ρ vs).set i (some x)).set j (some y)) m) :
    WGw K F B (gTup K 2 (gCons (gName i) (gCons (gName j) gNil))) vs (.tup [x, y]) ρ m Q := fun Hb H σ v R hB r hs hx k => by
  unfold Rp at hx
  obtain ⟨p, us, rfl, h1, h2⟩ := hx
  unfold RpL at h2
  obtain ⟨v1, us, rfl, hv1, h2⟩ := h2
  unfold RpL at h2
  obtain ⟨v2, us, rfl, hv2, h2⟩ := h2
  unfold RpL at h2
  subst h2
  refine ⟨p, [v1, v2], rfl, sameT r.sub h1, rfl, v1, [v2], rfl, v2, [], rfl, rfl, ?_⟩
  exact ⟨by rw [wipe_set hj, wipe_set hi, wipe_wipe vs fun _ z => z], k.here r (((hs.wipe vs).set hv1).set hv2) q⟩
theorem we_lc {wi : TI} {g : TG} {tt : TT} {te : TE} {vs : List Nat} {Q : QD} (h : WI K F B wi ρ m fun xs m1 => ∃ I : Nat → List D → Mem → Prop, I 0 [] m1 ∧
      (∀ F' i d acc m', xs[i]? = some d → I i acc m' → WGw K F' B g vs d ρ m' fun ρ2 m2 => WT K F' B tt ρ2 m2 fun b m3 =>
        (b = true → WE K F' B te ρ2 m3 fun y m4 => acc.length < sizeLine ∧ I (i + 1) (acc ++ [y]) m4) ∧ (b = false → I (i + 1) acc m3)) ∧ (∀ acc m', I xs.length acc m' → Q (.lst acc) m')) :
    WE K F B (tLc wi g tt te vs) ρ m Q := fun Hb H σ R hB r hs k =>
  h Hb H σ _ hB r hs fun J H1 Hb1 xs m1 e1 r1 hj q1 => by
    obtain ⟨I, h0, ht, hd⟩ := q1
    intro A hA
    have hF : F A = none := r1.nofr hA
    refine ⟨fun i n H' => n = xs.length - i ∧ i ≤ xs.length ∧ ∃ Hb' acc us m', Same Hb1 Hb' ∧ Rel K (upd F A (.lst us)) Hb' H' m' ∧ RpL K Hb' acc us ∧ I i acc m', ⟨xs.length, by simp, Nat.zero_le _, Hb1, [], [], m1, Same.refl _, r1.aside hA, RpL.nil, h0⟩, ?_⟩
    rintro i n H' ⟨rfl, hi, Hb', acc, us, m', e', r', ha, hI⟩
    by_cases hlt : i < xs.length
    · obtain ⟨hgo, hy⟩ := (hj i _ Hb' H' m' e' r').2 xs[i] (by simp [hlt])
      refine .inr ⟨hgo, fun H2 => ∃ Hb2 acc2 us2 m2, Same Hb1 Hb2 ∧ Rel K (upd F A (.lst us2)) Hb2 H2 m2 ∧ RpL K Hb2 acc2 us2 ∧ I (i + 1) acc2 m2, fun H2 q2 => ⟨xs.length - (i + 1), by omega, rfl, hlt, q2⟩, fun x H2 y => ?_⟩
      obtain ⟨Hb2, e2, r2, hx⟩ := hy x H2 y
      have eB : Same B Hb2 := (hB.trans e1).trans (e'.trans e2)
      refine ht (upd F A (.lst us)) i xs[i] acc m' (by simp [hlt]) hI Hb2 H2 σ x _ eB r2 (hs.mono ((e1.trans e').trans e2)) hx fun σ3 H3 Hb3 ρ3 m3 e3 r3 hs3 q3 => ?_
      refine q3 Hb3 H3 σ3 _ (eB.trans e3) r3 hs3 fun b H4 Hb4 m4 e4 r4 q4 => ?_
      have e14 : Same Hb1 Hb4 := ((e'.trans e2).trans e3).trans e4
      cases b with
      | true =>
        refine iteT (q4.1 rfl Hb4 H4 σ3 _ ((eB.trans e3).trans e4) r4 (hs3.mono e4) fun v H5 Hb5 y5 m5 e5 r5 hy5 q5 => ?_)
        have hD := (r5.fr A _ upd_same).1
        have ha5 : RpL K Hb5 acc us := ha.mono (((e2.trans e3).trans e4).trans e5)
        refine ⟨us, hD, by rw [ha5.length]; exact q5.1, Hb5, acc ++ [y5], us ++ [v], m5, e14.trans e5, r5.turnA, ha5.app (RpL.cons hy5 RpL.nil), q5.2⟩
      | false => exact iteF ⟨Hb4, acc, us, m4, e14, r4, ha.mono ((e2.trans e3).trans e4), q4.2 rfl⟩
    · have e : i = xs.length := by omega
      subst e
      have e4 : Same Hb' (upd Hb' A (.lst us)) := Same.new (r'.fr A _ upd_same).2.1
      refine .inl ⟨(hj _ _ Hb' H' m' e' r').1 (Nat.le_refl _), k _ _ _ (.lst acc) _ ((e1.trans e').trans e4) (r'.settle hF) ?_ (hd _ _ hI)⟩
      unfold Rp
      exact ⟨A, us, rfl, upd_same, ha.mono e4⟩
/-- a comprehension that changes nothing: what is made is f of the items -/
theorem we_lcMap {wi : TI} {g : TG} {te : TE} {vs : List Nat} {Q : QD} (h : WI K F B wi ρ m fun xs m1 => ∃ f : D → D, xs.length ≤ sizeLine ∧
      (∀ F' d, d ∈ xs → WGw K F' B g vs d ρ m1 fun ρ2 m2 => m2 = m1 ∧ WE K F' B te ρ2 m1 fun y m4 => y = f d ∧ m4 = m1) ∧ Q (.lst (xs.map f)) m1) : WE K F B (tLc wi g tYes te vs) ρ m Q :=
  we_lc fun Hb H σ R hB r hs k => h Hb H σ R hB r hs fun J H' Hb' xs m1 e1 r1 hj ⟨f, hl, hf, q⟩ => k J H' Hb' xs m1 e1 r1 hj ⟨fun i acc m' => acc = (xs.take i).map f ∧ m' = m1, ⟨by simp, rfl⟩, fun F' i d acc m' hd ⟨ha, hm⟩ => by
    subst hm
    have hi : i < xs.length := (List.getElem?_eq_some_iff.mp hd).1
    intro Hb2 H2 σ2 v R2 hB2 r2 hs2 hx2 k2
    refine hf F' d (List.mem_of_getElem? hd) Hb2 H2 σ2 v R2 hB2 r2 hs2 hx2 fun σ3 H3 Hb3 ρ3 m3 e3 r3 hs3 ⟨em, q3⟩ => k2 σ3 H3 Hb3 ρ3 m3 e3 r3 hs3 ?_
    subst em
    refine wt_yes ⟨fun _ => we_imp q3 fun y m4 ⟨ey, em⟩ => ?_, fun z => by cases z⟩
    subst ey em ha
    refine ⟨by simp; omega, ?_, rfl⟩
    rw [List.take_add_one, hd]
    simp, fun acc m' ⟨ha, hm⟩ => by
    subst ha hm
    rw [List.take_length]
    exact q⟩
/-- .. with a test: the items that p lets, f of them -/
theorem we_lcFilter {wi : TI} {g : TG} {tt : TT} {te : TE} {vs : List Nat} {Q : QD} (h : WI K F B wi ρ m fun xs m1 => ∃ (p : D → Bool) (f : D → D), xs.length ≤ sizeLine ∧
      (∀ F' d, d ∈ xs → WGw K F' B g vs d ρ m1 fun ρ2 m2 => m2 = m1 ∧ WT K F' B tt ρ2 m1 fun b m3 => b = p d ∧ m3 = m1 ∧ (b = true → WE K F' B te ρ2 m1 fun y m4 => y = f d ∧ m4 = m1)) ∧ Q (.lst ((xs.filter p).map f)) m1) : WE K F B (tLc wi g tt te vs) ρ m Q :=
  we_lc fun Hb H σ R hB r hs k => h Hb H σ R hB r hs fun J H' Hb' xs m1 e1 r1 hj ⟨p, f, hl, hf, q⟩ => k J H' Hb' xs m1 e1 r1 hj ⟨fun i acc m' => acc = ((xs.take i).filter p).map f ∧ m' = m1, ⟨by simp, rfl⟩, fun F' i d acc m' hd ⟨ha, hm⟩ => by
    subst hm
    have hi : i < xs.length := (List.getElem?_eq_some_iff.mp hd).1
    intro Hb2 H2 σ2 v R2 hB2 r2 hs2 hx2 k2
    refine hf F' d (List.mem_of_getElem? hd) Hb2 H2 σ2 v R2 hB2 r2 hs2 hx2 fun σ3 H3 Hb3 ρ3 m3 e3 r3 hs3 ⟨em, q3⟩ => k2 σ3 H3 Hb3 ρ3 m3 e3 r3 hs3 ?_
    subst em
    have hz : acc.length < sizeLine := by
      rw [ha, List.length_map]
      have z := List.length_filter_le p (xs.take i)
      rw [List.length_take] at z
      omega
    refine wt_imp q3 fun b m4 ⟨eb, em, q4⟩ => ⟨fun z => ?_, fun z => ?_⟩
    · subst em
      refine we_imp (q4 z) fun y m5 ⟨ey, em⟩ => ⟨hz, ?_, em⟩
      subst ey ha
      rw [List.take_add_one, hd, List.filter_append, List.map_append]
      simp [← eb, z]
    · subst ha
      refine ⟨?_, em⟩
      rw [List.take_add_one, hd, List.filter_append, List.map_append]
      simp [← eb, z], fun acc m' ⟨ha, hm⟩ => by
    subst ha hm
    rw [List.take_length]
    exact q⟩
end
end DD

/-! HOwn: operators and len by defs of the program's own classes. -/
namespace HO1
open PySem L2
open PySem.Spec PyProof.Rows

section
variable {X : Cx} {CX : CXT} {k : Nat} {f C : Addr} {fd : FuncData} {ps : List Str} {sp : Sp} {E : XK} {pins : List (Addr × Obj)} {σ : L2.St} {H : Hp} {s : Shared}
theorem vals_rr {a b : Addr} : Vals [V.ref a, V.ref b] [Value.ref a, Value.ref b] := .cons (show RelV (V.ref a) (Value.ref a) from rfl) (.cons (show RelV (V.ref b) (Value.ref b) from rfl) .nil)
theorem vals_rx {a : Addr} {x : V} {u : Value} (r : RelV x u) : Vals [V.ref a, x] [Value.ref a, u] := .cons (show RelV (V.ref a) (Value.ref a) from rfl) (.cons r .nil)
/-- a def of the text called below the running body -/
theorem run_in {A : Around} (F : FnOk X.prog X.w X.K X.mg X.base CX k f fd ps sp) (hr : Room k A) (hfr : A.frames = X.A.frames) (hb : Binds X.K fd ps []) (hx : Passes CX X E)
    (I : Inv X pins σ H s) {us : List Value} {vs : List V} (r : Vals vs us) {Q : VK} (h : sp vs H Q E) : wpAny (model X.prog X.w) A (call (.ref f) us) (EP X pins σ Q) X.xe s := by
  have e0 : Env0 X.prog X.w X.K X.mg X.base A X.stack s H := by
    have e := I.env0
    exact ⟨by rw [hfr]; exact e.frames, e.mod, e.bs, e.bsz, e.funs, e.frf, e.hok, e.bare⟩
  have hl := F.len _ _ _ _ h
  have hu : (us ++ []).length = ps.length := by
    rw [List.append_nil, ← r.length]
    exact hl
  have bb : BindsTo s fd ⟨us, []⟩ (ps.zip us) := by
    have q := hb s us I.kIn hu
    rw [List.append_nil] at q
    exact q
  refine wpAny_call (codeAny_mono (F.run A X.stack s H ⟨us, []⟩ us vs Q E hr e0 bb r h) fun r' s' hq => ?_)
  cases r' with
  | error e => exact hx pins σ H s e s' I hq
  | ok fl =>
    cases fl with
    | ret w => exact I.after hq
    | next => exact False.elim hq
    | brk => exact False.elim hq
    | cont => exact False.elim hq
theorem inst_at {a dx : Addr} {fs : List (Str × V)} (I : Inv X pins σ H s) (h : H a = some (.ins C dx fs)) : ∃ ox od, PySem.W.InstAt s.heap a ox C (some od) := by
  obtain ⟨mA, J, _⟩ := ins_get I.hok h
  obtain ⟨od, J, _⟩ := J.look
  exact ⟨_, od, J⟩
/-- what comes back is no stand-in -/
theorem back_of {Q : VK} {v : Value} {s' : Shared} (h : EP X pins σ Q v s') : PySem.W.CmpBack (EP X pins σ Q) v s' := by
  obtain ⟨z, H', I', r, q⟩ := h
  have h2 : EP X pins σ Q v s' := ⟨z, H', I', r, q⟩
  cases z with
  | non => cases r; exact h2
  | bl _ => cases r; exact h2
  | int _ => obtain ⟨t, rfl⟩ := r; exact h2
  | str _ => obtain ⟨t, rfl⟩ := r; exact h2
  | byt _ => obtain ⟨t, rfl⟩ := r; exact h2
  | flt _ => obtain ⟨t, rfl⟩ := r; exact h2
  | ref _ => cases r; exact h2
  | ty _ => cases r; exact h2

/-! ### len -/
def rLenO (C : Addr) (sp : Sp) (E : XK) : List V → Hp → VK → Prop := fun xs H Q => ∃ a dx fs, xs = [.ref a] ∧ H a = some (.ins C dx fs) ∧ sp [.ref a] H (fun z H' => ∃ n : Int, z = .int n ∧ 0 ≤ n ∧ n < 2 ^ 63 ∧ Q (.int n) H') E
theorem call_lenO (F : FnOk X.prog X.w X.K X.mg X.base CX k f fd ps sp) (hr : Room (k + 1) X.A) (hb : Binds X.K fd ps []) (hx : Passes CX X E)
    (hs : PySem.W.findIn X.K (.ref C) "__len__" = some (some (.ref f))) (hf : PySem.W.isFn X.K (.ref f) = true) : CallR X (.builtin "len") (rLenO C sp E) := by
  intro pins s σ H xs us Q I r h
  obtain ⟨a, dx, fs, rfl, ha, q⟩ := h
  have eu := Vals.ref1 r
  subst eu
  obtain ⟨ox, od, J⟩ := inst_at I ha
  obtain ⟨m, fr⟩ := I.fr
  refine PySem.W.len_K fr I.ok.mod.kin J hs hf (thn (run_in (A := X.A.in1) F hr.in1 rfl hb hx I r q) fun v s' z => ?_)
  obtain ⟨z', H', I', rz, n, en, h0, h1, qz⟩ := z
  subst en
  obtain ⟨t, rfl⟩ := rz
  exact ⟨⟨h0, h1⟩, .int n, H', I'.tok _, ⟨_, rfl⟩, qz⟩

/-! ### operators -/
def rBinO (C : Addr) (sp : Sp) (E : XK) : R2 := fun x y H Q => ∃ a b dx dy fs gs, x = .ref a ∧ y = .ref b ∧ H a = some (.ins C dx fs) ∧ H b = some (.ins C dy gs) ∧ sp [x, y] H Q E
theorem op_binO {op : Operator} (F : FnOk X.prog X.w X.K X.mg X.base CX k f fd ps sp) (hr : Room k X.A) (hb : Binds X.K fd ps []) (hx : Passes CX X E) (hc : PySem.W.selfFirst X.K C = true)
    (hs : PySem.W.findIn X.K (.ref C) (PySem.dunder op.info.2) = some (some (.ref f))) (hf : PySem.W.isFn X.K (.ref f) = true) : OpR X (binaryOp op) (rBinO C sp E) := by
  intro pins s σ H x y v u Q I rx ry h
  obtain ⟨a, b, dx, dy, fs, gs, rfl, rfl, ha, hb', q⟩ := h
  cases rx
  cases ry
  obtain ⟨ox, od, J⟩ := inst_at I ha
  obtain ⟨oy, oe, J'⟩ := inst_at I hb'
  obtain ⟨m, fr⟩ := I.fr
  exact PySem.W.binop_K fr I.ok.mod.kin J J'.type hc hs hf (thn (run_in F hr rfl hb hx I vals_rr q) fun v s' z => back_of z)

/-! ### in -/
def rInO (C : Addr) (sp : Sp) (E : XK) (neg : Bool) : R2 := fun x y H Q => ∃ a dx fs, y = .ref a ∧ H a = some (.ins C dx fs) ∧ sp [y, x] H (fun z H' => ∃ b, z = .bl b ∧ Q (.bl (if neg then !b else b)) H') E
theorem truthy_bl {M : Model} {A : Around} {E : Value → Shared → Prop} {s : Shared} {b : Bool} {Q : Bool → Shared → Prop} (h : Q b s) : wpAny M A (truthy (.bool b)) Q E s := by
  have e : truthy (.bool b) = pure b := by first | rfl | kernel_rfl
  rw [e]
  exact wpAny_pure h
theorem op_inO (F : FnOk X.prog X.w X.K X.mg X.base CX k f fd ps sp) (hr : Room k X.A) (hb : Binds X.K fd ps []) (hx : Passes CX X E)
    (hs : PySem.W.findIn X.K (.ref C) "__contains__" = some (some (.ref f))) (hf : PySem.W.isFn X.K (.ref f) = true) : OpR X (compareOp .In) (rInO C sp E false) := by
  intro pins s σ H x y v u Q I rx ry h
  obtain ⟨a, dx, fs, rfl, ha, q⟩ := h
  cases ry
  obtain ⟨ox, od, J⟩ := inst_at I ha
  obtain ⟨m, fr⟩ := I.fr
  refine PySem.W.in_K fr I.ok.mod.kin J hs hf (thn (run_in F hr rfl hb hx I (vals_rx rx) q) fun v s' z => ?_)
  obtain ⟨z', H', I', rz, b, eb, qz⟩ := z
  subst eb
  cases rz
  exact truthy_bl ⟨.bl b, H', I', rfl, qz⟩
theorem op_notInO (F : FnOk X.prog X.w X.K X.mg X.base CX k f fd ps sp) (hr : Room k X.A) (hb : Binds X.K fd ps []) (hx : Passes CX X E)
    (hs : PySem.W.findIn X.K (.ref C) "__contains__" = some (some (.ref f))) (hf : PySem.W.isFn X.K (.ref f) = true) : OpR X (compareOp .NotIn) (rInO C sp E true) := by
  intro pins s σ H x y v u Q I rx ry h
  obtain ⟨a, dx, fs, rfl, ha, q⟩ := h
  cases ry
  obtain ⟨ox, od, J⟩ := inst_at I ha
  obtain ⟨m, fr⟩ := I.fr
  refine PySem.W.notIn_K fr I.ok.mod.kin J hs hf (thn (run_in F hr rfl hb hx I (vals_rx rx) q) fun v s' z => ?_)
  obtain ⟨z', H', I', rz, b, eb, qz⟩ := z
  subst eb
  cases rz
  exact truthy_bl ⟨.bl (!b), H', I', rfl, qz⟩

/-! ### ==, <= .. and != -/
/-- the type of the other value, and that its class is not one below C -/
def Apart (K : PySem.W.Frag) (C : Addr) (y : V) (H : Hp) : Prop := ∃ t, TyX K H y t ∧ PySem.W.notFirst K C t = true
theorem tyx_type {x : V} {u t : Value} (I : Inv X pins σ H s) (rx : RelV x u) (ty : TyX X.K H x t) {M : Model} : PySem.W.Looks M s.heap (typeOf u) t := by
  cases ty with
  | base b =>
    cases b with
    | non => cases (show u = Value.none from rx); exact PySem.W.Looks.of_pure (by first | rfl | kernel_rfl)
    | bl y => cases (show u = Value.bool y from rx); exact PySem.W.Looks.of_pure (by first | rfl | kernel_rfl)
    | int i => obtain ⟨t, q⟩ := (show ∃ t, u = Value.int i t from rx); cases q; exact PySem.W.Looks.of_pure (by first | rfl | kernel_rfl)
    | str y => obtain ⟨t, q⟩ := (show ∃ t, u = Value.str y t from rx); cases q; exact PySem.W.Looks.of_pure (by first | rfl | kernel_rfl)
    | flt y => obtain ⟨t, q⟩ := (show ∃ t, u = Value.float y t from rx); cases q; exact PySem.W.Looks.of_pure (by first | rfl | kernel_rfl)
    | @lst a xs ea =>
      cases (show u = Value.ref a from rx)
      obtain ⟨_, _, n, _, h1⟩ := (show ObjOk X.prog X.w H s.heap a (.lst xs) from I.hok a _ ea)
      exact (PySem.W.Looks.ld h1).andThen .now
    | @frz a ob xs ea =>
      cases (show u = Value.ref a from rx)
      obtain ⟨_, _, _, n, _, h1⟩ := (show ObjOk X.prog X.w H s.heap a (.frz ob (.lst xs)) from I.hok a _ ea)
      exact (PySem.W.Looks.ld h1).andThen .now
    | @tup a xs ea =>
      cases (show u = Value.ref a from rx)
      obtain ⟨_, _, _, o, h1, h2, _⟩ := (show ObjOk X.prog X.w H s.heap a (.tup xs) from I.hok a _ ea)
      exact h2 ▸ (PySem.W.Looks.ld h1).andThen .now
    | @dK a kvs ea =>
      cases (show u = Value.ref a from rx)
      obtain ⟨_, _, vs, _, o, es, ep, h1, h2, _⟩ := (show ObjOk X.prog X.w H s.heap a (.dK kvs) from I.hok a _ ea)
      exact h2.1 ▸ (PySem.W.Looks.ld h1).andThen .now
    | @dT a kvs ea =>
      cases (show u = Value.ref a from rx)
      obtain ⟨_, _, xs, _, o, es, ep, h1, h2, _⟩ := (show ObjOk X.prog X.w H s.heap a (.dT kvs) from I.hok a _ ea)
      exact h2.1 ▸ (PySem.W.Looks.ld h1).andThen .now
    | @ins a C dx fs ea cl ha hn htk hm =>
      cases (show u = Value.ref a from rx)
      obtain ⟨ox, od, J⟩ := inst_at I ea
      exact J.type
  | byt y => obtain ⟨t, q⟩ := (show ∃ t, u = Value.bytes y t from rx); cases q; exact PySem.W.Looks.of_pure (by first | rfl | kernel_rfl)
  | @set a S n ea =>
    cases (show u = Value.ref a from rx)
    obtain ⟨o, _, _, _, e, ex, _⟩ := I.hok a _ ea
    exact ex.1 ▸ (PySem.W.Looks.ld e).andThen .now
  | @kList a o e c =>
    cases (show u = Value.ref a from rx)
    exact c ▸ (PySem.W.Looks.ld (I.kIn a o e)).andThen .now
  | @kTuple a o e c =>
    cases (show u = Value.ref a from rx)
    exact c ▸ (PySem.W.Looks.ld (I.kIn a o e)).andThen .now
  | @kDict a o e c =>
    cases (show u = Value.ref a from rx)
    exact c ▸ (PySem.W.Looks.ld (I.kIn a o e)).andThen .now
  | @fTuple a ob xs ea =>
    cases (show u = Value.ref a from rx)
    obtain ⟨_, _, _, _, o, h1, h2, _⟩ := (show ObjOk X.prog X.w H s.heap a (.frz ob (.tup xs)) from I.hok a _ ea)
    exact h2 ▸ (PySem.W.Looks.ld h1).andThen .now
  | @fDict a ob kvs ea =>
    cases (show u = Value.ref a from rx)
    obtain ⟨_, _, _, vs, _, o, es, ep, h1, h2, _⟩ := (show ObjOk X.prog X.w H s.heap a (.frz ob (.dK kvs)) from I.hok a _ ea)
    exact h2.1 ▸ (PySem.W.Looks.ld h1).andThen .now
def rCmpO (K : PySem.W.Frag) (C : Addr) (sp : Sp) (E : XK) : R2 := fun x y H Q => ∃ a dx fs, x = .ref a ∧ H a = some (.ins C dx fs) ∧ Apart K C y H ∧ sp [x, y] H Q E
theorem op_cmpO {op : CmpOp} (hop : ∀ a b, compareOp op a b = richCompare op a b) (F : FnOk X.prog X.w X.K X.mg X.base CX k f fd ps sp) (hr : Room k X.A) (hb : Binds X.K fd ps []) (hx : Passes CX X E)
    (hs : PySem.W.findIn X.K (.ref C) (cmpInfo op).2.1 = some (some (.ref f))) (hf : PySem.W.isFn X.K (.ref f) = true) : OpR X (compareOp op) (rCmpO X.K C sp E) := by
  intro pins s σ H x y v u Q I rx ry h
  obtain ⟨a, dx, fs, rfl, ha, ⟨t, ht, hn⟩, q⟩ := h
  cases rx
  obtain ⟨ox, od, J⟩ := inst_at I ha
  obtain ⟨m, fr⟩ := I.fr
  rw [hop]
  exact PySem.W.cmp_K hr.units0 fr I.ok.mod.kin J (tyx_type I ry ht) hn hs hf (thn (run_in F hr rfl hb hx I (vals_rx ry) q) fun v s' z => back_of z)
end

/-! ### != by an own == -/
section
variable {X : Cx} {CX : CXT} {k : Nat} {f C : Addr} {fd : FuncData} {ps : List Str} {sp : Sp} {E : XK}
theorem obj_ne {A : Around} {E : Value → Shared → Prop} {s : Shared} {K : PySem.W.Frag} {x C f : Addr} {ox : Obj} {od : Option Obj} {prog : Program} {w : World} {b : Value} {Q : Fin → Shared → Prop} (hu : A.units < cLine) (KX : K.In s.heap) (J : PySem.W.InstAt s.heap x ox C od)
    (hs : PySem.W.findIn K (.ref C) "__eq__" = some (some (.ref f))) (hf : PySem.W.isFn K (.ref f) = true)
    (h : wpAny (model prog w) A (call (.ref f) [.ref x, b]) (fun v s' => ∃ r, v = .bool r ∧ Q (.done (.ret (.bool (!r)))) s') E s) :
    wpAny (model prog w) A (Builtin.«object.__ne__» ⟨[.ref x, b], []⟩) Q E s := by
  unfold Builtin.«object.__ne__»
  refine wpAny_bind (m := slotArgs "__ne__" 1 ⟨[.ref x, b], []⟩) (wpAny_pure ?_)
  refine wpAny_bind (wpAny_cRoomFor hu ?_)
  refine wpAny_bind (PySem.W.ifBound_K KX J hs hf (wpAny_mono h (fun v s' z => ?_) fun _ _ z => z))
  obtain ⟨r, rfl, q⟩ := z
  exact wpAny_bind (truthy_bl (wpAny_pure q))
theorem ne_own {A : Around} {E : Value → Shared → Prop} {s : Shared} {K : PySem.W.Frag} {x C f : Addr} {ox : Obj} {od : Option Obj} {prog : Program} {w : World} {b : Value} {Q : Value → Shared → Prop} (hu : A.units + 1 < cLine) (KX : K.In s.heap) (J : PySem.W.InstAt s.heap x ox C od)
    (hb : PySem.W.Looks (model prog w) s.heap (typeOf b) tb) (hn : PySem.W.notFirst K C tb = true)
    (he : PySem.W.findIn K (.ref C) "__eq__" = some (some (.ref f))) (hf : PySem.W.isFn K (.ref f) = true) (hne : PySem.W.findIn K (.ref C) "__ne__" = some (some (.builtin "object.__ne__"))) (ho : PySem.W.subIn K (.ref C) (.type "object") = some true)
    (h : wpAny (model prog w) A.in1 (call (.ref f) [.ref x, b]) (fun v s' => ∃ r, v = .bool r ∧ Q (.bool (!r)) s') E s) :
    wpAny (model prog w) A (richCompare .NotEq (.ref x) b) Q E s := by
  have one : wpAny (model prog w) A (tryCompare (.ref x) "__ne__" b) (fun r s' => ∃ v, r = some v ∧ Q v s') E s := by
    unfold tryCompare
    refine wpAny_bind ?_
    simp only [callSpecialIfBound?, bindSpecialIfBound?]
    refine wpAny_holding (wpAny_bind (wpAny_bind (wpAny_bind (J.type.here ((PySem.W.looks_findIn KX hne).here ?_)))))
    simp only [PySem.F.slot_tuple_iterator_ne.bind]
    refine wpAny_bind (wpAny_askSetting (wpAny_ite ?_))
    have go : wpAny (model prog w) A (call (.builtin "object.__ne__") [.ref x, b]) (fun v s' => wpAny (model prog w) A (pure (some v)) (fun a s₁ => wpAny (model prog w) A (match a with | some Value.notImplemented | none => pure none | some v => pure (some v)) (fun r s' => ∃ v, r = some v ∧ Q v s') E s₁) E s') E s := by
      refine wpAny_call (codeAny_call_builtin PySem.F.slot_tuple_iterator_ne.plain PySem.F.cmpEntry_ne (PySem.W.check_slot PySem.F.cmpKind_ne PySem.F.cmpSplit_ne (J.type.andThen (PySem.W.looks_subIn KX ho)) (PySem.F.cmpArgs_ne _ _) ?_))
      refine obj_ne (A := A.in1) hu KX J he hf (wpAny_mono h (fun v s' z => ?_) fun _ _ z => z)
      obtain ⟨r, rfl, q⟩ := z
      exact ⟨r, rfl, wpAny_pure (wpAny_pure ⟨_, rfl, q⟩)⟩
    split
    · exact wpAny_bind (wpAny_pure (wpAny_pure (wpAny_bind go)))
    · exact wpAny_tryCatch (wpAny_bind (wpAny_pure (wpAny_pure (wpAny_bind go))))
  unfold richCompare
  simp only [oneThing_ref]
  refine wpAny_holding (wpAny_bind (wpAny_cRoomFor (by omega) ?_))
  refine wpAny_bind (J.type.here (wpAny_bind (hb.here ?_)))
  have fin : ∀ {T : Option Value → Sem Value}, (∀ v, T (some v) = pure v) → wpAny (model prog w) A (tryCompare (.ref x) "__ne__" b >>= T) Q E s := fun {T} hT => by
    refine wpAny_bind (wpAny_mono one (fun r s' z => ?_) fun _ _ e => e)
    obtain ⟨v, rfl, hq⟩ := z
    rw [hT]
    exact wpAny_pure hq
  split
  · rename_i q
    have e : PySem.W.subIn K tb (.ref C) = some false := by
      rcases Bool.or_eq_true_iff.mp hn with e | e
      · rw [beq_iff_eq.mp e] at q; simp at q
      · exact beq_iff_eq.mp e
    refine wpAny_bind ((PySem.W.looks_subIn KX e).here ?_)
    simp only [Bool.false_eq_true, if_false]
    exact fin fun v => rfl
  · refine wpAny_bind (wpAny_pure ?_)
    simp only [Bool.false_eq_true, if_false]
    exact fin fun v => rfl
def rNeO (K : PySem.W.Frag) (C : Addr) (sp : Sp) (E : XK) : R2 := fun x y H Q => ∃ a dx fs, x = .ref a ∧ H a = some (.ins C dx fs) ∧ Apart K C y H ∧ sp [x, y] H (fun z H' => ∃ b, z = .bl b ∧ Q (.bl (!b)) H') E
theorem op_neO (F : FnOk X.prog X.w X.K X.mg X.base CX k f fd ps sp) (hr : Room (k + 1) X.A) (hb : Binds X.K fd ps []) (hx : Passes CX X E)
    (hs : PySem.W.findIn X.K (.ref C) "__eq__" = some (some (.ref f))) (hf : PySem.W.isFn X.K (.ref f) = true) (hne : PySem.W.findIn X.K (.ref C) "__ne__" = some (some (.builtin "object.__ne__"))) (ho : PySem.W.subIn X.K (.ref C) (.type "object") = some true) : OpR X (compareOp .NotEq) (rNeO X.K C sp E) := by
  intro pins s σ H x y v u Q I rx ry h
  obtain ⟨a, dx, fs, rfl, ha, ⟨t, ht, hn⟩, q⟩ := h
  cases rx
  obtain ⟨ox, od, J⟩ := inst_at I ha
  show wpAny _ _ (richCompare .NotEq _ _) _ _ _
  refine ne_own (by have := hr.un; omega) I.kIn J (tyx_type I ry ht) hn hs hf hne ho (thn (run_in (A := X.A.in1) F hr.in1 rfl hb hx I (vals_rx ry) q) fun v s' z => ?_)
  obtain ⟨z', H', I', rz, b, eb, qz⟩ := z
  subst eb
  cases rz
  exact ⟨b, rfl, .bl (!b), H', I', rfl, qz⟩
end
end HO1

/-! DOps: operators, built-ins and methods over data. -/
namespace DD
open PySem L2
open PySem.Spec PyProof.Rows

/-! ### more rules of the hand layer -/
def rAddS : R2 := fun x y H Q => ∃ i j, x = .str i ∧ y = .str j ∧ i.length + j.length ≤ sizeLine ∧ Q (.str (i ++ j)) H
def rAddI : R2 := rI0 fun i j => .int (i + j)
def rAddA (K : PySem.W.Frag) : R2 := fun x y H Q => rAddI x y H Q ∨ rAddS x y H Q ∨ rCat x y H Q ∨ rCatT K x y H Q
theorem op_addA {X : Cx} : OpR X (binaryOp .Add) (rAddA X.K) := OpR.or op_add (OpR.or op_add_str (OpR.or op_cat op_catT))
def rSubI : R2 := rI0 fun i j => .int (i - j)
def rDivI : R2 := rI CDiv fun i j => .int (i / j)
def rModI : R2 := rI (fun _ j => 0 < j) fun i j => .int (i % j)
def rPowI : R2 := rI CPow fun i j => .int (i ^ j.toNat)
def rLtI : R2 := rI0 fun i j => .bl (decide (i < j))
def rLeI : R2 := rI0 fun i j => .bl (decide (i ≤ j))
def rGtI : R2 := rI0 fun i j => .bl (decide (j < i))
def rGeI : R2 := rI0 fun i j => .bl (decide (j ≤ i))
def rNeg : V → Hp → VK → Prop := rU fun i => .int (-i)
def rIsN : R2 := fun x y H Q => y = .non ∧ Q (.bl (decide (x = .non))) H
def rNotN : R2 := fun x y H Q => y = .non ∧ Q (.bl (!decide (x = .non))) H
theorem op_isN1 {X : Cx} : OpR X (compareOp .Is) rIsN := op_isN
theorem op_notN1 {X : Cx} : OpR X (compareOp .IsNot) rNotN := op_notN
theorem RelV_ref (a : Addr) : RelV (.ref a) (.ref a) := rfl
def repS (x : Str) (n : Nat) : Str := ⟨(List.replicate n x.cps.toList).flatten.toArray⟩
theorem repS_eq (x : Str) (n : Nat) : (⟨(List.replicate n x.cps).foldl (· ++ ·) #[]⟩ : Str) = repS x n := by
  have gen : ∀ (n : Nat) (acc : Array Nat), (List.replicate n x.cps).foldl (· ++ ·) acc = acc ++ (List.replicate n x.cps.toList).flatten.toArray := fun n => by
    induction n with
    | zero =>
      intro acc
      simp
    | succ n ih =>
      intro acc
      rw [List.replicate_succ, List.foldl_cons, ih, List.replicate_succ, List.flatten_cons]
      apply Array.toList_inj.mp
      simp
  unfold repS
  rw [gen]
  simp
def rRepS : R2 := fun x y H Q => ∃ (z : Str) (k : Int), x = .str z ∧ y = .int k ∧ -(2 ^ 63) ≤ k ∧ k < 1000000 ∧ z.length ≤ 1 ∧ Q (.str (repS z k.toNat)) H
theorem op_repS {X : Cx} : OpR X (binaryOp .Mult) rRepS := by
  intro pins s σ H x y v u Q I rx ry h
  obtain ⟨z, k, rfl, rfl, h1, h2, hz, q⟩ := h
  obtain ⟨t, rfl⟩ := rx
  obtain ⟨t', rfl⟩ := ry
  refine P.mul_str ?_ (fun a b => ?_) (fun a b => ?_) ?_
  · have a1 : ¬ k < -(2 ^ 63) := by omega
    have a2 : ¬ k ≥ 2 ^ 63 := by omega
    rw [decide_eq_false a1, decide_eq_false a2]
    rfl
  · have a3 : (z.length : Int) ≤ 1 := by omega
    have a4 : (1 : Int) ≤ (2 ^ 63 - 1) / k := by
      rw [Int.le_ediv_iff_mul_le (by omega)]
      omega
    omega
  · have a5 : z.length * k.toNat ≤ 1 * 1000000 := Nat.mul_le_mul hz (by omega)
    unfold Builtin.Str.tooLong
    have a6 : ¬ z.length * k.toNat > sizeLine := by
      rw [sizeLine_eq]
      omega
    simp [a6]
  · by_cases a : k < 1
    · rw [if_pos a]
      have e : repS z k.toNat = Str.empty := by
        have e2 : k.toNat = 0 := by omega
        rw [e2]
        rfl
      rw [e] at q
      exact ⟨by decide, .str Str.empty, H, I.tok _, ⟨_, rfl⟩, q⟩
    · rw [if_neg a]
      by_cases b : (k == 1 || z.length == 0) = true
      · rw [if_pos b]
        have e : repS z k.toNat = z := by
          rcases Bool.or_eq_true_iff.mp b with b | b
          · have e2 : k.toNat = 1 := by
              have := beq_iff_eq.mp b
              omega
            rw [e2]
            apply Str.ext'
            apply Array.toList_inj.mp
            simp [repS]
          · have e2 : z.cps.toList = [] := by
              have := beq_iff_eq.mp b
              apply List.eq_nil_of_length_eq_zero
              simpa [Str.length] using this
            apply Str.ext'
            apply Array.toList_inj.mp
            simp [repS, e2]
        rw [e] at q
        exact ⟨.str z, H, I, ⟨t, rfl⟩, q⟩
      · rw [if_neg b, repS_eq]
        refine ⟨?_, .str _, H, I.tok _, ⟨_, rfl⟩, q⟩
        have a5 : z.length * k.toNat ≤ 1 * 1000000 := Nat.mul_le_mul hz (by omega)
        have e3 : (repS z k.toNat).length = k.toNat * z.length := by
          simp [repS, Str.length]
        rw [e3, sizeLine_eq]
        rw [Nat.mul_comm] at a5
        omega
def rMulI : R2 := rI CMul fun i j => .int (i * j)
def rMulA : R2 := fun x y H Q => rMulI x y H Q ∨ rRepS x y H Q ∨ rRep x y H Q
theorem op_mulA {X : Cx} : OpR X (binaryOp .Mult) rMulA := OpR.or op_mul (OpR.or op_repS op_rep)
def rEqA (K : PySem.W.Frag) : R2 := fun x y H Q => rEq x y H Q ∨ rEqD K x y H Q
theorem op_eqA {X : Cx} (hu : X.A.units + 64 < cLine) : OpR X (compareOp .Eq) (rEqA X.K) := OpR.or op_eq (op_eqD hu)
def rNeA (K : PySem.W.Frag) : R2 := fun x y H Q => rNe x y H Q ∨ rNeD K x y H Q
theorem op_neA {X : Cx} (hu : X.A.units + 64 < cLine) : OpR X (compareOp .NotEq) (rNeA X.K) := OpR.or op_ne (op_neD hu)
def rInSgn : R2 := fun x y H Q => ∃ (c : Nat) (z : Str), x = .str ⟨#[c]⟩ ∧ y = .str z ∧ Q (.bl (decide (c ∈ z.cps.toList))) H
def rNInSgn : R2 := fun x y H Q => ∃ (c : Nat) (z : Str), x = .str ⟨#[c]⟩ ∧ y = .str z ∧ Q (.bl (!decide (c ∈ z.cps.toList))) H
def rInA (K : PySem.W.Frag) : R2 := fun x y H Q => rIn K false x y H Q ∨ rInSgn x y H Q
def rNInA (K : PySem.W.Frag) : R2 := fun x y H Q => rIn K true x y H Q ∨ rNInSgn x y H Q
theorem op_inA {X : Cx} : OpR X (compareOp .In) (rInA X.K) := OpR.or op_in_seq op_in_sign
theorem op_ninA {X : Cx} : OpR X (compareOp .NotIn) (rNInA X.K) := OpR.or op_notIn_seq op_notIn_sign
def rLenA (K : PySem.W.Frag) : List V → Hp → VK → Prop := fun xs H Q => ∃ x n, xs = [x] ∧ LenV K x H n ∧ Q (.int n) H
theorem call_lenA {X : Cx} : CallR X (.builtin "len") (rLenA X.K) := call_len
/-- isinstance(x, (c1, c2, ..)), whatever tuple it is -/
def rIsiS (K : PySem.W.Frag) : List V → Hp → VK → Prop := fun xs H Q => ∃ (x : V) (tp : Addr) (cs : List V) (t : Value) (us : List Value) (b : Bool), xs = [x, .ref tp] ∧ SqT K H tp cs ∧ Paired ClsV cs us ∧ TyX K H x t ∧ PySem.W.kitAny K t us = some b ∧ Q (.bl b) H
theorem call_isiS {X : Cx} : CallR X (.builtin "isinstance") (rIsiS X.K) := by
  intro pins s σ H xs us Q I r h
  obtain ⟨x, tp, cs, t, ws, b, rfl, hT, k, ty, e, q⟩ := h
  obtain ⟨u1, u2, rfl, r1, r2⟩ := vals2 r
  cases (show u2 = Value.ref tp from r2)
  obtain ⟨P, Z, p, hx⟩ := kit_of I r1 ty
  obtain ⟨its, rv, ⟨o, h1, h2, n, h3⟩, _⟩ := I.tuple hT
  have e3 := ClsV.all k rv
  subst e3
  obtain ⟨oc, od, dt, sl⟩ := o
  simp only at h2 h3
  subst h2 h3
  exact PySem.W.kia_tup Z I.kIn p h1 e hx fun tk => ⟨.bl b, H, I.tok tk, rfl, q⟩
def rIsiA (K : PySem.W.Frag) : List V → Hp → VK → Prop := fun xs H Q => rIsi K xs H Q ∨ rIsiS K xs H Q
theorem call_isiA {X : Cx} : CallR X (.builtin "isinstance") (rIsiA X.K) := CallR.or call_isi call_isiS
def rListA (K : PySem.W.Frag) : List V → Hp → VK → Prop := fun xs H Q => ∃ p ys, xs = [.ref p] ∧ (SqL K H p ys ∨ SqT K H p ys) ∧ ∀ l, H l = none → Q (.ref l) (upd H l (.lst ys))
theorem call_listA {X : Cx} : CallR X (.type "list") (rListA X.K) := call_list_of
def rTupA (K : PySem.W.Frag) : List V → Hp → VK → Prop := fun xs H Q => ∃ p ys, xs = [.ref p] ∧ ((SqL K H p ys ∧ ∀ l, H l = none → Q (.ref l) (upd H l (.tup ys))) ∨ (SqT K H p ys ∧ Q (.ref p) H))
theorem call_tupA {X : Cx} : CallR X (.type "tuple") (rTupA X.K) := call_tuple_of
def rInt1 : List V → Hp → VK → Prop := fun xs H Q => (∃ i, xs = [.int i] ∧ Q (.int i) H) ∨ ∃ k, xs = [.bl k] ∧ Q (.int (if k then 1 else 0)) H
theorem call_intA {X : Cx} : CallR X (.type "int") rInt1 := call_int1
def rSlA (K : PySem.W.Frag) : V → Option Int → Option Int → Hp → VK → Prop := fun x lo hi H Q => rSlS x lo hi H Q ∨ rSlL K x lo hi H Q ∨ rSlT K x lo hi H Q
theorem sl_A {X : Cx} : SlR X (rSlA X.K) := SlR.or sl_str (SlR.or sl_list sl_tup)
/-! methods of texts -/
def rSplit : V → List V → Hp → VK → Prop := fun x xs H Q => ∃ a b, x = .str a ∧ xs = [.str b] ∧ (b.length == 0) = false ∧ a.length + 2 ≤ sizeLine ∧ rNewStrs (Txt.split a b) H Q
theorem mt_splitA {X : Cx} : MtR X "str.split" rSplit := mt_split
def rJoin (K : PySem.W.Frag) : V → List V → Hp → VK → Prop := fun x xs H Q => ∃ a p, ∃ ys : List Str, x = .str a ∧ xs = [.ref p] ∧ (SqL K H p (ys.map V.str) ∨ SqT K H p (ys.map V.str)) ∧
      (ys.map (·.length)).sum + ys.length * a.length ≤ 16777216 ∧ Q (.str (Txt.join a ys)) H
theorem mt_joinA {X : Cx} : MtR X "str.join" (rJoin X.K) := mt_join
/-- a method of a text that gives a text -/
def rTxt (g : Str → Str → Str) : V → List V → Hp → VK → Prop := fun x xs H Q => ∃ a b, x = .str a ∧ xs = [.str b] ∧ a.length ≤ sizeLine ∧ Q (.str (g a b)) H
theorem mt_rstripA {X : Cx} : MtR X "str.rstrip" (rTxt Txt.rstripChars) := mt_rstripChars
theorem mt_lstripA {X : Cx} : MtR X "str.lstrip" (rTxt Txt.lstripChars) := mt_lstripChars
theorem mt_rmsufA {X : Cx} : MtR X "str.removesuffix" (rTxt Txt.removesuffix) := mt_removesuffix
theorem mt_rmpreA {X : Cx} : MtR X "str.removeprefix" (rTxt Txt.removeprefix) := mt_removeprefix
def rStarts : V → List V → Hp → VK → Prop := fun x xs H Q => ∃ a b, x = .str a ∧ xs = [.str b] ∧ Q (.bl (Txt.startswith a b)) H
theorem mt_startsA {X : Cx} : MtR X "str.startswith" rStarts := mt_startswith
/-- .append and .pop as their readings are -/
def rExtA : V → List V → Hp → VK → Prop := rExtend

/-! ### what D says of types -/
/-- what the written part says of a class for isinstance -/
structure InsTy (K : PySem.W.Frag) (C : Addr) : Prop where
  cl : Cls K C
  ha : PySem.W.findIn K (.ref C) "__class__" = some (some (.builtin "object.__class__"))
  hn : PySem.W.specialIn K (.builtin "object.__class__") "__get__" = some (some (.builtin "getset_descriptor.__get__"))
  htk : PySem.W.takesIn K (.builtin "object.__class__") = some true
  hm : PySem.W.mroIn K C (.type "object") = some true
inductive TyD (K : PySem.W.Frag) (m : Mem) : D → Value → Prop
  | non : TyD K m (.s .non) (.type "NoneType")
  | bl (b : Bool) : TyD K m (.s (.bl b)) (.type "bool")
  | int (i : Int) : TyD K m (.s (.int i)) (.type "int")
  | str (x : Str) : TyD K m (.s (.str x)) (.type "str")
  | lst (xs : List D) : TyD K m (.lst xs) (.type "list")
  | tup (xs : List D) : TyD K m (.tup xs) (.type "tuple")
  | dic (ks : List Key) (xs : List D) : TyD K m (.dic ks xs) (.type "dict")
  | ins {C : Addr} (h : InsTy K C) (ns : List Str) (xs : List D) : TyD K m (.ins C ns xs) (.ref C)
  | pl (ns : List Str) : TyD K m (.pl ns) (.type "tuple")
  | ownL {a : Addr} {xs : List D} (h : m.own a = some (.lst xs)) : TyD K m (.s (.ref a)) (.type "list")
  | ownD {a : Addr} {ks : List Key} {xs : List D} (h : m.own a = some (.dK ks xs)) : TyD K m (.s (.ref a)) (.type "dict")
  | ownI {a C : Addr} {ns : List Str} {xs : List D} (hc : InsTy K C) (h : m.own a = some (.ins C ns xs)) : TyD K m (.s (.ref a)) (.ref C)
section
variable {K : PySem.W.Frag} {B F Hb Hb' H H' : Hp} {m : Mem} {ρ : Env}
theorem TyD.at {x : D} {t : Value} {v : V} (h : TyD K m x t) (r : Rel K F Hb H m) (hx : Rp K Hb x v) : TyX K H v t := by
  cases h with
  | non => unfold Rp at hx; subst hx; exact .base .non
  | bl b => unfold Rp at hx; subst hx; exact .base (.bl b)
  | int i => unfold Rp at hx; subst hx; exact .base (.int i)
  | str x => unfold Rp at hx; subst hx; exact .base (.str x)
  | lst xs =>
    unfold Rp at hx
    obtain ⟨p, vs, rfl, h1, _⟩ := hx
    exact .base (.lst (r.sub _ _ h1))
  | tup xs =>
    unfold Rp at hx
    obtain ⟨p, vs, rfl, h1, _⟩ := hx
    rcases h1 with (h1 | ⟨o, h1⟩) | ⟨o, its, n, hk, hc, _⟩
    · exact .base (.tup (r.sub _ _ h1))
    · exact .fTuple (r.sub _ _ h1)
    · exact .kTuple hk hc
  | dic ks xs =>
    unfold Rp at hx
    obtain ⟨p, o, vs, rfl, h1, _⟩ := hx
    exact .fDict (r.sub _ _ h1)
  | ins h ns xs =>
    unfold Rp at hx
    obtain ⟨p, dx, vs, rfl, h1, _⟩ := hx
    exact .base (.ins (r.sub _ _ h1) h.cl h.ha h.hn h.htk h.hm)
  | pl ns =>
    unfold Rp at hx
    obtain ⟨p, rfl, h1⟩ := hx
    exact .base (.tup (r.sub _ _ h1))
  | ownL h =>
    unfold Rp at hx
    subst hx
    obtain ⟨_, vs, h1, _⟩ := r.own _ _ h
    exact .base (.lst h1)
  | ownD h =>
    unfold Rp at hx
    subst hx
    obtain ⟨_, vs, h1, _⟩ := r.own _ _ h
    exact .base (.dK h1)
  | ownI hc h =>
    unfold Rp at hx
    subst hx
    obtain ⟨_, dx, vs, h1, _⟩ := r.own _ _ h
    exact .base (.ins h1 hc.cl hc.ha hc.hn hc.htk hc.hm)

/-! ### plain data (for ==) -/
mutual
def pyD : D → Option PyData
  | .s .non => some .none
  | .s (.bl b) => some (.bool b)
  | .s (.int i) => some (.int i)
  | .s (.str x) => some (.str x)
  | .lst xs => (pyL xs).map .list
  | .tup xs => (pyL xs).map .tuple
  | .pl ns => some (.tuple (ns.map .str))
  | _ => none
def pyL : List D → Option (List PyData)
  | [] => some []
  | d :: ds => (pyD d).bind fun a => (pyL ds).map (a :: ·)
end
theorem dpAll_strs {H : Hp} : ∀ zs : List Str, DpAll K H (zs.map V.str) (zs.map PyData.str)
  | [] => .nil
  | z :: zs => .cons (.str z) (dpAll_strs zs)
mutual
theorem pyD_dp : ∀ (d : D) (v : V) (p : PyData), pyD d = some p → Rp K Hb d v → Same Hb H → Dp K H v p
  | .s .non, v, p, h, hx, e => by
    unfold pyD at h
    unfold Rp at hx
    cases h
    subst hx
    exact .non
  | .s (.bl b), v, p, h, hx, e => by
    unfold pyD at h
    unfold Rp at hx
    cases h
    subst hx
    exact .bl b
  | .s (.int i), v, p, h, hx, e => by
    unfold pyD at h
    unfold Rp at hx
    cases h
    subst hx
    exact .int i
  | .s (.str x), v, p, h, hx, e => by
    unfold pyD at h
    unfold Rp at hx
    cases h
    subst hx
    exact .str x
  | .s (.byt x), v, p, h, hx, e => by
    unfold pyD at h
    cases h
  | .s (.flt x), v, p, h, hx, e => by
    unfold pyD at h
    cases h
  | .s (.ref x), v, p, h, hx, e => by
    unfold pyD at h
    cases h
  | .s (.ty x), v, p, h, hx, e => by
    unfold pyD at h
    cases h
  | .lst xs, v, p, h, hx, e => by
    unfold pyD at h
    unfold Rp at hx
    cases hq : pyL xs with
    | none =>
      rw [hq] at h
      cases h
    | some ps =>
      rw [hq] at h
      cases h
      obtain ⟨a, vs, rfl, h1, h2⟩ := hx
      exact .lst (SqL.of (e _ _ h1)) (pyL_dp xs vs ps hq h2 e)
  | .tup xs, v, p, h, hx, e => by
    unfold pyD at h
    unfold Rp at hx
    cases hq : pyL xs with
    | none =>
      rw [hq] at h
      cases h
    | some ps =>
      rw [hq] at h
      cases h
      obtain ⟨a, vs, rfl, h1, h2⟩ := hx
      exact .tup (sameT e h1) (pyL_dp xs vs ps hq h2 e)
  | .dic ks xs, v, p, h, hx, e => by
    unfold pyD at h
    cases h
  | .ins C ns xs, v, p, h, hx, e => by
    unfold pyD at h
    cases h
  | .pl ns, v, p, h, hx, e => by
    unfold pyD at h
    unfold Rp at hx
    cases h
    obtain ⟨a, rfl, h1⟩ := hx
    exact .tup (sameT e (.inl (.inl h1))) (dpAll_strs ns)
theorem pyL_dp : ∀ (ds : List D) (vs : List V) (ps : List PyData), pyL ds = some ps → RpL K Hb ds vs → Same Hb H → DpAll K H vs ps
  | [], vs, ps, h, hx, e => by
    unfold pyL at h
    unfold RpL at hx
    cases h
    subst hx
    exact .nil
  | d :: ds, vs, ps, h, hx, e => by
    unfold pyL at h
    unfold RpL at hx
    obtain ⟨v, r, rfl, h1, h2⟩ := hx
    cases hq : pyD d with
    | none =>
      rw [hq] at h
      cases h
    | some a =>
      cases hq2 : pyL ds with
      | none =>
        rw [hq, hq2] at h
        cases h
      | some as =>
        rw [hq, hq2] at h
        cases h
        exact .cons (pyD_dp d v a hq h1 e) (pyL_dp ds r as hq2 h2 e)
end

/-! ### operators over data -/
theorem wo_addI {i j : Int} {Q : QD} (q : Q (.s (.int (i + j))) m) : WO K F B (rAddA K) (.s (.int i)) (.s (.int j)) m Q := fun Hb H vx vy R hB r hx hy k => by
  unfold Rp at hx hy
  exact .inl ⟨i, j, hx, hy, k.here r rp_s q⟩
theorem wo_addS {i j : Str} {Q : QD} (hl : i.length + j.length ≤ sizeLine) (q : Q (.s (.str (i ++ j))) m) : WO K F B (rAddA K) (.s (.str i)) (.s (.str j)) m Q := fun Hb H vx vy R hB r hx hy k => by
  unfold Rp at hx hy
  exact .inr (.inl ⟨i, j, hx, hy, hl, k.here r rp_s q⟩)
theorem wo_addL {xs ys : List D} {Q : QD} (hl : xs.length + ys.length ≤ sizeLine) (q : Q (.lst (xs ++ ys)) m) : WO K F B (rAddA K) (.lst xs) (.lst ys) m Q := fun Hb H vx vy R hB r hx hy k => by
  unfold Rp at hx hy
  obtain ⟨p, vs, rfl, h1, h2⟩ := hx
  obtain ⟨p', vs', rfl, h1', h2'⟩ := hy
  refine .inr (.inr (.inl ⟨p, p', vs, vs', rfl, rfl, r.sub _ _ h1, r.sub _ _ h1', by rw [h2.length, h2'.length]; exact hl, fun a ha => ?_⟩))
  have e := Same.new (o := .lst (vs ++ vs')) (r.fresh ha)
  refine k _ _ _ (.lst (xs ++ ys)) _ e (r.data ha) ?_ q
  unfold Rp
  exact ⟨a, _, rfl, upd_same, (h2.app h2').mono e⟩
theorem wo_addT {xs ys : List D} {Q : QD} (hx0 : xs ≠ []) (hl : xs.length + ys.length ≤ sizeLine) (q : Q (.tup (xs ++ ys)) m) : WO K F B (rAddA K) (.tup xs) (.tup ys) m Q := fun Hb H vx vy R hB r hx hy k => by
  unfold Rp at hx hy
  obtain ⟨p, vs, rfl, h1, h2⟩ := hx
  obtain ⟨p', vs', rfl, h1', h2'⟩ := hy
  have hl1 := h2.length
  have hl2 := h2'.length
  have hv : vs ≠ [] := fun z => by
    rw [z] at hl1
    exact hx0 (List.eq_nil_of_length_eq_zero hl1.symm)
  refine .inr (.inr (.inr ⟨p, p', vs, vs', rfl, rfl, sameT r.sub h1, sameT r.sub h1', hv, by rw [hl1, hl2]; exact hl, fun hn => ?_, fun _ a ha => ?_⟩))
  · have e : ys = [] := by
      apply List.eq_nil_of_length_eq_zero
      rw [← hl2, hn]
      rfl
    subst e
    rw [List.append_nil] at q
    refine k.here (d := .tup xs) r ?_ q
    unfold Rp
    exact ⟨p, vs, rfl, h1, h2⟩
  · have e := Same.new (o := .tup (vs ++ vs')) (r.fresh ha)
    refine k _ _ _ (.tup (xs ++ ys)) _ e (r.data ha) ?_ q
    unfold Rp
    exact ⟨a, _, rfl, SqT.of upd_same, (h2.app h2').mono e⟩
theorem wo_I0 {g : Int → Int → V} {i j : Int} {Q : QD} (q : Q (.s (g i j)) m) : WO K F B (rI0 g) (.s (.int i)) (.s (.int j)) m Q := fun Hb H vx vy R hB r hx hy k => by
  unfold Rp at hx hy
  exact ⟨i, j, hx, hy, k.here r rp_s q⟩
theorem wo_I {C : Int → Int → Prop} {g : Int → Int → V} {i j : Int} {Q : QD} (hc : C i j) (q : Q (.s (g i j)) m) : WO K F B (rI C g) (.s (.int i)) (.s (.int j)) m Q := fun Hb H vx vy R hB r hx hy k => by
  unfold Rp at hx hy
  exact ⟨i, j, hx, hy, hc, k.here r rp_s q⟩
theorem wo_mulI {i j : Int} {Q : QD} (hc : CMul i j) (q : Q (.s (.int (i * j))) m) : WO K F B rMulA (.s (.int i)) (.s (.int j)) m Q := fun Hb H vx vy R hB r hx hy k => by
  unfold Rp at hx hy
  exact .inl ⟨i, j, hx, hy, hc, k.here r rp_s q⟩
theorem wo_repS {z : Str} {n : Int} {Q : QD} (h1 : -(2 ^ 63) ≤ n) (h2 : n < 1000000) (hz : z.length ≤ 1) (q : Q (.s (.str (repS z n.toNat))) m) : WO K F B rMulA (.s (.str z)) (.s (.int n)) m Q := fun Hb H vx vy R hB r hx hy k => by
  unfold Rp at hx hy
  exact .inr (.inl ⟨z, n, hx, hy, h1, h2, hz, k.here r rp_s q⟩)
theorem rpL_rep {xs : List D} {vs : List V} (h : RpL K H xs vs) : ∀ n : Nat, RpL K H (List.replicate n xs).flatten (List.replicate n vs).flatten
  | 0 => RpL.nil
  | n + 1 => by
    rw [List.replicate_succ, List.replicate_succ, List.flatten_cons, List.flatten_cons]
    exact h.app (rpL_rep h n)
theorem wo_repL {xs : List D} {n : Int} {Q : QD} (h1 : -(2 ^ 63) ≤ n) (h2 : n < 2 ^ 63) (hz : xs.length * n.toNat ≤ sizeLine) (q : Q (.lst (List.replicate n.toNat xs).flatten) m) : WO K F B rMulA (.lst xs) (.s (.int n)) m Q := fun Hb H vx vy R hB r hx hy k => by
  unfold Rp at hx hy
  obtain ⟨p, vs, rfl, h3, h4⟩ := hx
  refine .inr (.inr ⟨p, n, vs, rfl, hy, r.sub _ _ h3, h1, h2, by rw [h4.length]; exact hz, fun a ha => ?_⟩)
  have e := Same.new (o := .lst (List.replicate n.toNat vs).flatten) (r.fresh ha)
  refine k _ _ _ (.lst (List.replicate n.toNat xs).flatten) _ e (r.data ha) ?_ q
  unfold Rp
  exact ⟨a, _, rfl, upd_same, (rpL_rep h4 _).mono e⟩
theorem wo_eqS {x y : V} {Q : QD} (h : scal x y = true) (q : Q (.s (.bl (decide (x = y)))) m) : WO K F B (rEqA K) (.s x) (.s y) m Q := fun Hb H vx vy R hB r hx hy k => by
  unfold Rp at hx hy
  subst hx hy
  exact .inl ⟨h, k.here r rp_s q⟩
theorem wo_neS {x y : V} {Q : QD} (h : scal x y = true) (q : Q (.s (.bl (!decide (x = y)))) m) : WO K F B (rNeA K) (.s x) (.s y) m Q := fun Hb H vx vy R hB r hx hy k => by
  unfold Rp at hx hy
  subst hx hy
  exact .inl ⟨h, k.here r rp_s q⟩
theorem wo_eqD {x y : D} {a b : PyData} {Q : QD} (ha : pyD x = some a) (hb : pyD y = some b) (sa : SeqAt.shaped a = true) (sb : SeqAt.shaped b = true) (q : Q (.s (.bl (PyData.eqv a b))) m) : WO K F B (rEqA K) x y m Q := fun Hb H vx vy R hB r hx hy k =>
  .inr ⟨a, b, pyD_dp x vx a ha hx r.sub, pyD_dp y vy b hb hy r.sub, sa, sb, k.here r rp_s q⟩
theorem wo_neD {x y : D} {a b : PyData} {Q : QD} (ha : pyD x = some a) (hb : pyD y = some b) (sa : SeqAt.shaped a = true) (sb : SeqAt.shaped b = true) (q : Q (.s (.bl (!PyData.eqv a b))) m) : WO K F B (rNeA K) x y m Q := fun Hb H vx vy R hB r hx hy k =>
  .inr ⟨a, b, pyD_dp x vx a ha hx r.sub, pyD_dp y vy b hb hy r.sub, sa, sb, k.here r rp_s q⟩
/-- x in xs, both flat -/
theorem wo_inL {x : V} {xs : List V} {Q : QD} (hx0 : flatV x = true) (hf : xs.all flatV = true) (q : Q (.s (.bl (inV x xs))) m) : WO K F B (rInA K) (.s x) (.lst (xs.map D.s)) m Q := fun Hb H vx vy R hB r hx hy k => by
  unfold Rp at hx hy
  subst hx
  obtain ⟨p, vs, rfl, h1, h2⟩ := hy
  have e := h2.scal
  subst e
  exact .inl ⟨p, _, rfl, .inl (SqL.of (r.sub _ _ h1)), hx0, hf, k.here r rp_s q⟩
theorem wo_inT {x : V} {xs : List V} {Q : QD} (hx0 : flatV x = true) (hf : xs.all flatV = true) (q : Q (.s (.bl (inV x xs))) m) : WO K F B (rInA K) (.s x) (.tup (xs.map D.s)) m Q := fun Hb H vx vy R hB r hx hy k => by
  unfold Rp at hx hy
  subst hx
  obtain ⟨p, vs, rfl, h1, h2⟩ := hy
  have e := h2.scal
  subst e
  exact .inl ⟨p, _, rfl, .inr (sameT r.sub h1), hx0, hf, k.here r rp_s q⟩
theorem wo_ninL {x : V} {xs : List V} {Q : QD} (hx0 : flatV x = true) (hf : xs.all flatV = true) (q : Q (.s (.bl (!inV x xs))) m) : WO K F B (rNInA K) (.s x) (.lst (xs.map D.s)) m Q := fun Hb H vx vy R hB r hx hy k => by
  unfold Rp at hx hy
  subst hx
  obtain ⟨p, vs, rfl, h1, h2⟩ := hy
  have e := h2.scal
  subst e
  exact .inl ⟨p, _, rfl, .inl (SqL.of (r.sub _ _ h1)), hx0, hf, k.here r rp_s q⟩
theorem wo_ninT {x : V} {xs : List V} {Q : QD} (hx0 : flatV x = true) (hf : xs.all flatV = true) (q : Q (.s (.bl (!inV x xs))) m) : WO K F B (rNInA K) (.s x) (.tup (xs.map D.s)) m Q := fun Hb H vx vy R hB r hx hy k => by
  unfold Rp at hx hy
  subst hx
  obtain ⟨p, vs, rfl, h1, h2⟩ := hy
  have e := h2.scal
  subst e
  exact .inl ⟨p, _, rfl, .inr (sameT r.sub h1), hx0, hf, k.here r rp_s q⟩
theorem wo_inC {c : Nat} {z : Str} {Q : QD} (q : Q (.s (.bl (decide (c ∈ z.cps.toList)))) m) : WO K F B (rInA K) (.s (.str ⟨#[c]⟩)) (.s (.str z)) m Q := fun Hb H vx vy R hB r hx hy k => by
  unfold Rp at hx hy
  exact .inr ⟨c, z, hx, hy, k.here r rp_s q⟩
theorem wo_ninO {x : V} {a : Addr} {xs : List V} {Q : QD} (ho : m.own a = some (.lst (xs.map D.s))) (hx0 : flatV x = true) (hf : xs.all flatV = true) (q : Q (.s (.bl (!inV x xs))) m) : WO K F B (rNInA K) (.s x) (.s (.ref a)) m Q := fun Hb H vx vy R hB r hx hy k => by
  unfold Rp at hx hy
  subst hx hy
  obtain ⟨_, vs, h1, h2⟩ := r.own _ _ ho
  have e := h2.scal
  subst e
  exact .inl ⟨a, _, rfl, .inl (SqL.of h1), hx0, hf, k.here r rp_s q⟩
theorem wo_isN {x : V} {Q : QD} (q : Q (.s (.bl (decide (x = .non)))) m) : WO K F B rIsN (.s x) (.s .non) m Q := fun Hb H vx vy R hB r hx hy k => by
  unfold Rp at hx hy
  subst hx hy
  exact ⟨rfl, k.here r rp_s q⟩
theorem wo_notN {x : V} {Q : QD} (q : Q (.s (.bl (!decide (x = .non)))) m) : WO K F B rNotN (.s x) (.s .non) m Q := fun Hb H vx vy R hB r hx hy k => by
  unfold Rp at hx hy
  subst hx hy
  exact ⟨rfl, k.here r rp_s q⟩
theorem wo_isB {a b : Bool} {Q : QD} (q : Q (.s (.bl (decide (a = b)))) m) : WO K F B rIsB (.s (.bl a)) (.s (.bl b)) m Q := fun Hb H vx vy R hB r hx hy k => by
  unfold Rp at hx hy
  exact ⟨a, b, hx, hy, k.here r rp_s q⟩
theorem wu_neg {i : Int} {Q : QD} (q : Q (.s (.int (-i))) m) : WU K F B rNeg (.s (.int i)) m Q := fun Hb H vx R hB r hx k => by
  unfold Rp at hx
  exact ⟨i, hx, k.here r rp_s q⟩
theorem we_chain {r1 r2 : R2} {ta tb tc : TE} {Q : QD} (h : WE K F B ta ρ m fun x m1 => WE K F B tb ρ m1 fun y m2 => WO K F B r1 x y m2 fun z m3 => ∃ b, z = .s (.bl b) ∧ (b = true → WE K F B tc ρ m3 fun u m4 => WO K F B r2 y u m4 Q) ∧ (b = false → Q (.s (.bl false)) m3)) :
    WE K F B (tChain r1 r2 ta tb tc) ρ m Q := fun Hb H σ R hB r hs k =>
  h Hb H σ _ hB r hs fun v H1 Hb1 x m1 e1 r1' hx q1 => q1 Hb1 H1 σ _ (hB.trans e1) r1' (hs.mono e1) fun u H2 Hb2 y m2 e2 r2' hy q2 =>
    q2 Hb2 H2 v u _ ((hB.trans e1).trans e2) r2' (hx.mono e2) hy fun z H3 Hb3 d m3 e3 r3' hz q3 => by
      obtain ⟨b, rfl, qt, qf⟩ := q3
      unfold Rp at hz
      refine ⟨b, hz, ?_⟩
      have e123 := (e1.trans e2).trans e3
      cases b with
      | true => exact iteT (qt rfl Hb3 H3 σ _ (hB.trans e123) r3' (hs.mono e123) fun w H4 Hb4 d4 m4 e4 r4' hw q4 => q4 Hb4 H4 u w R ((hB.trans e123).trans e4) r4' (hy.mono (e3.trans e4)) hw (k.mono (e123.trans e4)))
      | false => exact iteF (k _ _ _ _ _ e123 r3' rp_s (qf rfl))
/-- an item of an owned list, of a list, a tuple, a text -/
theorem wo_ixL {xs : List D} {i : Int} {d : D} {Q : QD} (h : atI xs i = some d) (q : Q d m) : WO K F B (rIx K) (.lst xs) (.s (.int i)) m Q := fun Hb H vx vy R hB r hx hy k => by
  unfold Rp at hx hy
  obtain ⟨p, vs, rfl, h1, h2⟩ := hx
  unfold atI at h
  cases hj : ixN xs.length i with
  | none =>
    rw [hj] at h
    cases h
  | some j =>
    rw [hj] at h
    obtain ⟨u, hu, ru⟩ := h2.get h
    refine .inl ⟨p, vs, i, u, rfl, hy, SqL.of (r.sub _ _ h1), ?_, k.here r ru q⟩
    unfold atI
    rw [h2.length, hj]
    exact hu
theorem wo_ixT {xs : List D} {i : Int} {d : D} {Q : QD} (h : atI xs i = some d) (q : Q d m) : WO K F B (rIx K) (.tup xs) (.s (.int i)) m Q := fun Hb H vx vy R hB r hx hy k => by
  unfold Rp at hx hy
  obtain ⟨p, vs, rfl, h1, h2⟩ := hx
  unfold atI at h
  cases hj : ixN xs.length i with
  | none =>
    rw [hj] at h
    cases h
  | some j =>
    rw [hj] at h
    obtain ⟨u, hu, ru⟩ := h2.get h
    refine .inr (.inl ⟨p, vs, i, u, rfl, hy, sameT r.sub h1, ?_, k.here r ru q⟩)
    unfold atI
    rw [h2.length, hj]
    exact hu
theorem wo_ixS {z : Str} {i : Int} {c : Nat} {Q : QD} (hz : z.length ≤ sizeLine) (h : atI z.cps.toList i = some c) (q : Q (.s (.str ⟨#[c]⟩)) m) : WO K F B (rIx K) (.s (.str z)) (.s (.int i)) m Q := fun Hb H vx vy R hB r hx hy k => by
  unfold Rp at hx hy
  exact .inr (.inr ⟨z, i, c, hx, hy, hz, h, k.here r rp_s q⟩)
theorem wo_ixO {a : Addr} {xs : List D} {i : Int} {d : D} {Q : QD} (ho : m.own a = some (.lst xs)) (h : atI xs i = some d) (q : Q d m) : WO K F B (rIx K) (.s (.ref a)) (.s (.int i)) m Q := fun Hb H vx vy R hB r hx hy k => by
  unfold Rp at hx hy
  subst hx
  obtain ⟨_, vs, h1, h2⟩ := r.own _ _ ho
  unfold atI at h
  cases hj : ixN xs.length i with
  | none =>
    rw [hj] at h
    cases h
  | some j =>
    rw [hj] at h
    obtain ⟨u, hu, ru⟩ := h2.get h
    refine .inl ⟨a, vs, i, u, rfl, hy, SqL.of h1, ?_, k.here r ru q⟩
    unfold atI
    rw [h2.length, hj]
    exact hu
/-! slices -/
def WSl (K : PySem.W.Frag) (F B : Hp) (r : V → Option Int → Option Int → Hp → VK → Prop) (x : D) (lo hi : Option Int) (m : Mem) (Q : QD) : Prop := ∀ Hb H vx R, Same B Hb → Rel K F Hb H m → Rp K Hb x vx → OkV K F Hb Q R → r vx lo hi H R
def WPt (K : PySem.W.Frag) (F B : Hp) (t : TO) (ρ : Env) (m : Mem) (Q : Option Int → Mem → Prop) : Prop := ∀ Hb H σ (R : Option Int → Hp → Prop), Same B Hb → Rel K F Hb H m → RpS K Hb ρ σ → (∀ o H' Hb' m', Same Hb Hb' → Rel K F Hb' H' m' → Q o m' → R o H') → t σ H R
theorem wpt_no {Q : Option Int → Mem → Prop} (q : Q none m) : WPt K F B tNoPart ρ m Q := fun Hb H σ R hB r hs k => k _ _ _ _ (Same.refl _) r q
theorem wpt_some {te : TE} {Q : Option Int → Mem → Prop} (h : WE K F B te ρ m fun x m1 => ∃ i, x = .s (.int i) ∧ Q (some i) m1) : WPt K F B (tPart te) ρ m Q := fun Hb H σ R hB r hs k =>
  h Hb H σ _ hB r hs fun v H1 Hb1 x m1 e1 r1 hx q1 => by
    obtain ⟨i, rfl, q⟩ := q1
    unfold Rp at hx
    exact ⟨i, hx, k _ _ _ _ e1 r1 q⟩
theorem we_sl {r : V → Option Int → Option Int → Hp → VK → Prop} {te : TE} {tl th : TO} {Q : QD} (h : WE K F B te ρ m fun x m1 => WPt K F B tl ρ m1 fun lo m2 => WPt K F B th ρ m2 fun hi m3 => WSl K F B r x lo hi m3 Q) : WE K F B (tSl r te tl th) ρ m Q := fun Hb H σ R hB r hs k =>
  h Hb H σ _ hB r hs fun v H1 Hb1 x m1 e1 r1 hx q1 => q1 Hb1 H1 σ _ (hB.trans e1) r1 (hs.mono e1) fun lo H2 Hb2 m2 e2 r2 q2 => q2 Hb2 H2 σ _ ((hB.trans e1).trans e2) r2 (hs.mono (e1.trans e2)) fun hi H3 Hb3 m3 e3 r3 q3 =>
    q3 Hb3 H3 v R (((hB.trans e1).trans e2).trans e3) r3 (hx.mono (e2.trans e3)) (k.mono ((e1.trans e2).trans e3))
def cutD (xs : List D) (lo hi : Option Int) : List D := (xs.drop (HT.sIx xs.length 0 lo)).take (HT.sIx xs.length xs.length hi - HT.sIx xs.length 0 lo)
theorem wsl_L {xs : List D} {lo hi : Option Int} {Q : QD} (q : Q (.lst (cutD xs lo hi)) m) : WSl K F B (rSlA K) (.lst xs) lo hi m Q := fun Hb H vx R hB r hx k => by
  unfold Rp at hx
  obtain ⟨p, vs, rfl, h1, h2⟩ := hx
  refine .inr (.inl ⟨p, vs, rfl, SqL.of (r.sub _ _ h1), fun a ha => ?_⟩)
  have e := Same.new (o := .lst (cutV vs lo hi)) (r.fresh ha)
  refine k _ _ _ (.lst (cutD xs lo hi)) _ e (r.data ha) ?_ q
  have z : RpL K Hb (cutD xs lo hi) (cutV vs lo hi) := by
    unfold cutV cutD
    rw [h2.length]
    exact (h2.drop _).take _
  unfold Rp
  exact ⟨a, _, rfl, upd_same, z.mono e⟩
theorem wsl_S {z : Str} {lo hi : Option Int} {Q : QD} (hz : z.length ≤ sizeLine) (q : Q (.s (.str (cutS z lo hi))) m) : WSl K F B (rSlA K) (.s (.str z)) lo hi m Q := fun Hb H vx R hB r hx k => by
  unfold Rp at hx
  exact .inl ⟨z, hx, hz, k.here r rp_s q⟩

/-! ### built-ins over data -/
def lenD (m : Mem) : D → Nat → Prop
  | .s (.str z), n => z.length ≤ sizeLine ∧ n = z.length
  | .lst xs, n => n = xs.length
  | .tup xs, n => n = xs.length
  | .s (.ref a), n => ∃ xs, m.own a = some (.lst xs) ∧ n = xs.length
  | .pl ns, n => n = ns.length
  | _, _ => False
theorem wc_len {x : D} {n : Nat} {Q : QD} (h : lenD m x n) (q : Q (.s (.int (n : Int))) m) : WC K F B (rLenA K) [x] m Q := fun Hb H vs R hB r hx k => by
  unfold RpL at hx
  obtain ⟨v, us, rfl, hv, hu⟩ := hx
  unfold RpL at hu
  subst hu
  refine ⟨v, n, rfl, ?_, k.here r rp_s q⟩
  cases x with
  | s w =>
    unfold Rp at hv
    subst hv
    cases v with
    | str z => exact ⟨h.1, h.2⟩
    | ref a =>
      obtain ⟨xs, ho, rfl⟩ := h
      obtain ⟨_, vs, h1, h2⟩ := r.own _ _ ho
      exact .inl ⟨vs, SqL.of h1, h2.length.symm⟩
    | _ => exact h.elim
  | lst xs =>
    unfold Rp at hv
    obtain ⟨p, vs, rfl, h1, h2⟩ := hv
    have e : n = xs.length := h
    subst e
    exact .inl ⟨vs, SqL.of (r.sub _ _ h1), h2.length.symm⟩
  | tup xs =>
    unfold Rp at hv
    obtain ⟨p, vs, rfl, h1, h2⟩ := hv
    have e : n = xs.length := h
    subst e
    exact .inr ⟨vs, sameT r.sub h1, h2.length.symm⟩
  | pl ns =>
    unfold Rp at hv
    obtain ⟨p, rfl, h1⟩ := hv
    have e : n = ns.length := h
    subst e
    exact .inr ⟨_, .inl (.inl (r.sub _ _ h1)), (List.length_map _).symm⟩
  | dic ks xs => exact h.elim
  | ins C ns xs => exact h.elim
theorem wc_int {i : Int} {Q : QD} (q : Q (.s (.int i)) m) : WC K F B rInt1 [.s (.int i)] m Q := fun Hb H vs R hB r hx k => by
  have e : vs = [.int i] := RpL.scal (vs := [.int i]) hx
  subst e
  exact .inl ⟨i, rfl, k.here r rp_s q⟩
theorem rpL1 {x : D} {vs : List V} (h : RpL K H [x] vs) : ∃ v, vs = [v] ∧ Rp K H x v := by
  unfold RpL at h
  obtain ⟨v, us, rfl, hv, hu⟩ := h
  unfold RpL at hu
  subst hu
  exact ⟨v, rfl, hv⟩
theorem rpL2 {x y : D} {vs : List V} (h : RpL K H [x, y] vs) : ∃ v u, vs = [v, u] ∧ Rp K H x v ∧ Rp K H y u := by
  unfold RpL at h
  obtain ⟨v, us, rfl, hv, hu⟩ := h
  obtain ⟨u, rfl, h2⟩ := rpL1 hu
  exact ⟨v, u, rfl, hv, h2⟩
theorem wc_all {bs : List Bool} {Q : QD} (q : Q (.s (.bl (bs.all id))) m) : WC K F B (rAll K) [.lst (bs.map fun b => .s (.bl b))] m Q := fun Hb H vs R hB r hx k => by
  obtain ⟨v, rfl, hv⟩ := rpL1 hx
  unfold Rp at hv
  obtain ⟨p, vs, rfl, h1, h2⟩ := hv
  have e : vs = bs.map V.bl := RpL.scal (vs := bs.map V.bl) (by rw [List.map_map]; exact h2)
  subst e
  exact ⟨p, bs, rfl, SqL.of (r.sub _ _ h1), k.here r rp_s q⟩
theorem wc_any {bs : List Bool} {Q : QD} (q : Q (.s (.bl (bs.any id))) m) : WC K F B (rAny K) [.lst (bs.map fun b => .s (.bl b))] m Q := fun Hb H vs R hB r hx k => by
  obtain ⟨v, rfl, hv⟩ := rpL1 hx
  unfold Rp at hv
  obtain ⟨p, vs, rfl, h1, h2⟩ := hv
  have e : vs = bs.map V.bl := RpL.scal (vs := bs.map V.bl) (by rw [List.map_map]; exact h2)
  subst e
  exact ⟨p, bs, rfl, SqL.of (r.sub _ _ h1), k.here r rp_s q⟩
/-- the class of a class name's value -/
def clsD : D → Option Value
  | .s (.ty n) => some (.type n)
  | .s (.ref C) => some (.ref C)
  | _ => none
theorem clsD_of {c : D} {u : Value} {v : V} (h : clsD c = some u) (hv : Rp K H c v) : ClsV v u := by
  cases c with
  | s w =>
    unfold Rp at hv
    subst hv
    cases v with
    | ty n =>
      cases h
      exact .ty n
    | ref C =>
      cases h
      exact .own C
    | _ => cases h
  | _ => cases h
theorem wc_isi {x c : D} {t u : Value} {b : Bool} {Q : QD} (ht : TyD K m x t) (hc : clsD c = some u) (hk : PySem.W.kitOne K t u = some b) (q : Q (.s (.bl b)) m) : WC K F B (rIsiA K) [x, c] m Q := fun Hb H vs R hB r hx k => by
  obtain ⟨v, w, rfl, hv, hw⟩ := rpL2 hx
  exact .inl ⟨v, w, t, u, b, rfl, clsD_of hc hw, ht.at r hv, hk, k.here r rp_s q⟩
theorem clsL_of : ∀ {cs : List D} {us : List Value} {vs : List V}, cs.map clsD = us.map some → RpL K H cs vs → Paired ClsV vs us
  | [], us, vs, h, hx => by
    unfold RpL at hx
    subst hx
    cases us with
    | nil => exact .nil
    | cons u us => cases h
  | c :: cs, us, vs, h, hx => by
    unfold RpL at hx
    obtain ⟨v, r, rfl, h1, h2⟩ := hx
    cases us with
    | nil => cases h
    | cons u us =>
      rw [List.map_cons, List.map_cons] at h
      injection h with a b
      exact .cons (clsD_of a h1) (clsL_of b h2)
theorem wc_isiT {x : D} {cs : List D} {t : Value} {us : List Value} {b : Bool} {Q : QD} (ht : TyD K m x t) (hc : cs.map clsD = us.map some) (hk : PySem.W.kitAny K t us = some b) (q : Q (.s (.bl b)) m) : WC K F B (rIsiA K) [x, .tup cs] m Q := fun Hb H vs R hB r hx k => by
  obtain ⟨v, w, rfl, hv, hw⟩ := rpL2 hx
  unfold Rp at hw
  obtain ⟨p, ws, rfl, h1, h2⟩ := hw
  exact .inr ⟨v, p, ws, t, us, b, rfl, sameT r.sub h1, clsL_of hc h2, ht.at r hv, hk, k.here r rp_s q⟩
theorem wc_listL {xs : List D} {Q : QD} (q : Q (.lst xs) m) : WC K F B (rListA K) [.lst xs] m Q := fun Hb H vs R hB r hx k => by
  obtain ⟨v, rfl, hv⟩ := rpL1 hx
  unfold Rp at hv
  obtain ⟨p, vs, rfl, h1, h2⟩ := hv
  refine ⟨p, vs, rfl, .inl (SqL.of (r.sub _ _ h1)), fun a ha => ?_⟩
  have e := Same.new (o := .lst vs) (r.fresh ha)
  refine k _ _ _ (.lst xs) _ e (r.data ha) ?_ q
  unfold Rp
  exact ⟨a, _, rfl, upd_same, h2.mono e⟩
theorem wc_listT {xs : List D} {Q : QD} (q : Q (.lst xs) m) : WC K F B (rListA K) [.tup xs] m Q := fun Hb H vs R hB r hx k => by
  obtain ⟨v, rfl, hv⟩ := rpL1 hx
  unfold Rp at hv
  obtain ⟨p, vs, rfl, h1, h2⟩ := hv
  refine ⟨p, vs, rfl, .inr (sameT r.sub h1), fun a ha => ?_⟩
  have e := Same.new (o := .lst vs) (r.fresh ha)
  refine k _ _ _ (.lst xs) _ e (r.data ha) ?_ q
  unfold Rp
  exact ⟨a, _, rfl, upd_same, h2.mono e⟩
/-- .. a list that is owned -/
theorem wc_listO {xs : List D} {Q : QD} (q : ∀ a, m.own a = none → Q (.s (.ref a)) { m with own := putM m.own a (.lst xs) }) : WC K F B (rListA K) [.lst xs] m Q := fun Hb H vs R hB r hx k => by
  obtain ⟨v, rfl, hv⟩ := rpL1 hx
  unfold Rp at hv
  obtain ⟨p, vs, rfl, h1, h2⟩ := hv
  refine ⟨p, vs, rfl, .inl (SqL.of (r.sub _ _ h1)), fun a ha => ?_⟩
  exact k _ _ _ _ _ (Same.refl _) (r.owned (mo := .lst xs) ha ⟨vs, upd_same, h2⟩) rp_s (q a (r.free ha))
theorem wc_tupL {xs : List D} {Q : QD} (q : Q (.tup xs) m) : WC K F B (rTupA K) [.lst xs] m Q := fun Hb H vs R hB r hx k => by
  obtain ⟨v, rfl, hv⟩ := rpL1 hx
  unfold Rp at hv
  obtain ⟨p, vs, rfl, h1, h2⟩ := hv
  refine ⟨p, vs, rfl, .inl ⟨SqL.of (r.sub _ _ h1), fun a ha => ?_⟩⟩
  have e := Same.new (o := .tup vs) (r.fresh ha)
  refine k _ _ _ (.tup xs) _ e (r.data ha) ?_ q
  unfold Rp
  exact ⟨a, _, rfl, SqT.of upd_same, h2.mono e⟩
theorem wc_tupT {xs : List D} {Q : QD} (q : Q (.tup xs) m) : WC K F B (rTupA K) [.tup xs] m Q := fun Hb H vs R hB r hx k => by
  obtain ⟨v, rfl, hv⟩ := rpL1 hx
  have hv' := hv
  unfold Rp at hv'
  obtain ⟨p, vs, rfl, h1, h2⟩ := hv'
  exact ⟨p, vs, rfl, .inr ⟨sameT r.sub h1, k.here r hv q⟩⟩

/-! ### methods over data -/
def WM (K : PySem.W.Frag) (F B : Hp) (r : V → List V → Hp → VK → Prop) (x : D) (xs : List D) (m : Mem) (Q : QD) : Prop := ∀ Hb H vx vs R, Same B Hb → Rel K F Hb H m → Rp K Hb x vx → RpL K Hb xs vs → OkV K F Hb Q R → r vx vs H R
theorem we_m1 {r : V → List V → Hp → VK → Prop} {to te : TE} {Q : QD} (h : WE K F B to ρ m fun x m1 => (∃ z, x = .s (.str z)) ∧ WE K F B te ρ m1 fun y m2 => WM K F B r x [y] m2 Q) : WE K F B (tM1 r to te) ρ m Q := fun Hb H σ R hB r hs k =>
  h Hb H σ _ hB r hs fun v H1 Hb1 x m1 e1 r1 hx q1 => by
    obtain ⟨⟨z, rfl⟩, q⟩ := q1
    have hx' := hx
    unfold Rp at hx'
    exact ⟨⟨z, hx'⟩, q Hb1 H1 σ _ (hB.trans e1) r1 (hs.mono e1) fun u H2 Hb2 y m2 e2 r2 hy q2 => q2 Hb2 H2 v [u] R ((hB.trans e1).trans e2) r2 (hx.mono e2) (RpL.cons hy RpL.nil) (k.mono (e1.trans e2))⟩
theorem rp_strs {p : Addr} {ys : List Str} (h : H p = some (.lst (ys.map V.str))) : Rp K H (.lst (ys.map fun y => .s (.str y))) (.ref p) := by
  unfold Rp
  refine ⟨p, _, rfl, h, ?_⟩
  have e := RpL.ofScal (K := K) (H := H) (ys.map V.str)
  rw [List.map_map] at e
  exact e
theorem strs_rp {v : V} {ys : List Str} (h : Rp K H (.lst (ys.map fun y => .s (.str y))) v) : ∃ p, v = .ref p ∧ H p = some (.lst (ys.map V.str)) := by
  unfold Rp at h
  obtain ⟨p, vs, rfl, h1, h2⟩ := h
  have e : vs = ys.map V.str := RpL.scal (vs := ys.map V.str) (by rw [List.map_map]; exact h2)
  subst e
  exact ⟨p, rfl, h1⟩
theorem wm_split {a b : Str} {Q : QD} (hb : (b.length == 0) = false) (ha : a.length + 2 ≤ sizeLine) (q : Q (.lst ((Txt.split a b).map fun y => .s (.str y))) m) : WM K F B rSplit (.s (.str a)) [.s (.str b)] m Q := fun Hb H vx vs R hB r hx hxs k => by
  obtain ⟨v, rfl, hv⟩ := rpL1 hxs
  unfold Rp at hx hv
  subst hx hv
  refine ⟨a, b, rfl, rfl, hb, ha, fun p hp => ?_⟩
  exact k _ _ _ _ _ (Same.new (r.fresh hp)) (r.data hp) (rp_strs upd_same) q
theorem wm_join {a : Str} {ys : List Str} {Q : QD} (hl : (ys.map (·.length)).sum + ys.length * a.length ≤ 16777216) (q : Q (.s (.str (Txt.join a ys))) m) : WM K F B (rJoin K) (.s (.str a)) [.lst (ys.map fun y => .s (.str y))] m Q := fun Hb H vx vs R hB r hx hxs k => by
  obtain ⟨v, rfl, hv⟩ := rpL1 hxs
  unfold Rp at hx
  subst hx
  obtain ⟨p, rfl, h1⟩ := strs_rp hv
  exact ⟨a, p, ys, rfl, rfl, .inl (SqL.of (r.sub _ _ h1)), hl, k.here r rp_s q⟩
theorem wm_txt {g : Str → Str → Str} {a b : Str} {Q : QD} (ha : a.length ≤ sizeLine) (q : Q (.s (.str (g a b))) m) : WM K F B (rTxt g) (.s (.str a)) [.s (.str b)] m Q := fun Hb H vx vs R hB r hx hxs k => by
  obtain ⟨v, rfl, hv⟩ := rpL1 hxs
  unfold Rp at hx hv
  subst hx hv
  exact ⟨a, b, rfl, rfl, ha, k.here r rp_s q⟩
/-- xs.append(e), xs an owned list -/
theorem we_append {to te : TE} {Q : QD} (h : WE K F B to ρ m fun x m1 => ∃ a, x = .s (.ref a) ∧ (∃ xs, m1.own a = some (.lst xs)) ∧ WE K F B te ρ m1 fun y m2 => ∃ xs, m2.own a = some (.lst xs) ∧ xs.length < sizeLine ∧ Q (.s .non) { m2 with own := putM m2.own a (.lst (xs ++ [y])) }) :
    WE K F B (tBM K "list" rAppend to (tCons te tNil)) ρ m Q := fun Hb H σ R hB r hs k =>
  h Hb H σ _ hB r hs fun v H1 Hb1 x m1 e1 r1 hx q1 => by
    obtain ⟨a, rfl, ⟨xs0, ho0⟩, q⟩ := q1
    unfold Rp at hx
    subst hx
    obtain ⟨_, vs0, h0, _⟩ := r1.own _ _ ho0
    refine ⟨.inl ⟨rfl, _, SqL.of h0⟩, q Hb1 H1 σ _ (hB.trans e1) r1 (hs.mono e1) fun u H2 Hb2 y m2 e2 r2 hy q2 => ?_⟩
    obtain ⟨xs, ho, hl, q3⟩ := q2
    obtain ⟨_, vs, h1, h2⟩ := r2.own _ _ ho
    exact ⟨a, vs, u, rfl, rfl, h1, by rw [h2.length]; exact hl, k _ _ _ _ _ (e1.trans e2) (r2.change (mo' := .lst (xs ++ [y])) ho ⟨_, upd_same, h2.app (RpL.cons hy RpL.nil)⟩) rp_s q3⟩
/-- an owned list becomes data -/
theorem we_freeze {te : TE} {Q : QD} (h : WE K F B te ρ m fun x m1 => ∃ a xs, x = .s (.ref a) ∧ m1.own a = some (.lst xs) ∧ Q (.lst xs) { m1 with own := dropM m1.own a }) : WE K F B te ρ m Q := fun Hb H σ R hB r hs k =>
  h Hb H σ _ hB r hs fun v H1 Hb1 x m1 e1 r1 hx q1 => by
    obtain ⟨a, xs, rfl, ho, q⟩ := q1
    unfold Rp at hx
    subst hx
    obtain ⟨hn, vs, h1, h2⟩ := r1.own _ _ ho
    have e4 : Same Hb1 (upd Hb1 a (.lst vs)) := Same.new hn
    refine k _ _ _ (.lst xs) _ (e1.trans e4) (r1.freeze ho h1) ?_ q
    unfold Rp
    exact ⟨a, vs, rfl, upd_same, h2.mono e4⟩
end
end DD

/-! DText: texts of paths as lists of codes. -/
namespace DT
open PySem L2
open TL

/-- the pieces between bars -/
def pcs : List Nat → List (List Nat)
  | [] => [[]]
  | c :: r => if c = 47 then [] :: pcs r else (c :: (pcs r).headD []) :: (pcs r).tail
theorem pcs_bar (r : List Nat) : pcs (47 :: r) = [] :: pcs r := if_pos rfl
theorem pcs_cons {c : Nat} (r : List Nat) (h : c ≠ 47) : pcs (c :: r) = (c :: (pcs r).headD []) :: (pcs r).tail := if_neg h
theorem pcs_ne : ∀ l : List Nat, pcs l ≠ []
  | [] => by simp [pcs]
  | c :: r => by
    unfold pcs
    split <;> simp
theorem pcs_head (l : List Nat) : (pcs l).headD [] :: (pcs l).tail = pcs l := by
  cases h : pcs l with
  | nil => exact absurd h (pcs_ne l)
  | cons a b => rfl
theorem spl_pcs : ∀ (l acc : List Nat), spl [47] 0 acc l = (acc ++ (pcs l).headD []) :: (pcs l).tail
  | [], acc => by
    rw [spl_nil]
    simp [pcs]
  | c :: r, acc => by
    by_cases hc : c = 47
    · subst hc
      have hp : pre [47] (47 :: r) = true := by simp [pre]
      rw [spl_hit hp]
      unfold pcs
      rw [if_pos rfl]
      simp only [List.headD_cons, List.tail_cons, List.append_nil]
      have e := spl_pcs r []
      rw [List.nil_append, pcs_head] at e
      exact congrArg (acc :: ·) e
    · have hp : pre [47] (c :: r) = false := pre_of_head [] r hc
      rw [spl_miss hp, spl_pcs r, pcs_cons r hc]
      simp only [List.headD_cons, List.tail_cons, List.append_assoc, List.singleton_append]
def mk (l : List Nat) : Str := ⟨l.toArray⟩
theorem mk_inj {a b : List Nat} (h : mk a = mk b) : a = b := by
  have := congrArg (fun s : Str => s.cps.toList) h
  simpa [mk] using this
theorem tl_mk' (l : List Nat) : tl (mk l) = l := rfl
theorem mk_tl' (x : Str) : mk (tl x) = x := mk_tl x
def pieces (t : Str) : List Str := (pcs (tl t)).map mk
theorem split_eq (t : Str) : Txt.split t "/" = pieces t := by
  have h := split_spl t "/" (by decide +kernel) (kind_ok (by decide +kernel))
  have e : tl ("/" : Str) = [47] := by decide +kernel
  rw [e, spl_pcs, List.nil_append, pcs_head] at h
  apply map_tl_inj
  rw [h]
  unfold pieces
  rw [List.map_map]
  exact (List.map_id (pcs (tl t))).symm.trans (List.map_congr_left fun a _ => rfl)
theorem pcs_noslash : ∀ {l p : List Nat}, p ∈ pcs l → 47 ∉ p
  | [], p, h => by
    simp [pcs] at h
    subst h
    simp
  | c :: r, p, h => by
    unfold pcs at h
    split at h
    · rcases List.mem_cons.mp h with z | z
      · subst z
        simp
      · exact pcs_noslash z
    · rename_i hc
      rcases List.mem_cons.mp h with z | z
      · subst z
        intro q
        rcases List.mem_cons.mp q with z | z
        · exact hc z.symm
        · have hm : (pcs r).headD [] ∈ pcs r := by
            have e := pcs_head r
            rw [← e]
            exact List.mem_cons_self
          exact pcs_noslash hm z
      · have hm : p ∈ pcs r := by
          have e := pcs_head r
          rw [← e]
          exact List.mem_cons_of_mem _ z
        exact pcs_noslash hm
/-- bars between -/
def jn : List (List Nat) → List Nat
  | [] => []
  | [p] => p
  | p :: q :: r => p ++ 47 :: jn (q :: r)
theorem jn_pcs : ∀ l : List Nat, jn (pcs l) = l
  | [] => rfl
  | c :: r => by
    have ih := jn_pcs r
    have hd := pcs_head r
    unfold pcs
    split
    · rename_i hc
      subst hc
      cases h : pcs r with
      | nil => exact absurd h (pcs_ne r)
      | cons a b =>
        rw [h] at ih
        show [] ++ 47 :: jn (a :: b) = _
        rw [ih]
        rfl
    · cases h : pcs r with
      | nil => exact absurd h (pcs_ne r)
      | cons a b =>
        rw [h] at ih
        cases b with
        | nil =>
          show c :: a = c :: r
          rw [show a = r from ih]
        | cons b bs =>
          show (c :: a) ++ 47 :: jn (b :: bs) = c :: r
          rw [List.cons_append]
          exact congrArg (c :: ·) ih
theorem pcs_app : ∀ (a b : List Nat), 47 ∉ a → pcs (a ++ 47 :: b) = a :: pcs b
  | [], b, _ => by simp [pcs]
  | c :: a, b, h => by
    have hc : c ≠ 47 := fun z => h (z ▸ List.mem_cons_self)
    have ha : 47 ∉ a := fun z => h (List.mem_cons_of_mem _ z)
    rw [List.cons_append, pcs_cons _ hc, pcs_app a b ha]
    rfl
theorem pcs_one : ∀ (a : List Nat), 47 ∉ a → pcs a = [a]
  | [], _ => rfl
  | c :: a, h => by
    have hc : c ≠ 47 := fun z => h (z ▸ List.mem_cons_self)
    have ha : 47 ∉ a := fun z => h (List.mem_cons_of_mem _ z)
    rw [pcs_cons _ hc, pcs_one a ha]
    rfl
theorem pcs_cat : ∀ (a b : List Nat), pcs (a ++ 47 :: b) = pcs a ++ pcs b
  | [], b => by simp [pcs]
  | c :: a, b => by
    have ih := pcs_cat a b
    have hne := pcs_ne a
    show (if c = 47 then [] :: pcs (a ++ 47 :: b) else (c :: (pcs (a ++ 47 :: b)).headD []) :: (pcs (a ++ 47 :: b)).tail) = (if c = 47 then [] :: pcs a else (c :: (pcs a).headD []) :: (pcs a).tail) ++ pcs b
    rw [ih]
    split
    · rfl
    · cases h : pcs a with
      | nil => exact absurd h hne
      | cons x y => rfl
theorem pcs_jn : ∀ ps : List (List Nat), ps ≠ [] → (∀ p ∈ ps, 47 ∉ p) → pcs (jn ps) = ps
  | [], h, _ => absurd rfl h
  | [p], _, h => pcs_one p (h p List.mem_cons_self)
  | p :: q :: r, _, h => by
    show pcs (p ++ 47 :: jn (q :: r)) = _
    rw [pcs_app _ _ (h p List.mem_cons_self), pcs_jn (q :: r) (by simp) fun x hx => h x (List.mem_cons_of_mem _ hx)]

/-! ### names and paths -/
def letters : List Nat := tl ("abcdefghijklmnopqrstuvwxyz" : Str)
def isName (z : Str) : Bool := decide (1 ≤ z.length) && (decide (z.length ≤ 8) && (tl z).all fun c => decide (c ∈ letters))
def dotty (p : Str) : Bool := inV (.str p) [.str "", .str ".", .str ".."]
def isPath (z : Str) : Bool := !decide (z = "") && (pieces z).all fun p => dotty p || isName p
def steps (z : Str) : List Str := (pieces z).filter fun p => !decide (p = "")
def rooted (z : Str) : Bool := decide ((tl z).head? = some 47)
def lastP (z : Str) : Str := mk ((pcs (tl z)).getLastD [])
def ended (z : Str) : Bool := dotty (lastP z)
theorem pieces_ne (z : Str) : pieces z ≠ [] := by
  unfold pieces
  intro h
  exact pcs_ne _ (List.map_eq_nil_iff.mp h)
theorem dotty_iff (p : Str) : dotty p = (decide (p = "") || (decide (p = ".") || decide (p = ".."))) := by
  unfold dotty inV eqV
  simp only [List.any_cons, List.any_nil, Bool.or_false]
  have e : ∀ a b : Str, (a == b) = decide (b = a) := fun a b => by
    by_cases h : a = b
    · subst h
      simp
    · have h2 : ¬ b = a := fun z => h z.symm
      rw [decide_eq_false h2]
      exact beq_eq_false_iff_ne.mpr h
  rw [e, e, e]

/-! ### the last bars, the beginning -/
def tlLast (z : Str) : Option Nat := (tl z).getLast?
/-- without the empty ones at the end -/
def dropE (ps : List (List Nat)) : List (List Nat) := (ps.reverse.dropWhile fun p => p.isEmpty).reverse
def beginL (l : List Nat) : List Nat := jn (dropE (dropE (pcs l)).dropLast)
def begin (z : Str) : Str := if steps z = [] then z else if beginL (tl z) = [] then (if rooted z = true then ("/" : Str) else ("." : Str)) else mk (beginL (tl z))
end DT

/-! DLaw: what the laws' own defs share. -/
namespace DD
open PySem L2
open PySem.Spec PyProof.Rows

theorem le_line {n : Nat} (h : n ≤ 1000000) : n ≤ sizeLine := by
  rw [sizeLine_eq]
  omega
theorem lt_line {n : Nat} (h : n ≤ 1000000) : n < sizeLine := by
  rw [sizeLine_eq]
  omega
/-! ### the law and its stream -/
def spLaw (K : PySem.W.Frag) : Sp := fun vs H Q _ => ∃ (a : Addr) (ns : List Int), vs = [.ref a] ∧ SqL K H a (ns.map V.int) ∧ ns.length ≤ 63 ∧ ∀ H', Q (.bl true) H'
def spStart (K : PySem.W.Frag) : Sp := fun vs H Q _ => ∃ (a : Addr) (ns : List Int), vs = [.ref a] ∧ SqL K H a (ns.map V.int) ∧ ns.length ≤ 63 ∧
  ∀ c p, H c = none → upd H c (.lst (ns.map V.int)) p = none → Q (.ref p) (upd (upd H c (.lst (ns.map V.int))) p (.lst [.ref c, .int 0, .int 0, .int 11]))
section
variable {P : Program} {w : World} {K : PySem.W.Frag} {mg : Str → Option Value} {base : Heap} {B F Hb H : Hp} {m : Mem} {ρ : Env}
theorem we_start {E : XK} {ta : TA} {Q : QD} (h : WA K F B ta ρ m fun ds m1 => ∃ (a : Addr) (ns : List Int), ds = [.s (.ref a)] ∧ SqL K B a (ns.map V.int) ∧ ns.length ≤ 63 ∧
      ∀ c p : Addr, p ≠ c → m1.own c = none → m1.own p = none → Q (.s (.ref p)) { m1 with own := putM (putM m1.own c .cel) p (.stm c) }) : WE K F B (tCall (spStart K) [] E ta) ρ m Q := fun Hb H σ R hB r hs k =>
  h Hb H σ _ hB r hs fun vs H1 Hb1 ds m1 e1 r1 hx q1 => by
    obtain ⟨a, ns, rfl, hS, hl, q⟩ := q1
    have e : vs = [.ref a] := RpL.scal (vs := [.ref a]) hx
    subst e
    refine ⟨a, ns, rfl, (hB.trans (e1.trans r1.sub)).seq hS, hl, fun c p hc hp => ?_⟩
    have hpc : p ≠ c := fun z => by
      rw [z, upd_same] at hp
      cases hp
    have r2 : Rel K F Hb1 (upd H1 c (.lst (ns.map V.int))) { m1 with own := putM m1.own c .cel } := r1.owned (mo := .cel) hc ⟨ns, upd_same, hl⟩
    have r3 : Rel K F Hb1 (upd (upd H1 c (.lst (ns.map V.int))) p (.lst [.ref c, .int 0, .int 0, .int 11])) { m1 with own := putM (putM m1.own c .cel) p (.stm c) } :=
      r2.owned (mo := .stm c) hp ⟨0, 0, 11, upd_same, by decide, ⟨by decide, Int.natCast_nonneg _⟩, by decide, by decide⟩
    have hp1 : H1 p = none := by
      rw [upd_ne hpc] at hp
      exact hp
    exact k _ _ _ _ _ e1 r3 rp_s (q c p hpc (r1.free hc) (r1.free hp1))
/-- the law -/
theorem ok_lawD {CX : CXT} {x qual : Str} {st : Stmt} {f : Addr} {fd : FuncData} {N : List Str} {y : Str} {k : Nat} (F : Fun K x qual st f fd) (S : FnScope N [y] (defScope st))
    (hbody : ∀ (cdv : Value) (A : Around) (outer : List PySem.Env) (s : Shared) (H : Hp) (E : XK), Room k (A.deeper (envOfC qual (defScope st) s.heap.objs.size f cdv)) →
      ∃ t, PSs (cxOf CX P w K mg base N qual (defScope st) f cdv A outer s H E) (defBody st) t ∧ ∀ (a : Addr) (ns : List Int) (B : Hp), SqL K B a (ns.map V.int) → ns.length ≤ 63 →
        WS K (fun _ => none) B t (startD N [.s (.ref a)]) ⟨0, fun _ => none⟩ { nx := fun _ _ => False, rt := fun d _ => d = .s (.bl true) }) : FnOk P w K mg base CX (k + 1) f fd [y] (spLaw K) := by
  refine okC F S (fun vs H Q E h => by obtain ⟨a, ns, rfl, _⟩ := h; rfl) fun cdv A outer s H vs Q E hr h => ?_
  obtain ⟨a, ns, rfl, hS, hl, q⟩ := h
  obtain ⟨t, ht, hw⟩ := hbody cdv A outer s H E hr
  refine ⟨t, ht, hw a ns H hS hl H H _ _ (Same.refl _) ⟨Same.refl _, (fun _ _ z => nomatch z), (fun _ _ z => nomatch z), (fun _ _ z => nomatch z)⟩ (RpS.start (RpL.cons rp_s RpL.nil)) ⟨fun _ _ _ _ _ _ _ _ z => z.elim, fun v H' Hb' d m' e r hd z => ?_, fun _ _ _ _ _ _ _ _ z => z.elim, fun _ _ _ _ _ _ _ _ z => z.elim⟩⟩
  subst z
  unfold Rp at hd
  subst hd
  exact q _
/-- the stream has turned -/
theorem Rel.stream {p c : Addr} {s1 s2 s3 : Int} {ns : List Int} {H' : Hp} (r : Rel K F Hb H m) (hp : m.own p = some (.stm c)) (hc : m.own c = some .cel) (hpc : p ≠ c) (h1 : H' p = some (.lst [.ref c, .int s1, .int s2, .int s3])) (h2 : H' c = some (.lst (ns.map V.int)))
    (hk : ∀ b, b ≠ p → b ≠ c → H' b = H b) (ho : StOk s1 s2 s3 (m.cnt + 1)) (hn : CelOk ns) : Rel K F Hb H' { m with cnt := m.cnt + 1 } := by
  have np : ∀ b o, Hb b = some o → b ≠ p := fun b o e z => by
    rw [z, (r.own p _ hp).1] at e
    cases e
  have nc : ∀ b o, Hb b = some o → b ≠ c := fun b o e z => by
    rw [z, (r.own c _ hc).1] at e
    cases e
  refine ⟨fun b o e => ?_, fun b o e => ?_, fun b mo e => ?_, r.nt⟩
  · rw [hk b (np b o e) (nc b o e)]
    exact r.sub b o e
  · have z1 := ne_fr e (r.ownF hp)
    have z2 := ne_fr e (r.ownF hc)
    rw [hk b z1 z2]
    exact r.fr b o e
  · have e' : m.own b = some mo := e
    obtain ⟨q1, q2⟩ := r.own b mo e'
    refine ⟨q1, ?_⟩
    by_cases z1 : b = p
    · subst z1
      rw [hp] at e'
      cases e'
      exact ⟨s1, s2, s3, h1, ho⟩
    · by_cases z2 : b = c
      · subst z2
        rw [hc] at e'
        cases e'
        exact ⟨ns, h2, hn⟩
      · exact q2.mono (Same.refl _) (hk b z1 z2) (Nat.le_succ _)

/-! ### isinstance of built-in types, by several -/
def kitAnyB (a : String) : List String → Option Bool
  | [] => some false
  | b :: r => match kitB a b with
    | some true => some true
    | some false => kitAnyB a r
    | none => none
theorem kit_any {a : String} : ∀ {bs : List String} {r : Bool}, kitAnyB a bs = some r → PySem.W.kitAny K (.type a) (bs.map Value.type) = some r
  | [], r, h => h
  | b :: bs, r, h => by
    unfold kitAnyB at h
    rw [List.map_cons]
    unfold PySem.W.kitAny
    cases hq : kitB a b with
    | none =>
      rw [hq] at h
      cases h
    | some q =>
      rw [hq] at h
      rw [kit_ty hq]
      cases q with
      | true => exact h
      | false => exact kit_any h

/-! ### plain data -/
def SameOk : Nat → D → Prop
  | _, .s .non => True
  | _, .s (.bl _) => True
  | _, .s (.int _) => True
  | _, .s (.str _) => True
  | n + 1, .lst xs => xs.length ≤ 1000000 ∧ ∀ x ∈ xs, SameOk n x
  | n + 1, .tup xs => xs.length ≤ 1000000 ∧ ∀ x ∈ xs, SameOk n x
  | _, _ => False

/-! ### zip of lists or of tuples -/
theorem wi_zipL {ta : TA} {Q : List D → Mem → Prop} (h : WA K F B ta ρ m fun xs m1 => ∃ ds es, ((xs = [.lst ds, .lst es]) ∨ xs = [.tup ds, .tup es]) ∧ Q ((ds.zip es).map fun p => .tup [p.1, p.2]) m1) : WI K F B (RZ.iZipA K ta) ρ m Q := fun Hb H σ R hB r hs k =>
  h Hb H σ _ hB r hs fun vs H1 Hb1 xs m1 e1 r1 hx q1 => by
    obtain ⟨ds, es, hd, q⟩ := q1
    rcases hd with rfl | rfl
    · obtain ⟨v, v', rfl, hv, hv'⟩ := rpL2 hx
      unfold Rp at hv hv'
      obtain ⟨p, vs, rfl, h1, h2⟩ := hv
      obtain ⟨p', vs', rfl, h1', h2'⟩ := hv'
      have hl := h2.length
      have hl' := h2'.length
      refine ⟨p, p', vs, vs', rfl, .inl ⟨SqL.of (r1.sub _ _ h1), SqL.of (r1.sub _ _ h1'), k _ _ _ _ _ e1 r1 (fun i F Hb2 H2 m2 e2 r2 => ?_) q⟩⟩
      have hq : SqL K H2 p vs := SqL.of (r2.sub _ _ (e2 _ _ h1))
      have hq' : SqL K H2 p' vs' := SqL.of (r2.sub _ _ (e2 _ _ h1'))
      refine ⟨fun hi => ⟨vs, vs', hq, hq', by simp at hi; omega⟩, fun d hd => ?_⟩
      rw [List.getElem?_map] at hd
      cases hz : (ds.zip es)[i]? with
      | none =>
        rw [hz] at hd
        cases hd
      | some pr =>
        rw [hz] at hd
        cases hd
        obtain ⟨z1, z2⟩ := List.getElem?_zip_eq_some.mp hz
        obtain ⟨u, hu1, hu2⟩ := h2.get z1
        obtain ⟨u', hu1', hu2'⟩ := h2'.get z2
        refine ⟨⟨vs, vs', u, u', hq, hq', hu1, hu1'⟩, fun y H' hy => ?_⟩
        obtain ⟨T, z, z', rfl, hT, rfl, hz, hz'⟩ := hy
        have q1 := hz vs hq
        have q2 := hz' vs' hq'
        rw [hu1] at q1
        rw [hu1'] at q2
        cases q1
        cases q2
        exact new_pair r2 hT (hu2.mono e2) (hu2'.mono e2)
    · obtain ⟨v, v', rfl, hv, hv'⟩ := rpL2 hx
      unfold Rp at hv hv'
      obtain ⟨p, vs, rfl, h1, h2⟩ := hv
      obtain ⟨p', vs', rfl, h1', h2'⟩ := hv'
      have hl := h2.length
      have hl' := h2'.length
      refine ⟨p, p', vs, vs', rfl, .inr ⟨sameT r1.sub h1, sameT r1.sub h1', k _ _ _ _ _ e1 r1 (fun i F Hb2 H2 m2 e2 r2 => ?_) q⟩⟩
      have hq : SqT K H2 p vs := sameT r2.sub (sameT e2 h1)
      have hq' : SqT K H2 p' vs' := sameT r2.sub (sameT e2 h1')
      refine ⟨fun hi => ⟨vs, vs', hq, hq', by simp at hi; omega⟩, fun d hd => ?_⟩
      rw [List.getElem?_map] at hd
      cases hz : (ds.zip es)[i]? with
      | none =>
        rw [hz] at hd
        cases hd
      | some pr =>
        rw [hz] at hd
        cases hd
        obtain ⟨z1, z2⟩ := List.getElem?_zip_eq_some.mp hz
        obtain ⟨u, hu1, hu2⟩ := h2.get z1
        obtain ⟨u', hu1', hu2'⟩ := h2'.get z2
        refine ⟨⟨vs, vs', u, u', hq, hq', hu1, hu1'⟩, fun y H' hy => ?_⟩
        obtain ⟨T, z, z', rfl, hT, rfl, hz, hz'⟩ := hy
        have q1 := hz vs hq
        have q2 := hz' vs' hq'
        rw [hu1] at q1
        rw [hu1'] at q2
        cases q1
        cases q2
        exact new_pair r2 hT (hu2.mono e2) (hu2'.mono e2)
end
end DD

/-! DPath: bars at the end, the beginning of a path. -/
namespace DT
open PySem L2
open TL PySem.Builtin PySem.Builtin.Str

/-- without the bars at the end -/
def rst (l : List Nat) : List Nat := (l.reverse.dropWhile fun c => decide (c = 47)).reverse
theorem rst_nil : rst [] = [] := rfl
theorem rst_bar (l : List Nat) : rst (l ++ [47]) = rst l := by
  unfold rst
  rw [List.reverse_append]
  rfl
theorem rst_not {l : List Nat} {c : Nat} (h : c ≠ 47) : rst (l ++ [c]) = l ++ [c] := by
  unfold rst
  rw [List.reverse_append]
  show (List.dropWhile (fun c => decide (c = 47)) (c :: l.reverse)).reverse = _
  rw [List.dropWhile_cons_of_neg (by simpa using h)]
  simp
theorem dropE_nil : dropE [] = [] := rfl
theorem dropE_e (ps : List (List Nat)) : dropE (ps ++ [[]]) = dropE ps := by
  unfold dropE
  rw [List.reverse_append]
  rfl
theorem dropE_ne {ps : List (List Nat)} {p : List Nat} (h : p ≠ []) : dropE (ps ++ [p]) = ps ++ [p] := by
  unfold dropE
  rw [List.reverse_append]
  show (List.dropWhile (fun p => p.isEmpty) (p :: ps.reverse)).reverse = _
  rw [List.dropWhile_cons_of_neg (by simpa using h)]
  simp
theorem snocInd {α : Type} {P : List α → Prop} (h0 : P []) (h1 : ∀ l a, P l → P (l ++ [a])) : ∀ l, P l := fun l => by
  have key : ∀ n (l : List α), l.length = n → P l := fun n => by
    induction n with
    | zero =>
      intro l h
      rw [List.eq_nil_of_length_eq_zero h]
      exact h0
    | succ n ih =>
      intro l h
      have hne : l ≠ [] := fun z => by
        rw [z] at h
        cases h
      rw [← List.dropLast_concat_getLast hne]
      exact h1 _ _ (ih _ (by rw [List.length_dropLast]; omega))
  exact key l.length l rfl
theorem pcs_snoc {c : Nat} (hc : c ≠ 47) : ∀ l : List Nat, ∃ qs q, pcs (l ++ [c]) = qs ++ [q ++ [c]] ∧ pcs l = qs ++ [q]
  | [] => ⟨[], [], by simp [pcs, hc], rfl⟩
  | d :: l => by
    obtain ⟨qs, q, h1, h2⟩ := pcs_snoc hc l
    by_cases hd : d = 47
    · subst hd
      exact ⟨[] :: qs, q, by rw [List.cons_append, pcs_bar, h1]; rfl, by rw [pcs_bar, h2]; rfl⟩
    · rw [List.cons_append, pcs_cons _ hd, pcs_cons _ hd, h1, h2]
      cases qs with
      | nil => exact ⟨[], d :: q, rfl, rfl⟩
      | cons a as => exact ⟨(d :: a) :: as, q, rfl, rfl⟩
theorem jn_dropE (l : List Nat) : jn (dropE (pcs l)) = rst l := by
  refine snocInd (P := fun l => jn (dropE (pcs l)) = rst l) rfl (fun l c ih => ?_) l
  by_cases hc : c = 47
  · subst hc
    rw [pcs_cat l []]
    show jn (dropE (pcs l ++ [[]])) = _
    rw [dropE_e, rst_bar, ih]
  · obtain ⟨qs, q, h1, h2⟩ := pcs_snoc hc l
    rw [h1, dropE_ne (by simp), ← h1, jn_pcs, rst_not hc]
theorem rst_jn {ps : List (List Nat)} (h : ∀ p ∈ ps, 47 ∉ p) : rst (jn ps) = jn (dropE ps) := by
  by_cases h0 : ps = []
  · subst h0
    rfl
  · have e := jn_dropE (jn ps)
    rw [pcs_jn ps h0 h] at e
    exact e.symm
theorem jn_snoc {qs : List (List Nat)} {p : List Nat} : jn (qs ++ [p]) = if qs = [] then p else jn qs ++ 47 :: p := by
  induction qs with
  | nil => rfl
  | cons a as ih =>
    rw [if_neg (by simp)]
    cases as with
    | nil => rfl
    | cons b bs =>
      rw [if_neg (by simp)] at ih
      show a ++ 47 :: jn (b :: bs ++ [p]) = (a ++ 47 :: jn (b :: bs)) ++ 47 :: p
      rw [ih]
      simp
/-- the empty ones at the end -/
theorem dropE_cut (ps : List (List Nat)) : (dropE ps = [] ∧ ∀ p ∈ ps, p = []) ∨ ∃ qs p k, p ≠ [] ∧ ps = qs ++ p :: List.replicate k [] ∧ dropE ps = qs ++ [p] := by
  refine snocInd (P := fun ps => (dropE ps = [] ∧ ∀ p ∈ ps, p = []) ∨ ∃ qs p k, p ≠ [] ∧ ps = qs ++ p :: List.replicate k [] ∧ dropE ps = qs ++ [p]) (.inl ⟨rfl, by simp⟩) (fun ps p ih => ?_) ps
  by_cases hp : p = []
  · subst hp
    rcases ih with ⟨h1, h2⟩ | ⟨qs, q, k, h1, h2, h3⟩
    · refine .inl ⟨by rw [dropE_e, h1], fun p hp => ?_⟩
      rcases List.mem_append.mp hp with z | z
      · exact h2 p z
      · simpa using z
    · refine .inr ⟨qs, q, k + 1, h1, ?_, by rw [dropE_e, h3]⟩
      rw [List.replicate_succ', h2]
      simp
  · exact .inr ⟨ps, p, 0, hp, rfl, dropE_ne hp⟩
theorem mem_dropE {ps : List (List Nat)} {p : List Nat} (h : p ∈ dropE ps) : p ∈ ps := by
  rcases dropE_cut ps with ⟨h1, h2⟩ | ⟨qs, q, k, h1, h2, h3⟩
  · rw [h1] at h
    cases h
  · rw [h3] at h
    rw [h2]
    rcases List.mem_append.mp h with z | z
    · exact List.mem_append_left _ z
    · have e : p = q := by simpa using z
      subst e
      simp

/-! ### texts -/
theorem tl_strip {z : Str} : tl (Txt.rstripChars z "/") = rst (tl z) := by
  have e : ("/" : Str).cps = #[47] := by decide +kernel
  unfold Txt.rstripChars
  rw [PySem.W.stripBy_eq]
  show tl (strSub z 0 (z.length - (((tl z).drop 0).reverse.takeWhile ("/" : Str).cps.contains).length)) = _
  rw [tl_strSub, List.drop_zero, e, len_tl]
  have e2 : (fun c => (#[47] : Array Nat).contains c) = fun c => decide (c = 47) := by
    funext c
    simp
  show ((tl z).drop 0).take ((tl z).length - ((tl z).reverse.takeWhile (fun c => (#[47] : Array Nat).contains c)).length - 0) = _
  rw [e2]
  unfold rst
  generalize tl z = l
  generalize (fun c => decide (c = 47)) = f
  have h1 : l.reverse = l.reverse.takeWhile f ++ l.reverse.dropWhile f := (List.takeWhile_append_dropWhile).symm
  have h2 : l = (l.reverse.dropWhile f).reverse ++ (l.reverse.takeWhile f).reverse := by
    rw [← List.reverse_append, ← h1, List.reverse_reverse]
  have h3 : l.length = (l.reverse.dropWhile f).length + (l.reverse.takeWhile f).length := by
    have := congrArg List.length h2
    simpa using this
  rw [List.drop_zero]
  have h4 : l.length - (l.reverse.takeWhile f).length - 0 = (l.reverse.dropWhile f).reverse.length := by
    rw [List.length_reverse]
    omega
  rw [h4]
  have h5 : List.take (l.reverse.dropWhile f).reverse.length ((l.reverse.dropWhile f).reverse ++ (l.reverse.takeWhile f).reverse) = (l.reverse.dropWhile f).reverse := List.take_left
  rw [← h2] at h5
  exact h5
theorem tl_rmsuf {z y : Str} {a : List Nat} (h : tl z = a ++ tl y) (hy : tl y ≠ []) : tl (Txt.removesuffix z y) = a := by
  have hl : z.length = a.length + y.length := by
    rw [len_tl, len_tl y, h, List.length_append]
  have hy1 : 1 ≤ y.length := len1 hy
  have hs : subAt z y (z.length - y.length) = true := by
    rw [PySem.StrLaws.subAt_eq]
    rw [show z.length - y.length = a.length by omega]
    have e : z.cps.toList = a ++ tl y := h
    rw [e, List.drop_left, len_tl y, List.take_length]
    simp [tl]
  unfold Txt.removesuffix
  rw [hs, Bool.and_true, if_pos (decide_eq_true (show y.length ≤ z.length by omega))]
  show tl (if (z.length - y.length - 0 == z.length) = true then z else strSub z 0 (z.length - y.length)) = a
  rw [if_neg (by simp; omega)]
  rw [tl_strSub, h, List.drop_zero]
  rw [show z.length - y.length - 0 = a.length by omega]
  exact List.take_left
theorem tl_ext {x : Str} {l : List Nat} (h : tl x = l) : x = mk l := by
  rw [← h]
  exact (mk_tl x).symm
theorem steps_tl (z : Str) : (steps z) = ((pcs (tl z)).filter fun p => !p.isEmpty).map mk := by
  unfold steps pieces
  rw [List.filter_map]
  congr 1
  refine List.filter_congr fun p _ => ?_
  show (!decide (mk p = "")) = !p.isEmpty
  congr 1
  cases p with
  | nil => exact decide_eq_true (by decide +kernel)
  | cons a b =>
    refine decide_eq_false fun z => ?_
    have e : tl (mk (a :: b)) = tl ("" : Str) := congrArg tl z
    have e2 : tl ("" : Str) = [] := by decide +kernel
    rw [e2] at e
    cases e
theorem mk_nil : mk [] = ("" : Str) := by decide +kernel
theorem mk_eq_nil {l : List Nat} : mk l = ("" : Str) ↔ l = [] := by
  constructor
  · intro h
    rw [← mk_nil] at h
    exact mk_inj h
  · rintro rfl
    exact mk_nil
/-- a path that has steps: all ahead of the last, the last -/
theorem steps_cut (z : Str) : (steps z = []) ∨ ∃ qs p k, p ≠ [] ∧ pcs (tl z) = qs ++ p :: List.replicate k [] ∧ dropE (pcs (tl z)) = qs ++ [p] ∧ (steps z).getLast? = some (mk p) ∧ steps z ≠ [] := by
  rcases dropE_cut (pcs (tl z)) with ⟨h1, h2⟩ | ⟨qs, p, k, h1, h2, h3⟩
  · left
    rw [steps_tl]
    have e : (pcs (tl z)).filter (fun p => !p.isEmpty) = [] := by
      rw [List.filter_eq_nil_iff]
      intro p hp
      rw [h2 p hp]
      simp
    rw [e]
    rfl
  · right
    have e : steps z = ((qs.filter fun p => !p.isEmpty) ++ [p]).map mk := by
      rw [steps_tl, h2, List.filter_append]
      have e2 : (p :: List.replicate k []).filter (fun p => !p.isEmpty) = [p] := by
        rw [List.filter_cons_of_pos (by simpa using h1)]
        congr 1
        rw [List.filter_eq_nil_iff]
        intro q hq
        rw [(List.mem_replicate.mp hq).2]
        simp
      rw [e2]
    refine ⟨qs, p, k, h1, h2, h3, ?_, ?_⟩
    · rw [e, List.map_append]
      exact List.getLast?_concat
    · rw [e]
      simp
theorem pcs_suf {z : Str} {qs : List (List Nat)} {p : List Nat} (h : dropE (pcs (tl z)) = qs ++ [p]) : beginL (tl z) = jn (dropE qs) := by
  unfold beginL
  rw [h, List.dropLast_concat]
/-- what the program's head is -/
theorem head_eq {z : Str} {qs : List (List Nat)} {p : List Nat} (hp : p ≠ []) (h : dropE (pcs (tl z)) = qs ++ [p]) : Txt.rstripChars (Txt.removesuffix (Txt.rstripChars z "/") (mk p)) "/" = mk (beginL (tl z)) := by
  apply ext_tl
  have hm : ∀ q ∈ qs, 47 ∉ q := fun q hq => pcs_noslash (l := tl z) (mem_dropE (by rw [h]; exact List.mem_append_left _ hq))
  have e1 : tl (Txt.rstripChars z "/") = jn (qs ++ [p]) := by rw [tl_strip, ← jn_dropE, h]
  rw [tl_strip, pcs_suf h]
  rw [jn_snoc] at e1
  by_cases h0 : qs = []
  · subst h0
    rw [if_pos rfl] at e1
    rw [tl_rmsuf (a := []) e1 hp]
    rfl
  · rw [if_neg h0] at e1
    have e2 : jn qs ++ 47 :: p = (jn qs ++ [47]) ++ tl (mk p) := by
      show _ = (jn qs ++ [47]) ++ p
      simp
    rw [e2] at e1
    rw [tl_rmsuf e1 hp, rst_bar, rst_jn hm]
    rfl
/-- all pieces are allowed -/
def Good (l : List Nat) : Prop := ∀ p ∈ pcs l, (dotty (mk p) || isName (mk p)) = true
theorem isPath_iff {z : Str} : isPath z = true ↔ z ≠ "" ∧ Good (tl z) := by
  unfold isPath Good pieces
  rw [Bool.and_eq_true, List.all_map, List.all_eq_true]
  simp
theorem dotty_nil : dotty (mk []) = true := by decide +kernel
theorem good_cat {a b : List Nat} (ha : Good a) (hb : Good b) : Good (a ++ 47 :: b) := fun p hp => by
  rw [pcs_cat] at hp
  rcases List.mem_append.mp hp with z | z
  · exact ha p z
  · exact hb p z
theorem good_nil : Good [] := fun p hp => by
  have e : p = [] := by simpa [pcs] using hp
  subst e
  decide +kernel
theorem good_cut {a b : List Nat} (h : Good (a ++ 47 :: b)) : Good a ∧ Good b := by
  unfold Good at h ⊢
  rw [pcs_cat] at h
  exact ⟨fun p hp => h p (List.mem_append_left _ hp), fun p hp => h p (List.mem_append_right _ hp)⟩
theorem good_bars {a b : List Nat} (ha : Good a) (hb : Good b) : ∀ n : Nat, Good (a ++ List.replicate (n + 1) 47 ++ b)
  | 0 => by
    have := good_cat ha hb
    simpa using this
  | n + 1 => by
    have e : a ++ List.replicate (n + 1 + 1) 47 ++ b = a ++ List.replicate (n + 1) 47 ++ (47 :: b) := by
      rw [List.replicate_succ' (n := n + 1)]
      simp
    rw [e]
    exact good_bars ha (good_cat good_nil hb) n
theorem begin_path {z : Str} (h : isPath z = true) : isPath (begin z) = true := by
  unfold begin
  by_cases h1 : steps z = []
  · rw [if_pos h1]
    exact h
  · rw [if_neg h1]
    by_cases h2 : beginL (tl z) = []
    · rw [if_pos h2]
      split <;> decide +kernel
    · rw [if_neg h2]
      rcases steps_cut z with z1 | ⟨qs, p, k, q1, q2, q3, q4, q5⟩
      · exact absurd z1 h1
      · have hb := pcs_suf q3
        rw [hb] at h2 ⊢
        have hm : ∀ q ∈ dropE qs, q ∈ pcs (tl z) := fun q hq => by
          rw [q2]
          exact List.mem_append_left _ (mem_dropE hq)
        refine isPath_iff.mpr ⟨fun z => h2 (mk_eq_nil.mp z), fun q hq => ?_⟩
        rw [tl_mk', pcs_jn _ (fun z => h2 (by rw [z]; rfl)) fun q hq => pcs_noslash (hm q hq)] at hq
        exact (isPath_iff.mp h).2 q (hm q hq)
theorem jn_len : ∀ {ps : List (List Nat)}, (jn ps).length + 1 = (ps.map fun p => p.length + 1).sum ∨ ps = []
  | [] => .inr rfl
  | [p] => .inl (by simp [jn])
  | p :: q :: r => .inl (by
    rcases jn_len (ps := q :: r) with h | h
    · show (p ++ 47 :: jn (q :: r)).length + 1 = _
      rw [List.map_cons, List.sum_cons, ← h]
      simp
      omega
    · cases h)
theorem rst_len (l : List Nat) : (rst l).length ≤ l.length := by
  unfold rst
  rw [List.length_reverse]
  have z := (List.dropWhile_sublist (fun c => decide (c = 47)) (l := l.reverse)).length_le
  rw [List.length_reverse] at z
  exact z
end DT

/-! DDraw: the stream opened; lists compared with lists. -/
namespace DD
open PySem L2
open PySem.Spec PyProof.Rows

/-- what m describes m' describes too -/
def Conv (m m' : Mem) : Prop := ∀ (K : PySem.W.Frag) (F Hb H : Hp), Rel K F Hb H m → Rel K F Hb H m'
section
variable {K : PySem.W.Frag} {B F Hb H : Hp} {m : Mem} {ρ : Env}
theorem Conv.refl : Conv m m := fun _ _ _ _ r => r
theorem we_conv {te : TE} {Q Q' : QD} (h : WE K F B te ρ m Q) (hq : ∀ d m', Q d m' → ∃ m2, Conv m' m2 ∧ Q' d m2) : WE K F B te ρ m Q' := fun Hb H σ R hB r hs k =>
  h Hb H σ R hB r hs fun v H1 Hb1 d m1 e1 r1 hd q1 => by
    obtain ⟨m2, c, q⟩ := hq d m1 q1
    exact k v H1 Hb1 d m2 e1 (c _ _ _ _ r1) hd q
theorem we_pre {te : TE} {m2 : Mem} {Q : QD} (c : Conv m m2) (h : WE K F B te ρ m2 Q) : WE K F B te ρ m Q := fun Hb H σ R hB r hs k => h Hb H σ R hB (c _ _ _ _ r) hs k
theorem ws_pre {t : TS} {m2 : Mem} {E : DE} (c : Conv m m2) (h : WS K F B t ρ m2 E) : WS K F B t ρ m E := fun Hb H σ R hB r hs k => h Hb H σ R hB (c _ _ _ _ r) hs k
theorem wt_pre {t : TT} {m2 : Mem} {Q : Bool → Mem → Prop} (c : Conv m m2) (h : WT K F B t ρ m2 Q) : WT K F B t ρ m Q := fun Hb H σ R hB r hs k => h Hb H σ R hB (c _ _ _ _ r) hs k
theorem Conv.count {n : Nat} (h : m.cnt ≤ n) : Conv m { m with cnt := n } := fun _ _ _ _ r => r.count h
def opened (own : Addr → Option MO) (p c : Addr) (s1 s2 s3 : Int) (ns : List Int) : Addr → Option MO :=
  putM (putM own c (.lst ((ns.map V.int).map D.s))) p (.lst [.s (.ref c), .s (.int s1), .s (.int s2), .s (.int s3)])
theorem opened_p {own : Addr → Option MO} {p c : Addr} {s1 s2 s3 : Int} {ns : List Int} : opened own p c s1 s2 s3 ns p = some (.lst [.s (.ref c), .s (.int s1), .s (.int s2), .s (.int s3)]) := putM_same
theorem opened_c {own : Addr → Option MO} {p c : Addr} {s1 s2 s3 : Int} {ns : List Int} (h : p ≠ c) : opened own p c s1 s2 s3 ns c = some (.lst ((ns.map V.int).map D.s)) := by
  unfold opened
  rw [putM_ne (Ne.symm h)]
  exact putM_same
theorem put4 {own : Addr → Option MO} {p c : Addr} {s1 s2 s3 t1 t2 t3 : Int} {ns : List Int} : putM (opened own p c s1 s2 s3 ns) p (.lst [.s (.ref c), .s (.int t1), .s (.int t2), .s (.int t3)]) = opened own p c t1 t2 t3 ns := putM_put
theorem putc {own : Addr → Option MO} {p c : Addr} {s1 s2 s3 : Int} {ns ns' : List Int} (h : p ≠ c) : putM (opened own p c s1 s2 s3 ns) c (.lst ((ns'.map V.int).map D.s)) = opened own p c s1 s2 s3 ns' := by
  funext b
  unfold opened putM
  by_cases h1 : b = c
  · have h2 : ¬ b = p := fun z => h (z.symm.trans h1)
    rw [if_pos h1, if_neg h2, if_pos h1]
  · rw [if_neg h1, if_neg h1, if_neg h1]
/-- the stream is opened -/
theorem ws_open {t : TS} {E : DE} {p c : Addr} (hp : m.own p = some (.stm c)) (hc : m.own c = some .cel) (hpc : p ≠ c)
    (h : ∀ s1 s2 s3 ns, StOk s1 s2 s3 m.cnt → ns.length ≤ 63 → WS K F B t ρ { m with own := opened m.own p c s1 s2 s3 ns } E) : WS K F B t ρ m E := fun Hb H σ R hB r hs k => by
  obtain ⟨np, s1, s2, s3, h1, h2⟩ := r.own _ _ hp
  obtain ⟨nc, ns, h3, h4⟩ := r.own _ _ hc
  refine h s1 s2 s3 ns h2 h4 Hb H σ R hB ⟨r.sub, fun b o e => ⟨(r.fr b o e).1, (r.fr b o e).2.1, ?_⟩, fun b mo e => ?_, r.nt⟩ hs k
  · have z1 := ne_fr e (r.ownF hp)
    have z2 := ne_fr e (r.ownF hc)
    show opened m.own p c s1 s2 s3 ns b = none
    unfold opened
    rw [putM_ne z1, putM_ne z2]
    exact (r.fr b o e).2.2
  · have e' : opened m.own p c s1 s2 s3 ns b = some mo := e
    by_cases z1 : b = p
    · subst z1
      rw [opened_p] at e'
      cases e'
      exact ⟨np, _, h1, RpL.ofScal [.ref c, .int s1, .int s2, .int s3]⟩
    · by_cases z2 : b = c
      · subst z2
        rw [opened_c (Ne.symm z1)] at e'
        cases e'
        exact ⟨nc, _, h3, RpL.ofScal _⟩
      · unfold opened at e'
        rw [putM_ne z1, putM_ne z2] at e'
        exact r.own b mo e'
/-- .. and closed -/
theorem Conv.close {own : Addr → Option MO} {n n' : Nat} {p c : Addr} {s1 s2 s3 : Int} {ns : List Int} (hp : own p = some (.stm c)) (hc : own c = some .cel) (hpc : p ≠ c) (hn : n ≤ n') (hs : StOk s1 s2 s3 n') (hl : ns.length ≤ 63) :
    Conv ⟨n, opened own p c s1 s2 s3 ns⟩ ⟨n', own⟩ := fun K F Hb H r => by
  obtain ⟨np, vs, h1, h2⟩ := r.own p _ opened_p
  obtain ⟨nc, us, h3, h4⟩ := r.own c _ (opened_c hpc)
  have e1 : vs = [.ref c, .int s1, .int s2, .int s3] := RpL.scal (vs := [.ref c, .int s1, .int s2, .int s3]) h2
  have e2 := RpL.scal h4
  subst e1 e2
  refine ⟨r.sub, fun b o e => ⟨(r.fr b o e).1, (r.fr b o e).2.1, ?_⟩, fun b mo e => ?_, r.nt⟩
  · have z1 := ne_fr e (r.ownF opened_p)
    have z2 := ne_fr e (r.ownF (opened_c hpc))
    have z3 := (r.fr b o e).2.2
    have z4 : opened own p c s1 s2 s3 ns b = none := z3
    unfold opened at z4
    rw [putM_ne z1, putM_ne z2] at z4
    exact z4
  · have e' : own b = some mo := e
    by_cases z1 : b = p
    · subst z1
      rw [hp] at e'
      cases e'
      exact ⟨np, s1, s2, s3, h1, hs⟩
    · by_cases z2 : b = c
      · subst z2
        rw [hc] at e'
        cases e'
        exact ⟨nc, ns, h3, hl⟩
      · obtain ⟨q1, q2⟩ := r.own b mo (by show opened own p c s1 s2 s3 ns b = some mo; unfold opened; rw [putM_ne z1, putM_ne z2]; exact e')
        exact ⟨q1, q2.mono (Same.refl _) rfl hn⟩
/-- o[i] = e, o an owned list -/
theorem ws_setO {te to ti : TE} {E : DE} (h : WE K F B te ρ m fun y m1 => WE K F B to ρ m1 fun x m2 => WE K F B ti ρ m2 fun z m3 => ∃ a xs i j, x = .s (.ref a) ∧ z = .s (.int i) ∧ m3.own a = some (.lst xs) ∧ ixN xs.length i = some j ∧
      E.nx ρ { m3 with own := putM m3.own a (.lst (xs.set j y)) }) : WS K F B (tAsg te (gSub to ti rSetL)) ρ m E := fun Hb H σ R hB r hs k =>
  h Hb H σ _ hB r hs fun u H1 Hb1 y m1 e1 r1 hy q1 => q1 Hb1 H1 σ _ (hB.trans e1) r1 (hs.mono e1) fun o H2 Hb2 x m2 e2 r2 hx q2 =>
    q2 Hb2 H2 σ _ ((hB.trans e1).trans e2) r2 (hs.mono (e1.trans e2)) fun w H3 Hb3 z m3 e3 r3 hz q3 => by
      obtain ⟨a, xs, i, j, rfl, rfl, ho, hj, q⟩ := q3
      unfold Rp at hx hz
      obtain ⟨_, vs, h1, h2⟩ := r3.own _ _ ho
      refine ⟨a, vs, i, j, hx, hz, h1, by rw [h2.length]; exact hj, k.nx _ _ _ _ _ ((e1.trans e2).trans e3) (r3.change (mo' := .lst (xs.set j y)) ho ⟨_, upd_same, ?_⟩) (hs.mono ((e1.trans e2).trans e3)) q⟩
      exact h2.set j (hy.mono (e2.trans e3))
/-- xs.pop(0), xs an owned list -/
theorem we_pop0 {to ti : TE} {Q : QD} (h : WE K F B to ρ m fun x m1 => ∃ a, x = .s (.ref a) ∧ (∃ xs, m1.own a = some (.lst xs)) ∧ WE K F B ti ρ m1 fun z m2 => z = .s (.int 0) ∧ ∃ y ys, m2.own a = some (.lst (y :: ys)) ∧ Q y { m2 with own := putM m2.own a (.lst ys) }) :
    WE K F B (tBM K "list" rPopAt to (tCons ti tNil)) ρ m Q := fun Hb H σ R hB r hs k =>
  h Hb H σ _ hB r hs fun v H1 Hb1 x m1 e1 r1 hx q1 => by
    obtain ⟨a, rfl, ⟨xs0, ho0⟩, q⟩ := q1
    unfold Rp at hx
    subst hx
    obtain ⟨_, vs0, h0, _⟩ := r1.own _ _ ho0
    refine ⟨.inl ⟨rfl, _, SqL.of h0⟩, q Hb1 H1 σ _ (hB.trans e1) r1 (hs.mono e1) fun u H2 Hb2 z m2 e2 r2 hz q2 => ?_⟩
    obtain ⟨rfl, y, ys, ho, q3⟩ := q2
    unfold Rp at hz
    subst hz
    obtain ⟨_, vs, h1, h2⟩ := r2.own _ _ ho
    unfold RpL at h2
    obtain ⟨v0, vr, rfl, h3, h4⟩ := h2
    have hk : seqIndex? 0 (v0 :: vr).length = some 0 := by
      unfold seqIndex?
      simp
    refine ⟨a, v0 :: vr, 0, 0, v0, rfl, rfl, h1, by decide, by decide, hk, rfl, ?_⟩
    exact k _ _ _ _ _ (e1.trans e2) (r2.change (mo' := .lst ys) ho ⟨vr, upd_same, h4⟩) (h3) q3
/-- an owned list against a list -/
theorem wo_neO {a : Addr} {xs : List D} {y : D} {ps : List PyData} {b : PyData} {Q : QD} (ho : m.own a = some (.lst xs)) (ha : pyL xs = some ps) (hb : pyD y = some b) (sa : SeqAt.shaped (.list ps) = true) (sb : SeqAt.shaped b = true) (q : Q (.s (.bl (!PyData.eqv (.list ps) b))) m) : WO K F B (rNeA K) (.s (.ref a)) y m Q := fun Hb H vx vy R hB r hx hy k => by
  unfold Rp at hx
  subst hx
  obtain ⟨_, vs, h1, h2⟩ := r.own _ _ ho
  exact .inr ⟨_, b, .lst (SqL.of h1) (pyL_dp xs vs ps ha h2 r.sub), pyD_dp y vy b hb hy r.sub, sa, sb, k.here r rp_s q⟩
theorem pyL_ints : ∀ ns : List Int, pyL ((ns.map V.int).map D.s) = some (ns.map PyData.int)
  | [] => by simp [pyL]
  | n :: ns => by
    have ih := pyL_ints ns
    rw [List.map_cons, List.map_cons]
    unfold pyL
    rw [ih]
    rfl
theorem pyL_strs : ∀ zs : List Str, pyL (zs.map fun z => D.s (.str z)) = some (zs.map PyData.str)
  | [] => by simp [pyL]
  | z :: zs => by
    have ih := pyL_strs zs
    rw [List.map_cons]
    unfold pyL
    rw [ih]
    rfl
theorem shp_ints : ∀ ns : List Int, PyData.canLayAll0 (ns.map PyData.int) = true ∧ PyData.depthAll (ns.map PyData.int) = 0
  | [] => ⟨rfl, rfl⟩
  | n :: ns => by
    obtain ⟨h1, h2⟩ := shp_ints ns
    exact ⟨by rw [List.map_cons]; unfold PyData.canLayAll0; rw [h1]; rfl, by rw [List.map_cons]; unfold PyData.depthAll; rw [h2]; rfl⟩
theorem shp_strs : ∀ {zs : List Str}, (∀ z ∈ zs, PyData.strOk z = true) → PyData.canLayAll0 (zs.map PyData.str) = true ∧ PyData.depthAll (zs.map PyData.str) = 0
  | [], _ => ⟨rfl, rfl⟩
  | z :: zs, h => by
    obtain ⟨h1, h2⟩ := shp_strs (zs := zs) fun y hy => h y (List.mem_cons_of_mem _ hy)
    exact ⟨by rw [List.map_cons]; unfold PyData.canLayAll0; rw [h1]; unfold PyData.canLay0; rw [h z List.mem_cons_self]; rfl, by rw [List.map_cons]; unfold PyData.depthAll; rw [h2]; rfl⟩
theorem shaped_ints (ns : List Int) : SeqAt.shaped (.list (ns.map PyData.int)) = true := by
  obtain ⟨h1, h2⟩ := shp_ints ns
  unfold SeqAt.shaped PyData.canLay0 PyData.depth
  rw [h1, h2]
  rfl
theorem shaped_strs {zs : List Str} (h : ∀ z ∈ zs, PyData.strOk z = true) : SeqAt.shaped (.list (zs.map PyData.str)) = true := by
  obtain ⟨h1, h2⟩ := shp_strs h
  unfold SeqAt.shaped PyData.canLay0 PyData.depth
  rw [h1, h2]
  rfl
theorem eqv_nil (ps : List PyData) : PyData.eqv (.list ps) (.list []) = ps.isEmpty := by
  cases ps <;> rfl
/-- a list of numbers, of texts, and the empty list -/
theorem wo_neNilS {zs : List Str} {Q : QD} (h : ∀ z ∈ zs, PyData.strOk z = true) (q : Q (.s (.bl (!decide (zs = [])))) m) : WO K F B (rNeA K) (.lst (zs.map fun z => .s (.str z))) (.lst []) m Q := by
  refine wo_neD (a := .list (zs.map PyData.str)) (b := .list []) (by unfold pyD; rw [pyL_strs]; rfl) (by simp [pyD, pyL]) (shaped_strs h) (by decide) ?_
  rw [eqv_nil]
  cases zs with
  | nil => exact q
  | cons a b => exact q
theorem wo_eqNilI {ns : List Int} {Q : QD} (q : Q (.s (.bl (decide (ns = [])))) m) : WO K F B (rEqA K) (.lst ((ns.map V.int).map D.s)) (.lst []) m Q := by
  refine wo_eqD (a := .list (ns.map PyData.int)) (b := .list []) (by unfold pyD; rw [pyL_ints]; rfl) (by simp [pyD, pyL]) (shaped_ints ns) (by decide) ?_
  rw [eqv_nil]
  cases ns with
  | nil => exact q
  | cons a b => exact q
theorem wo_neNilO {a : Addr} {ns : List Int} {Q : QD} (ho : m.own a = some (.lst ((ns.map V.int).map D.s))) (q : Q (.s (.bl (!decide (ns = [])))) m) : WO K F B (rNeA K) (.s (.ref a)) (.lst []) m Q := by
  refine wo_neO ho (pyL_ints ns) (b := .list []) (by simp [pyD, pyL]) (shaped_ints ns) (by decide) ?_
  rw [eqv_nil]
  cases ns with
  | nil => exact q
  | cons a b => exact q
theorem eqvAll_strs : ∀ (xs ys : List Str), PyData.eqvAll (xs.map PyData.str) (ys.map PyData.str) = decide (xs = ys)
  | [], [] => rfl
  | [], _ :: _ => rfl
  | _ :: _, [] => rfl
  | x :: xs, y :: ys => by
    rw [List.map_cons, List.map_cons]
    unfold PyData.eqvAll
    rw [eqvAll_strs xs ys]
    unfold PyData.eqv
    rw [Bool.eq_iff_iff]
    simp
theorem wo_neStrs {xs ys : List Str} {Q : QD} (h : ∀ z ∈ xs, PyData.strOk z = true) (h' : ∀ z ∈ ys, PyData.strOk z = true) (q : Q (.s (.bl (!decide (xs = ys)))) m) : WO K F B (rNeA K) (.lst (xs.map fun z => .s (.str z))) (.lst (ys.map fun z => .s (.str z))) m Q := by
  refine wo_neD (a := .list (xs.map PyData.str)) (b := .list (ys.map PyData.str)) (by unfold pyD; rw [pyL_strs]; rfl) (by unfold pyD; rw [pyL_strs]; rfl) (shaped_strs h) (shaped_strs h') ?_
  unfold PyData.eqv
  rw [eqvAll_strs]
  exact q
theorem wo_eqStrs {xs ys : List Str} {Q : QD} (h : ∀ z ∈ xs, PyData.strOk z = true) (h' : ∀ z ∈ ys, PyData.strOk z = true) (q : Q (.s (.bl (decide (xs = ys)))) m) : WO K F B (rEqA K) (.lst (xs.map fun z => .s (.str z))) (.lst (ys.map fun z => .s (.str z))) m Q := by
  refine wo_eqD (a := .list (xs.map PyData.str)) (b := .list (ys.map PyData.str)) (by unfold pyD; rw [pyL_strs]; rfl) (by unfold pyD; rw [pyL_strs]; rfl) (shaped_strs h) (shaped_strs h') ?_
  unfold PyData.eqv
  rw [eqvAll_strs]
  exact q
end
end DD
namespace DT
open PySem L2 TL
theorem strOk_of {z : Str} (h : ∀ c ∈ tl z, c < 128) : PyData.strOk z = true := by
  unfold PyData.strOk
  simp only [Array.all_eq_true', decide_eq_true_eq]
  intro c hc
  have := h c (by simpa [tl] using hc)
  show c < 1114112
  omega
theorem letters_lt : letters.all (fun c => decide (97 ≤ c ∧ c < 123)) = true := by decide +kernel
theorem name_lt {z : Str} (h : isName z = true) : ∀ c ∈ tl z, 97 ≤ c ∧ c < 123 := fun c hc => by
  unfold isName at h
  simp only [Bool.and_eq_true, List.all_eq_true, decide_eq_true_eq] at h
  exact of_decide_eq_true (List.all_eq_true.mp letters_lt c (h.2.2 c hc))
theorem dotty_lt {z : Str} (h : dotty z = true) : ∀ c ∈ tl z, c = 46 := by
  rw [dotty_iff] at h
  simp only [Bool.or_eq_true, decide_eq_true_eq] at h
  rcases h with rfl | rfl | rfl
  · have e : tl ("" : Str) = [] := by decide +kernel
    intro c hc
    rw [e] at hc
    cases hc
  · have e : tl ("." : Str) = [46] := by decide +kernel
    intro c hc
    rw [e] at hc
    simpa using hc
  · have e : tl (".." : Str) = [46, 46] := by decide +kernel
    intro c hc
    rw [e] at hc
    simpa using hc
theorem mem_pcs : ∀ {l : List Nat} {c : Nat}, c ∈ l → c = 47 ∨ ∃ p ∈ pcs l, c ∈ p
  | d :: l, c, h => by
    by_cases hd : d = 47
    · subst hd
      rw [pcs_bar]
      rcases List.mem_cons.mp h with z | z
      · exact .inl z
      · rcases mem_pcs z with z | ⟨p, h1, h2⟩
        · exact .inl z
        · exact .inr ⟨p, List.mem_cons_of_mem _ h1, h2⟩
    · rw [pcs_cons _ hd]
      rcases List.mem_cons.mp h with z | z
      · subst z
        exact .inr ⟨_, List.mem_cons_self, List.mem_cons_self⟩
      · rcases mem_pcs z with z | ⟨p, h1, h2⟩
        · exact .inl z
        · have e := pcs_head l
          rw [← e] at h1
          rcases List.mem_cons.mp h1 with z | z
          · refine .inr ⟨_, List.mem_cons_self, List.mem_cons_of_mem _ ?_⟩
            rw [← z]
            exact h2
          · exact .inr ⟨p, List.mem_cons_of_mem _ z, h2⟩
theorem piece_lt {p : Str} (h : (dotty p || isName p) = true) : ∀ c ∈ tl p, c < 128 := fun c hc => by
  rcases (Bool.or_eq_true _ _).mp h with z | z
  · rw [dotty_lt z c hc]
    decide
  · have := name_lt z c hc
    omega
theorem path_lt {z : Str} (h : isPath z = true) : ∀ c ∈ tl z, c < 128 := fun c hc => by
  rcases mem_pcs hc with q | ⟨p, h1, h2⟩
  · rw [q]
    decide
  · exact piece_lt ((isPath_iff.mp h).2 p h1) c h2
theorem path_ok {z : Str} (h : isPath z = true) : PyData.strOk z = true := strOk_of (path_lt h)
theorem steps_ok {z : Str} (h : isPath z = true) : ∀ p ∈ steps z, PyData.strOk p = true := fun p hp => by
  unfold steps pieces at hp
  obtain ⟨q, hq, rfl⟩ := List.mem_map.mp (List.mem_filter.mp hp).1
  exact strOk_of (piece_lt ((isPath_iff.mp h).2 q hq))
theorem name_ok {z : Str} (h : isName z = true) : PyData.strOk z = true := strOk_of fun c hc => by
  have := name_lt h c hc
  omega
theorem name_bar {z : Str} (h : isName z = true) : 47 ∉ tl z := fun hc => by
  have := name_lt h 47 hc
  omega
end DT

/-! DOwn: operators of one's own classes, over data. -/
namespace DD
open PySem L2
open PySem.Spec PyProof.Rows
/-- an object of the class C, data or owned -/
def ObjD (m : Mem) (C : Addr) : D → Prop
  | .ins C' _ _ => C' = C
  | .s (.ref a) => ∃ ns ds, m.own a = some (.ins C ns ds)
  | _ => False
section
variable {K : PySem.W.Frag} {B F Hb H : Hp} {m : Mem} {ρ : Env} {C : Addr} {φ : Phi} {E : XK} {X : XD}
theorem ObjD.at {x : D} {v : V} (q : ObjD m C x) (r : Rel K F Hb H m) (hx : Rp K Hb x v) : ∃ a dx fs, v = .ref a ∧ H a = some (.ins C dx fs) := by
  cases x with
  | ins C' ns ds =>
    have e : C' = C := q
    subst e
    unfold Rp at hx
    obtain ⟨p, dx, vs, rfl, h1, h2, h3⟩ := hx
    exact ⟨p, dx, _, rfl, r.sub _ _ h1⟩
  | s v' =>
    cases v' with
    | ref a =>
      obtain ⟨ns, ds, ho⟩ := q
      unfold Rp at hx
      subst hx
      obtain ⟨_, dx, vs, h1, h2, h3⟩ := r.own _ _ ho
      exact ⟨a, dx, _, rfl, h1⟩
    | _ => exact q.elim
  | _ => exact q.elim
theorem wc_lenO {x : D} {Q : QD} (hE : OkX K F B X E) (hx : ObjD m C x) (h : φ [x] m (fun d m' => ∃ n : Int, d = .s (.int n) ∧ 0 ≤ n ∧ n < 2 ^ 63 ∧ Q (.s (.int n)) m') X) : WC K F B (HO1.rLenO C (spOf K φ) E) [x] m Q := fun Hb H vs R hB r hv k => by
  obtain ⟨v, rfl, hv1⟩ := rpL1 hv
  obtain ⟨a, dx, fs, rfl, ha⟩ := hx.at r hv1
  refine ⟨a, dx, fs, rfl, ha, _, m, F, Hb, _, X, hv, r, h, fun w H' Hb' d m' e r' hd q => ?_, hE.mono hB⟩
  obtain ⟨n, rfl, h0, h1, q⟩ := q
  unfold Rp at hd
  exact ⟨n, hd, h0, h1, k _ _ _ _ _ e r' rp_s q⟩
theorem wo_binO {x y : D} {Q : QD} (hE : OkX K F B X E) (hx : ObjD m C x) (hy : ObjD m C y) (h : φ [x, y] m Q X) : WO K F B (HO1.rBinO C (spOf K φ) E) x y m Q := fun Hb H vx vy R hB r hvx hvy k => by
  obtain ⟨a, dx, fs, rfl, ha⟩ := hx.at r hvx
  obtain ⟨b, dy, gs, rfl, hb⟩ := hy.at r hvy
  exact ⟨a, b, dx, dy, fs, gs, rfl, rfl, ha, hb, _, m, F, Hb, Q, X, RpL.cons hvx (RpL.cons hvy RpL.nil), r, h, k, hE.mono hB⟩
theorem wo_inO {neg : Bool} {x y : D} {Q : QD} (hE : OkX K F B X E) (hy : ObjD m C y) (h : φ [y, x] m (fun d m' => ∃ b, d = .s (.bl b) ∧ Q (.s (.bl (if neg then !b else b))) m') X) : WO K F B (HO1.rInO C (spOf K φ) E neg) x y m Q := fun Hb H vx vy R hB r hvx hvy k => by
  obtain ⟨a, dx, fs, rfl, ha⟩ := hy.at r hvy
  refine ⟨a, dx, fs, rfl, ha, _, m, F, Hb, _, X, RpL.cons hvy (RpL.cons hvx RpL.nil), r, h, fun w H' Hb' d m' e r' hd q => ?_, hE.mono hB⟩
  obtain ⟨b, rfl, q⟩ := q
  unfold Rp at hd
  exact ⟨b, hd, k _ _ _ _ _ e r' rp_s q⟩
theorem wo_cmpO {x y : D} {t : Value} {Q : QD} (hE : OkX K F B X E) (hx : ObjD m C x) (hy : TyD K m y t) (hn : PySem.W.notFirst K C t = true) (h : φ [x, y] m Q X) : WO K F B (HO1.rCmpO K C (spOf K φ) E) x y m Q := fun Hb H vx vy R hB r hvx hvy k => by
  obtain ⟨a, dx, fs, rfl, ha⟩ := hx.at r hvx
  exact ⟨a, dx, fs, rfl, ha, ⟨t, hy.at r hvy, hn⟩, _, m, F, Hb, Q, X, RpL.cons hvx (RpL.cons hvy RpL.nil), r, h, k, hE.mono hB⟩
theorem wo_neOwn {x y : D} {t : Value} {Q : QD} (hE : OkX K F B X E) (hx : ObjD m C x) (hy : TyD K m y t) (hn : PySem.W.notFirst K C t = true) (h : φ [x, y] m (fun d m' => ∃ b, d = .s (.bl b) ∧ Q (.s (.bl (!b))) m') X) : WO K F B (HO1.rNeO K C (spOf K φ) E) x y m Q := fun Hb H vx vy R hB r hvx hvy k => by
  obtain ⟨a, dx, fs, rfl, ha⟩ := hx.at r hvx
  refine ⟨a, dx, fs, rfl, ha, ⟨t, hy.at r hvy, hn⟩, _, m, F, Hb, _, X, RpL.cons hvx (RpL.cons hvy RpL.nil), r, h, fun w H' Hb' d m' e r' hd q => ?_, hE.mono hB⟩
  obtain ⟨b, rfl, q⟩ := q
  unfold Rp at hd
  exact ⟨b, hd, k _ _ _ _ _ e r' rp_s q⟩
/-- the item at the end -/
theorem atI_last {α : Type} {xs : List α} {d : α} (h : xs.getLast? = some d) : atI xs (-1) = some d := by
  have hne : xs ≠ [] := fun z => by
    rw [z] at h
    cases h
  have hl : 0 < xs.length := List.length_pos_iff.mpr hne
  rw [List.getLast?_eq_getElem?] at h
  unfold atI ixN
  rw [if_neg (by decide), if_pos (by omega)]
  show xs[(-1 + (xs.length : Int)).toNat]? = some d
  rw [show (-1 + (xs.length : Int)).toNat = xs.length - 1 by omega]
  exact h
theorem atI_zero {α : Type} {xs : List α} {d : α} (h : xs.head? = some d) : atI xs 0 = some d := by
  cases xs with
  | nil => cases h
  | cons a as =>
    cases h
    unfold atI ixN
    rw [if_pos (by decide), if_pos (by simp)]
    rfl
theorem atI_nat {α : Type} {xs : List α} {i : Nat} {d : α} (h : xs[i]? = some d) : atI xs (i : Int) = some d := by
  have hi : i < xs.length := (List.getElem?_eq_some_iff.mp h).1
  unfold atI ixN
  rw [if_pos (by omega), if_pos (by omega)]
  show xs[(i : Int).toNat]? = some d
  rw [Int.toNat_natCast]
  exact h
theorem atI_int {α : Type} {xs : List α} {i : Int} (h0 : 0 ≤ i) (h1 : i < xs.length) : ∃ d, atI xs i = some d ∧ d ∈ xs := by
  have hi : i.toNat < xs.length := by omega
  refine ⟨xs[i.toNat], ?_, List.getElem_mem _⟩
  unfold atI ixN
  rw [if_pos h0, if_pos h1]
  exact List.getElem?_eq_getElem hi
/-- a cut between two statements -/
theorem ws_seqI {t u : TS} {E : DE} (I : DD.Env → Mem → Prop) (h1 : WS K F B t ρ m { E with nx := I }) (h2 : ∀ ρ1 m1, I ρ1 m1 → WS K F B u ρ1 m1 E) : WS K F B (tSeq t u) ρ m E :=
  ws_seq (ws_imp h1 (fun ρ1 m1 q => h2 ρ1 m1 q) (fun _ _ q => q) (fun _ _ q => q) (fun _ _ q => q))
/-- an item of a list, a tuple or a text -/
theorem wo_ixP {ns : List Str} {i : Int} {d : D} {Q : QD} (h : atI ((ns.map V.str).map D.s) i = some d) (q : Q d m) : WO K F B (rIx K) (.pl ns) (.s (.int i)) m Q := fun Hb H vx vy R hB r hx hy k => by
  refine wo_ixT h q Hb H vx vy R hB r ?_ hy k
  unfold Rp at hx ⊢
  obtain ⟨p, rfl, h2⟩ := hx
  exact ⟨p, _, rfl, SqT.of h2, RpL.ofScal _⟩
theorem wo_ixSeq {x : D} {xs : List D} {i : Int} {d : D} {Q : QD} (hs : seqD x = some xs) (hl : xs.length ≤ 1000000) (h : atI xs i = some d) (q : Q d m) : WO K F B (rIx K) x (.s (.int i)) m Q := by
  cases x with
  | lst ys =>
    cases hs
    exact wo_ixL h q
  | tup ys =>
    cases hs
    exact wo_ixT h q
  | pl ns =>
    cases hs
    exact wo_ixP h q
  | s w =>
    cases w with
    | str t =>
      cases hs
      unfold atI at h
      rw [chrs_length] at h hl
      cases hj : ixN t.length i with
      | none =>
        rw [hj] at h
        cases h
      | some j =>
        rw [hj] at h
        have h' : (chrs t)[j]? = some d := h
        unfold chrs at h'
        rw [List.getElem?_map] at h'
        cases hc : t.cps.toList[j]? with
        | none =>
          rw [hc] at h'
          cases h'
        | some c =>
          rw [hc] at h'
          cases h'
          refine wo_ixS (le_line hl) (c := c) ?_ q
          unfold atI
          rw [show t.cps.toList.length = t.length from (TL.len_tl t).symm, hj]
          exact hc
    | _ => cases hs
  | _ => cases hs
theorem lenD_seq {x : D} {xs : List D} (hs : seqD x = some xs) (hl : xs.length ≤ 1000000) : lenD m x xs.length := by
  cases x with
  | lst ys =>
    cases hs
    rfl
  | tup ys =>
    cases hs
    rfl
  | pl ns =>
    cases hs
    show _ = _
    simp
  | s w =>
    cases w with
    | str t =>
      cases hs
      rw [chrs_length] at hl ⊢
      exact ⟨le_line hl, rfl⟩
    | _ => cases hs
  | _ => cases hs
theorem zip_self : ∀ {xs : List D} {p : D × D}, p ∈ xs.zip xs → p.1 = p.2 ∧ p.1 ∈ xs
  | [], p, h => by cases h
  | x :: xs, p, h => by
    rw [List.zip_cons_cons] at h
    rcases List.mem_cons.mp h with z | z
    · subst z
      exact ⟨rfl, List.mem_cons_self⟩
    · obtain ⟨z1, z2⟩ := zip_self z
      exact ⟨z1, List.mem_cons_of_mem _ z2⟩
theorem len_le_of_sub {α : Type} [DecidableEq α] : ∀ {xs ys : List α}, xs.Nodup → (∀ x ∈ xs, x ∈ ys) → xs.length ≤ ys.length
  | [], ys, _, _ => Nat.zero_le _
  | x :: xs, ys, hn, hs => by
    have hx := hs x List.mem_cons_self
    obtain ⟨h1, h2⟩ := List.nodup_cons.mp hn
    have ih := len_le_of_sub (xs := xs) (ys := ys.erase x) h2 fun y hy => by
      have hne : y ≠ x := fun z => h1 (z ▸ hy)
      exact (List.mem_erase_of_ne hne).mpr (hs y (List.mem_cons_of_mem _ hy))
    rw [List.length_erase_of_mem hx] at ih
    have := List.length_pos_of_mem hx
    simp only [List.length_cons]
    omega
end
end DD
namespace DT
open PySem L2 TL PySem.StrLaws
theorem tl_emp : tl Str.empty = [] := rfl
theorem tl_join0 : ∀ zs : List Str, tl (Txt.join "" zs) = (zs.map tl).flatten := fun zs => by
  have e0 : tl ("" : Str) = [] := by decide +kernel
  show tl (Builtin.Str.glued "" zs) = _
  rw [glued_eq_join]
  induction zs with
  | nil => rfl
  | cons z zs ih =>
    cases zs with
    | nil => simp [Str.join]
    | cons y ys =>
      show tl (z ++ "" ++ Str.join "" (y :: ys)) = _
      rw [tl_append, tl_append, e0, ih]
      simp
theorem tl_joinB : ∀ ps : List (List Nat), tl (Txt.join "/" (ps.map mk)) = jn ps := fun ps => by
  have e0 : tl ("/" : Str) = [47] := by decide +kernel
  show tl (Builtin.Str.glued "/" (ps.map mk)) = _
  rw [glued_eq_join]
  induction ps with
  | nil => rfl
  | cons z zs ih =>
    cases zs with
    | nil => rfl
    | cons y ys =>
      show tl (mk z ++ "/" ++ Str.join "/" ((y :: ys).map mk)) = _
      rw [tl_append, tl_append, e0, ih]
      show z ++ [47] ++ _ = z ++ 47 :: _
      simp
end DT

/-! DKw: defs with defaults, calls by keywords, pop, a constant tuple. -/
namespace DD
open PySem L2
open PySem.Spec PyProof.Rows
section
variable {P : Program} {w : World} {K : PySem.W.Frag} {mg : Str → Option Value} {base : Heap} {B F Hb H : Hp} {m : Mem} {ρ : DD.Env}
theorem funD_mk {x qual : Str} {st : Stmt} {f T : Addr} {oc ot : Value} {od an odT : Option Addr} {osl slT : Array (Option Value)} {kV doc pm cdv ct : Value} {its : List Value} {n : Nat} {dvs : List V}
    (l : K.lookup f = some ⟨oc, od, .func (PySem.W.fnOf x qual (defArgs st) (defBody st) (defScope st) (.ref T) kV doc pm an cdv ct), osl⟩) (c : PySem.W.codeIn K cdv qual = true) (k : PySem.W.keepIn K (.ref f) = true)
    (lT : K.lookup T = some ⟨ot, odT, .seq its.toArray n, slT⟩) (r : Vals dvs its) (hd : dvs ≠ []) :
    FunD K x qual (defArgs st) (defBody st) (defScope st) dvs [] f (PySem.W.fnOf x qual (defArgs st) (defBody st) (defScope st) (.ref T) kV doc pm an cdv ct) :=
  ⟨⟨oc, od, .ref T, kV, doc, pm, an, cdv, ct, osl, rfl, l, c, .inr ⟨hd, T, _, its, n, rfl, lT, rfl, r⟩, .inl rfl⟩, k⟩
theorem allB {x qual : Str} {pa : Arguments} {bo : List Stmt} {sc : Scope} {dvs : List V} {f : Addr} {fd : FuncData} {ps : List Str} (F : FunD K x qual pa bo sc dvs [] f fd) (hd : dvs ≠ [])
    (h : ∀ (T : Addr) (kV doc pm : Value) (an : Option Addr) (cdv ct : Value) (us its : List Value), us.length = ps.length → its.length = dvs.length →
      ∃ k, bindArgs (PySem.W.fnOf x qual pa bo sc (.ref T) kV doc pm an cdv ct) ⟨us, []⟩ = seqItems? (.ref T) >>= k ∧ k (some its.toArray) = pure (ps.zip us)) : Binds K fd ps [] := by
  obtain ⟨ds, r, b⟩ := F.binds1 (ps := ps) ps.length dvs.length hd (by omega) fun T kV doc pm an cdv ct us its l1 l2 => by
    obtain ⟨k, e1, e2⟩ := h T kV doc pm an cdv ct us its l1 l2
    refine ⟨k, e1, ?_⟩
    rw [e2, ← l2, List.drop_length, List.append_nil]
  rw [List.drop_length] at r
  cases r
  exact b
theorem ok_DD {CX : CXT} {x qual : Str} {st : Stmt} {dvs : List V} {f : Addr} {fd : FuncData} {N ps : List Str} {k : Nat} {φ : Phi} (F : FunD K x qual (defArgs st) (defBody st) (defScope st) dvs [] f fd) (S : FnScope N ps (defScope st)) (hl : ∀ ds m nx X, φ ds m nx X → ds.length = ps.length)
    (hbody : ∀ (cdv : Value) (A : Around) (outer : List PySem.Env) (s : Shared) (H : Hp) (E : XK), Room k (A.deeper (envOfC qual (defScope st) s.heap.objs.size f cdv)) →
      ∃ t, PSs (cxOf CX P w K mg base N qual (defScope st) f cdv A outer s H E) (defBody st) t ∧ BodyOk K φ N E t) : FnOk P w K mg base CX (k + 1) f fd ps (spOf K φ) := by
  refine F.ok S (spOf_len hl) fun cdv A outer s H vs Q E hr h => ?_
  obtain ⟨ds, m, F', Hb, nx, X, h1, h2, h3, h4, h5⟩ := h
  obtain ⟨t, ht, hw⟩ := hbody cdv A outer s H E hr
  exact ⟨t, ht, hw ds m nx X F' Hb h3 h5 Hb H _ _ (Same.refl _) h2 (RpS.start h1) ⟨fun σ H' Hb' ρ m' e r hs q => h4 _ _ _ _ _ e r rp_s q, h4, fun _ _ _ _ _ _ _ _ z => z.elim, fun _ _ _ _ _ _ _ _ z => z.elim⟩⟩
theorem vals_app {vs zs : List V} {us ws : List Value} (h : Vals vs us) (h' : Vals zs ws) : Vals (vs ++ zs) (us ++ ws) := h.append h'
theorem kbn_mk {x qual : Str} {st : Stmt} {f : Addr} {fd : FuncData} {ps ks : List Str} {n : Nat} (F : Fun K x qual st f fd)
    (h : ∀ (kV doc pm : Value) (an : Option Addr) (cdv ct : Value) (us ws : List Value), us.length = n → ws.length = ks.length → bindArgs (PySem.W.fnOf x qual (defArgs st) (defBody st) (defScope st) .none kV doc pm an cdv ct) ⟨us, ks.zip ws⟩ = pure (ps.zip (us ++ ws))) :
    KBn K fd ps n ks (fun us ws => us ++ ws) (fun vs zs => vs ++ zs) := by
  obtain ⟨oc, od, kV, doc, pm, an, cdv, ct, osl, rfl, lk, hcd⟩ := F.ex
  exact ⟨fun s us ws X l1 l2 => .of_eq (h kV doc pm an cdv ct us ws l1 l2), fun r1 r2 => vals_app r1 r2⟩
theorem we_callN {φ : Phi} {E : XK} {n l : Nat} {ta tk : TA} {X : XD} {Q : QD} (hE : OkX K F B X E) (h : WA K F B ta ρ m fun ds m1 => WA K F B tk ρ m1 fun es m2 => ds.length = n ∧ es.length = l ∧ φ (ds ++ es) m2 Q X) :
    WE K F B (tCallN n l (spOf K φ) (fun vs zs => vs ++ zs) E ta tk) ρ m Q := fun Hb H σ R hB r hs k =>
  h Hb H σ _ hB r hs fun vs H1 Hb1 ds m1 e1 r1 hx q1 => q1 Hb1 H1 σ _ (hB.trans e1) r1 (hs.mono e1) fun zs H2 Hb2 es m2 e2 r2 hz q2 =>
    ⟨by rw [hx.length]; exact q2.1, by rw [hz.length]; exact q2.2.1, _, m2, F, Hb2, Q, X, (hx.mono e2).app hz, r2, q2.2.2, k.mono (e1.trans e2), hE.mono (hB.trans (e1.trans e2))⟩
/-- xs.pop(), xs an owned list -/
theorem we_pop {to : TE} {Q : QD} (h : WE K F B to ρ m fun x m1 => ∃ a xs y, x = .s (.ref a) ∧ m1.own a = some (.lst (xs ++ [y])) ∧ Q y { m1 with own := putM m1.own a (.lst xs) }) :
    WE K F B (tBM0 K "list" rPop to) ρ m Q := fun Hb H σ R hB r hs k =>
  h Hb H σ _ hB r hs fun v H1 Hb1 x m1 e1 r1 hx q1 => by
    obtain ⟨a, xs, y, rfl, ho, q⟩ := q1
    unfold Rp at hx
    subst hx
    obtain ⟨_, vs, h1, h2⟩ := r1.own _ _ ho
    have hl := h2.length
    obtain ⟨u, hu, ru⟩ := h2.get (i := xs.length) (d := y) (by simp)
    have e : vs.dropLast = vs.take xs.length := by
      rw [List.dropLast_eq_take, hl]
      simp
    refine ⟨.inl ⟨rfl, _, SqL.of h1⟩, a, vs, u, rfl, rfl, h1, ?_, ?_⟩
    · rw [hl]
      simpa using hu
    · refine k _ _ _ _ _ e1 (r1.change (mo' := .lst xs) ho ⟨_, upd_same, ?_⟩) ru q
      rw [e]
      have z := h2.take xs.length
      rw [List.take_left] at z
      exact z
/-- a constant tuple of the top -/
theorem we_cT {a : Addr} {vs : List V} {Q : QD} (h : ∀ H, SqT K H a vs) (q : Q (.tup (vs.map D.s)) m) : WE K F B (tC (.ref a)) ρ m Q := fun Hb H σ R hB r hs k => by
  refine k.here r (d := .tup (vs.map D.s)) ?_ q
  unfold Rp
  exact ⟨a, vs, rfl, h Hb, RpL.ofScal vs⟩
/-- any list against the empty one -/
theorem wo_neNil {xs : List D} {ps : List PyData} {Q : QD} (h : pyL xs = some ps) (s : SeqAt.shaped (.list ps) = true) (q : Q (.s (.bl (!decide (xs = [])))) m) : WO K F B (rNeA K) (.lst xs) (.lst []) m Q := by
  refine wo_neD (a := .list ps) (b := .list []) (by unfold pyD; rw [h]; rfl) (by simp [pyD, pyL]) s (by decide) ?_
  rw [eqv_nil]
  cases xs with
  | nil =>
    have e : ps = [] := by
      unfold pyL at h
      exact (Option.some.inj h).symm
    subst e
    exact q
  | cons a b =>
    cases ps with
    | nil =>
      unfold pyL at h
      cases e1 : pyD a with
      | none =>
        rw [e1] at h
        cases h
      | some y =>
        rw [e1] at h
        cases e2 : pyL b with
        | none =>
          rw [e2] at h
          cases h
        | some z =>
          rw [e2] at h
          cases h
    | cons y z => exact q
theorem wo_neNilOS {a : Addr} {zs : List Str} {Q : QD} (ho : m.own a = some (.lst (zs.map fun z => .s (.str z)))) (h : ∀ z ∈ zs, PyData.strOk z = true) (q : Q (.s (.bl (!decide (zs = [])))) m) : WO K F B (rNeA K) (.s (.ref a)) (.lst []) m Q := by
  refine wo_neO ho (pyL_strs zs) (b := .list []) (by simp [pyD, pyL]) (shaped_strs h) (by decide) ?_
  rw [eqv_nil]
  cases zs with
  | nil => exact q
  | cons a b => exact q
/-- a comprehension whose list is owned from then on -/
theorem we_lcO {wi : TI} {g : TG} {tt : TT} {te : TE} {vs : List Nat} {Q : QD} (h : WI K F B wi ρ m fun xs m1 => ∃ I : Nat → List D → Mem → Prop, I 0 [] m1 ∧
      (∀ F' i d acc m', xs[i]? = some d → I i acc m' → WGw K F' B g vs d ρ m' fun ρ2 m2 => WT K F' B tt ρ2 m2 fun b m3 =>
        (b = true → WE K F' B te ρ2 m3 fun y m4 => acc.length < sizeLine ∧ I (i + 1) (acc ++ [y]) m4) ∧ (b = false → I (i + 1) acc m3)) ∧ (∀ acc m' A, m'.own A = none → I xs.length acc m' → Q (.s (.ref A)) { m' with own := putM m'.own A (.lst acc) })) :
    WE K F B (tLc wi g tt te vs) ρ m Q := fun Hb H σ R hB r hs k =>
  h Hb H σ _ hB r hs fun J H1 Hb1 xs m1 e1 r1 hj q1 => by
    obtain ⟨I, h0, ht, hd⟩ := q1
    intro A hA
    have hF : F A = none := r1.nofr hA
    refine ⟨fun i n H' => n = xs.length - i ∧ i ≤ xs.length ∧ ∃ Hb' acc us m', Same Hb1 Hb' ∧ Rel K (upd F A (.lst us)) Hb' H' m' ∧ RpL K Hb' acc us ∧ I i acc m', ⟨xs.length, by simp, Nat.zero_le _, Hb1, [], [], m1, Same.refl _, r1.aside hA, RpL.nil, h0⟩, ?_⟩
    rintro i n H' ⟨rfl, hi, Hb', acc, us, m', e', r', ha, hI⟩
    by_cases hlt : i < xs.length
    · obtain ⟨hgo, hy⟩ := (hj i _ Hb' H' m' e' r').2 xs[i] (by simp [hlt])
      refine .inr ⟨hgo, fun H2 => ∃ Hb2 acc2 us2 m2, Same Hb1 Hb2 ∧ Rel K (upd F A (.lst us2)) Hb2 H2 m2 ∧ RpL K Hb2 acc2 us2 ∧ I (i + 1) acc2 m2, fun H2 q2 => ⟨xs.length - (i + 1), by omega, rfl, hlt, q2⟩, fun x H2 y => ?_⟩
      obtain ⟨Hb2, e2, r2, hx⟩ := hy x H2 y
      have eB : Same B Hb2 := (hB.trans e1).trans (e'.trans e2)
      refine ht (upd F A (.lst us)) i xs[i] acc m' (by simp [hlt]) hI Hb2 H2 σ x _ eB r2 (hs.mono ((e1.trans e').trans e2)) hx fun σ3 H3 Hb3 ρ3 m3 e3 r3 hs3 q3 => ?_
      refine q3 Hb3 H3 σ3 _ (eB.trans e3) r3 hs3 fun b H4 Hb4 m4 e4 r4 q4 => ?_
      have e14 : Same Hb1 Hb4 := ((e'.trans e2).trans e3).trans e4
      cases b with
      | true =>
        refine iteT (q4.1 rfl Hb4 H4 σ3 _ ((eB.trans e3).trans e4) r4 (hs3.mono e4) fun v H5 Hb5 y5 m5 e5 r5 hy5 q5 => ?_)
        have hD := (r5.fr A _ upd_same).1
        have ha5 : RpL K Hb5 acc us := ha.mono (((e2.trans e3).trans e4).trans e5)
        refine ⟨us, hD, by rw [ha5.length]; exact q5.1, Hb5, acc ++ [y5], us ++ [v], m5, e14.trans e5, r5.turnA, ha5.app (RpL.cons hy5 RpL.nil), q5.2⟩
      | false => exact iteF ⟨Hb4, acc, us, m4, e14, r4, ha.mono ((e2.trans e3).trans e4), q4.2 rfl⟩
    · have e : i = xs.length := by omega
      subst e
      have z := r'.fr A _ upd_same
      exact .inl ⟨(hj _ _ Hb' H' m' e' r').1 (Nat.le_refl _), k _ _ _ _ _ (e1.trans e') (r'.take hF (mo := .lst acc) ⟨us, z.1, ha⟩) rp_s (hd _ _ A z.2.2 hI)⟩
end
end DD

/-! DStrk: paths tidied, by lists of steps. -/
namespace DT
open PySem L2 TL
/-- a step -/
def isStep (s : Str) : Prop := s = "." ∨ s = ".." ∨ isName s = true
def lastN (st : List Str) : Bool := match st.getLast? with | some x => isName x | none => false
/-- one step is laid: d dot, u up, r root up and rooted -/
def lay (d u r : Bool) (st : List Str) (s : Str) : List Str :=
  if s = "." ∧ d = true then st else if s = ".." ∧ u = true ∧ lastN st = true then st.dropLast else if s = ".." ∧ r = true ∧ st = [] then st else st ++ [s]
def tidyS (d u r : Bool) (l : List Str) : List Str := l.foldl (lay d u r) []
theorem name_nd {s : Str} (h : isName s = true) : s ≠ "." ∧ s ≠ ".." := by
  constructor
  · rintro rfl
    revert h
    decide +kernel
  · rintro rfl
    revert h
    decide +kernel
theorem isStep_ne {s : Str} (h : isStep s) : tl s ≠ [] ∧ 47 ∉ tl s := by
  rcases h with rfl | rfl | h
  · decide +kernel
  · decide +kernel
  · refine ⟨fun e => ?_, name_bar h⟩
    unfold isName at h
    simp only [Bool.and_eq_true, decide_eq_true_eq] at h
    rw [len_tl, e] at h
    exact absurd h.1 (by decide)
theorem isStep_len {s : Str} (h : isStep s) : s.length ≤ 8 := by
  rcases h with rfl | rfl | h
  · decide +kernel
  · decide +kernel
  · unfold isName at h
    simp only [Bool.and_eq_true, decide_eq_true_eq] at h
    exact h.2.1
theorem isStep_piece {s : Str} (h : isStep s) : (dotty s || isName s) = true := by
  rcases h with rfl | rfl | h
  · decide +kernel
  · decide +kernel
  · rw [h, Bool.or_true]
theorem isStep_name {s : Str} (h : isStep s) : isName s = !(dotty s) := by
  rcases h with rfl | rfl | h
  · decide +kernel
  · decide +kernel
  · obtain ⟨h1, h2⟩ := name_nd h
    have h3 := isStep_ne (.inr (.inr h)) |>.1
    rw [h, dotty_iff, decide_eq_false h1, decide_eq_false h2, decide_eq_false (fun e => h3 (by rw [e]; decide +kernel))]
    rfl
theorem isStep_ok {s : Str} (h : isStep s) : PyData.strOk s = true := strOk_of (piece_lt (isStep_piece h))
theorem steps_isStep {z : Str} (h : isPath z = true) : ∀ s ∈ steps z, isStep s := fun s hs => by
  unfold steps pieces at hs
  obtain ⟨h1, h2⟩ := List.mem_filter.mp hs
  obtain ⟨q, hq, rfl⟩ := List.mem_map.mp h1
  have h3 := (isPath_iff.mp h).2 q hq
  have h4 : mk q ≠ "" := by simpa using h2
  rcases (Bool.or_eq_true _ _).mp h3 with w | w
  · rw [dotty_iff, decide_eq_false h4, Bool.false_or] at w
    rcases (Bool.or_eq_true _ _).mp w with w | w
    · exact .inl (of_decide_eq_true w)
    · exact .inr (.inl (of_decide_eq_true w))
  · exact .inr (.inr w)
section
variable {d u r : Bool}
theorem lay_cases (st : List Str) (s : Str) : lay d u r st s = st ∨ (lay d u r st s = st.dropLast) ∨ lay d u r st s = st ++ [s] := by
  unfold lay
  split
  · exact .inl rfl
  · split
    · exact .inr (.inl rfl)
    · split
      · exact .inl rfl
      · exact .inr (.inr rfl)
theorem lay_len (st : List Str) (s : Str) : (lay d u r st s).length ≤ st.length + 1 := by
  rcases lay_cases (d := d) (u := u) (r := r) st s with e | e | e <;> rw [e]
  · omega
  · rw [List.length_dropLast]
    omega
  · simp
theorem fold_len : ∀ (l st : List Str), (l.foldl (lay d u r) st).length ≤ st.length + l.length
  | [], st => Nat.le_refl _
  | s :: l, st => by
    have h1 := fold_len l (lay d u r st s)
    have h2 := lay_len (d := d) (u := u) (r := r) st s
    rw [List.foldl_cons, List.length_cons]
    omega
theorem tidy_snoc (l : List Str) (s : Str) : tidyS d u r (l ++ [s]) = lay d u r (tidyS d u r l) s := by
  unfold tidyS
  rw [List.foldl_append]
  rfl
theorem tidy_len (l : List Str) : (tidyS d u r l).length ≤ l.length := by
  have := fold_len (d := d) (u := u) (r := r) l []
  simpa [tidyS] using this
theorem lay_stable {st : List Str} (s : Str) (h : tidyS d u r st = st) : tidyS d u r (lay d u r st s) = lay d u r st s := by
  rcases lay_cases (d := d) (u := u) (r := r) st s with e | e | e
  · rw [e, h]
  · rw [e]
    by_cases hn : st = []
    · subst hn
      rfl
    · have es := List.dropLast_concat_getLast hn
      generalize st.getLast hn = x at es
      generalize st.dropLast = st' at es ⊢
      rw [← es, tidy_snoc] at h
      have hl := tidy_len (d := d) (u := u) (r := r) st'
      generalize tidyS d u r st' = y at h hl ⊢
      rcases lay_cases (d := d) (u := u) (r := r) y x with e2 | e2 | e2
      · rw [e2] at h
        rw [h] at hl
        simp at hl
        omega
      · rw [e2] at h
        have := congrArg List.length h
        simp at this
        omega
      · rw [e2] at h
        exact List.append_inj_left' h rfl
  · rw [e, tidy_snoc, h, e]
theorem tidy_idem (l : List Str) : tidyS d u r (tidyS d u r l) = tidyS d u r l := by
  refine snocInd (P := fun l => tidyS d u r (tidyS d u r l) = tidyS d u r l) rfl (fun l s ih => ?_) l
  rw [tidy_snoc]
  exact lay_stable s ih
theorem lay_mem {P : Str → Prop} {st : List Str} {s : Str} (h : ∀ x ∈ st, P x) (hs : P s) : ∀ x ∈ lay d u r st s, P x := by
  rcases lay_cases (d := d) (u := u) (r := r) st s with e | e | e <;> rw [e]
  · exact h
  · exact fun x hx => h x (List.dropLast_subset st hx)
  · intro x hx
    rcases List.mem_append.mp hx with w | w
    · exact h x w
    · have : x = s := by simpa using w
      rw [this]
      exact hs
theorem tidy_mem {P : Str → Prop} {l : List Str} (h : ∀ x ∈ l, P x) : ∀ x ∈ tidyS d u r l, P x := by
  revert h
  refine snocInd (P := fun l => (∀ x ∈ l, P x) → ∀ x ∈ tidyS d u r l, P x) (fun _ x hx => by cases hx) (fun l s ih h => ?_) l
  rw [tidy_snoc]
  exact lay_mem (ih fun x hx => h x (List.mem_append_left _ hx)) (h s (by simp))
/-! ### strikes -/
theorem fold_cut (l1 l2 m st : List Str) (h : ∀ st, st = tidyS d u r l1 → m.foldl (lay d u r) st = st) : tidyS d u r (l1 ++ (m ++ l2)) = tidyS d u r (l1 ++ l2) := by
  unfold tidyS at h ⊢
  rw [List.foldl_append, List.foldl_append, List.foldl_append, h _ rfl]
/-- what may be struck: (b, e) -/
def Strike (d u r : Bool) (l : List Str) (b e : Nat) : Prop :=
  (d = true ∧ e = b + 1 ∧ l[b]? = some ("." : Str)) ∨ (u = true ∧ e = b + 2 ∧ (∃ x : Str, l[b]? = some x ∧ x ≠ "." ∧ x ≠ "..") ∧ l[b + 1]? = some (".." : Str)) ∨ (r = true ∧ b = 0 ∧ e = 1 ∧ l[0]? = some (".." : Str))
theorem split_at {l : List Str} {b : Nat} {x : Str} (h : l[b]? = some x) : l = l.take b ++ x :: l.drop (b + 1) := by
  obtain ⟨hl, e⟩ := List.getElem?_eq_some_iff.mp h
  rw [← e]
  simp
theorem strike_len {l : List Str} {b e : Nat} (h : Strike d u r l b e) : b < e ∧ e ≤ l.length := by
  rcases h with ⟨_, rfl, h⟩ | ⟨_, rfl, _, h⟩ | ⟨_, rfl, rfl, h⟩
  · have := (List.getElem?_eq_some_iff.mp h).1
    omega
  · have := (List.getElem?_eq_some_iff.mp h).1
    omega
  · have := (List.getElem?_eq_some_iff.mp h).1
    omega
theorem strike_same {l : List Str} {b e : Nat} (hl : ∀ s ∈ l, isStep s) (h : Strike d u r l b e) : tidyS d u r (l.take b ++ l.drop e) = tidyS d u r l := by
  have key : ∀ m, l = l.take b ++ (m ++ l.drop e) → (∀ st, st = tidyS d u r (l.take b) → m.foldl (lay d u r) st = st) → tidyS d u r (l.take b ++ l.drop e) = tidyS d u r l := fun m e1 h1 => by
    have := fold_cut (d := d) (u := u) (r := r) (l.take b) (l.drop e) m [] h1
    rw [← e1] at this
    exact this.symm
  rcases h with ⟨hd, rfl, h⟩ | ⟨hu, rfl, ⟨x, hx, n1, n2⟩, h⟩ | ⟨hr, rfl, rfl, h⟩
  · refine key ["."] (split_at h) fun st _ => ?_
    show lay d u r st "." = st
    unfold lay
    rw [if_pos ⟨rfl, hd⟩]
  · have e1 := split_at hx
    have e2 : l.drop (b + 1) = (".." : Str) :: l.drop (b + 2) := by
      obtain ⟨hb, e⟩ := List.getElem?_eq_some_iff.mp h
      rw [List.drop_eq_getElem_cons hb, e]
    rw [e2] at e1
    have hxn : isName x = true := by
      have := hl x (List.mem_of_getElem? hx)
      rcases this with w | w | w
      · exact absurd w n1
      · exact absurd w n2
      · exact w
    refine key [x, ".."] e1 fun st _ => ?_
    show lay d u r (lay d u r st x) ".." = st
    have h1 : lay d u r st x = st ++ [x] := by
      unfold lay
      rw [if_neg (fun z => n1 z.1), if_neg (fun z => n2 z.1), if_neg (fun z => n2 z.1)]
    rw [h1]
    have h2 : lastN (st ++ [x]) = true := by
      unfold lastN
      rw [List.getLast?_concat]
      exact hxn
    unfold lay
    rw [if_neg (fun z => absurd z.1 (by decide +kernel)), if_pos ⟨rfl, hu, h2⟩, List.dropLast_concat]
  · refine key [".."] (split_at h) fun st e1 => ?_
    subst e1
    show lay d u r [] ".." = []
    unfold lay
    rw [if_neg (fun z => absurd z.1 (by decide +kernel)), if_neg (fun z => by simp [lastN] at z), if_pos ⟨rfl, hr, rfl⟩]
theorem strike_done {l : List Str} (hn : ∀ b e, ¬ Strike d u r l b e) : tidyS d u r l = l := by
  have key : ∀ n, n ≤ l.length → tidyS d u r (l.take n) = l.take n := fun n => by
    induction n with
    | zero =>
      intro _
      rw [List.take_zero]
      rfl
    | succ n ih =>
      intro h
      have hlt : n < l.length := by omega
      have hg : l[n]? = some l[n] := List.getElem?_eq_getElem hlt
      generalize l[n] = s at hg
      rw [List.take_add_one, hg]
      show tidyS d u r (l.take n ++ [s]) = l.take n ++ [s]
      rw [tidy_snoc, ih (by omega)]
      unfold lay
      rw [if_neg (fun z => hn n (n + 1) (.inl ⟨z.2, rfl, by rw [hg, z.1]⟩)), if_neg, if_neg]
      · rintro ⟨z1, z2, z3⟩
        have h0 : n = 0 := by
          have := congrArg List.length z3
          rw [List.length_take, List.length_nil] at this
          omega
        subst h0
        exact hn 0 1 (.inr (.inr ⟨z2, rfl, rfl, by rw [hg, z1]⟩))
      · rintro ⟨z1, z2, z3⟩
        cases n with
        | zero => simp [lastN] at z3
        | succ n =>
          have hlt' : n < l.length := by omega
          have hg' : l[n]? = some l[n] := List.getElem?_eq_getElem hlt'
          generalize l[n] = x at hg'
          have e : (l.take (n + 1)).getLast? = some x := by
            rw [List.take_add_one, hg']
            exact List.getLast?_concat
          unfold lastN at z3
          rw [e] at z3
          obtain ⟨w1, w2⟩ := name_nd z3
          exact hn n (n + 2) (.inr (.inl ⟨z2, rfl, ⟨x, hg', w1, w2⟩, by rw [hg, z1]⟩))
  have := key l.length (Nat.le_refl _)
  rw [List.take_length] at this
  exact this
end
/-! ### a path of steps -/
def bodyL (st : List Str) (rt : Bool) : List Nat := (if rt = true then [47] else []) ++ jn (st.map tl)
def plainL (st : List Str) (rt en : Bool) : List Nat := if bodyL st rt = [] then [46] else bodyL st rt ++ (if en = true ∧ lastN st = true then [47] else [])
def plainT (st : List Str) (rt en : Bool) : Str := mk (plainL st rt en)
theorem jn_ne {st : List (List Nat)} (h : ∀ s ∈ st, s ≠ []) (h0 : st ≠ []) : jn st ≠ [] := by
  cases st with
  | nil => exact absurd rfl h0
  | cons a as =>
    have ha := h a List.mem_cons_self
    cases as with
    | nil => exact ha
    | cons b bs => exact fun z => ha (List.append_eq_nil_iff.mp z).1
theorem body_nil {st : List Str} {rt : Bool} (h : ∀ s ∈ st, isStep s) : bodyL st rt = [] ↔ rt = false ∧ st = [] := by
  unfold bodyL
  constructor
  · intro z
    obtain ⟨z1, z2⟩ := List.append_eq_nil_iff.mp z
    refine ⟨?_, ?_⟩
    · cases rt with
      | true => cases z1
      | false => rfl
    · by_cases h0 : st = []
      · exact h0
      · refine absurd z2 (jn_ne (fun s hs => ?_) fun w => h0 (List.map_eq_nil_iff.mp w))
        obtain ⟨x, hx, rfl⟩ := List.mem_map.mp hs
        exact (isStep_ne (h x hx)).1
  · rintro ⟨rfl, rfl⟩
    rfl
theorem pcs_body {st : List Str} {rt : Bool} (h : ∀ s ∈ st, isStep s) (h0 : st ≠ []) : pcs (bodyL st rt) = (if rt = true then [[]] else []) ++ st.map tl := by
  have hj : pcs (jn (st.map tl)) = st.map tl := pcs_jn _ (fun w => h0 (List.map_eq_nil_iff.mp w)) fun p hp => by
    obtain ⟨x, hx, rfl⟩ := List.mem_map.mp hp
    exact (isStep_ne (h x hx)).2
  unfold bodyL
  cases rt with
  | true =>
    show pcs (47 :: jn (st.map tl)) = _
    rw [pcs_bar, hj]
    rfl
  | false => exact hj
theorem map_mk_tl (st : List Str) : (st.map tl).map mk = st := by
  rw [List.map_map]
  exact (List.map_congr_left fun x _ => mk_tl x).trans (List.map_id st)
/-- what a path with steps is, read again -/
theorem plain_read {st : List Str} {rt en : Bool} (h : ∀ s ∈ st, isStep s) (h0 : st ≠ []) :
    pcs (plainL st rt en) = (if rt = true then [[]] else []) ++ st.map tl ++ (if en = true ∧ lastN st = true then [[]] else []) := by
  have hb : bodyL st rt ≠ [] := fun z => h0 ((body_nil h).mp z).2
  unfold plainL
  rw [if_neg hb]
  split
  · rw [pcs_cat, pcs_body h h0]
    rfl
  · rw [List.append_nil, List.append_nil, pcs_body h h0]
theorem plain_steps {st : List Str} {rt en : Bool} (h : ∀ s ∈ st, isStep s) (h0 : st ≠ []) : steps (plainT st rt en) = st := by
  rw [steps_tl]
  show ((pcs (plainL st rt en)).filter fun p => !p.isEmpty).map mk = st
  rw [plain_read h h0, List.filter_append, List.filter_append]
  have e1 : (if rt = true then [([] : List Nat)] else []).filter (fun p => !p.isEmpty) = [] := by split <;> rfl
  have e2 : (if en = true ∧ lastN st = true then [([] : List Nat)] else []).filter (fun p => !p.isEmpty) = [] := by split <;> rfl
  have e3 : (st.map tl).filter (fun p => !p.isEmpty) = st.map tl := by
    rw [List.filter_eq_self]
    intro p hp
    obtain ⟨x, hx, rfl⟩ := List.mem_map.mp hp
    have := (isStep_ne (h x hx)).1
    simpa using this
  rw [e1, e2, e3, List.nil_append, List.append_nil, map_mk_tl]
theorem plain_rooted {st : List Str} {rt en : Bool} (h : ∀ s ∈ st, isStep s) (h0 : st ≠ []) : rooted (plainT st rt en) = rt := by
  have hb : bodyL st rt ≠ [] := fun z => h0 ((body_nil h).mp z).2
  unfold rooted
  show decide ((plainL st rt en).head? = some 47) = rt
  unfold plainL
  rw [if_neg hb]
  cases rt with
  | true =>
    refine decide_eq_true ?_
    unfold bodyL
    rfl
  | false =>
    refine decide_eq_false fun z => ?_
    unfold bodyL at z
    cases st with
    | nil => exact h0 rfl
    | cons a as =>
      obtain ⟨n1, n2⟩ := isStep_ne (h a List.mem_cons_self)
      cases ha : tl a with
      | nil => exact n1 ha
      | cons c cs =>
        have e : (jn ((a :: as).map tl)).head? = some c := by
          cases as with
          | nil =>
            show (tl a).head? = _
            rw [ha]
            rfl
          | cons b bs =>
            show (tl a ++ 47 :: jn ((b :: bs).map tl)).head? = _
            rw [ha]
            rfl
        have e2 : (([] ++ jn ((a :: as).map tl)) ++ (if en = true ∧ lastN (a :: as) = true then [47] else [])).head? = some c := by
          rw [List.nil_append, List.head?_append, e]
          rfl
        have z2 : (([] ++ jn ((a :: as).map tl)) ++ (if en = true ∧ lastN (a :: as) = true then [47] else [])).head? = some 47 := z
        rw [e2] at z2
        have : c = 47 := Option.some.inj z2
        exact n2 (by rw [ha, this]; exact List.mem_cons_self)
theorem plain_ended {st : List Str} {rt en : Bool} (h : ∀ s ∈ st, isStep s) (h0 : st ≠ []) : ended (plainT st rt en) = (!(lastN st) || en) := by
  unfold ended lastP
  show dotty (mk ((pcs (plainL st rt en)).getLastD [])) = _
  rw [plain_read h h0]
  have hl := List.getLast?_eq_some_getLast h0
  have hx := List.getLast_mem h0
  generalize st.getLast h0 = x at hl hx
  have hn : lastN st = isName x := by
    unfold lastN
    rw [hl]
  rw [List.getLastD_eq_getLast?, List.getLast?_append]
  by_cases hc : en = true ∧ lastN st = true
  · rw [if_pos hc, hc.1, Bool.or_true]
    show dotty (mk []) = true
    decide +kernel
  · rw [if_neg hc]
    have e2 : (((if rt = true then [([] : List Nat)] else []) ++ st.map tl).getLast?) = some (tl x) := by
      rw [List.getLast?_append, List.getLast?_map, hl]
      rfl
    show dotty (mk ((Option.or none (((if rt = true then [([] : List Nat)] else []) ++ st.map tl).getLast?)).getD [])) = _
    rw [e2]
    show dotty (mk (tl x)) = _
    rw [mk_tl', hn, isStep_name (h x hx)]
    rw [hn, isStep_name (h x hx)] at hc
    cases hd : dotty x with
    | true => rfl
    | false =>
      rw [hd] at hc
      cases en with
      | true => exact absurd ⟨rfl, rfl⟩ hc
      | false => rfl
theorem plain_path {st : List Str} {rt en : Bool} (h : ∀ s ∈ st, isStep s) : isPath (plainT st rt en) = true := by
  by_cases h0 : st = []
  · subst h0
    cases rt <;> cases en <;> decide +kernel
  · have hb : bodyL st rt ≠ [] := fun z => h0 ((body_nil h).mp z).2
    refine isPath_iff.mpr ⟨fun z => ?_, fun p hp => ?_⟩
    · have z2 := mk_eq_nil.mp z
      unfold plainL at z2
      rw [if_neg hb] at z2
      exact hb (List.append_eq_nil_iff.mp z2).1
    · have hp' : p ∈ pcs (plainL st rt en) := hp
      rw [plain_read h h0] at hp'
      rcases List.mem_append.mp hp' with w | w
      · rcases List.mem_append.mp w with w | w
        · split at w
          · have e : p = [] := by simpa using w
            subst e
            decide +kernel
          · cases w
        · obtain ⟨x, hx, rfl⟩ := List.mem_map.mp w
          rw [mk_tl']
          exact isStep_piece (h x hx)
      · split at w
        · have e : p = [] := by simpa using w
          subst e
          decide +kernel
        · cases w
/-- tidied once more nothing changes -/
theorem plain_again {d u r e : Bool} {st : List Str} {rt en : Bool} (h : ∀ s ∈ st, isStep s) (hf : tidyS d u (r && rt) st = st) (z : Str) (hz : z = plainT st rt (en && !e)) :
    plainT (tidyS d u (r && rooted z) (steps z)) (rooted z) (ended z && !e) = z := by
  by_cases h0 : st = []
  · subst h0
    subst hz
    cases rt <;> cases en <;> cases e <;> cases d <;> cases u <;> cases r <;> decide +kernel
  · have e1 := plain_steps (rt := rt) (en := en && !e) h h0
    have e2 := plain_rooted (rt := rt) (en := en && !e) h h0
    have e3 := plain_ended (rt := rt) (en := en && !e) h h0
    rw [← hz] at e1 e2 e3
    rw [e1, e2, e3, hf, hz]
    unfold plainT plainL
    congr 1
    split
    · rfl
    · congr 1
      cases hl : lastN st <;> cases en <;> cases e <;> rfl
theorem jn_le {b : Nat} : ∀ {st : List Str}, (∀ s ∈ st, s.length ≤ b) → (jn (st.map tl)).length ≤ st.length * (b + 1)
  | [], _ => Nat.zero_le _
  | [a], h => by
    have := h a List.mem_cons_self
    rw [len_tl] at this
    show (tl a).length ≤ 1 * (b + 1)
    omega
  | a :: c :: r, h => by
    have ih := jn_le (st := c :: r) fun s hs => h s (List.mem_cons_of_mem _ hs)
    have := h a List.mem_cons_self
    rw [len_tl] at this
    show (tl a ++ 47 :: jn ((c :: r).map tl)).length ≤ _
    rw [List.length_append, List.length_cons, List.length_cons (as := c :: r), Nat.succ_mul]
    omega
theorem plain_len {st : List Str} {rt en : Bool} (h : ∀ s ∈ st, isStep s) : (plainT st rt en).length ≤ st.length * 9 + 2 := by
  have h1 := jn_le (b := 8) (st := st) fun s hs => isStep_len (h s hs)
  rw [len_tl]
  show (plainL st rt en).length ≤ _
  unfold plainL
  split
  · show 1 ≤ _
    omega
  · unfold bodyL
    rw [List.length_append, List.length_append]
    have e1 : (if rt = true then [47] else []).length ≤ 1 := by split <;> decide
    have e2 : (if en = true ∧ lastN st = true then [47] else []).length ≤ 1 := by split <;> decide
    omega
end DT

/-! HExc: own exceptions whose __init__ calls the base's by its class; try around calls. -/
namespace HX1
open PySem PySem.Spec PyProof.Rows L2
section
variable {X : Cx} {o e : Expr} {es : List Expr} {to te : TE} {ta : TA} {f : Str} {p p' p1 p2 pos : Pos}
/-- B.__init__(self, ..), B an own class over ValueError without __init__ -/
theorem pe_peinit {x : Str} {C0 : Addr} {pl : Sem Bool} (hg : Gl X x) (hm : X.mg x = some (.ref C0)) (rd : PySem.W.readsIn X.K C0 (.type "type") = true) (ga : PySem.W.specialIn X.K (.ref C0) "__getattribute__" = some (some (.builtin "type.__getattribute__")))
    (vV : PySem.W.findCls X.K (.ref C0) (.type "type") "__init__" = some (.val (.builtin "ValueError.__init__"))) (ha : PA X (e :: es) ta)
    (hdb : (x == ("__debug__" : Str)) = false := by decide)
    (hc : eval (.Call (.Attribute (.Name x p1) "__init__" p2) (e :: es) [] pos) X.env = (do
      let ov ← eval (.Name x p1) X.env
      standAt p2.atName
      let (f, first) ← holding [ov] (getMethod ov "__init__" pl)
      callWith pos f first (backTo pos (starEach (e :: es) X.env)) (backToKw pos (keywordEach [] X.env))) := by rfl)
    (he : starEach (e :: es) X.env = (false, eval e X.env) :: starEach es X.env := by rfl) (hpl : (backTo pos (starEach es X.env)).any (·.1) = false := by rfl) :
    PE X (.Call (.Attribute (.Name x p1) "__init__" p2) (e :: es) [] pos) (tVeI X.K ta) := by
  refine ⟨fun pins s σ H Q I h => ?_⟩
  refine PySem.W.methodCall_KW (ld_glob I hg hm ?_ hdb) hc
  refine PySem.W.method_cls I.kIn ga ?_
  refine PySem.W.cls_value I.kIn rd vV (by decide +kernel) ?_
  show wpAny _ _ (callWith pos (Value.builtin "ValueError.__init__") [] (backTo pos (starEach (e :: es) X.env)) []) _ _ _
  refine PyProof.Rows.callWith_method1 (thn (ha.run pos pins _ σ H _ (I.tok _) h) fun us s1 ⟨vs, H1, I1, r1, a, C, ws, ev, hl, T, ea, q⟩ => ?_) he hpl
  subst ev
  cases r1 with
  | @cons _ u0 _ ur ra rw' =>
    obtain rfl : u0 = Value.ref a := ra
    have hlen : ur.length ≤ sizeLine := by
      rw [← Paired.length rw', sizeLine_eq]
      omega
    exact oinit_ok T I1 ea hlen fun s' J => ⟨.non, H1, J, rfl, q⟩
/-- what a callee lets out is taken, the slots' number known -/
theorem passes_len {W : WX} {E : XK} (tk : Takes X W) (hW : ∀ cls d σ H, σ.length = X.N.length → E cls d H → W cls d σ H) : Passes (L2.CX X.prog X.w) X E :=
  fun _ σ _ _ e s' I c => tk e s' (XE.of_call I (fun cls d H' h => hW cls d σ H' I.len h) c)
end
/-- the promise of an __init__ with one attribute f -/
def spExc (C : Addr) (f : Str) : Sp := fun vs H Q _ => ∃ a v, vs = [.ref a, v] ∧ H a = some (exo a C none) ∧ ∀ dx, H dx = none → dx ≠ a → Q .non (upd (upd H dx (exd dx [(f, v)])) a (exo a C (some dx)))
/-- its reading keeps the promise -/
theorem exc_init {K : PySem.W.Frag} {C : Addr} {f msg : Str} (T : OexC K C) (hno : PySem.W.findIn K (.ref C) f = some none) {N : List Str} {x y : Str} (hN : N = [x, y]) {vs : List V} {H : Hp} {Q : VK} {E : XK} (h : spExc C f vs H Q E) :
    (tSeq (tDrop (tVeI K (tCons (tVar 0) (tCons (tC (.str msg)) tNil)))) (tOst K f (tVar 0) (tVar 1))) { nx := fun _ H' => Q .non H', rt := Q } (L2.start N vs) H := by
  obtain ⟨a, v, rfl, ha, q⟩ := h
  subst hN
  refine ⟨.ref a, rfl, ⟨a, C, [.str msg], rfl, (by show 1 ≤ 1000; decide), T, ha, ?_⟩⟩
  exact ⟨v, rfl, .ref a, rfl, a, C, rfl, T, hno, .inl ⟨ha, fun dx h1 h2 => q dx h1 h2⟩⟩
/-- raise C(e) within a def -/
def tRaise (C : Addr) (sp : Sp) (ta : TA) (E : XK) : TS := fun _ σ H => tMkO C sp [] ta σ H fun cls d H' => E cls d H'
/-- try: body, except c as n: suite; n-th slot i -/
def tTry (K : PySem.W.Frag) (n : Nat) (c : Value) (i : Nat) (tb : XK → TS) (ts : Addr → Value → Option Addr → TS) : TS := fun D σ H => tb (fun cls d H' => ∀ σ' : L2.St, σ'.length = n → wAs K c i ts (fun _ _ _ _ => False) D cls d σ' H') D σ H
/-- a class's own clause takes its exceptions -/
theorem exm_own {K : PySem.W.Frag} {S : Addr} (h1 : PySem.W.subIn K (.ref S) (.type "BaseException") = some true) (h2 : PySem.W.isClsIn K S = true) (h3 : PySem.W.typeIn K (.ref S) = some (.type "type")) (h4 : PySem.W.subIn K (.ref S) (.ref S) = some true) :
    PySem.W.exmOne K (.ref S) (.ref S) = some true := by
  have e1 : (PySem.W.subIn K (.ref S) (.type "BaseException") == some true) = true := by rw [h1] <;> rfl
  have e2 : ((PySem.W.clsIn K S).isSome && PySem.W.typeIn K (.ref S) == some (.type "type")) = true := by
    have h2' : (PySem.W.clsIn K S).isSome = true := h2
    rw [h2', h3] <;> rfl
  show (if (PySem.W.subIn K (.ref S) (.type "BaseException") == some true) = true then (if ((PySem.W.clsIn K S).isSome && PySem.W.typeIn K (.ref S) == some (.type "type")) = true then PySem.W.subIn K (.ref S) (.ref S) else none) else none) = some true
  rw [if_pos e1, if_pos e2]
  exact h4
section
variable {X : Cx} {x n : Str} {c : Value} {i : Nat} {body suite : List Stmt} {b₀ : Stmt} {np pos pos' : Pos} {tb : XK → TS} {ts : Addr → Value → Option Addr → TS}
theorem ps_tryT (hs : X.stack = X.env :: X.outer) (hf : X.env.frame = some X.env.locals) (hN : X.N.Nodup) (hi : X.N[i]? = some n) (hln : X.env.kindOf n = some .local) (hc : Names X x c)
    (hb : ∀ (E : XK) (pn : List (Addr × Obj)) (xe : Value → Shared → Prop), Passes (L2.CX X.prog X.w) (X.tr pn xe) E → PassesOwn (model X.prog X.w) X.A X.env xe → PSs (X.tr pn xe) body (tb E))
    (hsu : ∀ (a : Addr) (oe : Obj) (cls : Value) (d : Option Addr) (pn : List (Addr × Obj)), Zc cls d oe → (∃ vs, oe.data = .fields vs) → PSs (X.suite a ((a, oe) :: pn)) (b₀ :: suite) (ts a cls d)) :
    PS X (.Try body [.ExceptHandler (some (.Name x np)) (some n) (b₀ :: suite) pos'] [] [] pos) (tTry X.K X.N.length c i tb ts) :=
  ps_try_as (tb := fun W => tb (fun cls d H' => ∀ σ' : L2.St, σ'.length = X.N.length → W cls d σ' H')) hs hf hN hi hln hc takes0 (fun W pn xe tk po => hb _ pn xe (passes_len (X := X.tr pn xe) tk fun cls d σ H hl h => h σ hl) po) hsu
end
end HX1

/-! DExc: raise and try over data. -/
namespace DD
open PySem L2
open PySem.Spec PyProof.Rows
section
variable {K : PySem.W.Frag} {B F Hb H : Hp} {m : Mem} {ρ : DD.Env}
theorem Rel.unframe {dd : Addr} {o : HO} (r : Rel K (upd F dd o) Hb H m) (h : F dd = none) : Rel K F Hb H m :=
  ⟨r.sub, fun b u e => r.fr b u (by rw [upd_ne (ne_fr e h)]; exact e), r.own, nt_of r.nt h⟩
theorem xd_put {H1 : Hp} {a dx : Addr} {C : Addr} {fs : List (Str × V)} {o1 o2 o3 u : HO} (ha : H1 a = none) (hne : dx ≠ a) : upd (del (upd (upd (upd H1 a o1) dx o2) a o3) a) dx u = upd H1 dx u := by
  funext b
  by_cases h1 : b = dx
  · subst h1
    rw [upd_same, upd_same]
  · rw [upd_ne h1, upd_ne h1]
    by_cases h2 : b = a
    · subst h2
      rw [del_same, ha]
    · rw [del_ne h2, upd_ne h2, upd_ne h1, upd_ne h2]
/-- raise C(e), C with one attribute -/
theorem ws_raise {C : Addr} {f : Str} {ta : TA} {EX : XK} {X : XD} {E : DE} (hE : OkX K F B X EX) (h : WA K F B ta ρ m fun ds m1 => ∃ d, ds = [d] ∧ X C [f] [d] m1) : WS K F B (HX1.tRaise C (HX1.spExc C f) ta EX) ρ m E := fun Hb H σ R hB r hs k =>
  h Hb H σ _ hB r hs fun vs H1 Hb1 ds m1 e1 r1 hx q1 => by
    obtain ⟨d, rfl, q⟩ := q1
    obtain ⟨v, rfl, hv⟩ := rpL1 hx
    refine ⟨by show 1 ≤ 1000; decide, fun a ha => ⟨a, v, rfl, upd_same, fun dx h1 h2 => ⟨rfl, dx, [(f, v)], upd_same, ?_, ?_, ?_⟩⟩⟩
    · rw [upd_ne h2, upd_same]
    · rw [upd_ne h2] at h1
      exact h1
    · rw [upd_ne h2] at h1
      rw [xd_put (C := C) (fs := [(f, v)]) ha h2]
      exact hE C (some dx) _ Hb1 [f] [d] [v] m1 (hB.trans e1) ⟨r1.nofr h1, r1.aside h1⟩ (RpL.cons hv RpL.nil) rfl q
theorem rpS_none {n : Nat} {σ : L2.St} (h : σ.length = n) : RpS K Hb (List.replicate n none) σ := by
  refine ⟨by rw [List.length_replicate, h], fun i d q => ?_⟩
  rw [List.getElem?_replicate] at q
  split at q <;> cases q
/-- try: body, except c as the i-th slot: suite -/
theorem ws_try {n i : Nat} {c : Value} {tb : XK → TS} {ts : Addr → Value → Option Addr → TS} {X : XD} {E : DE}
    (hb : ∀ B' EX, Same B B' → OkX K F B' X EX → WS K F B' (tb EX) ρ m E)
    (hX : ∀ C ns ds m', X C ns ds m' → ns ≠ [] ∧ PySem.W.exmOne K (.ref C) c = some true ∧ ∀ F' B' dd vs a, Same B B' → F' dd = some (.xd (ns.zip vs)) → RpL K B' ds vs → ns.length = ds.length →
      WS K F' B' (ts a (.ref C) (some dd)) ((List.replicate n none).set i (some (.s (.ref a)))) m' { nx := fun ρ m => E.nx (ρ.set i none) m, rt := E.rt, bk := fun ρ m => E.bk (ρ.set i none) m, ct := fun ρ m => E.ct (ρ.set i none) m }) :
    WS K F B (HX1.tTry K n c i tb ts) ρ m E := fun Hb H σ R hB r hs k => by
  refine hb Hb _ hB (fun C d H' Hb' ns ds vs m' eH rX hv hl hx => ?_) Hb H σ R (Same.refl _) r hs k
  obtain ⟨hne, hex, hw⟩ := hX C ns ds m' hx
  cases d with
  | none => exact absurd rX.1 hne
  | some dd =>
    obtain ⟨hF, rr⟩ := rX
    intro σ' hσ
    refine ⟨true, hex, fun _ a ha => ?_, fun z => nomatch z⟩
    refine hw (upd F dd (.xd (ns.zip vs))) Hb' dd vs a (hB.trans eH) upd_same hv hl Hb' H' _ _ (Same.refl _) rr ((rpS_none hσ).set rp_s) ?_
    exact ⟨fun σ1 H1 Hb1 ρ1 m1 e r1 hs1 q => k.nx _ _ _ _ _ (eH.trans e) (r1.unframe hF) hs1.unset q, fun v H1 Hb1 d1 m1 e r1 hd q => k.rt _ _ _ _ _ (eH.trans e) (r1.unframe hF) hd q,
      fun σ1 H1 Hb1 ρ1 m1 e r1 hs1 q => k.bk _ _ _ _ _ (eH.trans e) (r1.unframe hF) hs1.unset q, fun σ1 H1 Hb1 ρ1 m1 e r1 hs1 q => k.ct _ _ _ _ _ (eH.trans e) (r1.unframe hF) hs1.unset q⟩
/-- e.f of the exception that is caught -/
theorem we_xf {a C dd : Addr} {f : Str} {te : TE} {ns : List Str} {vs : List V} {ds : List D} {dv : D} {Q : QD} (hF : F dd = some (.xd (ns.zip vs))) (hv : RpL K B ds vs) (hd : (ns.zip ds).lookup f = some dv)
    (h : WE K F B te ρ m fun x m1 => x = .s (.ref a) ∧ Q dv m1) : WE K F B (tXf a (.ref C) (some dd) C f te) ρ m Q := fun Hb H σ R hB r hs k =>
  h Hb H σ _ hB r hs fun v H1 Hb1 x m1 e1 r1 hx q1 => by
    obtain ⟨rfl, q⟩ := q1
    unfold Rp at hx
    obtain ⟨u, hu, ru⟩ := zip_get (hv.mono (hB.trans e1)) hd
    exact ⟨hx, rfl, dd, _, u, rfl, (r1.fr dd _ hF).1, hu, k _ _ _ _ _ e1 r1 ru q⟩
/-- an owned object is let go -/
theorem Conv.leave {a : Addr} : Conv m { m with own := dropM m.own a } := fun _ _ _ _ r => r.leave a
end
end DD

/-! HRefl: a built-in value on the left of ==, an own instance on the right. -/
namespace HR1
open PySem PySem.Spec PyProof.Rows L2 PySem.SeqAt
open AutoSeq1 (wpAny_loadPart')
open MeetsSeq
section
theorem int_declines (b : Int) (u : Tok) (l C dx : Addr) : Meets (Builtin.«int.__eq__» ⟨[.int b u, .ref l], []⟩) (fun _ R s => s.heap.get? l = some (PySem.W.instObj C dx) ∧ R (.ok (.ret .notImplemented)) s) :=
  .of_wp fun prog w A R s h => by obtain ⟨hp, g, d, tk, os⟩ := s; obtain ⟨hl, h⟩ := h; wp_walk using wpAny_loadPart' hl, wpAny_load hl; exact ⟨_, rfl, h⟩
theorem bool_declines (b : Bool) (l C dx : Addr) : Meets (Builtin.«int.__eq__» ⟨[.bool b, .ref l], []⟩) (fun _ R s => s.heap.get? l = some (PySem.W.instObj C dx) ∧ R (.ok (.ret .notImplemented)) s) :=
  .of_wp fun prog w A R s h => by obtain ⟨hp, g, d, tk, os⟩ := s; obtain ⟨hl, h⟩ := h; wp_walk using wpAny_loadPart' hl, wpAny_load hl; exact ⟨_, rfl, h⟩
theorem str_declines (b : Str) (u : Tok) (l C dx : Addr) : Meets (Builtin.«str.__eq__» ⟨[.str b u, .ref l], []⟩) (fun _ R s => s.heap.get? l = some (PySem.W.instObj C dx) ∧ R (.ok (.ret .notImplemented)) s) :=
  .of_wp fun prog w A R s h => by obtain ⟨hp, g, d, tk, os⟩ := s; obtain ⟨hl, h⟩ := h; wp_walk using wpAny_loadPart' hl, wpAny_load hl; exact ⟨_, rfl, h⟩
theorem list_declines (a l : Addr) (items : Array Value) (n : Nat) (dd : Option Addr) (sl : Array (Option Value)) :
    Meets (Builtin.«list.__eq__» ⟨[.ref a, .ref l], []⟩) (fun _ R s => s.heap.get? a = some { cls := .type "list", dict := dd, data := .seq items n, slots := sl } ∧ (∀ M, PySem.W.Looks M s.heap (isInstance (.ref l) (.type "list")) false) ∧ R (.ok (.ret .notImplemented)) s) :=
  .of_wp fun prog w A R s h => by
    obtain ⟨hp, g, d, tk, os⟩ := s
    obtain ⟨hl, hI, h⟩ := h
    wp_walk using wpAny_loadPart' hl, (hI _).here
    exact ⟨_, rfl, h⟩
theorem tuple_declines (a l : Addr) (items : Array Value) (n : Nat) (dd : Option Addr) (sl : Array (Option Value)) :
    Meets (Builtin.«tuple.__eq__» ⟨[.ref a, .ref l], []⟩) (fun _ R s => s.heap.get? a = some { cls := .type "tuple", dict := dd, data := .seq items n, slots := sl } ∧ (∀ M, PySem.W.Looks M s.heap (isInstance (.ref l) (.type "tuple")) false) ∧ R (.ok (.ret .notImplemented)) s) :=
  .of_wp fun prog w A R s h => by
    obtain ⟨hp, g, d, tk, os⟩ := s
    obtain ⟨hl, hI, h⟩ := h
    wp_walk using wpAny_loadPart' hl, (hI _).here
    exact ⟨_, rfl, h⟩
theorem dict_declines (a l : Addr) (es : Array DictEntry) (ep : Nat) (dd : Option Addr) (sl : Array (Option Value)) :
    Meets (Builtin.«dict.__eq__» ⟨[.ref a, .ref l], []⟩) (fun _ R s => s.heap.get? a = some { cls := .type "dict", dict := dd, data := .dict es ep, slots := sl } ∧ (∀ M, PySem.W.Looks M s.heap (isInstance (.ref l) (.type "dict")) false) ∧ R (.ok (.ret .notImplemented)) s) :=
  .of_wp fun prog w A R s h => by
    obtain ⟨hp, g, d, tk, os⟩ := s
    obtain ⟨hl, hI, h⟩ := h
    wp_walk using wpAny_loadPart' hl, (hI _).here
    exact ⟨_, rfl, h⟩
end
end HR1
namespace HR1
open PySem L2
open PySem.Spec PyProof.Rows
theorem refl_K {prog : Program} {w : World} {A : Around} {E : Value → Shared → Prop} {s : Shared} {K : PySem.W.Frag} {x C f : Addr} {ox : Obj} {od : Option Obj} {a : Value} {T id : String} {Q : Value → Shared → Prop} (hu : A.units < cLine) (X : K.In s.heap)
    (I : PySem.W.InstAt s.heap x ox C od) (ha : s.TypeIs a T) (hsub : PySem.W.subIn K (.ref C) (.type T) = some false) (h1 : Slot T (cmpInfo .Eq).2.1 id)
    (hdec : ∀ Q' : Value → Shared → Prop, Q' .notImplemented s → wpAny (model prog w) A (call (.builtin id) [a, .ref x]) Q' E s)
    (hs : PySem.W.findIn K (.ref C) "__eq__" = some (some (.ref f))) (hf : PySem.W.isFn K (.ref f) = true)
    (h : wpAny (model prog w) A (call (.ref f) [.ref x, a]) (PySem.W.CmpBack Q) E s) : wpAny (model prog w) A (richCompare .Eq a (.ref x)) Q E s := by
  have two : wpAny (model prog w) A (tryCompare (.ref x) "__eq__" a) (fun r s' => ∃ v, r = some v ∧ Q v s') E s := by
    unfold tryCompare
    refine wpAny_bind (PySem.W.ifBound_K X I hs hf (wpAny_mono h (fun v s' hv => ?_) fun _ _ e => e))
    cases v <;> first | exact hv.elim | exact wpAny_pure ⟨_, rfl, hv⟩
  simp only [richCompare, cmpInfo_Eq, ha.oneThing_none] at h1 ⊢
  refine wpAny_holding (wpAny_bind (wpAny_cRoomFor hu ?_))
  refine wpAny_bind (wpAny_typeOf ha (wpAny_bind (I.type.here ?_)))
  split
  · refine wpAny_bind ((PySem.W.looks_subIn X hsub).here ?_)
    simp only [Bool.false_eq_true, if_false, Bool.not_false, if_true]
    refine wpAny_bind (m := tryCompare a _ (.ref x)) (wpAny_tryCompare_declines ha h1 (hdec _ ⟨rfl, ?_⟩))
    refine wpAny_bind (m := tryCompare (.ref x) _ a) (wpAny_mono two (fun r s2 z => ?_) fun _ _ e => e)
    obtain ⟨v, rfl, hq⟩ := z
    exact wpAny_pure hq
  · rename_i q
    exact absurd (by simp) q
end HR1
namespace HR1
open PySem L2
open PySem.Spec PyProof.Rows
/-- a value of a built-in type -/
inductive Bi (K : PySem.W.Frag) (H : Hp) : V → Prop
  | non : Bi K H .non
  | bl (b : Bool) : Bi K H (.bl b)
  | int (i : Int) : Bi K H (.int i)
  | str (z : Str) : Bi K H (.str z)
  | lst {p : Addr} {xs : List V} (h : SqL K H p xs) : Bi K H (.ref p)
  | tup {p : Addr} {xs : List V} (h : SqT K H p xs) : Bi K H (.ref p)
  | dic {p : Addr} {o : Obj} {kvs : List (Key × V)} (h : H p = some (.frz o (.dK kvs))) : Bi K H (.ref p)
/-- the class at C is below none of the built-in types -/
structure Aloof (K : PySem.W.Frag) (C : Addr) : Prop where
  non : PySem.W.subIn K (.ref C) (.type "NoneType") = some false
  bl : PySem.W.subIn K (.ref C) (.type "bool") = some false
  int : PySem.W.subIn K (.ref C) (.type "int") = some false
  str : PySem.W.subIn K (.ref C) (.type "str") = some false
  lst : PySem.W.subIn K (.ref C) (.type "list") = some false
  tup : PySem.W.subIn K (.ref C) (.type "tuple") = some false
  dic : PySem.W.subIn K (.ref C) (.type "dict") = some false
def rEqRefl (K : PySem.W.Frag) (C : Addr) (sp : Sp) (E : XK) : R2 := fun x y H Q => ∃ a dx fs, y = .ref a ∧ H a = some (.ins C dx fs) ∧ Bi K H x ∧ sp [y, x] H Q E
theorem op_eqRefl {X : Cx} {CX : CXT} {k : Nat} {f C : Addr} {fd : FuncData} {ps : List Str} {sp : Sp} {E : XK} (F0 : FnOk X.prog X.w X.K X.mg X.base CX k f fd ps sp) (hr : Room k X.A) (hb : Binds X.K fd ps []) (hx : Passes CX X E)
    (hs : PySem.W.findIn X.K (.ref C) "__eq__" = some (some (.ref f))) (hf : PySem.W.isFn X.K (.ref f) = true) (al : Aloof X.K C) : OpR X (compareOp .Eq) (rEqRefl X.K C sp E) := by
  intro pins s σ H x y v u Q I rx ry h
  obtain ⟨a, dx, fs, rfl, ha, hbi, q⟩ := h
  cases ry
  obtain ⟨mA, J0, _⟩ := ins_get I.hok ha
  obtain ⟨od, J, _⟩ := J0.look
  have ho : s.heap.get? a = some (PySem.W.instObj C dx) := J0.1
  have hI : ∀ T : String, PySem.W.subIn X.K (.ref C) (.type T) = some false → ∀ M, PySem.W.Looks M s.heap (isInstance (.ref a) (.type T)) false := fun T hT M => J.type.andThen (PySem.W.looks_subIn I.kIn hT)
  have fin : wpAny (model X.prog X.w) X.A (call (.ref f) [.ref a, v]) (PySem.W.CmpBack (EP X pins σ Q)) X.xe s := thn (HO1.run_in F0 hr rfl hb hx I (HO1.vals_rx rx) q) fun v s' z => HO1.back_of z
  show wpAny _ _ (richCompare .Eq v (.ref a)) _ _ _
  cases hbi with
  | non =>
    cases (show v = Value.none from rx)
    exact refl_K hr.units0 I.kIn J (show s.TypeIs .none "NoneType" from rfl) al.non F.slot_NoneType_eq
      (fun Q' hq => call_gives F.slot_NoneType_eq rfl F.entry_NoneType_eq (F.args_NoneType_eq_2 _ _) (PySem.SeqAt.NoneType___eq___none_ref_0 a) hq) hs hf fin
  | bl b =>
    cases (show v = Value.bool b from rx)
    exact refl_K hr.units0 I.kIn J (PySem.typeIs_bool s b) al.bl F.slot_bool_eq
      (fun Q' hq => call_meets F.slot_bool_eq (PySem.typeIs_bool s b) F.entry_int_eq (F.args_int_eq_2 _ _) (bool_declines b a C dx) ⟨ho, hq⟩) hs hf fin
  | int i =>
    obtain ⟨t, rfl⟩ := (show ∃ t, v = Value.int i t from rx)
    exact refl_K hr.units0 I.kIn J (typeIs_int s i t) al.int F.slot_int_eq
      (fun Q' hq => call_meets F.slot_int_eq (typeIs_int s i t) F.entry_int_eq (F.args_int_eq_2 _ _) (int_declines i t a C dx) ⟨ho, hq⟩) hs hf fin
  | str z =>
    obtain ⟨t, rfl⟩ := (show ∃ t, v = Value.str z t from rx)
    exact refl_K hr.units0 I.kIn J (typeIs_str s z t) al.str F.slot_str_eq
      (fun Q' hq => call_meets F.slot_str_eq (typeIs_str s z t) F.entry_str_eq (F.args_str_eq_2 _ _) (str_declines z t a C dx) ⟨ho, hq⟩) hs hf fin
  | @lst p xs hq0 =>
    cases (show v = Value.ref p from rx)
    obtain ⟨its, r, ⟨o, n, e, e1, e2, e3⟩, _⟩ := I.list hq0
    obtain ⟨oc, odd, odt, osl⟩ := o
    dsimp only at e1 e2 e3
    subst e1 e2 e3
    exact refl_K hr.units0 I.kIn J ⟨_, e, rfl⟩ al.lst F.slot_list_eq
      (fun Q' hq => call_meets F.slot_list_eq ⟨_, e, rfl⟩ F.entry_list_eq (F.args_list_eq_2 _ _) (list_declines p a _ n _ osl) ⟨e, hI "list" al.lst, hq⟩) hs hf fin
  | @tup p xs hq0 =>
    cases (show v = Value.ref p from rx)
    obtain ⟨its, r, ⟨o, e, e1, n, e3⟩, _⟩ := I.tuple hq0
    obtain ⟨oc, odd, odt, osl⟩ := o
    dsimp only at e1 e3
    subst e1 e3
    exact refl_K hr.units0 I.kIn J ⟨_, e, rfl⟩ al.tup F.slot_tuple_eq
      (fun Q' hq => call_meets F.slot_tuple_eq ⟨_, e, rfl⟩ F.entry_tuple_eq (F.args_tuple_eq_2 _ _) (tuple_declines p a _ n _ osl) ⟨e, hI "tuple" al.tup, hq⟩) hs hf fin
  | @dic p ob kvs e0 =>
    cases (show v = Value.ref p from rx)
    obtain ⟨_, _, _, vs, _, o, es, ep, e, e1, e3, _⟩ := (show ObjOk X.prog X.w H s.heap p (.frz ob (.dK kvs)) from I.hok p _ e0)
    obtain ⟨oc, odd, odt, osl⟩ := o
    obtain ⟨e1, e2⟩ := e1
    dsimp only at e1 e3
    subst e1 e3
    exact refl_K hr.units0 I.kIn J ⟨_, e, rfl⟩ al.dic F.slot_dict_eq
      (fun Q' hq => call_meets F.slot_dict_eq ⟨_, e, rfl⟩ F.entry_dict_eq (F.args_dict_eq_2 _ _) (dict_declines p a es ep _ osl) ⟨e, hI "dict" al.dic, hq⟩) hs hf fin
end HR1

/-! HTok: arguments behind a written text; replace over data; == with an own instance on the right, over data; {}. -/
namespace HT1
open PySem PySem.Spec PyProof.Rows L2
section
variable {X : Cx}
/-- the first item ends by a written text: behind it a token is out -/
theorem pa_consT {a : Expr} {es : List Expr} {ta : TE} {t : TA} {op : Operator} {r : R2} {c : Str} {j : Nat} {p2 p : Pos} (ho : OpR X (binaryOp op) r) (ha : PE X a ta) (hr : PAT X es t)
    (hs : starEach (.BinOp a op (.Constant (.str c) j p2) p :: es) X.env = (false, eval (.BinOp a op (.Constant (.str c) j p2) p) X.env) :: starEach es X.env := by rfl) :
    PA X (.BinOp a op (.Constant (.str c) j p2) p :: es) (tCons (tOp r ta (tC (.str c))) t) := by
  refine ⟨fun pos pins s σ H Q I h => ?_⟩
  rw [hs]
  show wpAny _ _ (spliced ((false, eval (.BinOp a op (.Constant (.str c) j p2) p) X.env) :: backTo pos (starEach es X.env))) _ _ s
  refine Calls.spliced_cons (wpAny_BinOp (thn (ha.run pins s σ H _ I h) fun v s1 ⟨x, H1, I1, r1, q1⟩ => ?_))
  refine Calls.Constant_str ?_
  refine wpAny_mono (PySem.wpAny_toks (ho pins _ σ H1 x (.str c) v (.str c s1.toks) _ (I1.tok _) r1 ⟨_, rfl⟩ q1)) (fun z s2 q => ?_) fun _ _ z => z.2
  obtain ⟨hk, x2, H2, I2, r2, q2⟩ := q
  have hk' : s1.toks + 1 ≤ s2.toks := hk
  exact thn (hr pos pins s2 σ H2 _ (by omega) I2 q2) fun us s3 ⟨xs, H3, I3, r3, q3⟩ => ⟨x2 :: xs, H3, I3, .cons r2 r3, q3⟩
theorem pat_of {e : Expr} {es : List Expr} {te : TE} {t : TA} (ha : PE X e te) (hr : PAT X es t) (hs : starEach (e :: es) X.env = (false, eval e X.env) :: starEach es X.env := by rfl) : PAT X (e :: es) (tCons te t) :=
  pat_cons (CwR.PET.of ha) hr hs
end
end HT1
namespace DD
open PySem L2
open PySem.Spec PyProof.Rows
section
variable {K : PySem.W.Frag} {B F Hb H : Hp} {m : Mem} {ρ : DD.Env} {C : Addr} {φ : Phi} {E : XK} {X : XD}
theorem we_repl {to : TE} {y z : Str} {Q : QD} (h : WE K F B to ρ m fun d m1 => ∃ x, d = .s (.str x) ∧ x.length + (x.length + 1) * z.length ≤ 16777216 ∧ Q (.s (.str (Txt.replace x y z))) m1) : WE K F B (CwR.tReplC to y z) ρ m Q := fun Hb H σ R hB r hs k =>
  h Hb H σ _ hB r hs fun v H1 Hb1 d m1 e1 r1 hd q1 => by
    obtain ⟨x, rfl, hl, q⟩ := q1
    unfold Rp at hd
    exact ⟨x, hd, hl, k _ _ _ _ _ e1 r1 rp_s q⟩
/-- a value of a built-in type -/
def BiD : D → Prop
  | .s .non => True
  | .s (.bl _) => True
  | .s (.int _) => True
  | .s (.str _) => True
  | .lst _ => True
  | .tup _ => True
  | .dic _ _ => True
  | _ => False
theorem BiD.at {x : D} {v : V} (h : BiD x) (r : Rel K F Hb H m) (hx : Rp K Hb x v) : HR1.Bi K H v := by
  cases x with
  | s w =>
    unfold Rp at hx
    subst hx
    cases v with
    | non => exact .non
    | bl b => exact .bl b
    | int i => exact .int i
    | str z => exact .str z
    | _ => exact h.elim
  | lst xs =>
    unfold Rp at hx
    obtain ⟨p, vs, rfl, h1, _⟩ := hx
    exact .lst (SqL.of (r.sub _ _ h1))
  | tup xs =>
    unfold Rp at hx
    obtain ⟨p, vs, rfl, h1, _⟩ := hx
    exact .tup (sameT r.sub h1)
  | dic ks xs =>
    unfold Rp at hx
    obtain ⟨p, o, vs, rfl, h1, _⟩ := hx
    exact .dic (r.sub _ _ h1)
  | _ => exact h.elim
theorem wo_eqRefl {x y : D} {Q : QD} (hE : OkX K F B X E) (hx : BiD x) (hy : ObjD m C y) (h : φ [y, x] m Q X) : WO K F B (HR1.rEqRefl K C (spOf K φ) E) x y m Q := fun Hb H vx vy R hB r hvx hvy k => by
  obtain ⟨a, dx, fs, rfl, ha⟩ := hy.at r hvy
  exact ⟨a, dx, fs, rfl, ha, hx.at r hvx, _, m, F, Hb, Q, X, RpL.cons hvy (RpL.cons hvx RpL.nil), r, h, k, hE.mono hB⟩
/-- {}, that stays as it is -/
def tDNewF : TE := fun _ H Q => ∀ p o, H p = none → Q (.ref p) (upd H p (.frz o (.dK [])))
theorem pe_dnewF {X : Cx} {pos : Pos} : PE X (.Dict [] [] pos) tDNewF := by
  refine ⟨fun pins s σ H Q I h => wpAny_Dict_empty ?_⟩
  have hn := I.hok.fresh (Nat.le_refl s.heap.objs.size)
  have I1 := I.laid (a := s.heap.objs.size) (o := .dK []) (h' := s.heap.push { cls := .type "dict", data := .dict #[] }) (t' := s.toks) (fun _ _ q => Heap.get?_push_of_some _ q) (Nat.le_refl _) (dk_empty s.heap I.big)
  obtain ⟨od, I2⟩ := I1.lock upd_same trivial
  rw [upd_upd] at I2
  exact ⟨.ref s.heap.objs.size, _, I2, rfl, h _ od hn⟩
theorem we_dnew {Q : QD} (q : Q (.dic [] []) m) : WE K F B tDNewF ρ m Q := fun Hb H σ R hB r hs k => fun p o hp =>
  k _ _ _ (.dic [] []) _ (Same.new (r.fresh hp)) (r.data hp) (by
    unfold Rp
    exact ⟨p, o, [], rfl, upd_same, RpL.nil, rfl⟩) q
/-- {} == {} -/
def rEqE : R2 := fun x y H Q => ∃ a b o o', x = .ref a ∧ y = .ref b ∧ H a = some (.frz o (.dK [])) ∧ H b = some (.frz o' (.dK [])) ∧ Q (.bl true) H
theorem op_eqE {X : Cx} (hu : X.A.units < cLine) : OpR X (compareOp .Eq) rEqE := by
  intro pins s σ H x y v u Q I rx ry h
  obtain ⟨a, b, o, o', rfl, rfl, ea, eb, q⟩ := h
  obtain rfl : v = Value.ref a := rx
  obtain rfl : u = Value.ref b := ry
  obtain ⟨_, _, ya, va, ra, da⟩ := (show ObjOk X.prog X.w H s.heap a (.frz o (.dK [])) from I.hok a _ ea)
  obtain ⟨_, _, yb, vb, rb, db⟩ := (show ObjOk X.prog X.w H s.heap b (.frz o' (.dK [])) from I.hok b _ eb)
  cases ra
  cases rb
  exact PySem.W.keq_eq (knd := mixKind X.prog X.w) (r := true) ya yb da db hu (fun _ => .nil) (fin_bl I q (by simp))
theorem wo_eqE {Q : QD} (q : Q (.s (.bl true)) m) : WO K F B rEqE (.dic [] []) (.dic [] []) m Q := fun Hb H vx vy R hB r hvx hvy k => by
  unfold Rp at hvx hvy
  obtain ⟨a, o, vs, rfl, h1, _⟩ := hvx
  obtain ⟨b, o', vs', rfl, h2, _⟩ := hvy
  exact ⟨a, b, o, o', rfl, rfl, r.sub _ _ h1, r.sub _ _ h2, k.here r rp_s q⟩
end
end DD

/-! HHot: list comprehensions, and dict() of nothing, while an exception is handled. -/
namespace HH1
open PySem PySem.Spec PyProof.Rows L2 HotX L2H
section
variable {prog : Program} {w : World} {A : Around} {E : Value → Shared → Prop} {s : Shared}
theorem list_end_hot {it l x1 : Addr} {i : Nat} {items : Array Value} {Q : Option Value → Shared → Prop} (hot : HotAt A x1 s.heap) (hne : x1 ≠ it)
    (hit : s.heap.IsListIter it l i) (hl : s.heap.IsList l items) (hx : items[i]? = none)
    (hQ : ∀ h', (∀ b o, b ≠ it → s.heap.get? b = some o → h'.get? b = some o) → Q none { s with heap := h' }) : wpAny (model prog w) A (pyNext (.ref it)) Q E s := by
  obtain ⟨hh, o1, vs1, h1, d1, c1⟩ := hot
  obtain ⟨o, ho, hc, hd⟩ := id hit
  obtain ⟨ol, hol, _, nl, hdl⟩ := hl
  unfold pyNext
  refine wpAny_bind (wpAny_attempt (wpAny_callSpecial?_slot (name := Str.ofString "__next__") hit.typeIs slot_listiter_next
    (wpAny_call_entry slot_listiter_next hit.typeIs entry_listiter_next ?_ (args_listiter_next _))))
  show wpAny _ _ (field (.ref it) 0 >>= _) _ _ s
  refine wpAny_bind (wpAny_field ho hd (x := .ref l) rfl ?_)
  show wpAny _ _ (if (Value.ref l == Value.none) = true then _ else _) _ _ s
  rw [if_neg (show ¬ ((Value.ref l == Value.none) = true) from Bool.false_ne_true)]
  show wpAny _ _ (field (.ref it) 1 >>= _) _ _ s
  refine wpAny_bind (wpAny_field ho hd (x := .int i 0) rfl ?_)
  show wpAny _ _ (seqItems? (.ref l) >>= _) _ _ s
  refine wpAny_bind (wpAny_seqItems hol hdl ?_)
  simp only [Int.toNat_natCast, hx]
  refine wpAny_bind (wpAny_rule (wpAny_bind (wpAny_setField ho hd (by simp) ?_)))
  show wpAny _ _ (newExc (.type "StopIteration") [] >>= _) _ _ _
  refine wpAny_bind ?_
  simp only [newExc, newTuple]
  refine wpAny_bind (wpAny_newObj_type ?_ (by size_fits))
  refine wpAny_bind (m := firstArgMember _ _) (wpAny_of_eq (a := Value.none) (by first | rfl | (simp only [firstArgMember]; rfl)) ?_)
  refine wpAny_newObj_type ?_ (by size_fits)
  refine raiseNew_hot ⟨hh, o1, vs1, Heap.get?_push_of_some _ (Heap.get?_push_of_some _ ((Heap.get?_update_other _ _ hne.symm).trans h1)), d1, c1⟩ (Nat.ne_of_lt (Heap.lt_size (Heap.get?_push_of_some _ ((Heap.get?_update_other _ _ hne.symm).trans h1)))) (Heap.get?_push_size _ rfl) rfl (by first | (simp; done) | (simp; omega) | (simp only [Array.size_append]; simp; omega)) ?_
  refine wpAny_bind (wpAny_isInstance (T := "StopIteration") (b := true) ⟨_, Heap.get?_update_self _ (Heap.get?_push_size _ rfl) rfl, rfl⟩ isSubtype_stop ?_)
  refine wpAny_pure (hQ _ fun b u hb e => ?_)
  rw [Heap.get?_update_other _ _ (Nat.ne_of_gt (Heap.lt_size (Heap.get?_push_of_some _ ((Heap.get?_update_other _ _ hb.symm).trans e))))]
  exact Heap.get?_push_of_some _ (Heap.get?_push_of_some _ ((Heap.get?_update_other _ _ hb.symm).trans e))
theorem tuple_end_hot {it t x1 : Addr} {i : Nat} {items : Array Value} {Q : Option Value → Shared → Prop} (hot : HotAt A x1 s.heap) (hne : x1 ≠ it)
    (hit : s.heap.IsTupleIter it t i) (ht : s.heap.IsTuple t items) (hx : items[i]? = none)
    (hQ : ∀ h', (∀ b o, b ≠ it → s.heap.get? b = some o → h'.get? b = some o) → Q none { s with heap := h' }) : wpAny (model prog w) A (pyNext (.ref it)) Q E s := by
  obtain ⟨hh, o1, vs1, h1, d1, c1⟩ := hot
  obtain ⟨o, ho, hc, hd⟩ := id hit
  obtain ⟨ol, hol, _, nl, hdl⟩ := ht
  unfold pyNext
  refine wpAny_bind (wpAny_attempt (wpAny_callSpecial?_slot (name := Str.ofString "__next__") hit.typeIs F.slot_tuple_iterator_next
    (wpAny_call_entry F.slot_tuple_iterator_next hit.typeIs F.entry_tuple_iterator_next ?_ (F.args_tuple_iterator_next_1 _))))
  show wpAny _ _ (field (.ref it) 0 >>= _) _ _ s
  refine wpAny_bind (wpAny_field ho hd (x := .ref t) rfl ?_)
  show wpAny _ _ (if (Value.ref t == Value.none) = true then _ else _) _ _ s
  rw [if_neg (show ¬ ((Value.ref t == Value.none) = true) from Bool.false_ne_true)]
  show wpAny _ _ (field (.ref it) 1 >>= _) _ _ s
  refine wpAny_bind (wpAny_field ho hd (x := .int i 0) rfl ?_)
  show wpAny _ _ (seqItems? (.ref t) >>= _) _ _ s
  refine wpAny_bind (wpAny_seqItems hol hdl ?_)
  simp only [Int.toNat_natCast, hx]
  refine wpAny_bind (wpAny_rule (wpAny_bind (wpAny_setField ho hd (by simp) ?_)))
  show wpAny _ _ (newExc (.type "StopIteration") [] >>= _) _ _ _
  refine wpAny_bind ?_
  simp only [newExc, newTuple]
  refine wpAny_bind (wpAny_newObj_type ?_ (by size_fits))
  refine wpAny_bind (m := firstArgMember _ _) (wpAny_of_eq (a := Value.none) (by first | rfl | (simp only [firstArgMember]; rfl)) ?_)
  refine wpAny_newObj_type ?_ (by size_fits)
  refine raiseNew_hot ⟨hh, o1, vs1, Heap.get?_push_of_some _ (Heap.get?_push_of_some _ ((Heap.get?_update_other _ _ hne.symm).trans h1)), d1, c1⟩ (Nat.ne_of_lt (Heap.lt_size (Heap.get?_push_of_some _ ((Heap.get?_update_other _ _ hne.symm).trans h1)))) (Heap.get?_push_size _ rfl) rfl (by first | (simp; done) | (simp; omega) | (simp only [Array.size_append]; simp; omega)) ?_
  refine wpAny_bind (wpAny_isInstance (T := "StopIteration") (b := true) ⟨_, Heap.get?_update_self _ (Heap.get?_push_size _ rfl) rfl, rfl⟩ isSubtype_stop ?_)
  refine wpAny_pure (hQ _ fun b u hb e => ?_)
  rw [Heap.get?_update_other _ _ (Nat.ne_of_gt (Heap.lt_size (Heap.get?_push_of_some _ ((Heap.get?_update_other _ _ hb.symm).trans e))))]
  exact Heap.get?_push_of_some _ (Heap.get?_push_of_some _ ((Heap.get?_update_other _ _ hb.symm).trans e))
theorem key_end_hot {it d x1 : Addr} {i n ep : Nat} {od : Obj} {es : Array DictEntry} {Q : Option Value → Shared → Prop} (hot : HotAt A x1 s.heap) (hne : x1 ≠ it) (hit : s.heap.IsKeyIter it d i n ep) (hod : s.heap.get? d = some od) (hdd : od.data = .dict es ep)
    (hsz : es.size = n) (hge : n ≤ i) (hQ : ∀ h', (∀ b o, b ≠ it → s.heap.get? b = some o → h'.get? b = some o) → Q none { s with heap := h' }) : wpAny (model prog w) A (pyNext (.ref it)) Q E s := by
  obtain ⟨hh, o1, vs1, h1, d1, c1⟩ := hot
  obtain ⟨o, ho, hc, hd⟩ := id hit
  unfold pyNext
  refine wpAny_bind (wpAny_attempt (wpAny_callSpecial?_slot (name := Str.ofString "__next__") hit.typeIs F.slot_dict_keyiterator_next
    (wpAny_call_entry F.slot_dict_keyiterator_next hit.typeIs F.entry_dict_keyiterator_next ?_ (F.args_dict_keyiterator_next_1 _))))
  refine wpAny_bind (wpAny_pure ?_)
  refine wpAny_bind ?_
  refine wpAny_bind ?_
  first | refine wpAny_bind (wpAny_typeNameOfWhole_keyiter hit.typeIs (wpAny_pure ?_)) | refine wpAny_bind (wpAny_typeNameOf_keyiter hit.typeIs (wpAny_pure ?_))
  refine wpAny_bind (wpAny_fieldsOf ho hd ?_)
  have hown : Builtin.Dict_items.ownsTuple "dict_keyiterator" = false := by decide
  simp only [hown, Bool.false_eq_true, if_false]
  show wpAny _ _ (if (Value.ref d == Value.none) = true then _ else _) _ _ s
  rw [if_neg (show ¬ ((Value.ref d == Value.none) = true) from Bool.false_ne_true)]
  refine wpAny_bind (wpAny_pure ?_)
  refine wpAny_bind (wpAny_dictEntries hod hdd ?_)
  rw [if_neg (by rw [hsz]; simp)]
  refine wpAny_bind (wpAny_pure ?_)
  refine wpAny_bind (wpAny_dictEpoch hod hdd ?_)
  rw [if_neg (by simp)]
  refine wpAny_pure ?_
  have hge' : es.size ≤ i := by rw [hsz]; exact hge
  simp only [show ¬ ((i : Int) < 0) from by omega, if_false, Int.toNat_natCast, Array.getElem?_eq_none hge']
  refine wpAny_bind ?_
  first | refine wpAny_bind (wpAny_typeNameOfWhole_keyiter hit.typeIs (wpAny_pure ?_)) | refine wpAny_bind (wpAny_typeNameOf_keyiter hit.typeIs (wpAny_pure ?_))
  show wpAny _ _ (setField (.ref it) 0 .none >>= _) _ _ s
  refine wpAny_bind (wpAny_setField ho hd (by simp) ?_)
  show wpAny _ _ (newExc (.type "StopIteration") [] >>= _) _ _ _
  refine wpAny_bind ?_
  simp only [newExc, newTuple]
  refine wpAny_bind (wpAny_newObj_type ?_ (by size_fits))
  refine wpAny_bind (m := firstArgMember _ _) (wpAny_of_eq (a := Value.none) (by first | rfl | (simp only [firstArgMember]; rfl)) ?_)
  refine wpAny_newObj_type ?_ (by size_fits)
  refine raiseNew_hot ⟨hh, o1, vs1, Heap.get?_push_of_some _ (Heap.get?_push_of_some _ ((Heap.get?_update_other _ _ hne.symm).trans h1)), d1, c1⟩ (Nat.ne_of_lt (Heap.lt_size (Heap.get?_push_of_some _ ((Heap.get?_update_other _ _ hne.symm).trans h1)))) (Heap.get?_push_size _ rfl) rfl (by first | (simp; done) | (simp; omega) | (simp only [Array.size_append]; simp; omega)) ?_
  refine wpAny_bind (wpAny_isInstance (T := "StopIteration") (b := true) ⟨_, Heap.get?_update_self _ (Heap.get?_push_size _ rfl) rfl, rfl⟩ isSubtype_stop ?_)
  refine wpAny_pure (hQ _ fun b u hb e => ?_)
  rw [Heap.get?_update_other _ _ (Nat.ne_of_gt (Heap.lt_size (Heap.get?_push_of_some _ ((Heap.get?_update_other _ _ hb.symm).trans e))))]
  exact Heap.get?_push_of_some _ (Heap.get?_push_of_some _ ((Heap.get?_update_other _ _ hb.symm).trans e))

theorem raiseAttr_hot {α : Type} {o : Value} {name msg : Str} {x1 : Addr} {Q : α → Shared → Prop} (hot : HotAt A x1 s.heap)
    (h : ∀ h' tk e, (∀ b ob, s.heap.get? b = some ob → h'.get? b = some ob) → (∃ t u, h'.get? e = some { cls := .type "AttributeError", data := .fields #[t, .none, .ref x1, .none, .bool false, .none, .str name u, o] }) → E (.ref e) { s with heap := h', toks := tk }) (hm : msg.length ≤ sizeLine := by size_fits) :
    wpAny (model prog w) A (raiseAttrError o name msg : Sem α) Q E s := by
  obtain ⟨hh, o1, vs1, h1, d1, c1⟩ := hot
  unfold raiseAttrError
  refine wpAny_bind (wpAny_mkStr (wpAny_bind ?_) hm)
  unfold newExc newTuple
  refine wpAny_bind (wpAny_newObj_type ?_ (by size_fits))
  refine wpAny_bind (m := firstArgMember _ _) (wpAny_of_eq (a := Value.none) (by simp only [firstArgMember, attrError_no_first]; rfl) ?_)
  rw [ownMembersOf_AttributeError]
  refine wpAny_newObj_type ?_ (by size_fits)
  obtain ⟨hp, g, d, tk, os⟩ := s
  have f1 := sub_AttributeError
  repeat (any_goals (first | assumption | wp_step))
  have hlt : x1 < hp.objs.size := Heap.lt_size h1
  refine raiseNew_hot ⟨hh, o1, vs1, (Heap.get?_update_other _ _ ?_).trans (Heap.get?_push_of_some _ (Heap.get?_push_of_some _ h1)), d1, c1⟩ ?_ (Heap.get?_update_self _ (Heap.get?_push_size _ rfl) rfl) rfl (by first | (simp; done) | (simp; omega) | (simp only [Array.size_append]; simp; omega)) ?_
  · simp only [Heap.size_push]
    exact Nat.ne_of_gt (Nat.lt_succ_of_lt hlt)
  · simp only [Heap.size_push]
    exact Nat.ne_of_lt (Nat.lt_succ_of_lt hlt)
  · dsimp only
    refine h _ _ _ (fun b ob hb => ?_) ?_
    · have hlt : b < hp.objs.size := Heap.lt_size hb
      refine (Heap.get?_update_other _ _ ?_).trans ((Heap.get?_update_other _ _ ?_).trans (Heap.get?_push_of_some _ (Heap.get?_push_of_some _ hb)))
      · simp only [Heap.size_push]
        exact Nat.ne_of_gt (Nat.lt_succ_of_lt hlt)
      · simp only [Heap.size_push]
        exact Nat.ne_of_gt (Nat.lt_succ_of_lt hlt)
    · exact ⟨_, _, Heap.get?_update_self _ (Heap.get?_update_self _ (Heap.get?_push_size _ rfl) rfl) rfl⟩
/-- raisesAttr while x1 is handled -/
def raisesAttrH (x1 : Addr) (o : Value) (name : Str) : PySem.Spec := fun A R s => HotAt A x1 s.heap ∧ ∀ h' tk e, (∀ b ob, s.heap.get? b = some ob → h'.get? b = some ob) → (∃ t u, h'.get? e = some { cls := .type "AttributeError", data := .fields #[t, .none, .ref x1, .none, .bool false, .none, .str name u, o] }) → R (.error (.ref e)) { s with heap := h', toks := tk }
theorem meets_miss_listH (x1 a : Addr) (xs : Array Value) (k : Nat) (sl : Array (Option Value)) (name : Str) (u : Tok) (hmiss : typeLookup (.type "list") name = pure none) (hname : (["__module__", "__name__", "__qualname__", "__doc__", "__annotations__"] : List Str).contains name = false) (hsz : name.length + 100 ≤ sizeLine := by size_fits) :
    Meets (Builtin.«object.__getattribute__» ⟨[.ref a, .str name u], []⟩) (fun A R s => s.heap.get? a = some { cls := .type "list", dict := none, data := .seq xs k, slots := sl } ∧ raisesAttrH x1 (.ref a) name A R s) :=
  Meets.of_wp fun prog w A R s hs => by
    obtain ⟨hp, g, d, tk, os⟩ := s
    obtain ⟨hx, hs⟩ := hs
    have hT : (⟨hp, g, d, tk, os⟩ : Shared).TypeIs (.ref a) "list" := ⟨_, hx, rfl⟩
    unfold Builtin.«object.__getattribute__»
    repeat (any_goals (first | assumption | wp_step))
    simp only [hname, Bool.false_eq_true, if_false]
    repeat (any_goals (first | assumption | wp_step))
    exact raiseAttr_hot hs.1 hs.2 (attrMsg_fits (by decide +kernel) hsz)
theorem miss_list_hot {s : Shared} {a x1 : Addr} {o : Obj} {xs : Array Value} {k : Nat} {Q : Option Value → Shared → Prop} (hx : s.heap.get? a = some o) (hc : o.cls = .type "list") (hdat : o.data = .seq xs k) (hd : o.dict = none) (hot : HotAt A x1 s.heap)
    (h : ∀ h' tk, (∀ b ob, s.heap.get? b = some ob → h'.get? b = some ob) → Q none { s with heap := h', toks := tk }) : wpAny (model prog w) A (getAttr? (.ref a) "keys") Q E s := by
  obtain ⟨c, dct, dat, sl⟩ := o
  simp only at hc hdat hd
  subst hc hdat hd
  obtain ⟨hp, g, d, tk, os⟩ := s
  have hT : ∀ tk', (⟨hp, g, d, tk', os⟩ : Shared).TypeIs (.ref a) "list" := fun _ => ⟨_, hx, rfl⟩
  have hmiss := list_keys_none
  have hname : (["__module__", "__name__", "__qualname__", "__doc__", "__annotations__"] : List Str).contains "keys" = false := by decide +kernel
  have hsz : ("keys" : Str).length + 100 ≤ sizeLine := by first | size_fits | decide +kernel
  have f1 := sub_AttributeError
  have f3 := PySem.F.slot_list_getattribute.lookup
  have f4 := PySem.F.slot_list_getattribute.bind (.ref a)
  have f5 := am_list_getattr_none
  unfold getAttr? getAttrBy? getAttrBy
  repeat (any_goals (first | assumption | exact hT _ | ((with_reducible show wpAny _ _ (call (Value.builtin "list.__getattribute__") _ _) _ _ _); refine call_meets PySem.F.slot_list_getattribute (hT _) am_entry_list_getattribute (PySem.F.args_list_getattribute_2 _ _) (meets_miss_listH x1 a xs k sl "keys" _ hmiss hname hsz) ⟨hx, hot, fun h' tk' e hk' hx' => ?_⟩) | wp_step))
  obtain ⟨t', u', he⟩ := hx'
  show wpAny _ _ (getattributeRaised _ _ _ _ _ _ _) _ _ _
  unfold getattributeRaised
  repeat (any_goals (first | assumption | wp_step))
  all_goals first | exact h _ _ hk' | (dsimp only; repeat (any_goals (first | assumption | exact h _ _ hk' | wp_step)))
/-- dict([]) -/
theorem dict_nil_hot {s : Shared} {l x1 : Addr} {ol : Obj} {n : Nat} {Q : Value → Shared → Prop} (hot : HotAt A x1 s.heap) (hl : s.heap.get? l = some ol) (hc : ol.cls = .type "list") (hd : ol.dict = none)
    (hdat : ol.data = .seq #[] n)
    (h : ∀ h' tk, h'.DictOf (mixKind prog w) s.heap.objs.size [] → (∀ b o, s.heap.get? b = some o → h'.get? b = some o) → Q (.ref s.heap.objs.size) { s with heap := h', toks := tk }) :
    wpAny (model prog w) A (call (.type "dict") [.ref l]) Q E s := by
  obtain ⟨hh, o1, vs1, ho1, d1, c1⟩ := hot
  refine callType_codes (Q₁ := fun obj s₁ => obj = .ref s.heap.objs.size ∧ s₁ = { s with heap := s.heap.push { cls := .type "dict", data := .dict #[] } }) PySem.F.kt_called_dict (PySem.F.kt_typeCall_dict_1 _) PySem.F.entry_dict_init (kt_code_dict_new _ ⟨rfl, rfl⟩) ?_
  rintro obj s₁ ⟨rfl, rfl⟩
  have hnew : (s.heap.push { cls := .type "dict", data := .dict #[] }).DictOf (mixKind prog w) s.heap.objs.size [] := Heap.DictOf.new s.heap
  have k0 : ∀ b o, s.heap.get? b = some o → (s.heap.push { cls := .type "dict", data := .dict #[] }).get? b = some o := fun b o e => Heap.get?_push_of_some _ e
  refine ⟨hnew.typeIs, PySem.F.args_dict_init_2 _ _, ?_⟩
  unfold Builtin.«dict.__init__»
  refine wpAny_bind ?_
  unfold Builtin.Dict.selfAndRest
  refine wpAny_bind (wpAny_notOrdered_dict hnew.typeIs ?_)
  show wpAny _ _ (pure (s.heap.objs.size, [Value.ref l])) _ _ _
  refine wpAny_pure ?_
  show wpAny _ _ (Builtin.Dict.updateFrom "dict.__init__" s.heap.objs.size (.ref l) [] .none) _ _ _
  unfold Builtin.Dict.updateFrom
  refine wpAny_bind (wpAny_typeOf (T := "list") ⟨ol, k0 _ _ hl, hc⟩ ?_)
  rw [if_pos (by first | decide | rfl | simp)]
  refine wpAny_bind (miss_list_hot (x1 := x1) (k0 _ _ hl) hc hdat hd ⟨hh, o1, vs1, k0 _ _ ho1, d1, c1⟩ fun h1 tk1 hk1 => ?_)
  rw [if_pos (show (none : Option Value).isNone = true from rfl)]
  refine wpAny_bind (wpAny_rule ?_)
  have hl1 : h1.IsList l #[] := ⟨ol, hk1 _ _ (k0 _ _ hl), hc, n, hdat⟩
  have hS1 : s.heap.objs.size < h1.objs.size := by
    have e : (s.heap.push { cls := .type "dict", data := .dict #[] }).get? s.heap.objs.size = some { cls := .type "dict", data := .dict #[] } := Heap.get?_push_size _ rfl
    exact Heap.lt_size (hk1 _ _ e)
  refine wpAny_bind (wpAny_pyIter_list hl1 ?_)
  have k2 : ∀ b o, h1.get? b = some o → (h1.push { cls := .type "list_iterator", data := .fields #[.ref l, .int 0 0] }).get? b = some o := fun b o e => Heap.get?_push_of_some _ e
  have hlt : l < s.heap.objs.size := Heap.lt_size hl
  have hx1 : x1 < s.heap.objs.size := Heap.lt_size ho1
  have key : codeAny (model prog w) A.in1 (.builtin "dict.update.loop" ⟨[.ref s.heap.objs.size, .ref h1.objs.size, .int 0 0, .none], []⟩) (wants (fun r s₂ => r = .none ∧ Q (.ref s.heap.objs.size) s₂) E)
      { s with heap := h1.push { cls := .type "list_iterator", data := .fields #[.ref l, .int 0 0] }, toks := tk1 } := by
    refine codeAny_builtin ud_entry ?_
    rw [Around.under_plainId ud_plain _]
    show wpAny _ A.in1.in1 (pyNext (.ref h1.objs.size) >>= _) _ _ _
    refine wpAny_bind (list_end_hot (A := A.in1.in1) (i := 0) (x1 := x1) (l := l) (items := #[]) ⟨hh, o1, vs1, k2 _ _ (hk1 _ _ (k0 _ _ ho1)), d1, c1⟩ (Nat.ne_of_lt (Nat.lt_trans hx1 hS1)) ⟨_, Heap.get?_push_size _ rfl, rfl, rfl⟩ (hl1.at fun o e => k2 _ _ e) rfl fun h' he => ?_)
    show wpAny _ A.in1.in1 (Builtin.Dict.addKeywords s.heap.objs.size [] >>= _) _ _ _
    refine wpAny_bind (wpAny_pure (wpAny_pure ?_))
    refine ⟨rfl, h h' tk1 (((hnew.at fun o e => hk1 _ _ e).at fun o e => k2 _ _ e).at fun o e => he _ _ (Nat.ne_of_lt hS1) e) fun b o e => ?_⟩
    exact he b o (Nat.ne_of_lt (Nat.lt_trans (Heap.lt_size e) hS1)) (k2 _ _ (hk1 _ _ (k0 _ _ e)))
  first
    | exact wpAny_pure ⟨plainId_quiet ud_plain _, key⟩
    | exact wpAny_bind (wpAny_pure (wpAny_pure ⟨plainId_quiet ud_plain _, key⟩))
end
/-! ### walks -/
section
variable {P : Program} {w : World} {K : PySem.W.Frag} {tg : Expr}
theorem turn_listH (a it : Addr) : TurnH P w K tg (Itl K a) [it] it (fun i h => h.IsListIter it a i) where
  mem := by simp
  obj := fun i h st b hb => by
    have e : b = it := by simpa using hb
    subst e
    obtain ⟨o, e, c, d⟩ := st
    exact ⟨o, e, fun v z => by rw [d] at z; cases z⟩
  keep := fun i h h' st k => st.at fun o e => k it (by simp) o e
  item := by
    intro X hP hw hK hc i pins s σ H E I hf st hg
    subst hP hw hK
    obtain ⟨xs, x, hq, hx⟩ := hg
    obtain ⟨its, rv, p, hz⟩ := I.list hq
    obtain ⟨u, hu, ru⟩ := rv.get hx
    obtain ⟨f0, f1, f2, f3, f4, f5⟩ := hf it (by simp)
    refine wpAny_pyNext_list_item st p.isList (x := u) (by simpa using hu) fun h' st' sb => ?_
    have I1 : Inv X pins σ H { s with heap := h' } := I.turned (t' := s.toks) (fun b o hb e => (sb.2 b hb).trans e) f0 f1 f3 f4 f5
    obtain ⟨o, e, c, d⟩ := id st'
    exact ⟨u, rfl, go_of (s := { s with heap := h' }) e c d (by decide) ⟨x, H, I1, ru, ⟨rfl, fun ys hy => by rw [I.list_inj hy hq]; exact hx⟩, st', fun b hb => (hf b hb).1⟩⟩
  done := by
    intro X hP hw hK hc i pins s σ H E I hf st hg
    subst hP hw hK
    obtain ⟨xs, hq, hx⟩ := hg
    obtain ⟨its, rv, p, hz⟩ := I.list hq
    obtain ⟨f0, f1, f2, f3, f4, f5⟩ := hf it (by simp)
    have hl := rv.length
    obtain ⟨q, hq1, hq2⟩ := hc
    obtain ⟨hh, v1, e1, c1⟩ := hq1
    have hot : HotAt X.A q.1 s.heap := ⟨hh, q.2, v1, (I.pin q (List.mem_append_left _ hq2)).1, e1, c1⟩
    exact list_end_hot hot (f5 q (List.mem_append_left _ hq2)) st p.isList (by simp; omega) fun h' eb => ⟨rfl, I.turned (t' := s.toks) (fun b o hb e => eb b o hb e) f0 f1 f3 f4 f5⟩
  self := fun _ _ _ _ _ st h => wpAny_pyIter_listiter st h
theorem turn_tupleH (a it : Addr) : TurnH P w K tg (Itt K a) [it] it (fun i h => h.IsTupleIter it a i) where
  mem := by simp
  obj := fun i h st b hb => by
    have e : b = it := by simpa using hb
    subst e
    obtain ⟨o, e, c, d⟩ := st
    exact ⟨o, e, fun v z => by rw [d] at z; cases z⟩
  keep := fun i h h' st k => st.at fun o e => k it (by simp) o e
  item := by
    intro X hP hw hK hc i pins s σ H E I hf st hg
    subst hP hw hK
    obtain ⟨xs, x, hq, hx⟩ := hg
    obtain ⟨its, rv, p, hz⟩ := I.tuple hq
    obtain ⟨u, hu, ru⟩ := rv.get hx
    obtain ⟨f0, f1, f2, f3, f4, f5⟩ := hf it (by simp)
    refine wpAny_pyNext_tuple_item st (show s.heap.IsTuple a its.toArray from p) (x := u) (by simpa using hu) fun h' st' sb => ?_
    have I1 : Inv X pins σ H { s with heap := h' } := I.turned (t' := s.toks) (fun b o hb e => (sb.2 b hb).trans e) f0 f1 f3 f4 f5
    obtain ⟨o, e, c, d⟩ := id st'
    exact ⟨u, rfl, go_of (s := { s with heap := h' }) e c d (by decide) ⟨x, H, I1, ru, ⟨rfl, fun ys hy => by rw [I.tuple_inj hy hq]; exact hx⟩, st', fun b hb => (hf b hb).1⟩⟩
  done := by
    intro X hP hw hK hc i pins s σ H E I hf st hg
    subst hP hw hK
    obtain ⟨xs, hq, hx⟩ := hg
    obtain ⟨its, rv, p, hz⟩ := I.tuple hq
    obtain ⟨f0, f1, f2, f3, f4, f5⟩ := hf it (by simp)
    have hl := rv.length
    obtain ⟨q, hq1, hq2⟩ := hc
    obtain ⟨hh, v1, e1, c1⟩ := hq1
    have hot : HotAt X.A q.1 s.heap := ⟨hh, q.2, v1, (I.pin q (List.mem_append_left _ hq2)).1, e1, c1⟩
    exact tuple_end_hot hot (f5 q (List.mem_append_left _ hq2)) st (show s.heap.IsTuple a its.toArray from p) (by simp; omega) fun h' eb => ⟨rfl, I.turned (t' := s.toks) (fun b o hb e => eb b o hb e) f0 f1 f3 f4 f5⟩
  self := fun _ _ _ _ _ st h => wpAny_pyIter_tupleiter st h
theorem turn_keysH {d : Addr} {o : Obj} {es : Array DictEntry} {ep : Nat} {kvs : List (L2.Key × V)} (it : Addr) (hod : o.data = .dict es ep) : TurnH P w K tg (Itk d o kvs) [it] it (fun i h => h.IsKeyIter it d i kvs.length ep) where
  mem := by simp
  obj := fun i h st b hb => by
    have e : b = it := by simpa using hb
    subst e
    obtain ⟨oi, e, c, dd⟩ := st
    exact ⟨oi, e, fun v z => by rw [dd] at z; cases z⟩
  keep := fun i h h' st k => st.at fun oi e => k it (by simp) oi e
  item := by
    intro X hP hw hK hc i pins s σ H E I hf st hg
    subst hP hw hK
    obtain ⟨hd, hi⟩ := hg
    obtain ⟨f0, f1, f2, f3, f4, f5⟩ := hf it (by simp)
    obtain ⟨hs, hgd, hx, es', ep', vs, hdt, hsz, kv, hm⟩ := I.frzK hd
    obtain ⟨rfl, rfl⟩ := dict_ep hod hdt
    obtain ⟨⟨k, v⟩, hkv⟩ : ∃ p, kvs[i]? = some p := ⟨kvs[i], List.getElem?_eq_getElem hi⟩
    obtain ⟨u, hu, ru⟩ := kv_get kv hkv
    have hl : kvs.length = vs.length := Paired.length kv
    rw [hl] at st
    refine wpAny_pyNext_dict_item st hm hu fun key h' hkey st' sb => ?_
    have I1 : Inv X pins σ H { s with heap := h' } := I.turned (t' := s.toks) (fun b ob hb e => (sb.2 b hb).trans e) f0 f1 f3 f4 f5
    obtain ⟨oi, e, c, dd⟩ := id st'
    refine ⟨key, rfl, go_of (s := { s with heap := h' }) e c dd (by decide) ⟨kV k, H, I1, relV_key (show keyIs k key = true from hkey), ⟨rfl, k, v, hkv, rfl⟩, ?_, fun b hb => (hf b hb).1⟩⟩
    show h'.IsKeyIter it d (i + 1) kvs.length _
    rw [hl]
    exact st'
  done := by
    intro X hP hw hK hc i pins s σ H E I hf st hg
    subst hP hw hK
    obtain ⟨hd, hi⟩ := hg
    obtain ⟨f0, f1, f2, f3, f4, f5⟩ := hf it (by simp)
    obtain ⟨hs, hgd, hx, es', ep', vs, hdt, hsz, kv, hm⟩ := I.frzK hd
    obtain ⟨rfl, rfl⟩ := dict_ep hod hdt
    obtain ⟨q, hq1, hq2⟩ := hc
    obtain ⟨hh, v1, e1, c1⟩ := hq1
    have hot : HotAt X.A q.1 s.heap := ⟨hh, q.2, v1, (I.pin q (List.mem_append_left _ hq2)).1, e1, c1⟩
    exact key_end_hot hot (f5 q (List.mem_append_left _ hq2)) st hgd hdt hsz hi fun h' eb => ⟨rfl, I.turned (t' := s.toks) (fun b ob hb e => eb b ob hb e) f0 f1 f3 f4 f5⟩
  self := fun A i s Q E st h => wpAny_pyIter_keyiter st h
end
section
variable {X : Cx} {tg e : Expr} {te : TE}
theorem pi_oneH {pins : List (Addr × Obj)} {σ : L2.St} {H : Hp} {s : Shared} {R : It → Hp → Prop} {J : It} {tn : Nat → Heap → Prop} {tk : Nat} (I : Inv X pins σ H s) (o : Obj)
    (T : TurnH X.prog X.w X.K tg J [s.heap.objs.size] s.heap.objs.size tn) (st : tn 0 (s.heap.push o)) (q : R J H) : PIEH X pins σ tg R (.ref s.heap.objs.size) { s with heap := s.heap.push o, toks := tk } := by
  refine ⟨s.heap.objs.size, [s.heap.objs.size], tn, J, H, rfl, I.kept fun b ob e => Heap.get?_push_of_some _ e, T, st, fun b hb => ?_, q⟩
  have e : b = s.heap.objs.size := by simpa using hb
  subst e
  exact I.fpOk (Nat.le_refl _) (I.hok.fresh (Nat.le_refl _))
/-- a list or a tuple, as it comes -/
def iLT (K : PySem.W.Frag) (te : TE) : TI := fun σ H R => te σ H fun v H1 => (∃ a, v = .ref a ∧ (∃ vs, SqL K H1 a vs) ∧ R (Itl K a) H1) ∨ (∃ a, v = .ref a ∧ (∃ vs, SqT K H1 a vs) ∧ R (Itt K a) H1)
theorem pi_LT (he : PE X e te) : PI X tg e (iLT X.K te) := by
  refine ⟨fun pins s σ H R I h => thn (he.run pins s σ H _ I h) fun v s1 ⟨y, H1, I1, r1, q⟩ => ?_⟩
  rcases q with ⟨a, rfl, ⟨vs, hq⟩, q⟩ | ⟨a, rfl, ⟨vs, hq⟩, q⟩
  · cases r1
    obtain ⟨its, _, p, _⟩ := I1.list hq
    exact wpAny_pyIter_list p.isList (pi_one (tk := s1.toks) I1 _ (turn_list a _) ⟨_, Heap.get?_push_size _ rfl, rfl, rfl⟩ q)
  · cases r1
    obtain ⟨its, _, p, _⟩ := I1.tuple hq
    exact wpAny_pyIter_tuple (show s1.heap.IsTuple a its.toArray from p) (pi_one (tk := s1.toks) I1 _ (turn_tuple a _) ⟨_, Heap.get?_push_size _ rfl, rfl, rfl⟩ q)
theorem pi_LTH (he : PE X e te) : PIH X tg e (iLT X.K te) := by
  refine ⟨fun pins s σ H R I h => thn (he.run pins s σ H _ I h) fun v s1 ⟨y, H1, I1, r1, q⟩ => ?_⟩
  rcases q with ⟨a, rfl, ⟨vs, hq⟩, q⟩ | ⟨a, rfl, ⟨vs, hq⟩, q⟩
  · cases r1
    obtain ⟨its, _, p, _⟩ := I1.list hq
    exact wpAny_pyIter_list p.isList (pi_oneH (tk := s1.toks) I1 _ (turn_listH a _) ⟨_, Heap.get?_push_size _ rfl, rfl, rfl⟩ q)
  · cases r1
    obtain ⟨its, _, p, _⟩ := I1.tuple hq
    exact wpAny_pyIter_tuple (show s1.heap.IsTuple a its.toArray from p) (pi_oneH (tk := s1.toks) I1 _ (turn_tupleH a _) ⟨_, Heap.get?_push_size _ rfl, rfl, rfl⟩ q)
/-- the keys of a locked dict -/
def iKy (td : TE) : TI := fun σ H R => td σ H fun x H1 => ∃ d o, x = .ref d ∧ ∃ kvs, H1 d = some (.frz o (.dK kvs)) ∧ R (Itk d o kvs) H1
theorem pi_ky (he : PE X e te) : PI X tg e (iKy te) := by
  refine ⟨fun pins s σ H R I h => ?_⟩
  refine thn (he.run pins s σ H _ I h) fun u s1 ⟨x, H1, I1, rx, d, o, ex, kvs, hd, q⟩ => ?_
  subst ex
  obtain rfl : u = Value.ref d := rx
  obtain ⟨hs, hgd, hx, es, ep, vs, hdt, hsz, kv, hm⟩ := I1.frzK hd
  refine iter_keys hs hgd hx hdt (pi_one (tk := s1.toks) I1 _ (turn_keys _ hdt) ⟨_, Heap.get?_push_size _ rfl, rfl, ?_⟩ q)
  rw [hsz] <;> rfl
theorem pi_kyH (he : PE X e te) : PIH X tg e (iKy te) := by
  refine ⟨fun pins s σ H R I h => ?_⟩
  refine thn (he.run pins s σ H _ I h) fun u s1 ⟨x, H1, I1, rx, d, o, ex, kvs, hd, q⟩ => ?_
  subst ex
  obtain rfl : u = Value.ref d := rx
  obtain ⟨hs, hgd, hx, es, ep, vs, hdt, hsz, kv, hm⟩ := I1.frzK hd
  refine iter_keys hs hgd hx hdt (pi_oneH (tk := s1.toks) I1 _ (turn_keysH _ hdt) ⟨_, Heap.get?_push_size _ rfl, rfl, ?_⟩ q)
  rw [hsz] <;> rfl
end
/-! ### the comprehension -/
/-- the block's context, the handled exception still pinned -/
abbrev blkH (X : Cx) (s : Shared) (H : Hp) (scope : Scope) (cenv : PySem.Env) (fp : List Addr) : Cx := { X with s_0 := s, H_0 := H, env := cenv, outer := X.stack, ex := fp, fn := fun x => scope.names.lookup x == some .cell, xe := fun _ _ => False }
section
variable {X : Cx}
theorem hotC_blk {s : Shared} {H : Hp} {scope : Scope} {cenv : PySem.Env} {fp : List Addr} (hc : HotC X) : HotC (blkH X s H scope cenv fp) := hc
theorem blk_pinned {pins : List (Addr × Obj)} {σ σ' : L2.St} {H : Hp} {s s' : Shared} {scope : Scope} {cenv : PySem.Env} {fp : List Addr} (I : Inv X pins σ H s) (hL : s.heap.objs.size ≤ cenv.locals)
    (k : ∀ b o, s.heap.get? b = some o → s'.heap.get? b = some o) (J : Inv (X.blk s H scope cenv fp) [] σ' H s') : Inv (blkH X s H scope cenv fp) [] σ' H s' :=
  ⟨⟨J.ok.mod, J.ok.kind, J.ok.glob, J.ok.blt, J.ok.above, J.ok.inj, J.ok.has, J.ok.cab, J.ok.hd, J.ok.frames, J.ok.stk, J.ok.exf, J.ok.bs, J.ok.bsz, J.ok.noex, J.ok.exfs, J.ok.funs, J.ok.frf⟩, J.os, J.bare, J.base, J.loc, J.cell, J.free, J.freeC, fun p hp => by
    have hp' : p ∈ X.pn := by simpa using hp
    have q := I.pin p (List.mem_append_left _ hp')
    refine ⟨k _ _ q.1, q.2.1, fun z => ?_, fun hm => ?_, q.2.2.2.2⟩
    · exact absurd (Nat.lt_of_lt_of_le (Heap.lt_size q.1) (by rw [z]; exact hL)) (Nat.lt_irrefl _)
    · exact (List.mem_cons.mp (I.stkSub p.1 hm)).elim q.2.2.1 q.2.2.2.1, J.hok, J.len⟩
theorem lc_coreH {pins : List (Addr × Obj)} {s : Shared} {σ : L2.St} {H : Hp} {Q : VK} {elt tg iter : Expr} {ifs : List Expr} {scope : Scope} {own : List (Str × Nat)} {pos pos' : Pos} {wi : TI} {g : TG} {tt : TT} {te : TE} {use : Option (Value → Sem Unit)} {Qf : Value → Shared → Prop}
    (hc : HotC X) (hN : X.N.Nodup) (I : Inv X pins σ H s) (hi : PIH X tg iter wi) (ok : BlkOk X.N X.env.scope scope own)
    (hg : ∀ (s : Shared) (H : Hp) (C : Addr) (cl : List (Str × Addr)) (fp : List Addr), PG (blkH X s H scope (compEnvC scope cl C X.env) fp) tg g) (ht : ∀ (s : Shared) (H : Hp) (C : Addr) (cl : List (Str × Addr)) (fp : List Addr), PTs (blkH X s H scope (compEnvC scope cl C X.env) fp) ifs tt)
    (he : ∀ (s : Shared) (H : Hp) (C : Addr) (cl : List (Str × Addr)) (fp : List Addr), PE (blkH X s H scope (compEnvC scope cl C X.env) fp) elt te) (hs : ∀ x, foldedSetIterable iter X.env x = pure x)
    (h : tLc wi g tt te (own.map (·.2)) σ H Q)
    (hRR : ∀ D C s' m H', Inv X pins σ H' s' → Q (.ref D) H' → s'.heap.Ns C m → FpOk X pins H' C → compPost (model X.prog X.w) X.A X.xe use Qf (.ref D) C (.ok .next) s') :
    wpAny (model X.prog X.w) X.A (comprehension (.ListComp elt [⟨tg, iter, ifs, 0⟩] scope pos) scope X.env pos' (newList []) false (eval iter X.env) use) Qf X.xe s := by
  have hfree : ∀ y ∈ scope.names, y.2 = .free → ∃ c, X.env.cells.lookup y.1 = some c := fun y hy e => by
    rcases ok.free y hy e with k | k
    · exact I.ok.has _ (.inl k)
    · exact I.ok.has _ (.inr k)
  refine wpAny_comprehension_free (use := use) rfl hs (closure_ok hfree) ok.kind (fun y hy e => by rw [ok.uniq y hy, e])
    (thn (hi.run pins s σ H _ I h) fun xv s1 hx => thn hx fun itv s2 h2 => ?_)
  obtain ⟨it, fp, tn, J, H2, e, I2, T, st2, f2, q⟩ := h2
  subst e
  refine wpAny_newObj_type (newEnv_comp ?_) (by show 0 ≤ sizeLine; decide)
  generalize hD : s2.heap.objs.size = D
  have hDn : H2 D = none := I2.hok.fresh (Nat.le_of_eq hD)
  obtain ⟨W, ⟨m0, w0⟩, turn⟩ := q D hDn
  generalize hs3 : ({ s2 with heap := s2.heap.push { cls := .type "list", data := .seq ([] : List Value).toArray } } : Shared) = s3
  have I3 : Inv X pins σ (upd H2 D (.lst [])) s3 := by
    rw [← hs3]
    refine I2.laid (t' := s2.toks) (fun b o e => Heap.get?_push_of_some _ e) (Nat.le_of_eq hD) ⟨Nat.zero_le _, [], 0, .nil, ?_⟩
    rw [← hD]
    exact Heap.get?_push_size _ rfl
  have h3 : s3.heap = s2.heap.push { cls := .type "list", data := .seq ([] : List Value).toArray } := by rw [← hs3]
  have sz : ∀ b ∈ fp, b < s2.heap.objs.size := fun b hb => by
    obtain ⟨o, e, _⟩ := T.obj _ _ st2 b hb
    exact Heap.lt_size e
  have f3 : ∀ b ∈ fp, FpOk X pins (upd H2 D (.lst [])) b ∧ b < s3.heap.objs.size := fun b hb => by
    have hlt := sz b hb
    refine ⟨⟨?_, (f2 b hb).2⟩, by rw [h3, Heap.size_push]; exact Nat.lt_succ_of_lt hlt⟩
    rw [upd_ne (by rw [← hD]; exact Nat.ne_of_lt hlt)]
    exact (f2 b hb).1
  have st3 : tn 0 s3.heap := T.keep _ _ _ st2 fun b _ o e => by rw [h3]; exact Heap.get?_push_of_some _ e
  have I4 : Inv (blkH X s3 (upd H2 D (.lst [])) scope (compEnvC scope (cellsFrom (s3.heap.objs.size + 1) scope.names (cloFrom X.env.cells scope.names [])) s3.heap.objs.size X.env) fp) [] (wipe σ (own.map (·.2))) (upd H2 D (.lst [])) { s3 with heap := pushCells (s3.heap.push { cls := .type "dict", data := .dict #[] }) scope.names } :=
    blk_pinned I3 (Nat.le_refl _) (fun b o e => pushCells_keeps _ _ _ _ (Heap.get?_push_of_some _ e)) (block_start I3 ok hN f3)
  have pg := hg s3 (upd H2 D (.lst [])) s3.heap.objs.size (cellsFrom (s3.heap.objs.size + 1) scope.names (cloFrom X.env.cells scope.names [])) fp
  have pt := ht s3 (upd H2 D (.lst [])) s3.heap.objs.size (cellsFrom (s3.heap.objs.size + 1) scope.names (cloFrom X.env.cells scope.names [])) fp
  have pe := he s3 (upd H2 D (.lst [])) s3.heap.objs.size (cellsFrom (s3.heap.objs.size + 1) scope.names (cloFrom X.env.cells scope.names [])) fp
  show codeAny _ _ (.compStart (.ListComp elt [⟨tg, iter, ifs, 0⟩] scope pos) 0 (.ref it) (.ref D) (compEnvC scope (cellsFrom (s3.heap.objs.size + 1) scope.names (cloFrom X.env.cells scope.names [])) s3.heap.objs.size X.env)) (compPost (model X.prog X.w) X.A X.xe use Qf (.ref D) s3.heap.objs.size) { s3 with heap := pushCells (s3.heap.push { cls := .type "dict", data := .dict #[] }) scope.names }
  have nfp : ∀ b ∈ fp, (upd H2 D (.lst [])) b = none := fun b hb => (f3 b hb).1.1
  generalize hce : compEnvC scope (cellsFrom (s3.heap.objs.size + 1) scope.names (cloFrom X.env.cells scope.names [])) s3.heap.objs.size X.env = ce at I4 pg pt pe ⊢
  have cL : ce.locals = s3.heap.objs.size := by subst hce; rfl
  generalize hH3 : upd H2 D (.lst []) = H3 at I3 I4 pg pt pe w0 nfp f3
  generalize hs4 : ({ s3 with heap := pushCells (s3.heap.push { cls := .type "dict", data := .dict #[] }) scope.names } : Shared) = s4 at I4 ⊢
  have st4 : tn 0 s4.heap := T.keep _ _ _ st3 fun b _ o e => by rw [← hs4]; exact pushCells_keeps _ _ _ _ (Heap.get?_push_of_some _ e)
  have stat : ∀ {σ' : L2.St} {H' : Hp} {s' : Shared}, Inv (blkH X s3 H3 scope ce fp) [] σ' H' s' → (∀ b ∈ fp, H' b = none) → ∀ b ∈ fp, FpOk (blkH X s3 H3 scope ce fp) [] H' b := fun {σ' H' s'} I' hn b hb =>
    ⟨hn b hb, (I'.ok.exf b hb).1, I'.ok.exfs b hb, .inl hb, fun x c e => (I'.ok.exf b hb).2 x c e, fun p hp => (f3 b hb).1.2.2.2.2.2 p (List.mem_append_left _ (by simpa using hp))⟩
  have loop : codeAny (model X.prog X.w) X.A (.compLoop (.ListComp elt [⟨tg, iter, ifs, 0⟩] scope pos) 0 (.ref it) (.ref D) ce) (compPost (model X.prog X.w) X.A X.xe use Qf (.ref D) s3.heap.objs.size) s4 := by
    refine compLoop_any (fun n s' => ∃ i H', Inv (blkH X s3 H3 scope ce fp) [] (wipe σ (own.map (·.2))) H' s' ∧ tn i s'.heap ∧ (∀ b ∈ fp, H' b = none) ∧ W i n H') ?_ m0 ⟨0, H3, I4, st4, nfp, w0⟩
    rintro n s5 ⟨i, H5, I5, st5, n5, w5⟩
    rcases turn i n H5 w5 with ⟨stop, qq⟩ | ⟨go, Nx, hNx, step⟩
    · have td := T.done (blkH X s3 H3 scope ce fp) rfl rfl rfl hc i [] s5 _ H5 (fun _ _ => False) I5 (stat I5 n5) st5 stop
      refine thnF td fun r s6 ⟨hr, I6⟩ => ?_
      subst hr
      have I7 : Inv X pins σ H5 s6 := I3.call' (ch := fp) I6.os I6.base I6.hok I6.bare fun b hb => ⟨(f3 b hb).1.2.2.2.1, (f3 b hb).1.2.1, (f3 b hb).1.2.2.2.2.1, (f3 b hb).1.2.2.2.2.2⟩
      have nC : H5 s3.heap.objs.size = none := by
        have z : H5 ce.locals = none := I6.free
        rw [cL] at z
        exact z
      obtain ⟨m, hn, _⟩ := I6.loc
      have hn : s6.heap.Ns ce.locals m := hn
      rw [cL] at hn
      exact hRR D s3.heap.objs.size s6 m H5 I7 qq hn (I3.fpOk (Nat.le_refl _) nC)
    · have ti := T.item (blkH X s3 H3 scope ce fp) rfl rfl rfl hc i [] s5 _ H5 (fun _ _ => False) I5 (stat I5 n5) st5 go
      refine thnF ti fun r s6 ⟨u, hr, h6⟩ => ?_
      subst hr
      refine thnF h6 fun _ s7 ⟨x, H7, I7, r7, y7, st7, n7⟩ => ?_
      have I7' := I7.pinned (stat I7 n7) (T.obj _ _ st7)
      refine thnF (pg.run _ s7 _ H7 x u _ I7' r7 (step x H7 y7)) fun _ s8 ⟨σ8, H8, I8, hw8, q8⟩ => ?_
      refine thnF (pt.run _ s8 σ8 H8 _ I8 q8) fun b s9 ⟨H9, I9, q9⟩ => ?_
      have fin : ∀ {s' : Shared} {H' : Hp}, Inv (blkH X s3 H3 scope ce fp) ([] ++ pinsAt fp s7.heap) σ8 H' s' → Nx H' → ∃ m, m < n ∧ ∃ i H', Inv (blkH X s3 H3 scope ce fp) [] (wipe σ (own.map (·.2))) H' s' ∧ tn i s'.heap ∧ (∀ b ∈ fp, H' b = none) ∧ W i m H' := fun {s' H'} I' nx => by
        obtain ⟨m', hm, w'⟩ := hNx H' nx
        have pin' : ∀ b ∈ fp, ∀ o, s7.heap.get? b = some o → s'.heap.get? b = some o ∧ H' b = none := fun b hb o e =>
          let z := I'.pin (b, o) (List.mem_append_right _ (List.mem_append_right _ (mem_pinsAt hb e)))
          ⟨z.1, z.2.1⟩
        have hl : (wipe σ (own.map (·.2))).length = σ8.length := by rw [← hw8, wipe_length]
        refine ⟨m', hm, i + 1, H', (I'.unpinned (pins := [])).weak hl (fun j v e => ?_), T.keep _ _ _ st7 fun b hb o e => (pin' b hb o e).1, fun b hb => ?_, w'⟩
        · rw [← hw8] at e
          exact (wipe_some e).1
        · obtain ⟨o, e, _⟩ := T.obj _ _ st7 b hb
          exact (pin' b hb o e).2
      cases b with
      | false =>
        simp only [Bool.false_eq_true, if_false] at q9 ⊢
        exact fin I9 q9
      | true =>
        simp only [if_true] at q9 ⊢
        refine thnF (pe.run _ s9 σ8 H9 _ I9 q9) fun z s10 ⟨yv, H10, I10, r10, acc, hD10, hz10, nx⟩ => ?_
        exact app_ok (X := blkH X s3 H3 scope ce fp) I10 hD10 hz10 r10 fun s11 I11 => fin I11 nx
  exact codeAny_compStart_list loop (T.self X.A 0 _ _ _ st4 loop)
theorem pe_lcH {elt tg iter : Expr} {ifs : List Expr} {scope : Scope} {own : List (Str × Nat)} {pos : Pos} {wi : TI} {g : TG} {tt : TT} {te : TE} (hc : HotC X) (hN : X.N.Nodup) (hi : PIH X tg iter wi) (ok : BlkOk X.N X.env.scope scope own)
    (hg : ∀ (s : Shared) (H : Hp) (C : Addr) (cl : List (Str × Addr)) (fp : List Addr), PG (blkH X s H scope (compEnvC scope cl C X.env) fp) tg g) (ht : ∀ (s : Shared) (H : Hp) (C : Addr) (cl : List (Str × Addr)) (fp : List Addr), PTs (blkH X s H scope (compEnvC scope cl C X.env) fp) ifs tt)
    (he : ∀ (s : Shared) (H : Hp) (C : Addr) (cl : List (Str × Addr)) (fp : List Addr), PE (blkH X s H scope (compEnvC scope cl C X.env) fp) elt te) (hs : ∀ x, foldedSetIterable iter X.env x = pure x := by intro _; rfl) :
    PE X (.ListComp elt [⟨tg, iter, ifs, 0⟩] scope pos) (tLc wi g tt te (own.map (·.2))) := by
  refine ⟨fun pins s σ H Q I h => ?_⟩
  rw [eval_ListComp]
  refine lc_coreH hc hN I hi ok hg ht he hs h fun D C s' m H' I' q hn f => ⟨m, hn, fun h'' sb => ?_⟩
  obtain ⟨f0, f1, f2, f3, f4, f5⟩ := f
  exact ⟨.ref D, H', I'.turned (t' := s'.toks) (fun b o hb e => (sb.2 b hb).trans e) f0 f1 f3 f4 f5, rfl, q⟩
end
end HH1

/-! HHotD: dict([]), calls, defs while an exception is handled; exceptions whose context is None; over data. -/
namespace HH1
open PySem PySem.Spec PyProof.Rows L2 HotX L2H
/-! ### dict([]) -/
def rDictE (K : PySem.W.Frag) : List V → Hp → VK → Prop := fun xs H Q => ∃ a, xs = [.ref a] ∧ SqL K H a [] ∧ ∀ p o, H p = none → Q (.ref p) (upd H p (.frz o (.dK [])))
theorem call_dictE {X : Cx} (hc : X.calm = true) : CallR X (.type "dict") (rDictE X.K) := by
  intro pins s σ H xs us Q I r q
  obtain ⟨a, rfl, hq, q⟩ := q
  refine thn (call_dictP hc pins s σ H [.ref a] us (fun v H' => ∃ p, v = .ref p ∧ H p = none ∧ H' = upd H p (.dK [])) I r ⟨a, [], [], rfl, hq, .nil, fun p hp => ⟨p, rfl, hp, rfl⟩⟩) fun v s' ⟨x, H', I', rv, p, hv, hp, hH⟩ => ?_
  subst hv hH
  obtain ⟨od, I2⟩ := I'.lock upd_same trivial
  rw [upd_upd] at I2
  exact ⟨.ref p, _, I2, rv, q p od hp⟩
theorem call_dictEH {X : Cx} (hc : HotC X) : CallR X (.type "dict") (rDictE X.K) := by
  intro pins s σ H xs us Q I r q
  obtain ⟨a, rfl, hq, q⟩ := q
  obtain ⟨u, eu, rx⟩ := vals1 r
  subst eu
  cases rx
  obtain ⟨x1, hot⟩ := hc.at I
  obtain ⟨its, rv, pl, hz⟩ := I.list hq
  cases rv
  obtain ⟨o, n, ho, hcl, hd, hdat⟩ := pl
  refine dict_nil_hot hot ho hcl hd hdat fun h' tk hd' k => ?_
  have hm : (s.heap.objs.size == sysModules) = false := beq_eq_false_iff_ne.mpr (Nat.ne_of_gt I.big)
  have hn : H s.heap.objs.size = none := I.hok.fresh (Nat.le_refl _)
  have I1 : Inv X pins σ (upd H s.heap.objs.size (.dK [])) { s with heap := h', toks := tk } :=
    I.laid (a := s.heap.objs.size) (o := .dK []) (t' := tk) k (Nat.le_refl _) ⟨Nat.zero_le _, hm, [], .nil, hd'⟩
  obtain ⟨od, I2⟩ := I1.lock upd_same trivial
  rw [upd_upd] at I2
  exact ⟨.ref s.heap.objs.size, _, I2, rfl, q _ od hn⟩
/-! ### list(text) -/
theorem vals_at : ∀ {xs : List V} {us : List Value}, xs.length = us.length → (∀ (j : Nat) (x : V) (u : Value), xs[j]? = some x → us[j]? = some u → RelV x u) → Vals xs us
  | [], [], _, _ => .nil
  | [], _ :: _, h, _ => by simp at h
  | _ :: _, [], h, _ => by simp at h
  | x :: xs, u :: us, h, k => .cons (k 0 x u rfl rfl) (vals_at (by simpa using h) fun j y v h1 h2 => k (j + 1) y v (by simpa using h1) (by simpa using h2))
def chV (z : Str) : List V := z.cps.toList.map fun c => V.str ⟨#[c]⟩
def rListS : List V → Hp → VK → Prop := fun xs H Q => ∃ z, xs = [.str z] ∧ z.length ≤ sizeLine ∧ ∀ p, H p = none → Q (.ref p) (upd H p (.lst (chV z)))
theorem call_listS {X : Cx} (hc : X.calm = true) : CallR X (.type "list") rListS := by
  intro pins s σ H xs us Q I r q
  obtain ⟨z, rfl, hz, q⟩ := q
  obtain ⟨u, eu, rx⟩ := vals1 r
  subst eu
  obtain ⟨t, rfl⟩ := rx
  refine call_list_str (I.ok.hd hc) z t (fun h' tk acc' c' k e it => ?_) (by show z.cps.size ≤ sizeLine; exact hz)
  have hl : (chV z).length = acc'.toList.length := by simp [chV, it.1]
  have hv : Vals (chV z) acc'.toList := vals_at hl fun j x u h1 h2 => by
    obtain ⟨c, t', h3, rfl⟩ := it.2 j u (by rw [← Array.getElem?_toList]; exact h2)
    unfold chV at h1
    rw [List.getElem?_map, Array.getElem?_toList, h3] at h1
    cases h1
    exact ⟨_, rfl⟩
  refine ⟨.ref s.heap.objs.size, _, I.laid (t' := tk) k (Nat.le_refl _) (show ObjOk X.prog X.w _ h' _ (.lst (chV z)) from ⟨?_, acc'.toList, c', hv, by rw [Array.toArray_toList]; exact e⟩), rfl, q _ (I.hok.fresh (Nat.le_refl _))⟩
  rw [hl]
  have a1 := it.1
  simp only [Array.length_toList]
  rw [a1]
  exact hz
/-! ### calls -/
theorem pe_callH0 {X : Cx} {CX : CXT} {k : Nat} {f : Addr} {fd : FuncData} {ps : List Str} {sp : Sp} {E : XK} {x : Str} {q pos : Pos} {e : Expr} {es : List Expr} {t : TA}
    (F : FnH X.prog X.w X.K X.mg X.base CX k f fd ps sp) (hr : RoomH k X.A) (hc : HotC X) (hg : Gl X x) (hm : X.mg x = some (.ref f)) (hk : PySem.W.keepIn X.K (.ref f) = true) (hb : Binds X.K fd ps []) (hx : Passes CX X E)
    (ha : PA X (e :: es) t) (hdb : (x == ("__debug__" : Str)) = false := by decide) (he : starEach (e :: es) X.env = (false, eval e X.env) :: starEach es X.env := by rfl) (hpl : (backTo pos (starEach es X.env)).any (·.1) = false := by rfl) :
    PE X (.Call (.Name x q) (e :: es) [] pos) (tCall sp [] E t) := by
  refine ⟨fun pins s σ H Q I h => (pe_callH F hr hc hg hm hk hb (E := fun _ => E) (fun σ pins H s e s' I c => hx pins σ H s e s' I c) ha hdb he hpl).run pins s σ H Q I ?_⟩
  have e : (fun (vs : List V) (H1 : Hp) => sp (vs ++ []) H1 Q E) = fun vs H1 => sp vs H1 Q E := by
    funext vs H1
    rw [List.append_nil]
  show t σ H fun vs H1 => sp vs H1 Q E
  rw [← e]
  exact h
/-! ### exceptions whose context is None -/
theorem passN {X : Cx} : Passes (L2N.CX X.prog X.w) X E0 := fun _ _ _ _ _ _ _ h => by
  obtain ⟨_, _, _, _, _, _, _, _, _, _, _, _, z⟩ := h
  exact z.elim
theorem takesN0 {X : Cx} : L2N.Takes X (fun _ _ _ _ => False) := fun _ _ x => by
  obtain ⟨_, _, _, _, _, _, _, _, _, _, _, _, _, _, _, _, z⟩ := x
  exact z.elim
theorem passesN_len {X : Cx} {W : WX} {E : XK} (tk : L2N.Takes X W) (hW : ∀ cls d σ H, σ.length = X.N.length → E cls d H → W cls d σ H) : Passes (L2N.CX X.prog X.w) X E :=
  fun _ σ _ _ e s' I c => tk e s' (L2N.XE.of_call I (fun cls d H' h => hW cls d σ H' I.len h) c)
section
variable {X : Cx} {e : Expr} {es : List Expr} {ta : TA} {p pos : Pos}
theorem pmkN_oex {CX : CXT} {x : Str} {C fI : Addr} {k : Nat} {fd : FuncData} {ps : List Str} {sp : Sp} {ds : List Value} {dvs : List V} (T : OexC X.K C) (iC : PySem.W.findIn X.K (.ref C) "__init__" = some (some (.ref fI))) (tI : PySem.W.typeIn X.K (.ref fI) = some (.type "function"))
    (F1 : FnOk X.prog X.w X.K X.mg X.base CX k fI fd ps sp) (hr : Room (k + 1) X.A) (hb : Binds X.K fd ps ds) (hd : Vals dvs ds) (hx : Passes CX X (fun _ _ _ => False)) (hg : Gl X x) (hm : X.mg x = some (.ref C)) (ha : PA X (e :: es) ta)
    (hdb : (x == ("__debug__" : Str)) = false := by decide) (he : starEach (e :: es) X.env = (false, eval e X.env) :: starEach es X.env := by rfl) (hpl : (backTo pos (starEach es X.env)).any (·.1) = false := by rfl) :
    L2N.PMk X (.Call (.Name x p) (e :: es) [] pos) (tMkO C sp dvs ta) := by
  intro pins s σ H Q I h
  obtain ⟨nm, q, N, bs, bm, sn, sub, ab, col, dd, k0, k1, k2, k3, k5, hC, hbm⟩ := T.cls
  refine wpAny_Call_Name_kw (ld_glob I hg hm ?_ hdb)
  refine PySem.W.callWith_K (h₀ := X.base) I.ok.mod.kin T.kC (thn (ha.run pos pins s σ H _ I h) fun us s1 ⟨vs, H1, I1, r1, hz, q1⟩ => ⟨I1.kIn, ?_⟩) he hpl
  show wpAny _ _ (call (.ref C) us) _ _ _
  obtain ⟨hp, g, dr, tk, os⟩ := s1
  have hsz : hp.objs.size ≤ hp.objs.size + 1 := Nat.le_succ _
  have hn : H1 (hp.objs.size + 1) = none := I1.hok.fresh hsz
  have hq := q1 (hp.objs.size + 1) hn
  have kk : ∀ b o, hp.get? b = some o → ((hp.push (PySem.W.kdv_tup us)).push (PySem.HandSPX.excO C hp.objs.size)).get? b = some o := fun b o e => Heap.get?_push_of_some _ (Heap.get?_push_of_some _ e)
  have hget : ((hp.push (PySem.W.kdv_tup us)).push (PySem.HandSPX.excO C hp.objs.size)).get? (hp.objs.size + 1) = some (PySem.HandSPX.excO C hp.objs.size) := by heap_get
  have I2 : Inv X pins σ (upd H1 (hp.objs.size + 1) (exo (hp.objs.size + 1) C none)) ⟨(hp.push (PySem.W.kdv_tup us)).push (PySem.HandSPX.excO C hp.objs.size), g, dr, tk, os⟩ :=
    I1.laid (t' := tk) (a := hp.objs.size + 1) (o := exo (hp.objs.size + 1) C none) (h' := (hp.push (PySem.W.kdv_tup us)).push (PySem.HandSPX.excO C hp.objs.size)) kk hsz (exo_ok hget)
  have r2 : Vals (V.ref (hp.objs.size + 1) :: (vs ++ dvs)) (Value.ref (hp.objs.size + 1) :: (us ++ ds)) := .cons rfl (r1.append hd)
  have hl : (Value.ref (hp.objs.size + 1) :: us ++ ds).length = ps.length := by
    have e := r2.length
    rw [F1.len _ _ _ _ hq] at e
    exact e.symm
  have hus : us.length ≤ sizeLine := by
    rw [← Paired.length r1, sizeLine_eq]
    omega
  refine wpAny_call (PySem.HandSPX.call_own F.excBase_ValueError (fun Y => PySem.HandSPX.refsVE_contains Y bm hbm) (I1.kIn _ _ hC) (PySem.W.looks_findIn I1.kIn iC) (fun self => PySem.W.bind_fn I1.kIn self tI) hus
    (codeAny_mono (F1.run _ X.stack _ _ ⟨Value.ref (hp.objs.size + 1) :: us, []⟩ (Value.ref (hp.objs.size + 1) :: (us ++ ds)) _ _ (fun _ _ _ => False) (hr.make C us []) (I2.env0.make C us []) (hb _ (Value.ref (hp.objs.size + 1) :: us) I2.kIn hl) r2 hq) fun r s' hq' => ?_))
  cases r with
  | error er => exact hx pins σ _ _ er s' I2 hq'
  | ok fl =>
    cases fl with
    | ret u =>
      obtain ⟨v, H2, os2, bare2, un2, hok2, rv, ev, d, fs, ea, ed, hd1, q2⟩ := hq'
      subst ev
      obtain ⟨h2, g2, d2, t2, os'⟩ := s'
      obtain ⟨t0, G, J, kG, ge, hoe, na⟩ := mk_end0 (d2 := d2) (t2 := t2) I1 hsz kk un2 hok2 os2 bare2 ea ed hd1
      refine ⟨rv, hp.objs.size + 1, _, _, ⟨G, g2, d2, t2, os'⟩, _, .ref C, some d, rfl, J, kG, ge, hoe, ⟨rfl, rfl, fun vs hv => ?_⟩, rfl, rfl, na, rfl, bare2, raises_own T.exC T.tyC, q2⟩
      cases hv
      rfl
    | next => exact False.elim hq'
    | brk => exact False.elim hq'
    | cont => exact False.elim hq'
end
/-- the suite is hot -/
theorem hot_suite {X : Cx} {a : Addr} {oe : Obj} {cls : Value} {d : Option Addr} {pn : List (Addr × Obj)} (hz : L2N.Zn cls d oe) (hd : ∃ vs, oe.data = .fields vs) : HotC (X.suite a ((a, oe) :: pn)) := by
  obtain ⟨vs, e⟩ := hd
  exact ⟨(a, oe), ⟨rfl, vs, e, hz.2.2 vs e⟩, List.mem_cons_self⟩
theorem room_suite {X : Cx} {k : Nat} {a : Addr} {pn : List (Addr × Obj)} (r : Room k X.A) : RoomH k (X.suite a pn).A := ⟨r.dp, r.un⟩
section
variable {X : Cx} {x n : Str} {c : Value} {i : Nat} {body suite : List Stmt} {b₀ : Stmt} {np pos pos' : Pos} {tb : XK → TS} {ts : Addr → Value → Option Addr → TS}
theorem ps_tryN (hs : X.stack = X.env :: X.outer) (hf : X.env.frame = some X.env.locals) (hN : X.N.Nodup) (hi : X.N[i]? = some n) (hln : X.env.kindOf n = some .local) (hc : Names X x c)
    (hb : ∀ (E : XK) (pn : List (Addr × Obj)) (xe : Value → Shared → Prop), Passes (L2N.CX X.prog X.w) (X.tr pn xe) E → PassesOwn (model X.prog X.w) X.A X.env xe → PSs (X.tr pn xe) body (tb E))
    (hsu : ∀ (a : Addr) (oe : Obj) (cls : Value) (d : Option Addr) (pn : List (Addr × Obj)), L2N.Zn cls d oe → (∃ vs, oe.data = .fields vs) → PSs (X.suite a ((a, oe) :: pn)) (b₀ :: suite) (ts a cls d)) :
    PS X (.Try body [.ExceptHandler (some (.Name x np)) (some n) (b₀ :: suite) pos'] [] [] pos) (HX1.tTry X.K X.N.length c i tb ts) :=
  L2N.ps_try_as (tb := fun W => tb (fun cls d H' => ∀ σ' : L2.St, σ'.length = X.N.length → W cls d σ' H')) hs hf hN hi hln hc takesN0 (fun W pn xe tk po => hb _ pn xe (passesN_len (X := X.tr pn xe) tk fun cls d σ H hl h => h σ hl) po) hsu
end
end HH1
namespace DD
open PySem L2 HotX L2H
def rLeS : R2 := fun x y H Q => ∃ i j, x = .str i ∧ y = .str j ∧ Q (.bl (!decide (j.cps.toList < i.cps.toList))) H
theorem op_leS {X : Cx} : OpR X (compareOp .LtE) rLeS := op_le_str
open PySem.Spec PyProof.Rows
section
variable {P : Program} {w : World} {K : PySem.W.Frag} {mg : Str → Option Value} {base : Heap} {B F Hb H : Hp} {m : Mem} {ρ : DD.Env}
/-- a def called while an exception is handled -/
theorem ok_DH {CX : CXT} {x qual : Str} {st : Stmt} {f : Addr} {fd : FuncData} {N ps : List Str} {k : Nat} {φ : Phi} (F : Fun K x qual st f fd) (S : FnScope N ps (defScope st)) (hl : ∀ ds m nx X, φ ds m nx X → ds.length = ps.length)
    (hbody : ∀ (cdv : Value) (A : Around) (outer : List PySem.Env) (s : Shared) (H : Hp) (E : XK) (p : Addr × Obj), HotC (cxH CX P w K mg base N qual (defScope st) f cdv A outer s H E p) → RoomH k (A.deeper (envOfC qual (defScope st) s.heap.objs.size f cdv)) →
      ∃ t, PSs (cxH CX P w K mg base N qual (defScope st) f cdv A outer s H E p) (defBody st) t ∧ BodyOk K φ N E t) : FnH P w K mg base CX (k + 1) f fd ps (spOf K φ) := by
  obtain ⟨oc, od, kV, doc, pm, an, cdv, ct, osl, rfl, lk, hcd⟩ := F.ex
  refine fn_ofH lk hcd S (spOf_len hl) fun A outer s H vs Q E p hot hr h => ?_
  obtain ⟨ds, m, F', Hb, nx, X, h1, h2, h3, h4, h5⟩ := h
  obtain ⟨t, ht, hw⟩ := hbody cdv A outer s H E p ⟨p, ⟨hot.1, hot.2⟩, List.mem_singleton_self p⟩ hr
  exact ⟨t, ht, hw ds m nx X F' Hb h3 h5 Hb H _ _ (Same.refl _) h2 (RpS.start h1) ⟨fun σ H' Hb' ρ m' e r hs q => h4 _ _ _ _ _ e r rp_s q, h4, fun _ _ _ _ _ _ _ _ z => z.elim, fun _ _ _ _ _ _ _ _ z => z.elim⟩⟩
theorem wc_dictE {Q : QD} (q : Q (.dic [] []) m) : WC K F B (HH1.rDictE K) [.lst []] m Q := fun Hb H vs R hB r hx k => by
  obtain ⟨v, rfl, hv⟩ := rpL1 hx
  unfold Rp at hv
  obtain ⟨p, us, rfl, h1, h2⟩ := hv
  cases us with
  | cons u us => exact absurd h2.length (by simp)
  | nil =>
    refine ⟨p, rfl, SqL.of (r.sub _ _ h1), fun a o ha => ?_⟩
    refine k _ _ _ (.dic [] []) _ (Same.new (r.fresh ha)) (r.data ha) ?_ q
    unfold Rp
    exact ⟨a, o, [], rfl, upd_same, RpL.nil, rfl⟩
theorem wc_listS {z : Str} {Q : QD} (hz : z.length ≤ sizeLine) (q : Q (.lst (chrs z)) m) : WC K F B HH1.rListS [.s (.str z)] m Q := fun Hb H vs R hB r hx k => by
  obtain ⟨v, rfl, hv⟩ := rpL1 hx
  unfold Rp at hv
  subst hv
  refine ⟨z, rfl, hz, fun p hp => ?_⟩
  refine k _ _ _ (.lst (chrs z)) _ (Same.new (r.fresh hp)) (r.data hp) ?_ q
  unfold Rp
  refine ⟨p, _, rfl, upd_same, ?_⟩
  have e : chrs z = (HH1.chV z).map D.s := by
    unfold chrs HH1.chV
    rw [List.map_map]
    rfl
  rw [e]
  exact RpL.ofScal _
theorem wo_leS {i j : Str} {Q : QD} (q : Q (.s (.bl (!decide (j.cps.toList < i.cps.toList)))) m) : WO K F B rLeS (.s (.str i)) (.s (.str j)) m Q := fun Hb H vx vy R hB r hx hy k => by
  unfold Rp at hx hy
  subst hx hy
  exact ⟨i, j, rfl, rfl, k.here r rp_s q⟩
theorem wi_LT {te : TE} {Q : List D → Mem → Prop} (h : WE K F B te ρ m fun x m1 => ∃ xs, (x = .lst xs ∨ x = .tup xs) ∧ Q xs m1) : WI K F B (HH1.iLT K te) ρ m Q := fun Hb H σ R hB r hs k =>
  h Hb H σ _ hB r hs fun v H1 Hb1 x m1 e1 r1 hx q1 => by
    obtain ⟨xs, hxx, q⟩ := q1
    rcases hxx with rfl | rfl
    · unfold Rp at hx
      obtain ⟨p, vs, rfl, h1, h2⟩ := hx
      exact .inl ⟨p, rfl, ⟨vs, SqL.of (r1.sub _ _ h1)⟩, k _ _ _ _ _ e1 r1 (it_list (SqL.of h1) h2) q⟩
    · unfold Rp at hx
      obtain ⟨p, vs, rfl, h1, h2⟩ := hx
      exact .inr ⟨p, rfl, ⟨vs, sameT r1.sub h1⟩, k _ _ _ _ _ e1 r1 (it_tup h1 h2) q⟩
theorem wi_ky0 {te : TE} {Q : List D → Mem → Prop} (h : WE K F B te ρ m fun x m1 => x = .dic [] [] ∧ Q [] m1) : WI K F B (HH1.iKy te) ρ m Q := fun Hb H σ R hB r hs k =>
  h Hb H σ _ hB r hs fun v H1 Hb1 x m1 e1 r1 hx q1 => by
    obtain ⟨rfl, q⟩ := q1
    unfold Rp at hx
    obtain ⟨p, o, vs, rfl, h1, _⟩ := hx
    refine ⟨p, o, rfl, [], r1.sub _ _ h1, k _ _ _ _ _ e1 r1 (fun i F' Hb2 H2 m2 e2 r2 => ⟨fun _ => ⟨r2.sub _ _ (e2 _ _ h1), Nat.zero_le _⟩, fun d hd => by simp at hd⟩) q⟩
end
end DD

/-! HBind: arguments that are left to the defaults. -/
namespace HB1
open PySem PySem.Spec PyProof.Rows L2
def det : V → Bool
  | .non => true
  | .bl _ => true
  | .ref _ => true
  | _ => false
theorem det_eq {v : V} {u u' : Value} (h : det v = true) (r : RelV v u) (r' : RelV v u') : u = u' := by
  cases v with
  | non => exact (show u = Value.none from r).trans (show u' = Value.none from r').symm
  | bl b => exact (show u = Value.bool b from r).trans (show u' = Value.bool b from r').symm
  | ref a => exact (show u = Value.ref a from r).trans (show u' = Value.ref a from r').symm
  | _ => exact nomatch h
theorem det_all : ∀ {vs : List V} {us us' : List Value}, vs.all det = true → Vals vs us → Vals vs us' → us = us'
  | [], _, _, _, .nil, .nil => rfl
  | v :: vs, _, _, h, .cons r t, .cons r' t' => by
    have h2 : (det v && vs.all det) = true := h
    rw [Bool.and_eq_true] at h2
    rw [det_eq h2.1 r r', det_all h2.2 t t']
theorem dflB {K : PySem.W.Frag} {x qual : Str} {pa : Arguments} {bo : List Stmt} {sc : Scope} {dvs : List V} {f : Addr} {fd : FuncData} {ps : List Str} {ds : List Value} (n j : Nat) (F : FunD K x qual pa bo sc dvs [] f fd) (hd : dvs ≠ []) (hv : Vals (dvs.drop j) ds) (hdet : (dvs.drop j).all det = true) (hn : n + (dvs.length - j) = ps.length)
    (h : ∀ (T : Addr) (kV doc pm : Value) (an : Option Addr) (cdv ct : Value) (us its : List Value), us.length = n → its.length = dvs.length →
      ∃ k, bindArgs (PySem.W.fnOf x qual pa bo sc (.ref T) kV doc pm an cdv ct) ⟨us, []⟩ = seqItems? (.ref T) >>= k ∧ k (some its.toArray) = pure (ps.zip (us ++ its.drop j))) : Binds K fd ps ds := by
  obtain ⟨ds', r, b⟩ := F.binds1 (ps := ps) n j hd hn h
  rw [det_all hdet hv r]
  exact b
end HB1

/-! DLend: owned lists that are walked, asked, extended, made tuples of. -/
namespace DD
open PySem L2
open PySem.Spec PyProof.Rows
section
variable {K : PySem.W.Frag} {B F Hb H : Hp} {m : Mem} {ρ : DD.Env}
/-- the memory without a, with a again -/
def offM (m : Mem) (a : Addr) : Mem := { m with own := dropM m.own a }
def onM (m : Mem) (a : Addr) (o : MO) : Mem := { m with own := putM m.own a o }
theorem on_off {a : Addr} {o : MO} (h : m.own a = some o) : onM (offM m a) a o = m := by
  unfold onM offM
  have e : putM (dropM m.own a) a o = m.own := by
    funext b
    by_cases hb : b = a
    · subst hb
      rw [putM_same, h]
    · rw [putM_ne hb, dropM_ne hb]
  rw [e]
/-- an owned list is put into the frame -/
theorem Rel.lend {a : Addr} {xs : List D} (r : Rel K F Hb H m) (h : m.own a = some (.lst xs)) : ∃ vs, RpL K Hb xs vs ∧ F a = none ∧ Rel K (upd F a (.lst vs)) Hb H (offM m a) := by
  obtain ⟨h1, vs, h2, h3⟩ := r.own a _ h
  have hF : F a = none := r.ownF h
  refine ⟨vs, h3, hF, r.sub, fun b o e => ?_, fun b mo e => ?_, nt_upd r.nt (fun _ z => nomatch z)⟩
  · by_cases hb : b = a
    · subst hb
      rw [upd_same] at e
      cases e
      exact ⟨h2, h1, dropM_same⟩
    · rw [upd_ne hb] at e
      obtain ⟨z1, z2, z3⟩ := r.fr b o e
      exact ⟨z1, z2, (dropM_ne hb).trans z3⟩
  · by_cases hb : b = a
    · subst hb
      have q : (none : Option MO) = some mo := by
        rw [← e]
        exact dropM_same.symm
      cases q
    · exact r.own b mo (by rw [← e]; exact (dropM_ne hb).symm)
theorem Rel.back {a : Addr} {xs : List D} {vs : List V} (r : Rel K (upd F a (.lst vs)) Hb H m) (hF : F a = none) (h : RpL K Hb xs vs) : Rel K F Hb H (onM m a (.lst xs)) :=
  r.take hF ⟨vs, (r.fr a _ upd_same).1, h⟩
theorem upd_swap {H : Hp} {a b : Addr} {o u : HO} (h : a ≠ b) : upd (upd H a o) b u = upd (upd H b u) a o := by
  funext c
  by_cases h1 : c = b
  · subst h1
    rw [upd_same, upd_ne h.symm, upd_same]
  · rw [upd_ne h1]
    by_cases h2 : c = a
    · subst h2
      rw [upd_same, upd_same]
    · rw [upd_ne h2, upd_ne h2, upd_ne h1]
/-- what is let out, the list lent -/
theorem OkX.lend {a : Addr} {xs : List D} {vs : List V} {X : XD} {E : XK} (h : OkX K F Hb X E) (hF : F a = none) (hv : RpL K Hb xs vs) : OkX K (upd F a (.lst vs)) Hb (fun C ns ds m => X C ns ds (onM m a (.lst xs))) E := by
  intro C d H' Hb' ns ds us m' e rX hu hl hx
  refine h C d H' Hb' ns ds us (onM m' a (.lst xs)) e ?_ hu hl hx
  cases d with
  | none => exact ⟨rX.1, rX.2.1, rX.2.2.back hF (hv.mono e)⟩
  | some dd =>
    obtain ⟨h1, r⟩ := rX
    have hne : dd ≠ a := fun z => by
      rw [z, upd_same] at h1
      cases h1
    have h2 : F dd = none := by rw [upd_ne hne] at h1; exact h1
    refine ⟨h2, ?_⟩
    rw [upd_swap hne.symm] at r
    exact r.back (by rw [upd_ne hne.symm]; exact hF) (hv.mono e)
/-- for over an owned list -/
theorem ws_forO {te : TE} {g : TG} {tb : TS} {E : DE} {a : Addr} {xs : List D} {X : XD} {EX : XK} (hE : OkX K F B X EX) (h : WE K F B te ρ m fun x m1 => x = .s (.ref a) ∧ m1.own a = some (.lst xs) ∧ ∃ I : Nat → DD.Env → Mem → Prop, I 0 ρ (offM m1 a) ∧
      (∀ F' B' i d ρ' m', Same B B' → OkX K F' B' (fun C ns ds m => X C ns ds (onM m a (.lst xs))) EX → xs[i]? = some d → I i ρ' m' → WG K F' B' g d ρ' m' fun ρ2 m2 => WS K F' B' tb ρ2 m2 { nx := I (i + 1), ct := I (i + 1), bk := fun ρ m => E.nx ρ (onM m a (.lst xs)), rt := fun d m => E.rt d (onM m a (.lst xs)) }) ∧
      (∀ ρ' m', I xs.length ρ' m' → E.nx ρ' (onM m' a (.lst xs)))) :
    WS K F B (tFor (iAny K te) g tb) ρ m E := fun Hb H σ R hB r hs k =>
  h Hb H σ _ hB r hs fun v H1 Hb1 x m1 e1 r1 hx q1 => by
    obtain ⟨rfl, ho, I, h0, ht, hd⟩ := q1
    unfold Rp at hx
    subst hx
    obtain ⟨vs, hv, hF, rL⟩ := r1.lend ho
    have hl : vs.length = xs.length := hv.length
    have hq : ∀ {H' Hb' : Hp} {m' : Mem}, Rel K (upd F a (.lst vs)) Hb' H' m' → SqL K H' a vs := fun {H' Hb' m'} r' => SqL.of (r'.fr a _ upd_same).1
    refine .inl ⟨a, rfl, ⟨vs, hq rL⟩, ?_⟩
    refine ⟨fun i n σ' H' => n = xs.length - i ∧ i ≤ xs.length ∧ ∃ Hb' ρ' m', Same Hb1 Hb' ∧ Rel K (upd F a (.lst vs)) Hb' H' m' ∧ RpS K Hb' ρ' σ' ∧ I i ρ' m', ⟨xs.length, by simp, Nat.zero_le _, Hb1, ρ, _, Same.refl _, rL, hs.mono e1, h0⟩, ?_⟩
    rintro i n σ' H' ⟨rfl, hi, Hb', ρ', m', e', r', hs', hI⟩
    by_cases hlt : i < xs.length
    · obtain ⟨u, hu, ru⟩ := hv.get (i := i) (d := xs[i]) (by simp [hlt])
      refine .inr ⟨⟨vs, u, hq r', hu⟩, fun σ2 H2 => ∃ Hb2 ρ2 m2, Same Hb1 Hb2 ∧ Rel K (upd F a (.lst vs)) Hb2 H2 m2 ∧ RpS K Hb2 ρ2 σ2 ∧ I (i + 1) ρ2 m2, fun σ2 H2 q2 => ⟨xs.length - (i + 1), by omega, rfl, hlt, q2⟩, fun x H2 y => ?_⟩
      obtain ⟨rfl, y2⟩ := y
      have hx := y2 vs (hq r')
      rw [hu] at hx
      cases hx
      have eB : Same B Hb' := (hB.trans e1).trans e'
      have hE' := (hE.mono eB).lend hF (hv.mono e')
      refine ht _ Hb' i xs[i] ρ' m' eB hE' (by simp [hlt]) hI Hb' H2 σ' _ _ (Same.refl _) r' hs' (ru.mono e') fun σ3 H3 Hb3 ρ3 m3 e3 r3 hs3 q3 => ?_
      have e13 : Same Hb1 Hb3 := e'.trans e3
      refine q3 Hb3 H3 σ3 _ e3 r3 hs3 ⟨fun σ4 H4 Hb4 ρ4 m4 e4 r4 hs4 q4 => ⟨Hb4, ρ4, m4, e13.trans e4, r4, hs4, q4⟩, fun v4 H4 Hb4 d4 m4 e4 r4 hd4 q4 => ?_, fun σ4 H4 Hb4 ρ4 m4 e4 r4 hs4 q4 => ?_, fun σ4 H4 Hb4 ρ4 m4 e4 r4 hs4 q4 => ⟨Hb4, ρ4, m4, e13.trans e4, r4, hs4, q4⟩⟩
      · exact k.rt _ _ _ _ _ ((e1.trans e13).trans e4) (r4.back hF (hv.mono (e13.trans e4))) hd4 q4
      · exact k.nx _ _ _ _ _ ((e1.trans e13).trans e4) (r4.back hF (hv.mono (e13.trans e4))) hs4 q4
    · have e : i = xs.length := by omega
      subst e
      exact .inl ⟨⟨vs, hq r', by omega⟩, k.nx _ _ _ _ _ (e1.trans e') (r'.back hF (hv.mono e')) hs' (hd _ _ hI)⟩
theorem wo_inOL {x : V} {a : Addr} {xs : List V} {Q : QD} (ho : m.own a = some (.lst (xs.map D.s))) (hx0 : flatV x = true) (hf : xs.all flatV = true) (q : Q (.s (.bl (inV x xs))) m) : WO K F B (rInA K) (.s x) (.s (.ref a)) m Q := fun Hb H vx vy R hB r hx hy k => by
  unfold Rp at hx hy
  subst hx hy
  obtain ⟨_, vs, h1, h2⟩ := r.own a _ ho
  have e := RpL.scal h2
  subst e
  exact .inl ⟨a, vs, rfl, .inl (SqL.of h1), hx0, hf, k.here r rp_s q⟩
/-- xs.extend(ys), xs owned, ys data -/
theorem we_extend {to te : TE} {Q : QD} (h : WE K F B to ρ m fun x m1 => ∃ a, x = .s (.ref a) ∧ (∃ xs, m1.own a = some (.lst xs)) ∧ WE K F B te ρ m1 fun y m2 => ∃ xs ys, m2.own a = some (.lst xs) ∧ y = .lst ys ∧ xs.length + ys.length ≤ sizeLine ∧ Q (.s .non) { m2 with own := putM m2.own a (.lst (xs ++ ys)) }) :
    WE K F B (tBM K "list" rExtA to (tCons te tNil)) ρ m Q := fun Hb H σ R hB r hs k =>
  h Hb H σ _ hB r hs fun v H1 Hb1 x m1 e1 r1 hx q1 => by
    obtain ⟨a, rfl, ⟨xs0, ho0⟩, q1⟩ := q1
    unfold Rp at hx
    subst hx
    obtain ⟨_, vs0, h0, _⟩ := r1.own a _ ho0
    refine ⟨.inl ⟨rfl, vs0, SqL.of h0⟩, ?_⟩
    refine q1 Hb1 H1 σ _ (hB.trans e1) r1 (hs.mono e1) fun u H2 Hb2 y m2 e2 r2 hy q2 => ?_
    obtain ⟨xs, ys, ho, rfl, hz, q⟩ := q2
    unfold Rp at hy
    obtain ⟨p, us, rfl, h1, h2⟩ := hy
    obtain ⟨h3, vs, h4, h5⟩ := r2.own a _ ho
    refine ⟨a, p, vs, us, rfl, rfl, h4, r2.sub _ _ h1, by rw [h5.length, h2.length]; exact hz, ?_⟩
    exact k _ _ _ (.s .non) _ (e1.trans e2) (r2.change (mo' := .lst (xs ++ ys)) ho ⟨vs ++ us, upd_same, h5.app h2⟩) rp_s q
/-- tuple(xs), xs owned -/
theorem wc_tupO {a : Addr} {xs : List D} {Q : QD} (ho : m.own a = some (.lst xs)) (q : Q (.tup xs) m) : WC K F B (rTupA K) [.s (.ref a)] m Q := fun Hb H vs R hB r hx k => by
  obtain ⟨v, rfl, hv⟩ := rpL1 hx
  unfold Rp at hv
  subst hv
  obtain ⟨_, us, h1, h2⟩ := r.own a _ ho
  refine ⟨a, us, rfl, .inl ⟨SqL.of h1, fun l hl => ?_⟩⟩
  refine k _ _ _ (.tup xs) _ (Same.new (r.fresh hl)) (r.data hl) ?_ q
  unfold Rp
  exact ⟨l, us, rfl, .inl (.inl upd_same), h2.mono (Same.new (r.fresh hl))⟩
end
end DD

/-! HTup: dicts whose keys are tuples, the key read in any way (also one that the module holds); sorted(d). -/
namespace HP1
open PySem PySem.W PySem.Calls PySem.Spec PyProof.Rows L2
open PySem.SeqAt (EqAt)
section
variable {X : Cx} {pins : List (Addr × Obj)} {σ : L2.St} {H : Hp} {s : Shared} {a b : Addr} {y v : V} {u r : Value} {o : Option V} {A : Around} {E : Value → Shared → Prop}
theorem keyq {k : List Key} (I : Inv X pins σ H s) (e : SqT X.K H b (k.map kV)) : (tupleKind (mixKind X.prog X.w)).is s.heap k b := by
  obtain ⟨its, r, ⟨o, h1, h2, n, h3⟩, _⟩ := I.tuple e
  exact ⟨o, its.toArray, n, h1, h2, h3, by simpa using items_are r⟩
/-- what the dict at a holds at the tuple y -/
def DGetQ (K : PySem.W.Frag) (H : Hp) (a : Addr) (y : V) (r : Option V) : Prop := ∃ kvs k b, Rd H a (.dT kvs) ∧ y = .ref b ∧ SqT K H b (k.map kV) ∧ r = valV kvs k
theorem dq_getItem {Q : Value → Shared → Prop} (hu : A.units + 1 < cLine) (I : Inv X pins σ H s) (g : DGetQ X.K H a y (some v)) (ry : RelV y u) (h : ∀ w' s', Inv X pins σ H s' → RelV v w' → Q w' s') :
    wpAny (model X.prog X.w) A (getItem (.ref a) u) Q E s := by
  obtain ⟨kvs, k, b, e, ey, eb, l⟩ := g
  subst ey
  cases (show u = Value.ref b from ry)
  obtain ⟨z, hd, xs, rel, dd⟩ := dt_rd I.hok e
  obtain ⟨w', hw, rw'⟩ := RelO.some_of (v := v) (o := (atKey xs k).map (·.2)) (by rw [l]; exact rel.val k)
  obtain ⟨p, hp, hp2⟩ := Option.map_eq_some_iff.mp hw
  refine wpAny_getItem_heap (tupleKind_room_in1 hu) (keyq I eb) dd hp ?_
  rw [hp2]
  exact h w' _ (I.tok _) rw'
theorem dq_in {Q : Value → Shared → Prop} (hu : A.units + 1 < cLine) (I : Inv X pins σ H s) (g : DGetQ X.K H a y o) (ry : RelV y u) (h : ∀ s', Inv X pins σ H s' → Q (.bool o.isSome) s') :
    wpAny (model X.prog X.w) A (compareOp .In u (.ref a)) Q E s := by
  obtain ⟨kvs, k, b, e, ey, eb, l⟩ := g
  subst ey
  cases (show u = Value.ref b from ry)
  obtain ⟨z, hd, xs, rel, dd⟩ := dt_rd I.hok e
  refine wpAny_in_heap (tupleKind_room_in1 hu) (keyq I eb) hd dd ?_
  have q := (rel.val k).isSome_eq
  rw [Option.isSome_map] at q
  rw [← q, ← l]
  exact h _ (I.tok _)
theorem dq_notIn {Q : Value → Shared → Prop} (hu : A.units + 1 < cLine) (I : Inv X pins σ H s) (g : DGetQ X.K H a y o) (ry : RelV y u) (h : ∀ s', Inv X pins σ H s' → Q (.bool (!o.isSome)) s') :
    wpAny (model X.prog X.w) A (compareOp .NotIn u (.ref a)) Q E s := by
  obtain ⟨kvs, k, b, e, ey, eb, l⟩ := g
  subst ey
  cases (show u = Value.ref b from ry)
  obtain ⟨z, hd, xs, rel, dd⟩ := dt_rd I.hok e
  refine wpAny_notIn_heap (tupleKind_room_in1 hu) (keyq I eb) hd dd ?_
  have q := (rel.val k).isSome_eq
  rw [Option.isSome_map] at q
  rw [← q, ← l]
  exact h _ (I.tok _)
theorem dq_get2 {d : V} {Q : Value → Shared → Prop} (hu : A.units + 1 < cLine) (I : Inv X pins σ H s) (g : DGetQ X.K H a y o) (ry : RelV y u) (rd : RelV d r) (h : ∀ w' s', Inv X pins σ H s' → RelV (o.getD d) w' → Q w' s') :
    wpAny (model X.prog X.w) A (call (.builtin "dict.get") [.ref a, u, r]) Q E s := by
  obtain ⟨kvs, k, b, e, ey, eb, l⟩ := g
  subst ey
  cases (show u = Value.ref b from ry)
  obtain ⟨z, hd, xs, rel, dd⟩ := dt_rd I.hok e
  refine call_meetsIn PySem.F.slot_dict_get dd.typeIs PySem.F.entry_dict_get (PySem.F.args_dict_get_3 _ _ _) (meetsH_dict_get_default (tupleKind (mixKind X.prog X.w)) a b hd r) ⟨tupleKind_room_in1 hu, k, xs, keyq I eb, dd, h _ _ (I.tok _) ?_⟩
  rw [l]
  exact (rel.val k).getD rd
theorem dq_typeIs (I : Inv X pins σ H s) (g : DGetQ X.K H a y o) : s.TypeIs (.ref a) "dict" := by
  obtain ⟨kvs, k, b, e, _, _, _⟩ := g
  obtain ⟨_, _, xs, _, dd⟩ := dt_rd I.hok e
  exact dd.typeIs
end
/-- y in d, y not in d -/
def rInQ (K : PySem.W.Frag) (neg : Bool) : R2 := fun y x H Q => ∃ a o, x = .ref a ∧ DGetQ K H a y o ∧ Q (.bl (if neg = true then !o.isSome else o.isSome)) H
/-- d[y] -/
def rIxQ (K : PySem.W.Frag) : R2 := fun x y H Q => ∃ a v, x = .ref a ∧ DGetQ K H a y (some v) ∧ Q v H
/-- d.get(y, z) -/
def tGetQ (K : PySem.W.Frag) (td ty tx : TE) : TE := fun σ H Q => td σ H fun x H1 => ∃ a, x = .ref a ∧ IsD H1 a ∧ ty σ H1 fun y H2 => tx σ H2 fun z H3 => ∃ o, DGetQ K H3 a y o ∧ Q (o.getD z) H3
section
variable {X : Cx} {o i e f : Expr} {pos apos cpos : Pos} {td ty tx : TE}
theorem op_inQ (hu : X.A.units + 1 < cLine) : OpR X (compareOp .In) (rInQ X.K false) := by
  intro pins s σ H y x u v Q I ry rx h
  obtain ⟨a, o, rfl, g, q⟩ := h
  obtain rfl : v = Value.ref a := rx
  exact dq_in hu I g ry fun s' I' => ⟨.bl o.isSome, H, I', rfl, q⟩
theorem op_ninQ (hu : X.A.units + 1 < cLine) : OpR X (compareOp .NotIn) (rInQ X.K true) := by
  intro pins s σ H y x u v Q I ry rx h
  obtain ⟨a, o, rfl, g, q⟩ := h
  obtain rfl : v = Value.ref a := rx
  exact dq_notIn hu I g ry fun s' I' => ⟨.bl (!o.isSome), H, I', rfl, q⟩
theorem pe_ixQ (hu : X.A.units + 1 < cLine) (ho : PE X o td) (hi : PE X i ty) (hs : NoSl i) : PE X (.Subscript o i pos) (tOp (rIxQ X.K) td ty) := by
  refine ⟨fun pins s σ H Q I h => ?_⟩
  refine subD_of PySem.F.slot_dict_getitem.lookup hs (thn (ho.run pins s σ H _ I h) fun u s1 ⟨x, H1, I1, rx, q1⟩ => thn (hi.run pins s1 σ H1 _ I1 q1) fun iv s2 ⟨y, H2, I2, ry, a, v, ex, g, q2⟩ => ?_)
  subst ex
  obtain rfl : u = Value.ref a := rx
  exact ⟨dq_typeIs I2 g, dq_getItem hu I2 g ry fun w' s3 I3 rw' => ⟨v, H2, I3, rw', q2⟩⟩
theorem pe_getQ (hu : X.A.units + 1 < cLine) (ho : PE X o td) (he : PE X e ty) (hf : PE X f tx) (m : M2 X o "get" apos e f cpos) : PE X (.Call (.Attribute o "get" apos) [e, f] [] cpos) (tGetQ X.K td ty tx) := by
  refine ⟨fun pins s σ H Q I h => ?_⟩
  refine wpAny_Call_method m.base m.few m.line PySem.F.plainAttrs_dict PySem.F.slot_dict_get PySem.F.type_dict_get (thn (ho.run pins s σ H _ I h) fun u s1 ⟨x, H1, I1, rx, a, ex, d, q1⟩ => ?_)
  subst ex
  obtain rfl : u = Value.ref a := rx
  obtain ⟨t1, t2, _⟩ := isD_at I1 d
  refine ⟨t1, t2, ?_⟩
  rw [m.trees]
  refine Calls.callWith_builtin rfl (Calls.evalArgs_plain (Calls.spliced_cons (thn (he.run pins s1 σ H1 _ I1 q1) fun iv s2 ⟨y, H2, I2, ry, q2⟩ =>
    Calls.spliced_cons (thn (hf.run pins s2 σ H2 _ I2 q2) fun fv s3 ⟨z, H3, I3, rz, ov, g, q3⟩ => Calls.spliced_nil ?_))))
  exact dq_get2 hu I3 g ry rz fun w' s4 I4 rw' => ⟨_, H3, I4, rw', q3⟩
end

/-! ### the order of tuples of texts -/
@[reducible] def txtOrd : PyProof.Rows.KeyOrd where
  α := List Nat
  blt := fun a b => decide (a < b)
  irrefl := strKind.irrefl
  trans := strKind.trans
  negTrans := strKind.negTrans
  total := strKind.total
abbrev tlt : List (List Nat) → List (List Nat) → Bool := PyProof.Rows.lexLt txtOrd
theorem tlt_swo {α : Type} (k : α → List (List Nat)) : SrtO.Swo (fun v u : α => tlt (k v) (k u)) := by
  refine ⟨fun x y h => ?_, fun x y z h1 h2 => ?_⟩
  · cases e : tlt (k y) (k x) with
    | false => rfl
    | true =>
      have := PyProof.Rows.lex_trans (O := txtOrd) _ _ _ h e
      rw [PyProof.Rows.lex_irrefl] at this
      cases this
  · cases e : tlt (k z) (k x) with
    | false => rfl
    | true =>
      rcases PyProof.Rows.lex_negTrans (O := txtOrd) _ (k y) _ e with q | q
      · exact absurd (q.symm.trans h2) (by decide)
      · exact absurd (q.symm.trans h1) (by decide)
/-- of the heap: what the texts of a tuple are -/
def cpsV : Value → List Nat
  | .str x _ => x.cps.toList
  | _ => []
def tupT (h : Heap) : Value → List (List Nat)
  | .ref a => match h.get? a with
    | some o => match o.data with
      | .seq xs _ => xs.toList.map cpsV
      | _ => []
    | none => []
  | _ => []
def TupS (h : Heap) (v : Value) (ns : List Str) : Prop := ∃ a its, v = .ref a ∧ IsTup h a its.toArray ∧ Vals (ns.map V.str) its
theorem cps_vals : ∀ {ns : List Str} {its : List Value}, Vals (ns.map V.str) its → its.map cpsV = ns.map (fun x => x.cps.toList)
  | [], its, r => by
    rw [List.map_nil] at r
    cases r
    rfl
  | n :: ns, its, r => by
    rw [List.map_cons] at r
    cases r with
    | cons h t =>
      obtain ⟨k, rfl⟩ := h
      rw [List.map_cons, List.map_cons, cps_vals t]
      rfl
theorem TupS.k {h : Heap} {v : Value} {ns : List Str} (x : TupS h v ns) : tupT h v = ns.map (fun x => x.cps.toList) := by
  obtain ⟨a, its, rfl, ⟨o, ho, hc, n, hd⟩, r⟩ := x
  unfold tupT
  simp only [ho, hd]
  exact cps_vals r
theorem TupS.keeps {h h' : Heap} {v : Value} {ns : List Str} (x : TupS h v ns) (k : ∀ b o, v = .ref b → h.get? b = some o → h'.get? b = some o) : TupS h' v ns := by
  obtain ⟨a, its, rfl, ⟨o, ho, r⟩, q⟩ := x
  exact ⟨a, its, rfl, ⟨o, k a o rfl ho, r⟩, q⟩
theorem TupS.type {M : Model} {h : Heap} {v : Value} {ns : List Str} (x : TupS h v ns) : Looks M h (typeOf v) (.type "tuple") := by
  obtain ⟨a, its, rfl, ⟨o, ho, hc, _⟩, _⟩ := x
  rw [← hc]
  exact (Looks.ld ho).andThen .now
theorem lexAt_tlt {e r : Nat → Bool} {n0 m0 : Nat} : ∀ (ns ms : List (List Nat)) (i : Nat), (∀ (j : Nat) a b, ns[j]? = some a → ms[j]? = some b → e (i + j) = decide (a = b)) → (∀ (j : Nat) a b, ns[j]? = some a → ms[j]? = some b → a ≠ b → r (i + j) = decide (a < b)) → n0 = i + ns.length → m0 = i + ms.length →
    Ob.lexAt e r (decide (n0 < m0)) i (min ns.length ms.length) = tlt ns ms
  | [], [], i, _, _, h1, h2 => by
    subst h1 h2
    simp [Ob.lexAt, tlt, PyProof.Rows.lexLt]
  | [], m :: ms, i, _, _, h1, h2 => by
    subst h1 h2
    simp [Ob.lexAt, tlt, PyProof.Rows.lexLt]
  | n :: ns, [], i, _, _, h1, h2 => by
    subst h1 h2
    simp [Ob.lexAt, tlt, PyProof.Rows.lexLt]
  | n :: ns, m :: ms, i, he, hr, h1, h2 => by
    have em : min (n :: ns).length (m :: ms).length = min ns.length ms.length + 1 := by simp only [List.length_cons]; omega
    rw [em, Ob.lexAt_succ]
    have e0 := he 0 n m rfl rfl
    rw [Nat.add_zero] at e0
    by_cases hnm : n = m
    · rw [e0, decide_eq_true hnm, if_pos rfl, lexAt_tlt ns ms (i + 1) (fun j a b q1 q2 => by
        have := he (j + 1) a b (by simpa using q1) (by simpa using q2)
        rw [← this]
        congr 1
        omega) (fun j a b q1 q2 q3 => by
        have := hr (j + 1) a b (by simpa using q1) (by simpa using q2) q3
        rw [← this]
        congr 1
        omega) (by rw [h1]; simp only [List.length_cons]; omega) (by rw [h2]; simp only [List.length_cons]; omega)]
      subst hnm
      exact (PyProof.Rows.lex_self (O := txtOrd) n ns ms).symm
    · have r0 := hr 0 n m rfl rfl hnm
      rw [Nat.add_zero] at r0
      rw [e0, decide_eq_false hnm, if_neg Bool.false_ne_true, r0]
      exact (PyProof.Rows.lex_diff (O := txtOrd) hnm).symm
section
variable {prog : Program} {w : World} {A : Around} {E : Value → Shared → Prop} {s : Shared}
theorem call_ltT {a b : Addr} {i1 i2 : List Value} {ns ms : List Str} {Q : Value → Shared → Prop} (ha : IsTup s.heap a i1.toArray) (hb : IsTup s.heap b i2.toArray) (ra : Vals (ns.map V.str) i1) (rb : Vals (ms.map V.str) i2)
    (h : Q (.bool (tlt (ns.map fun x => x.cps.toList) (ms.map fun x => x.cps.toList))) s) : wpAny (model prog w) A (call (.builtin "tuple.__lt__") [.ref a, .ref b]) Q E s := by
  have tya := ha.typeIs
  obtain ⟨⟨cls, dd, data, sl⟩, ho, hc, n, hd⟩ := id ha
  obtain ⟨⟨cls2, dd2, data2, sl2⟩, ho2, hc2, n2, hd2⟩ := id hb
  simp only at hc hd hc2 hd2
  subst hc hd hc2 hd2
  have get : ∀ {ns : List Str} {its : List Value} {j : Nat}, Vals (ns.map V.str) its → (hj : j < its.toArray.size) → ∃ x t, ns[j]? = some x ∧ its.toArray[j] = .str x t := fun {ns its j} r hj => by
    have hj' : j < its.length := by simpa using hj
    have hl := r.length
    rw [List.length_map] at hl
    have hk : ns[j]? = some ns[j] := List.getElem?_eq_getElem (by omega)
    obtain ⟨v, ev, rv⟩ := r.get (i := j) (by rw [List.getElem?_map, hk]; rfl)
    obtain ⟨t, rfl⟩ := rv
    refine ⟨ns[j], t, hk, ?_⟩
    rw [List.getElem?_eq_getElem hj'] at ev
    simpa using Option.some.inj ev
  let f : Str → List Nat := fun x => x.cps.toList
  have el : ∀ x y : Str, decide (f x = f y) = (x == y) := fun x y => by
    by_cases z : x = y
    · subst z
      simp
    · have z' : f x ≠ f y := fun q => z (by
        cases x with | mk x => cases y with | mk y => 
        congr 1
        exact Array.toList_inj.mp q)
      rw [decide_eq_false z']
      exact (beq_eq_false_iff_ne.mpr z).symm
  have L1 : ns.length = i1.length := by have := ra.length; rw [List.length_map] at this; exact this
  have L2' : ms.length = i2.length := by have := rb.length; rw [List.length_map] at this; exact this
  let e : Nat → Bool := fun j => decide ((ns.map f)[j]? = (ms.map f)[j]?)
  let r : Nat → Bool := fun j => match (ns.map f)[j]?, (ms.map f)[j]? with | some x, some y => decide (x < y) | _, _ => false
  have P1 : ∀ j (h1 : j < i1.toArray.size) (h2 : j < i2.toArray.size), EqAt A.in1 s i1.toArray[j] i2.toArray[j] (e j) := fun j h1 h2 => by
    obtain ⟨x, t, e1, e2⟩ := get ra h1
    obtain ⟨y, u, e3, e4⟩ := get rb h2
    have ee : e j = (x == y) := by
      show decide ((ns.map f)[j]? = (ms.map f)[j]?) = _
      rw [List.getElem?_map, List.getElem?_map, e1, e3, ← el x y]
      simp
    rw [e2, e4, ee]
    exact EqAt.str_str x t y u
  have P2 : ∀ j (h1 : j < i1.toArray.size) (h2 : j < i2.toArray.size), e j = false → Ob.RcOp .Lt A.in1 s i1.toArray[j] i2.toArray[j] (r j) := fun j h1 h2 _ => by
    obtain ⟨x, t, e1, e2⟩ := get ra h1
    obtain ⟨y, u, e3, e4⟩ := get rb h2
    have er : r j = decide (f x < f y) := by
      show (match (ns.map f)[j]?, (ms.map f)[j]? with | some x, some y => decide (x < y) | _, _ => false) = _
      rw [List.getElem?_map, List.getElem?_map, e1, e3]
      rfl
    rw [e2, e4, er]
    exact fun prog w E Q h => PySem.P.lt_str h
  have P3 : wants Q E (.ok (.ret (.bool (Ob.lexAt e r (decide (i1.toArray.size < i2.toArray.size)) 0 (min i1.toArray.size i2.toArray.size))))) s := by
    have q := lexAt_tlt (e := e) (r := r) (n0 := i1.toArray.size) (m0 := i2.toArray.size) (ns.map f) (ms.map f) 0 (fun j a b e1 e2 => by
      rw [Nat.zero_add]
      show decide ((ns.map f)[j]? = (ms.map f)[j]?) = _
      rw [e1, e2]
      simp) (fun j a b e1 e2 _ => by
      rw [Nat.zero_add]
      show (match (ns.map f)[j]?, (ms.map f)[j]? with | some x, some y => decide (x < y) | _, _ => false) = _
      rw [e1, e2]) (by simp [L1]) (by simp [L2'])
    rw [show min i1.toArray.size i2.toArray.size = min (ns.map f).length (ms.map f).length from by simp [L1, L2'], q]
    exact h
  have M := Ob.tuple_ltAt a b i1.toArray i2.toArray n n2 dd dd2 sl sl2 e r prog w A (wants Q E) s ⟨ho, ho2, P1, P2, P3⟩
  refine wpAny_call (codeAny_call_builtin PySem.F.slot_tuple_lt.plain PySem.F.entry_tuple_lt (PySem.F.slot_tuple_lt.check _ _ _ _ _ _ _ _ tya (PySem.F.args_tuple_lt_2 _ _) (wpAny_mono M (fun fin s' q => ?_) fun _ _ z => z)))
  cases fin with
  | done f => exact q
  | again c => exact q
theorem lt_tupS {v u : Value} {ns ms : List Str} {Q : Bool → Shared → Prop} (hu : A.units < cLine) (hv : TupS s.heap v ns) (hw : TupS s.heap u ms) (h : Q (tlt (tupT s.heap v) (tupT s.heap u)) s) : wpAny (model prog w) A (keyLt' oneType' v u) Q E s := by
  rw [hv.k, hw.k] at h
  have tv : Looks (model prog w) s.heap (typeOf v) (.type "tuple") := hv.type
  have sp : Looks (model prog w) s.heap (specialOf v "__lt__") (some (.builtin "tuple.__lt__")) := tv.andThen (Looks.of_pure PySem.F.slot_tuple_lt.lookup)
  obtain ⟨a, i1, rfl, ga, ia⟩ := hv
  obtain ⟨b, i2, rfl, gb, ib⟩ := hw
  rw [keyLt'_oneType, oneLt'_eq]
  simp only [if_true]
  refine wpAny_bind (wpAny_cRoomFor hu ?_)
  refine wpAny_bind (NtL.csib (E := E) sp (PySem.F.slot_tuple_lt.bind _) (call_ltT ga gb ia ib ?_))
  exact wpAny_truthy_bool h
theorem first_of {M : Model} {v : Value} {ns : List Str} {Q : Option Value → Shared → Prop} (x : TupS s.heap v ns) (h : ∀ o, (ns = [] → o = none) → Q o s) : wpAny M A (firstOfTuple' v) Q E s := by
  have tv := x.type (M := M)
  obtain ⟨a, its, rfl, ⟨o, ho, hc, n, hd⟩, r⟩ := x
  rw [kas_first_eq]
  refine wpAny_bind (tv.here ?_)
  rw [if_neg (by first | decide | simp)]
  refine wpAny_bind (listItems_at ho hd (wpAny_pure (h _ fun e => ?_)))
  subst e
  cases r
  rfl
theorem firsts_in {M : Model} : ∀ (vs : List Value) {Q : List (Option Value) → Shared → Prop}, (∀ v ∈ vs, ∃ ns, TupS s.heap v ns) → (∀ os : List (Option Value), os.length = vs.length → (∀ v r, vs = v :: r → TupS s.heap v [] → ∃ os', os = none :: os') → Q os s) → wpAny M A (vs.mapM firstOfTuple') Q E s
  | [], Q, _, h => by
    rw [List.mapM_nil]
    exact wpAny_pure (h [] rfl fun v r e => by cases e)
  | v :: vs, Q, hv, h => by
    obtain ⟨ns, x⟩ := hv v List.mem_cons_self
    rw [List.mapM_cons]
    refine wpAny_bind (first_of x fun o ho => wpAny_bind (firsts_in vs (Q := fun bs s' => wpAny M A (pure (o :: bs)) Q E s') (fun u hu => hv u (List.mem_cons_of_mem _ hu)) fun os hl _ => wpAny_pure (h _ (by simp [hl]) fun v' r e t0 => ?_)))
    cases e
    have e2 : ns = [] := by
      have k1 := x.k
      rw [t0.k] at k1
      cases ns with
      | nil => rfl
      | cons a r => cases k1
    exact ⟨os, by rw [ho e2]⟩
theorem kind_in {M : Model} {v : Value} {vs : List Value} {Q : SortKind → Shared → Prop} (hv : ∀ u ∈ v :: vs, ∃ ns, TupS s.heap u ns) (h0 : TupS s.heap v []) (h : Q oneType' s) : wpAny M A (keyKind' (v :: vs).toArray) Q E s := by
  rw [keyKind'_eq, List.mapM_toArray, map_eq_pure_bind]
  refine wpAny_bind (wpAny_bind (firsts_in (v :: vs) hv fun os hl hos => wpAny_pure ?_))
  obtain ⟨os', rfl⟩ := hos v vs rfl h0
  rw [if_neg (by simp), if_neg (by simp)]
  rw [oneTypeOnly'_eq, List.mapM_toArray, map_eq_pure_bind]
  refine wpAny_bind (wpAny_bind (wpAny_bind (kas_mapM (r := Value.type "tuple") _ (fun u hu Q' hq => by
    obtain ⟨ns, x⟩ := hv u hu
    exact x.type.here hq) (wpAny_pure ?_))))
  have hall : ((List.map (fun _ => Value.type "tuple") (v :: vs)).toArray.all fun x => x == Value.type "tuple") = true := by
    simp only [List.all_toArray, List.all_map, List.all_eq_true]
    intro _ _
    rfl
  have h0 : (List.map (fun _ => Value.type "tuple") (v :: vs)).toArray[0]? = some (Value.type "tuple") := by simp
  rw [h0]
  simp only [hall, if_true]
  exact wpAny_pure (wpAny_pure h)
theorem tupT_eq {h h' : Heap} {v : Value} {ns : List Str} (x : TupS h v ns) (y : TupS h' v ns) : tupT h v = tupT h' v := by rw [x.k, y.k]
theorem sortable {a : Addr} {vs : List Value} (hu : A.units < cLine) (hv : ∀ u ∈ vs, ∃ ns, TupS s.heap u ns) (h0 : ∃ v r, vs = v :: r ∧ TupS s.heap v []) (ha : ∀ u ∈ vs, u ≠ .ref a) :
    SrtO.SortableO prog w A s a vs fun x y => tlt (tupT s.heap x) (tupT s.heap y) := by
  obtain ⟨v, vs, rfl, h0⟩ := h0
  intro h' keep
  have kp : ∀ u ∈ v :: vs, ∀ ns, TupS s.heap u ns → TupS h' u ns := fun u hm ns x => x.keeps fun b o e g => keep b o (fun z => ha u hm (by rw [e, z])) g
  refine ⟨oneType', fun Q E hq => kind_in (s := { s with heap := h' }) (fun u hm => ?_) (kp v List.mem_cons_self _ h0) hq, fun p q hp hq => ?_⟩
  · obtain ⟨ns, x⟩ := hv u hm
    exact ⟨ns, kp u hm ns x⟩
  · obtain ⟨n1, x1⟩ := hv p.1 hp
    obtain ⟨n2, x2⟩ := hv q.1 hq
    refine lt_tupS (s := { s with heap := h' }) hu (kp _ hp _ x1) (kp _ hq _ x2) ⟨rfl, ?_⟩
    show tlt (tupT h' p.1) (tupT h' q.1) = tlt (tupT s.heap p.1) (tupT s.heap q.1)
    rw [tupT_eq x1 (kp _ hp _ x1), tupT_eq x2 (kp _ hq _ x2)]
end
/-! ### sorted(d) -/
theorem perm_map_ex {α β : Type} {f : α → β} {l m : List β} (h : l.Perm m) : ∀ {ks : List α}, m = ks.map f → ∃ zs : List α, zs.Perm ks ∧ l = zs.map f := by
  induction h with
  | nil => 
    intro ks e
    exact ⟨ks, List.Perm.refl _, e⟩
  | cons x h ih =>
    intro ks e
    cases ks with
    | nil => cases e
    | cons k ks =>
      rw [List.map_cons] at e
      injection e with e1 e2
      obtain ⟨zs, z1, z2⟩ := ih e2
      exact ⟨k :: zs, z1.cons k, by rw [List.map_cons, z2, e1]⟩
  | swap x y l =>
    intro ks e
    match ks, e with
    | [], e => cases e
    | [k], e => cases e
    | k1 :: k2 :: ks, e =>
      rw [List.map_cons, List.map_cons] at e
      injection e with e1 e2
      injection e2 with e2 e3
      exact ⟨k2 :: k1 :: ks, List.Perm.swap _ _ _, by rw [List.map_cons, List.map_cons, e1, e2, e3]⟩
  | trans h1 h2 ih1 ih2 =>
    intro ks e
    obtain ⟨zs, z1, z2⟩ := ih2 e
    obtain ⟨ys, y1, y2⟩ := ih1 z2
    exact ⟨ys, y1.trans z1, y2⟩
abbrev cpsT (k : List Str) : List (List Nat) := k.map fun x => x.cps.toList
abbrev inrs (k : List Str) : List Key := k.map Sum.inr
def unT (k : List Key) : List Str := k.filterMap fun | .inr x => some x | .inl _ => none
theorem un_in : ∀ k : List Str, unT (inrs k) = k
  | [] => rfl
  | x :: k => by
    show unT (Sum.inr x :: inrs k) = _
    unfold unT
    rw [List.filterMap_cons]
    show x :: unT (inrs k) = _
    rw [un_in k]
theorem kV_inrs (k : List Str) : (inrs k).map kV = k.map V.str := by
  rw [List.map_map]
  rfl
/-- sorted(d): the keys are tuples of texts, the first one has none -/
def rSortedT : List V → Hp → VK → Prop := fun vs H Q => ∃ (a : Addr) (ks : List (List Str)) (ws : List V), vs = [.ref a] ∧ Rd H a (.dT ((ks.map inrs).zip ws)) ∧ ks.length = ws.length ∧ (∃ r, ks = [] :: r) ∧
  ∀ (p : Addr) (zs : List (Addr × List Str)), H p = none → (zs.map (·.2)).Perm ks → (zs.map (·.2)).Pairwise (fun x y => tlt (cpsT y) (cpsT x) = false) → (∀ z ∈ zs, H z.1 = some (.tup (z.2.map V.str))) → Q (.ref p) (upd H p (.lst (zs.map fun z => V.ref z.1)))
section
variable {X : Cx}
theorem call_sortedT (hc : X.calm = true) (hu : X.A.units + 64 < cLine) : CallR X (.builtin "sorted") rSortedT := by
  intro pins s σ H xs us Q I r h
  obtain ⟨d, ks, ws, rfl, hd, hl, ⟨r0, h0⟩, q⟩ := h
  obtain ⟨u, rfl, rx⟩ := r.one
  cases rx
  obtain ⟨z, hs, ks', pr, o, es, ep, ho, hx, hdt, he, hn⟩ := (show ObjOk X.prog X.w H s.heap d (.dT ((ks.map inrs).zip ws)) from hd.ok I.hok)
  have l1 : es.size = ks'.length := size_of_entries he
  have l2 : ((ks.map inrs).zip ws).length = ks'.length := Paired.length pr
  have ek : ks'.map (·.1) = ks.map inrs := by
    have e : ∀ {l : List (List Key × V)} {m : List (List Key × Addr × Value)}, KT H l m → m.map (·.1) = l.map (·.1) := by
      intro l m q
      induction q with
      | nil => rfl
      | cons h t ih => rw [List.map_cons, List.map_cons, ih, h.1]
    rw [e pr, List.map_fst_zip (by simp [hl])]
  have hm : ∀ x ∈ ks', x.1 = inrs (unT x.1) ∧ H x.2.1 = some (.tup ((unT x.1).map V.str)) := fun x hx => by
    have e1 : x.1 = inrs (unT x.1) := by
      have : x.1 ∈ ks'.map (·.1) := List.mem_map_of_mem hx
      rw [ek] at this
      obtain ⟨k, _, e⟩ := List.mem_map.mp this
      rw [← e, un_in]
    refine ⟨e1, ?_⟩
    have e : ∀ {l : List (List Key × V)} {m : List (List Key × Addr × Value)}, KT H l m → ∀ x ∈ m, H x.2.1 = some (.tup (x.1.map kV)) := by
      intro l m q
      induction q with
      | nil =>
        intro x hx
        cases hx
      | cons h t ih =>
        intro x hx
        rcases List.mem_cons.mp hx with e | hx
        · subst e
          rw [← h.1]
          exact h.2.1
        · exact ih x hx
    rw [e pr x hx, ← kV_inrs, ← e1]
  have eu : ks'.map (fun x => unT x.1) = ks := by
    have := congrArg (List.map unT) ek
    rw [List.map_map, List.map_map] at this
    rw [show (fun x : List Key × Addr × Value => unT x.1) = unT ∘ (·.1) from rfl, this]
    rw [show unT ∘ inrs = id from funext un_in, List.map_id]
  refine Calls.call_function_entry PyProof.Rows.kind_sorted PyProof.Rows.plain_sorted PyProof.Rows.entry_sorted (PyProof.Rows.args_sorted1 _) ?_
  unfold Builtin.«sorted»
  refine wpAny_bind (m := checkCount "sorted" 1 1 _) (wpAny_pure ?_)
  refine wpAny_bind (PySem.W.kdu_collect (A := X.A.in1) (kdl_raw hs hx hdt) (I.ok.hd hc) ho (by omega) fun h' tk acc hk hacc => ?_)
  have ea : acc.toList = ks'.map fun x => Value.ref x.2.1 := by
    have hl : acc.toList.length = ks'.length := by rw [Array.length_toList, hacc.1]; exact l1
    apply List.ext_getElem?
    intro j
    rw [List.getElem?_map]
    cases hj : acc.toList[j]? with
    | none =>
      have h1 := List.getElem?_eq_none_iff.mp hj
      rw [List.getElem?_eq_none (by omega)]
      all_goals rfl
    | some v =>
      obtain ⟨en, hen, hv⟩ := hacc.2 j v (by rw [← Array.getElem?_toList]; exact hj)
      have qe := entry_at he j
      rw [hen] at qe
      cases hb : ks'[j]? with
      | none =>
        rw [hb] at qe
        exact nomatch (show some en = none from qe)
      | some b =>
        rw [hb] at qe
        have e2 : en = entryOfKey (tupleKind (mixKind X.prog X.w)) b := Option.some.inj qe
        rw [hv, e2]
        all_goals rfl
  have I1 : Inv X pins σ H { s with heap := h', toks := tk } := I.kept hk
  have hz : acc.toList.length ≤ sizeLine := by rw [ea, List.length_map]; omega
  refine wpAny_bind (wpAny_newList ?_ hz)
  have hoL : (h'.push (seqObj "list" acc.toList.toArray 0)).get? h'.objs.size = some (seqObj "list" acc.toList.toArray 0) := Heap.get?_push_size _ rfl
  show wpAny _ _ _ _ _ { s with heap := h'.push (seqObj "list" acc.toList.toArray 0), toks := tk }
  have tup : ∀ x ∈ ks', TupS (h'.push (seqObj "list" acc.toList.toArray 0)) (Value.ref x.2.1) (unT x.1) := fun x hx => by
    obtain ⟨_, its, rv, p⟩ := (show ObjOk X.prog X.w H h' x.2.1 (.tup ((unT x.1).map V.str)) from I1.hok _ _ (hm x hx).2)
    exact ⟨x.2.1, its, rfl, p.keeps fun b o e => Heap.get?_push_of_some _ e, rv⟩
  obtain ⟨x0, xr, ex0⟩ : ∃ x0 xr, ks' = x0 :: xr := by
    cases ks' with
    | nil =>
      rw [h0] at eu
      cases eu
    | cons x0 xr => exact ⟨x0, xr, rfl⟩
  have u0 : unT x0.1 = [] := by
    rw [ex0, h0, List.map_cons] at eu
    injection eu
  have eac : acc.toList = Value.ref x0.2.1 :: xr.map fun x => Value.ref x.2.1 := by rw [ea, ex0, List.map_cons]
  have hmem : ∀ u ∈ acc.toList, ∃ x ∈ ks', u = Value.ref x.2.1 := fun u hu => by
    rw [ea] at hu
    obtain ⟨x, hx, e⟩ := List.mem_map.mp hu
    exact ⟨x, hx, e.symm⟩
  refine wpAny_bind (wpAny_holding (wpAny_call_entry PyProof.Rows.slot_list_sort ⟨_, hoL, rfl⟩ PyProof.Rows.entry_list_sort
    (SrtO.list_sort_ord (s := { s with heap := h'.push (seqObj "list" acc.toList.toArray 0), toks := tk }) (tlt_swo fun v => tupT (h'.push (seqObj "list" acc.toList.toArray 0)) v) hoL hz (fun h2 => ?_) fun out h1 h2 => ⟨_, rfl, ?_⟩)
    (PyProof.Rows.args_list_sort _)))
  · refine sortable (s := { s with heap := h'.push (seqObj "list" acc.toList.toArray 0), toks := tk }) ?_ (fun u hu => ?_) ?_ fun u hu e => ?_
    · simp only [Around.in1_units]
      omega
    · obtain ⟨x, hx, e⟩ := hmem u hu
      rw [e]
      exact ⟨_, tup x hx⟩
    · have := tup x0 (by rw [ex0]; exact List.mem_cons_self)
      rw [u0] at this
      exact ⟨_, _, eac, this⟩
    · obtain ⟨x, hx, e'⟩ := hmem u hu
      rw [e'] at e
      have hxx : x.2.1 = h'.objs.size := Value.ref.inj e
      obtain ⟨o', ho'⟩ : ∃ o', h'.get? x.2.1 = some o' := by
        obtain ⟨_, its, rv, ⟨o', ho', _⟩⟩ := (show ObjOk X.prog X.w H h' x.2.1 (.tup ((unT x.1).map V.str)) from I1.hok _ _ (hm x hx).2)
        exact ⟨o', ho'⟩
      have lt := Heap.lt_size ho'
      rw [hxx] at lt
      exact absurd lt (Nat.lt_irrefl _)
  · obtain ⟨e', he'⟩ := PyProof.Rows.sortedHeap_at (vs := acc.toList) (out := out.toArray) hoL
    obtain ⟨zs, zp, ze⟩ := perm_map_ex (f := fun x : List Key × Addr × Value => Value.ref x.2.1) h2.perm ea
    have hzm : ∀ x ∈ zs, x ∈ ks' := fun x hx => zp.mem_iff.mp hx
    have hlen : ((zs.map fun x => (x.2.1, unT x.1)).map fun z => V.ref z.1).length ≤ sizeLine := by
      rw [List.length_map, List.length_map, zp.length_eq]
      omega
    have rvo : Vals ((zs.map fun x => (x.2.1, unT x.1)).map fun z => V.ref z.1) out := by
      rw [ze, List.map_map]
      have : ∀ zs : List (List Key × Addr × Value), Vals (zs.map ((fun z : Addr × List Str => V.ref z.1) ∘ fun x => (x.2.1, unT x.1))) (zs.map fun x => Value.ref x.2.1) := by
        intro zs
        induction zs with
        | nil => exact .nil
        | cons x r ih => exact .cons rfl ih
      exact this zs
    refine wpAny_pure ⟨_, rfl, .ref h'.objs.size, upd H h'.objs.size (.lst ((zs.map fun x => (x.2.1, unT x.1)).map fun z => V.ref z.1)), I1.laid (t' := tk) (fun b u e => ?_) (Nat.le_refl _)
      (show ObjOk X.prog X.w _ _ _ (.lst _) from ⟨hlen, out, e', rvo, he'⟩), rfl, q _ _ (I1.hok.fresh (Nat.le_refl _)) ?_ ?_ ?_⟩
    · have hb : b < h'.objs.size := Heap.lt_size e
      rw [PyProof.Rows.sortedHeap_old (Nat.ne_of_lt hb) (by rw [size_push']; exact Nat.lt_succ_of_lt hb)]
      exact Heap.get?_push_of_some _ e
    · rw [List.map_map]
      have := zp.map fun x => unT x.1
      rw [eu] at this
      exact this
    · rw [List.map_map]
      rw [ze] at h1
      have h3 := List.pairwise_map.mp h1
      refine List.pairwise_map.mpr (h3.imp_of_mem fun {x y} hx hy g => ?_)
      have k1 := (tup x (hzm x hx)).k
      have k2 := (tup y (hzm y hy)).k
      show tlt (cpsT (unT y.1)) (cpsT (unT x.1)) = false
      rw [← show tupT _ _ = cpsT (unT x.1) from k1, ← show tupT _ _ = cpsT (unT y.1) from k2]
      exact g
    · intro z hz
      obtain ⟨x, hx, e⟩ := List.mem_map.mp hz
      subst e
      exact (hm x (hzm x hx)).2
end
/-! ### a display with tuple keys -/
section
variable {X : Cx} {pins : List (Addr × Obj)} {σ : L2.St} {H : Hp} {s : Shared} {a b : Addr} {A : Around} {E : Value → Shared → Prop}
theorem set_step {kvs : List (List Key × V)} {k : List Key} {v : V} {r : Value} {Q : Unit → Shared → Prop} (hu : A.units + 1 < cLine) (I : Inv X pins σ H s) (e : H a = some (.dT kvs)) (eb : H b = some (.tup (k.map kV))) (l : kvs.length < sizeLine) (rv : RelV v r)
    (h : ∀ s', Inv X pins σ (upd H a (.dT (putK kvs k v))) s' → Q () s') : wpAny (model X.prog X.w) A (dictSet a (.ref b) r) Q E s := by
  obtain ⟨z, hd, xs, rel, dd⟩ := dt_of I.hok e
  have hz : xs.length ≤ sizeLine := by rw [← Paired.length rel]; exact z
  have hl : (putK kvs k v).length ≤ sizeLine := by have := length_putK kvs k v; omega
  refine wpAny_dictSet_heap (hsz := hz) (show Around.units _ < cLine by omega) (key_of I.hok eb) dd fun h' dd' hs => h _ ?_
  obtain ⟨q, es, ep, hq, h2, h3, h4, _, h5⟩ := dd'
  refine d_write I (by rw [e]; exact True.intro) hs ⟨q, hq⟩ ⟨hl, hd, _, (rel.put k eb rv).keeps fun c ys ec => ?_, q, es, ep, hq, h2, h3, h4, h5⟩
  rw [upd_ne (ne_of ec e (fun z => nomatch z))]
  exact ec
abbrev putAll (kvs : List (List Key × V)) (zs : List (List Key × Addr × V)) : List (List Key × V) := zs.foldl (fun acc z => putK acc z.1 z.2.2) kvs
theorem store_all (hu : A.units + 1 < cLine) : ∀ (zs : List (List Key × Addr × V)) (vs : List (Value × Value)) (kvs : List (List Key × V)) (H : Hp) (s : Shared) (Q : PUnit → Shared → Prop), VV (zs.map fun z => (V.ref z.2.1, z.2.2)) vs → Inv X pins σ H s → H a = some (.dT kvs) → kvs.length + zs.length ≤ sizeLine →
    (∀ z ∈ zs, H z.2.1 = some (.tup (z.1.map kV))) → (∀ s', Inv X pins σ (upd H a (.dT (putAll kvs zs))) s' → Q PUnit.unit s') →
    wpAny (model X.prog X.w) A (forIn vs PUnit.unit fun (x : Value × Value) (_ : PUnit) => (do dictSet a x.1 x.2; pure (ForInStep.yield PUnit.unit) : Sem (ForInStep PUnit))) Q E s
  | [], vs, kvs, H, s, Q, r, I, e, hz, ht, h => by
    rw [List.map_nil] at r
    cases r
    rw [List.forIn_nil]
    refine wpAny_pure (h s ?_)
    have : upd H a (.dT (putAll kvs [])) = H := by
      funext b
      unfold upd
      split
      · rename_i z
        rw [z, e]
        rfl
      · rfl
    rw [this]
    exact I
  | z :: zs, vs, kvs, H, s, Q, r, I, e, hz, ht, h => by
    rw [List.map_cons] at r
    cases r with
    | @cons p q ps qs r1 t =>
      obtain ⟨q1, q2⟩ := q
      have r2 : RelV (V.ref z.2.1) q1 := r1.1
      cases r2
      rw [List.forIn_cons]
      rw [List.length_cons] at hz
      refine wpAny_bind (wpAny_bind (set_step hu I e (ht z List.mem_cons_self) (by omega) r1.2 fun s' I' => wpAny_pure ?_))
      refine store_all hu zs qs (putK kvs z.1 z.2.2) _ s' Q t I' upd_same (by have := length_putK kvs z.1 z.2.2; omega) (fun y hy => ?_) fun s2 I2 => h s2 ?_
      · have ey := ht y (List.mem_cons_of_mem _ hy)
        rw [upd_ne (ne_of ey e (fun z => nomatch z))]
        exact ey
      · rw [upd_upd] at I2
        exact I2
end
/-- {k: v, ..} with keys tuples; the new dict stands empty while the pairs are made -/
def tDispT (trs : List (TE × TE)) : TE := fun σ H Q => ∀ p, H p = none → tPairs trs σ (upd H p (.dT [])) fun ps H2 => H2 p = some (.dT []) ∧ ∃ zs : List (List Key × Addr × V), ps = zs.map (fun z => (V.ref z.2.1, z.2.2)) ∧ zs.length ≤ 15 ∧
  (∀ z ∈ zs, H2 z.2.1 = some (.tup (z.1.map kV))) ∧ Q (.ref p) (upd H2 p (.dT (putAll [] zs)))
theorem pe_dispT {X : Cx} {pos : Pos} {keys : List (Option Expr)} {values : List Expr} {trs : List (TE × TE)} (hu : X.A.units + 2 < cLine) (h : PPs X pos keys values trs) (hall : keys.all (·.isSome) = true := by rfl) (hl : keys.length = values.length := by rfl) (h0 : keys ≠ [] := by simp)
    (h15 : keys.length ≤ 15 := by decide) : PE X (.Dict keys values pos) (tDispT trs) := by
  refine ⟨fun pins s σ H Q I q => ?_⟩
  have hn := I.hok.fresh (Nat.le_refl s.heap.objs.size)
  have I1 := I.laid (a := s.heap.objs.size) (o := .dT []) (h' := s.heap.push { cls := .type "dict", data := .dict #[] }) (t' := s.toks) (fun _ _ q => Heap.get?_push_of_some _ q) (Nat.le_refl _) (dt_empty s.heap I.big)
  have hn2 := pairTrees_length keys values X.env pos hall hl
  rw [arm_eval_Dict, zip_pairTrees keys values X.env pos hall hl, dictDisplay_pairs _ (fun he => by
    rw [he] at hn2
    exact h0 (List.length_eq_zero_iff.mp hn2.symm)) (by omega)]
  refine wpAny_bind (wpAny_standAt (wpAny_bind ?_))
  unfold subDict
  refine wpAny_bind (wpAny_alloc ?_)
  refine wpAny_bind (wpAny_holding ?_)
  rw [if_pos (by omega)]
  refine wpAny_bind (thn (h.run pins _ σ _ _ I1 (q _ hn)) fun ws s2 ⟨ps, H2, I2, rel, e, zs, ep, l15, ht, q2⟩ => ?_)
  subst ep
  refine wpAny_holding (wpAny_bind (store_all (a := s.heap.objs.size) (by omega) zs ws [] H2 s2 _ rel I2 e (by rw [sizeLine_eq, List.length_nil]; omega) ht fun s' I' => ?_))
  exact wpAny_pure (wpAny_pure (wpAny_pure ⟨.ref s.heap.objs.size, _, I', rfl, q2⟩))

/-! ### o.m(e, .., k = v, ..) -/
def tMethN (C : Addr) (m : Str) (n l : Nat) (sp : Sp) (gV : List V → List V → List V) (E : XK) (ta : TE) (t tk : TA) : TE := fun σ H Q => ta σ H fun x H1 => ∃ a dx fs, x = .ref a ∧ H1 a = some (.ins C dx fs) ∧ fs.lookup m = none ∧
  t σ H1 fun vs H2 => tk σ H2 fun zs H3 => vs.length = n ∧ zs.length = l ∧ sp (gV (.ref a :: vs) zs) H3 Q E
section
variable {X : Cx} {CX : CXT} {k n : Nat} {f C : Addr} {fd : FuncData} {ps ks : List Str} {sp : Sp} {E : XK} {m : Str} {apos pos : Pos} {o e : Expr} {es : List Expr} {kws : List Keyword} {ta : TE} {t tk : TA} {g : List Value → List Value → List Value} {gV : List V → List V → List V}
theorem pe_methN {pl : Sem Bool} (he : PE X o ta) (c : Cls X.K C) (hm : Meth X.K C m f) (F : FnOk X.prog X.w X.K X.mg X.base CX k f fd ps sp) (hr : Room k X.A) (hb : KBn X.K fd ps (n + 1) ks g gV) (hx : Passes CX X E)
    (ha : PA X (e :: es) t) (hkw : PK X kws tk) (hall : (backToKw pos (keywordEach kws X.env)).all (·.1.isSome) = true := by rfl) (hks : (backToKw pos (keywordEach kws X.env)).filterMap (·.1) = ks := by rfl)
    (hst : starEach (e :: es) X.env = (false, eval e X.env) :: starEach es X.env := by rfl) (hpl : ((backTo pos (starEach (e :: es) X.env)).any (·.1) || (backToKw pos (keywordEach kws X.env)).any (·.1.isNone)) = false := by rfl)
    (ht : eval (.Call (.Attribute o m apos) (e :: es) kws pos) X.env = (do
      let ov ← eval o X.env
      standAt apos.atName
      let (f, first) ← holding [ov] (getMethod ov m pl)
      callWith pos f first (backTo pos (starEach (e :: es) X.env)) (backToKw pos (keywordEach kws X.env))) := by rfl) :
    PE X (.Call (.Attribute o m apos) (e :: es) kws pos) (tMethN C m n ks.length sp gV E ta t tk) := by
  refine ⟨fun pins s σ H Q I h => ?_⟩
  refine PySem.W.methodCall_KW (pl := pl) (thn (he.run pins s σ H _ I h) fun u s1 ⟨x, H1, I1, rx, a, dx, fs, ex, ea, l, q⟩ => ?_) ht
  subst ex
  obtain rfl : u = Value.ref a := rx
  refine getmeth_ok I1 ea c hm l ?_
  refine PySem.W.callWith_KW (first := [.ref a]) (h₀ := X.base) I.ok.mod.kin hm.kp hall (thn (ha.run pos pins s1 σ H1 _ I1 q) fun us s2 ⟨vs, H2, I2, r, q2⟩ => ?_) hpl hst
  refine thn (hkw.run pos pins s2 σ H2 _ I2 q2) fun ws s3 ⟨zs, H3, I3, rz, l1, l2, q3⟩ => ⟨I3.kIn, ?_⟩
  rw [hks]
  exact run_fnN (us := .ref a :: us) (vs := .ref a :: vs) F hr hb hx I3 (.cons rfl r) rz (by rw [List.length_cons, l1]) l2 q3
end
/-! ### o.f as a target -/
def gFld (K : PySem.W.Frag) (to : TE) (f : Str) : TG := fun v σ H Q => to σ H fun x H1 => ∃ a C dx fs, x = .ref a ∧ H1 a = some (.ins C dx fs) ∧ Cls K C ∧ NoAttr K C f ∧ fs.length < 1000 ∧ Q σ (upd H1 a (.ins C dx (putF f v fs)))
theorem pg_fld {X : Cx} {o : Expr} {f : Str} {to : TE} {pos : Pos} (ho : PE X o to) : PG X (.Attribute o f pos) (gFld X.K to f) := by
  refine ⟨fun pins s σ H v u Q I r h => ?_⟩
  rw [assign_Attribute]
  refine wpAny_bind (wpAny_holding (thn (ho.run pins s σ H _ I h) fun ov s1 ⟨x, H1, I1, rx, a, C, dx, fs, ex, ea, c, n, l, q⟩ => ?_))
  subst ex
  obtain rfl : ov = Value.ref a := rx
  refine wpAny_bind (wpAny_standAt (wpAny_bind (wpAny_holding ?_)))
  exact setattr_ok I1 ea c n l r fun s3 I3 => wpAny_release ⟨σ, _, I3, q⟩
/-! ### keyword-only defaults -/
section
variable {K : PySem.W.Frag} {D : Addr}
def KwL (K : PySem.W.Frag) (D : Addr) (kws : List (Str × V)) : Prop := ∀ q ∈ kws, ∃ u, PySem.W.nsIn K D q.1 = some (some u) ∧ RelV q.2 u
theorem kwL_nil : KwL K D [] := fun q hq => by cases hq
theorem kwL_cons {x : Str} {v : V} {u : Value} {kws : List (Str × V)} (h : PySem.W.nsIn K D x = some (some u)) (r : RelV v u) (t : KwL K D kws) : KwL K D ((x, v) :: kws) := fun q hq => by
  rcases List.mem_cons.mp hq with e | hq
  · subst e
    exact ⟨u, h, r⟩
  · exact t q hq
theorem funK_mk {x qual : Str} {st : Stmt} {f : Addr} {oc : Value} {od an : Option Addr} {osl : Array (Option Value)} {doc pm cdv ct : Value} {kws : List (Str × V)}
    (l : K.lookup f = some ⟨oc, od, .func (PySem.W.fnOf x qual (defArgs st) (defBody st) (defScope st) .none (.ref D) doc pm an cdv ct), osl⟩) (c : PySem.W.codeIn K cdv qual = true) (k : PySem.W.keepIn K (.ref f) = true)
    (h : KwL K D kws) (hk : kws ≠ []) : FunD K x qual (defArgs st) (defBody st) (defScope st) [] kws f (PySem.W.fnOf x qual (defArgs st) (defBody st) (defScope st) .none (.ref D) doc pm an cdv ct) :=
  ⟨⟨oc, od, .none, .ref D, doc, pm, an, cdv, ct, osl, rfl, l, c, .inl ⟨rfl, rfl⟩, .inr ⟨D, rfl, h⟩⟩, k⟩
variable {x qual : Str} {params : Arguments} {body : List Stmt} {scope : Scope} {kws : List (Str × V)} {f : Addr} {fd : FuncData} {ps : List Str}
theorem bindK (F : FunD K x qual params body scope [] kws f fd) (n : Nat) (hk : kws ≠ []) (hn : n + kws.length = ps.length)
    (h : ∀ (D : Addr) (doc pm : Value) (an : Option Addr) (cdv ct : Value) (us ks : List Value), us.length = n → ks.length = kws.length →
      KwChain D ((kws.map (·.1)).zip ks) (bindArgs (PySem.W.fnOf x qual params body scope .none (.ref D) doc pm an cdv ct) ⟨us, []⟩) (ps.zip (us ++ ks))) : ∃ ds, Vals (kws.map (·.2)) ds ∧ Binds K fd ps ds := F.binds0 n hk hn h
theorem kbindK1 (F : FunD K x qual params body scope [] kws f fd) (n : Nat) (ks : List Str) (ms : List (Str × V)) (hk : kws ≠ []) (hms : ∀ q ∈ ms, q ∈ kws)
    (h : ∀ (D : Addr) (doc pm : Value) (an : Option Addr) (cdv ct : Value) (us mv ws : List Value), us.length = n → mv.length = ms.length → ws.length = ks.length →
      KwChain D ((ms.map (·.1)).zip mv) (bindArgs (PySem.W.fnOf x qual params body scope .none (.ref D) doc pm an cdv ct) ⟨us, ks.zip ws⟩) (ps.zip (us ++ (ws ++ mv)))) :
    ∃ mv : List Value, KBn K fd ps n ks (fun us ws => us ++ (ws ++ mv)) (fun vs zs => vs ++ (zs ++ ms.map (·.2))) :=
  F.kbinds0 n ks ms (fun us mv ws => us ++ (ws ++ mv)) hk hms (fun r1 r2 r3 => r1.append (r3.append r2)) h
theorem kbindK2 (F : FunD K x qual params body scope [] kws f fd) (n : Nat) (ks : List Str) (ms : List (Str × V)) (hk : kws ≠ []) (hms : ∀ q ∈ ms, q ∈ kws)
    (h : ∀ (D : Addr) (doc pm : Value) (an : Option Addr) (cdv ct : Value) (us mv ws : List Value), us.length = n → mv.length = ms.length → ws.length = ks.length →
      KwChain D ((ms.map (·.1)).zip mv) (bindArgs (PySem.W.fnOf x qual params body scope .none (.ref D) doc pm an cdv ct) ⟨us, ks.zip ws⟩) (ps.zip (us ++ (mv ++ ws)))) :
    ∃ mv : List Value, KBn K fd ps n ks (fun us ws => us ++ (mv ++ ws)) (fun vs zs => vs ++ (ms.map (·.2) ++ zs)) :=
  F.kbinds0 n ks ms (fun us mv ws => us ++ (mv ++ ws)) hk hms (fun r1 r2 r3 => r1.append (r2.append r3)) h
end
end HP1

/-! DTup: places (tuples of texts) and dicts with tuple keys, over data. -/
namespace HP1
open PySem PySem.Spec PyProof.Rows L2
/-- membership by values, in a list or a tuple -/
def rInP (K : PySem.W.Frag) (neg : Bool) : R2 := fun x y H Q => ∃ d ds, Dp K H x d ∧ (Dp K H y (.list ds) ∨ Dp K H y (.tuple ds)) ∧ SeqAt.shaped d = true ∧ SeqAt.shaped (.list ds) = true ∧ Q (.bl (if neg = true then !(ds.any fun z => PyData.eqv z d) else ds.any fun z => PyData.eqv z d)) H
theorem op_inP {X : Cx} (hu : X.A.units + 65 < cLine) : OpR X (compareOp .In) (rInP X.K false) := by
  intro pins s σ H x y v u Q I rx ry h
  obtain ⟨d, ds, hd, he, sd, se, q⟩ := h
  obtain ⟨as, r1⟩ := Dp.reads I d x v hd rx
  rcases he with he | he
  · obtain ⟨bs, r2⟩ := Dp.reads I (.list ds) y u he ry
    exact SeqAt.in_list_reads r2 r1 (SeqAt.canLay_of_shaped se) (SeqAt.canLay_of_shaped sd) (room_in_shaped sd hu) ⟨.bl _, H, I, rfl, q⟩
  · obtain ⟨bs, r2⟩ := Dp.reads I (.tuple ds) y u he ry
    exact SeqAt.in_tuple_reads r2 r1 (SeqAt.canLay_of_shaped se) (SeqAt.canLay_of_shaped sd) (room_in_shaped sd hu) ⟨.bl _, H, I, rfl, q⟩
theorem op_ninP {X : Cx} (hu : X.A.units + 65 < cLine) : OpR X (compareOp .NotIn) (rInP X.K true) := by
  intro pins s σ H x y v u Q I rx ry h
  obtain ⟨d, ds, hd, he, sd, se, q⟩ := h
  obtain ⟨as, r1⟩ := Dp.reads I d x v hd rx
  rcases he with he | he
  · obtain ⟨bs, r2⟩ := Dp.reads I (.list ds) y u he ry
    exact SeqAt.notIn_list_reads r2 r1 (SeqAt.canLay_of_shaped se) (SeqAt.canLay_of_shaped sd) (room_in_shaped sd hu) ⟨.bl _, H, I, rfl, q⟩
  · obtain ⟨bs, r2⟩ := Dp.reads I (.tuple ds) y u he ry
    exact SeqAt.notIn_tuple_reads r2 r1 (SeqAt.canLay_of_shaped se) (SeqAt.canLay_of_shaped sd) (room_in_shaped sd hu) ⟨.bl _, H, I, rfl, q⟩
theorem room65 {k : Nat} {A : Around} (r : Room k A) : A.units + 65 < cLine := by have := r.un; omega
theorem room2 {k : Nat} {A : Around} (r : Room k A) : A.units + 2 < cLine := by have := r.un; omega
theorem room1 {k : Nat} {A : Around} (r : Room k A) : A.units + 1 < cLine := by have := r.un; omega
end HP1
namespace DD
open PySem L2 HP1
open PySem.Spec PyProof.Rows
/-- a tuple of these texts, tracked or not -/
def TxT (d : D) (ns : List Str) : Prop := d = .pl ns ∨ d = .tup ((ns.map V.str).map D.s)
/-- the first table entry of the key -/
def lookT : List (List Str) → List D → List Str → Option D
  | k :: ks, d :: ds, x => if k = x then some d else lookT ks ds x
  | _, _, _ => none
def SeqO (m : Mem) (y : D) (ds : List D) : Prop := y = .lst ds ∨ y = .tup ds ∨ ∃ a, y = .s (.ref a) ∧ m.own a = some (.lst ds)
abbrev tupP (ns : List Str) : PyData := .tuple (ns.map PyData.str)
inductive PlL : List D → List (List Str) → Prop
  | nil : PlL [] []
  | cons {d : D} {ns : List Str} {ds : List D} {nss : List (List Str)} (h : TxT d ns) (t : PlL ds nss) : PlL (d :: ds) (ns :: nss)
theorem PlL.map : ∀ nss : List (List Str), PlL (nss.map D.pl) nss
  | [] => .nil
  | _ :: nss => .cons (.inl rfl) (PlL.map nss)
theorem PlL.snoc {ds : List D} {nss : List (List Str)} (h : PlL ds nss) {d : D} {ns : List Str} (hd : TxT d ns) : PlL (ds ++ [d]) (nss ++ [ns]) := by
  induction h with
  | nil => exact .cons hd .nil
  | cons h t ih => exact .cons h ih
theorem PlL.app {ds ds' : List D} {nss nss' : List (List Str)} (h : PlL ds nss) (h' : PlL ds' nss') : PlL (ds ++ ds') (nss ++ nss') := by
  induction h with
  | nil => exact h'
  | cons h t ih => exact .cons h ih
theorem PlL.length {ds : List D} {nss : List (List Str)} (h : PlL ds nss) : ds.length = nss.length := by
  induction h with
  | nil => rfl
  | cons h t ih => simp [ih]
theorem pyL_strsV : ∀ ns : List Str, pyL ((ns.map V.str).map D.s) = some (ns.map PyData.str)
  | [] => by
    unfold pyL
    rfl
  | n :: ns => by
    rw [List.map_cons, List.map_cons]
    unfold pyL
    rw [pyL_strsV ns]
    unfold pyD
    rfl
theorem TxT.py {d : D} {ns : List Str} (h : TxT d ns) : pyD d = some (tupP ns) := by
  rcases h with rfl | rfl
  · unfold pyD
    rfl
  · unfold pyD
    rw [pyL_strsV]
    rfl
theorem PlL.py {ds : List D} {nss : List (List Str)} (h : PlL ds nss) : pyL ds = some (nss.map tupP) := by
  induction h with
  | nil =>
    unfold pyL
    rfl
  | cons h t ih =>
    unfold pyL
    rw [h.py, ih]
    rfl
theorem TxT.seq {d : D} {ns : List Str} (h : TxT d ns) : seqD d = some ((ns.map V.str).map D.s) := by
  rcases h with rfl | rfl <;> rfl
section
variable {K : PySem.W.Frag} {B F Hb H : Hp} {m : Mem} {ρ : DD.Env} {E : XK} {X : XD}
theorem TxT.rp {d : D} {ns : List Str} {v : V} (h : TxT d ns) (hd : Rp K Hb d v) : ∃ b, v = .ref b ∧ SqT K Hb b (ns.map V.str) := by
  rcases h with rfl | rfl
  · unfold Rp at hd
    obtain ⟨p, rfl, h2⟩ := hd
    exact ⟨p, rfl, SqT.of h2⟩
  · unfold Rp at hd
    obtain ⟨p, vs, rfl, h2, h3⟩ := hd
    rw [RpL.scal h3] at h2
    exact ⟨p, rfl, h2⟩
theorem shaped_tupP {ns : List Str} (h : ∀ z ∈ ns, PyData.strOk z = true) : SeqAt.shaped (tupP ns) = true := by
  have := shaped_strs h
  unfold SeqAt.shaped at this ⊢
  simpa [PyData.canLay0, PyData.depth] using this
theorem shaped_lstP {nss : List (List Str)} (h : ∀ ns ∈ nss, ∀ z ∈ ns, PyData.strOk z = true) : SeqAt.shaped (.list (nss.map tupP)) = true := by
  have : ∀ nss : List (List Str), (∀ ns ∈ nss, ∀ z ∈ ns, PyData.strOk z = true) → PyData.canLayAll0 (nss.map tupP) = true ∧ PyData.depthAll (nss.map tupP) ≤ 1 := by
    intro nss
    induction nss with
    | nil => intro _; exact ⟨rfl, Nat.zero_le _⟩
    | cons ns nss ih =>
      intro h
      obtain ⟨a1, a2⟩ := ih fun x hx => h x (List.mem_cons_of_mem _ hx)
      obtain ⟨b1, b2⟩ := shp_strs (h ns List.mem_cons_self)
      refine ⟨?_, ?_⟩
      · simp only [List.map_cons, PyData.canLayAll0, PyData.canLay0, Bool.and_eq_true]
        exact ⟨b1, a1⟩
      · simp only [List.map_cons, PyData.depthAll, PyData.depth, b2]
        omega
  obtain ⟨h1, h2⟩ := this nss h
  unfold SeqAt.shaped
  simp [PyData.canLay0, PyData.depth, h1]
  try omega
theorem eqv_tupP (xs ys : List Str) : PyData.eqv (tupP xs) (tupP ys) = decide (xs = ys) := by
  rw [← eqvAll_strs]
  simp [PyData.eqv]
theorem any_tupP (nss : List (List Str)) (ns : List Str) : ((nss.map tupP).any fun z => PyData.eqv z (tupP ns)) = decide (ns ∈ nss) := by
  induction nss with
  | nil => rfl
  | cons k nss ih =>
    rw [List.map_cons, List.any_cons, ih, eqv_tupP]
    by_cases h : k = ns
    · subst h
      simp
    · simp [h, Ne.symm h]
theorem SeqO.dp {y : D} {ds : List D} {ps : List PyData} {v : V} (h : SeqO m y ds) (hp : pyL ds = some ps) (r : Rel K F Hb H m) (hy : Rp K Hb y v) : Dp K H v (.list ps) ∨ Dp K H v (.tuple ps) := by
  rcases h with rfl | rfl | ⟨a, rfl, ho⟩
  · refine .inl (pyD_dp (.lst ds) v (.list ps) ?_ hy r.sub)
    unfold pyD
    rw [hp]
    rfl
  · refine .inr (pyD_dp (.tup ds) v (.tuple ps) ?_ hy r.sub)
    unfold pyD
    rw [hp]
    rfl
  · unfold Rp at hy
    subst hy
    obtain ⟨_, vs, h1, h2⟩ := r.own a _ ho
    exact .inl (.lst (SqL.of h1) (pyL_dp ds vs ps hp h2 r.sub))
theorem wo_inPb {x y : D} {ns : List Str} {ds : List D} {nss : List (List Str)} {neg : Bool} {Q : QD} (hx : TxT x ns) (hy : SeqO m y ds) (hd : PlL ds nss) (ok : ∀ z ∈ ns, PyData.strOk z = true) (oks : ∀ ns ∈ nss, ∀ z ∈ ns, PyData.strOk z = true)
    (q : Q (.s (.bl (if neg = true then !decide (ns ∈ nss) else decide (ns ∈ nss)))) m) : WO K F B (rInP K neg) x y m Q := fun Hb H vx vy R hB r hvx hvy k => by
  refine ⟨tupP ns, nss.map tupP, pyD_dp x vx _ hx.py hvx r.sub, hy.dp hd.py r hvy, shaped_tupP ok, shaped_lstP oks, ?_⟩
  rw [any_tupP]
  exact k.here r rp_s q

/-! ### dicts -/
theorem look_val : ∀ {ks : List (List Str)} {ds : List D} {vs : List V} (x : List Str), RpL K Hb ds vs → ks.length = ds.length →
    (∀ d, lookT ks ds x = some d → ∃ v, valV ((ks.map inrs).zip vs) (inrs x) = some v ∧ Rp K Hb d v) ∧ (lookT ks ds x = none → valV ((ks.map inrs).zip vs) (inrs x) = none)
  | [], [], vs, x, h, _ => by
    unfold RpL at h
    subst h
    exact ⟨fun d e => (nomatch (show (none : Option D) = some d from e)), fun _ => rfl⟩
  | k :: ks, d :: ds, vs, x, h, hl => by
    unfold RpL at h
    obtain ⟨v, r, rfl, h1, h2⟩ := h
    obtain ⟨i1, i2⟩ := look_val x h2 (by simpa using hl)
    rw [List.map_cons, List.zip_cons_cons]
    unfold lookT
    by_cases e : k = x
    · rw [if_pos e]
      refine ⟨fun d' e' => ?_, fun e' => by cases e'⟩
      cases e'
      exact ⟨v, valV_pos (by rw [e]), h1⟩
    · rw [if_neg e]
      have ne : ¬ inrs k = inrs x := fun z => e (by rw [← un_in k, ← un_in x, z])
      refine ⟨fun d' e' => ?_, fun e' => ?_⟩
      · obtain ⟨v', e1, e2⟩ := i1 d' e'
        exact ⟨v', (valV_neg ne).trans e1, e2⟩
      · exact (valV_neg ne).trans (i2 e')
theorem keyQ {a : Addr} {ks : List (List Str)} {ds : List D} {vs : List V} {x : D} {ns : List Str} {vx : V} (r : Rel K F Hb H m) (h1 : H a = some (.dT ((ks.map inrs).zip vs))) (hx : TxT x ns) (hv : Rp K Hb x vx) :
    DGetQ K H a vx (valV ((ks.map inrs).zip vs) (inrs ns)) := by
  obtain ⟨b, rfl, hb⟩ := hx.rp hv
  exact ⟨_, inrs ns, b, .inl h1, rfl, by rw [kV_inrs]; exact sameT r.sub hb, rfl⟩
theorem wo_inQb {a : Addr} {ks : List (List Str)} {ds : List D} {x : D} {ns : List Str} {neg : Bool} {Q : QD} (hx : TxT x ns) (ho : m.own a = some (.dT ks ds)) (q : Q (.s (.bl (if neg = true then !(lookT ks ds ns).isSome else (lookT ks ds ns).isSome))) m) :
    WO K F B (rInQ K neg) x (.s (.ref a)) m Q := fun Hb H vx vy R hB r hvx hvy k => by
  unfold Rp at hvy
  subst hvy
  obtain ⟨_, vs, h1, h2, h3⟩ := r.own a _ ho
  refine ⟨a, _, rfl, keyQ (ds := ds) r h1 hx hvx, ?_⟩
  have e : (valV ((ks.map inrs).zip vs) (inrs ns)).isSome = (lookT ks ds ns).isSome := by
    obtain ⟨i1, i2⟩ := look_val (K := K) (Hb := Hb) ns h2 h3
    cases q : lookT ks ds ns with
    | none =>
      rw [i2 q]
      rfl
    | some d =>
      obtain ⟨v, e, _⟩ := i1 d q
      rw [e]
      rfl
  rw [e]
  exact k.here r rp_s q
theorem wo_ixQ {a : Addr} {ks : List (List Str)} {ds : List D} {x d : D} {ns : List Str} {Q : QD} (hx : TxT x ns) (ho : m.own a = some (.dT ks ds)) (hd : lookT ks ds ns = some d) (q : Q d m) :
    WO K F B (rIxQ K) (.s (.ref a)) x m Q := fun Hb H vx vy R hB r hvx hvy k => by
  unfold Rp at hvx
  subst hvx
  obtain ⟨_, vs, h1, h2, h3⟩ := r.own a _ ho
  obtain ⟨v, e1, e2⟩ := (look_val (K := K) (Hb := Hb) ns h2 h3).1 d hd
  refine ⟨a, v, rfl, ?_, k.here r e2 q⟩
  rw [← e1]
  exact keyQ (ds := ds) r h1 hx hvy
theorem we_getQ {td ty tx : TE} {Q : QD} (h : WE K F B td ρ m fun x m1 => ∃ a, x = .s (.ref a) ∧ (∃ ks ds, m1.own a = some (.dT ks ds)) ∧ WE K F B ty ρ m1 fun y m2 => WE K F B tx ρ m2 fun z m3 => ∃ ks ds ns, m3.own a = some (.dT ks ds) ∧ TxT y ns ∧
    (∀ d, lookT ks ds ns = some d → Q d m3) ∧ (lookT ks ds ns = none → Q z m3)) : WE K F B (tGetQ K td ty tx) ρ m Q := fun Hb H σ R hB r hs k =>
  h Hb H σ _ hB r hs fun v H1 Hb1 x m1 e1 r1 hx q1 => by
    obtain ⟨a, rfl, ⟨ks0, ds0, ho0⟩, q1⟩ := q1
    unfold Rp at hx
    subst hx
    obtain ⟨_, vs0, h0, _⟩ := r1.own a _ ho0
    refine ⟨a, rfl, .inr ⟨_, .inl h0⟩, ?_⟩
    refine q1 Hb1 H1 σ _ (hB.trans e1) r1 (hs.mono e1) fun u H2 Hb2 y m2 e2 r2 hy q2 => ?_
    refine q2 Hb2 H2 σ _ ((hB.trans e1).trans e2) r2 ((hs.mono e1).mono e2) fun w H3 Hb3 z m3 e3 r3 hz q3 => ?_
    obtain ⟨ks, ds, ns, ho, hn, qs, qn⟩ := q3
    obtain ⟨_, vs, h1, h2, h3⟩ := r3.own a _ ho
    refine ⟨_, keyQ (ds := ds) r3 h1 hn (hy.mono e3), ?_⟩
    obtain ⟨i1, i2⟩ := look_val (K := K) (Hb := Hb3) ns h2 h3
    cases q : lookT ks ds ns with
    | none =>
      rw [i2 q]
      exact k _ _ _ _ _ ((e1.trans e2).trans e3) r3 hz (qn q)
    | some d =>
      obtain ⟨v', e, rd⟩ := i1 d q
      rw [e]
      exact k _ _ _ _ _ ((e1.trans e2).trans e3) r3 rd (qs d q)
theorem look_app : ∀ {ks : List (List Str)} {ds : List D} (x y : List Str) (d : D), ks.length = ds.length → lookT ks ds x = none → lookT (ks ++ [x]) (ds ++ [d]) y = if y = x then some d else lookT ks ds y
  | [], [], x, y, d, _, _ => by
    show (if x = y then some d else none) = _
    by_cases e : y = x
    · rw [if_pos e, if_pos e.symm]
    · rw [if_neg e, if_neg (Ne.symm e)]
      rfl
  | k :: ks, e :: ds, x, y, d, hl, hn => by
    unfold lookT at hn
    by_cases hk : k = x
    · rw [if_pos hk] at hn
      cases hn
    · rw [if_neg hk] at hn
      show (if k = y then some e else lookT (ks ++ [x]) (ds ++ [d]) y) = _
      rw [look_app x y d (by simpa using hl) hn]
      by_cases hy : k = y
      · rw [if_pos hy, if_neg (fun z => hk (hy.trans z))]
        show _ = (if k = y then some e else lookT ks ds y)
        rw [if_pos hy]
      · rw [if_neg hy]
        show _ = if y = x then some d else (if k = y then some e else lookT ks ds y)
        rw [if_neg hy]
theorem zip_snoc {α β : Type} : ∀ {xs : List α} {ys : List β} (x : α) (y : β), xs.length = ys.length → (xs ++ [x]).zip (ys ++ [y]) = xs.zip ys ++ [(x, y)]
  | [], [], _, _, _ => rfl
  | a :: xs, b :: ys, x, y, h => by
    show (a, b) :: ((xs ++ [x]).zip (ys ++ [y])) = _
    rw [zip_snoc x y (by simpa using h)]
    rfl
/-- a new key -/
theorem RepM.dput {a : Addr} {ks : List (List Str)} {ds : List D} {vs : List V} {ns : List Str} {d : D} {v : V} {cnt : Nat} (h2 : RpL K Hb ds vs) (h3 : ks.length = ds.length) (hd : Rp K Hb d v) (hn : lookT ks ds ns = none) :
    RepM K Hb (upd H a (.dT (putK ((ks.map inrs).zip vs) (inrs ns) v))) cnt a (.dT (ks ++ [ns]) (ds ++ [d])) := by
  refine ⟨vs ++ [v], ?_, h2.app (RpL.cons hd RpL.nil), by simp [h3]⟩
  rw [upd_same, putK_new v ((look_val (K := K) (Hb := Hb) ns h2 h3).2 hn), List.map_append, ← zip_snoc]
  · rfl
  · rw [List.length_map, h3, h2.length]
/-- d[k] = v, a new key -/
theorem wg_subT {to ti : TE} {x : D} {Q : Env → Mem → Prop} (h : WE K F B to ρ m fun o m1 => WE K F B ti ρ m1 fun y m2 => ∃ a ks ds ns, o = .s (.ref a) ∧ y = .pl ns ∧ m2.own a = some (.dT ks ds) ∧ ks.length < sizeLine ∧ lookT ks ds ns = none ∧
    Q ρ { m2 with own := putM m2.own a (.dT (ks ++ [ns]) (ds ++ [x])) }) : WG K F B (gSub to ti rSetD) x ρ m Q := fun Hb H σ v R hB r hs hx k =>
  h Hb H σ _ hB r hs fun o H1 Hb1 od m1 e1 r1 ho q1 => q1 Hb1 H1 σ _ (hB.trans e1) r1 (hs.mono e1) fun i H2 Hb2 y m2 e2 r2 hy q2 => by
    obtain ⟨a, ks, ds, ns, rfl, rfl, hown, hz, hn, q⟩ := q2
    unfold Rp at ho hy
    subst ho
    obtain ⟨b, rfl, hb⟩ := hy
    obtain ⟨h0, vs, h1, h2, h3⟩ := r2.own a _ hown
    show ∃ a' H', V.ref a = V.ref a' ∧ DPut H2 a' (V.ref b) v H' ∧ R σ H'
    refine ⟨a, _, rfl, DPut.t (k := inrs ns) h1 (by rw [kV_inrs]; exact r2.sub _ _ hb) ?_, ?_⟩
    · rw [List.length_zip, List.length_map]
      omega
    · exact k _ _ _ _ _ (e1.trans e2) (r2.change hown (RepM.dput h2 h3 ((hx.mono e1).mono e2) hn)) ((hs.mono e1).mono e2) q
/-- {}, owned -/
theorem we_dnewTO {Q : QD} (h : ∀ a, m.own a = none → Q (.s (.ref a)) { m with own := putM m.own a (.dT [] []) }) : WE K F B tDNewT ρ m Q := fun Hb H σ R hB r hs k => fun p hp =>
  k _ _ _ _ _ (Same.refl _) (r.owned (mo := .dT [] []) hp ⟨[], upd_same, RpL.nil, rfl⟩) rp_s (h p (r.free hp))
/-- the pairs of a display -/
def WPs (K : PySem.W.Frag) (F B : Hp) (trs : List (TE × TE)) (ρ : Env) (m : Mem) (Q : List (D × D) → Mem → Prop) : Prop := ∀ Hb H σ (R : List (V × V) → Hp → Prop), Same B Hb → Rel K F Hb H m → RpS K Hb ρ σ →
  (∀ (ps : List (V × V)) H' Hb' (ds : List (D × D)) m', Same Hb Hb' → Rel K F Hb' H' m' → RpL K Hb' (ds.map (·.1)) (ps.map (·.1)) → RpL K Hb' (ds.map (·.2)) (ps.map (·.2)) → Q ds m' → R ps H') → tPairs trs σ H R
theorem wps_nil {Q : List (D × D) → Mem → Prop} (q : Q [] m) : WPs K F B [] ρ m Q := fun Hb H σ R hB r hs k => k [] H Hb [] m (Same.refl _) r RpL.nil RpL.nil q
theorem wps_cons {tk tv : TE} {trs : List (TE × TE)} {Q : List (D × D) → Mem → Prop} (h : WE K F B tk ρ m fun x m1 => WE K F B tv ρ m1 fun y m2 => WPs K F B trs ρ m2 fun ds m3 => Q ((x, y) :: ds) m3) : WPs K F B ((tk, tv) :: trs) ρ m Q := fun Hb H σ R hB r hs k =>
  h Hb H σ _ hB r hs fun v H1 Hb1 x m1 e1 r1 hx q1 => q1 Hb1 H1 σ _ (hB.trans e1) r1 (hs.mono e1) fun u H2 Hb2 y m2 e2 r2 hy q2 =>
    q2 Hb2 H2 σ _ ((hB.trans e1).trans e2) r2 ((hs.mono e1).mono e2) fun ps H3 Hb3 ds m3 e3 r3 h1 h2 q3 =>
      k ((v, u) :: ps) H3 Hb3 ((x, y) :: ds) m3 ((e1.trans e2).trans e3) r3 (RpL.cons ((hx.mono e2).mono e3) h1) (RpL.cons (hy.mono e3) h2) q3
theorem put_all_new : ∀ (zs : List (List Key × Addr × V)) (kvs : List (List Key × V)), (zs.map (·.1)).Nodup → (∀ z ∈ zs, valV kvs z.1 = none) → putAll kvs zs = kvs ++ zs.map fun z => (z.1, z.2.2)
  | [], kvs, _, _ => by simp
  | z :: zs, kvs, hn, hv => by
    rw [List.map_cons] at hn
    obtain ⟨n1, n2⟩ := List.nodup_cons.mp hn
    show putAll (putK kvs z.1 z.2.2) zs = _
    rw [putK_new _ (hv z List.mem_cons_self), put_all_new zs _ n2 fun y hy => ?_]
    · simp
    · rw [valV_snoc _ _ _ _ (hv z List.mem_cons_self), if_neg]
      · exact hv y (List.mem_cons_of_mem _ hy)
      · intro e
        exact n1 (by rw [← e]; exact List.mem_map_of_mem hy)
theorem rp_pls : ∀ {kss : List (List Str)} {vs : List V}, RpL K Hb (kss.map D.pl) vs → ∃ bs : List Addr, vs = bs.map V.ref ∧ bs.length = kss.length ∧ ∀ z ∈ kss.zip bs, Hb z.2 = some (.tup (z.1.map V.str))
  | [], vs, h => by
    unfold RpL at h
    subst h
    exact ⟨[], rfl, rfl, fun z hz => by cases hz⟩
  | k :: kss, vs, h => by
    unfold RpL at h
    obtain ⟨v, r, rfl, h1, h2⟩ := h
    unfold Rp at h1
    obtain ⟨b, rfl, hb⟩ := h1
    obtain ⟨bs, rfl, hl, hh⟩ := rp_pls h2
    refine ⟨b :: bs, rfl, by simp [hl], fun z hz => ?_⟩
    rcases List.mem_cons.mp hz with e | hz
    · subst e
      exact hb
    · exact hh z hz
/-- a display with tuple keys, all unlike -/
theorem we_dispT {trs : List (TE × TE)} {Q : QD} (h : ∀ p, m.own p = none → WPs K F B trs ρ { m with own := putM m.own p (.dT [] []) } fun qs m' => m'.own p = some (.dT [] []) ∧ ∃ (ks : List (List Str)) (ds : List D), qs.map (·.1) = ks.map D.pl ∧ qs.map (·.2) = ds ∧ ks.length ≤ 15 ∧ ks.Nodup ∧
    Q (.s (.ref p)) { m' with own := putM m'.own p (.dT ks ds) }) : WE K F B (tDispT trs) ρ m Q := fun Hb H σ R hB r hs k => fun p hp => by
  have r0 := r.owned (mo := .dT [] []) hp ⟨[], upd_same, RpL.nil, rfl⟩
  refine h p (r.free hp) Hb _ σ _ hB r0 hs fun ps H2 Hb2 qs m2 e2 r2 h1 h2 q2 => ?_
  obtain ⟨ho, ks, ds, ek, ed, l15, nd, q⟩ := q2
  obtain ⟨h0, vs0, hv0, hr0, _⟩ := r2.own p _ ho
  have e0 : H2 p = some (.dT []) := by
    unfold RpL at hr0
    subst hr0
    exact hv0
  refine ⟨e0, ?_⟩
  rw [ek] at h1
  rw [ed] at h2
  obtain ⟨bs, eb, hl, hh⟩ := rp_pls h1
  have lq : ks.length = qs.length := by
    have := congrArg List.length ek
    simpa using this.symm
  have lp : ps.length = ks.length := by
    have := congrArg List.length eb
    simp at this
    omega
  have l2 : ds.length = ks.length := by rw [← ed, List.length_map, lq]
  let zs : List (List Key × Addr × V) := (ks.map inrs).zip (bs.zip (ps.map (·.2)))
  have ez : ps = zs.map (fun z => (V.ref z.2.1, z.2.2)) := by
    have e1 : ∀ (ks : List (List Str)) (bs : List Addr) (ps : List (V × V)), ps.map (·.1) = bs.map V.ref → bs.length = ks.length → ps = ((ks.map inrs).zip (bs.zip (ps.map (·.2)))).map (fun z => (V.ref z.2.1, z.2.2)) := by
      intro ks
      induction ks with
      | nil =>
        intro bs ps e l
        have : bs = [] := List.eq_nil_of_length_eq_zero l
        subst this
        have : ps = [] := by simpa using e
        subst this
        rfl
      | cons k ks ih =>
        intro bs ps e l
        match bs, ps, e, l with
        | b :: bs, p :: ps, e, l =>
          rw [List.map_cons, List.map_cons] at e
          injection e with e1 e2
          obtain ⟨p1, p2⟩ := p
          have e1' : p1 = V.ref b := e1
          have i := ih bs ps e2 (by simpa using l)
          subst e1'
          exact congrArg (fun z => (V.ref b, p2) :: z) i
        | [], _, _, l => cases l
        | b :: bs, [], e, l => cases e
    exact e1 ks bs ps eb hl
  have k1 : zs.map (·.1) = ks.map inrs := by
    refine List.map_fst_zip ?_
    simp [hl, lp]
  have hm : ∀ z ∈ zs, H2 z.2.1 = some (.tup (z.1.map kV)) := fun z hz => by
    have : ∀ (ks : List (List Str)) (bs : List Addr) (vs : List V), (∀ z ∈ ks.zip bs, Hb2 z.2 = some (.tup (z.1.map V.str))) → ∀ z ∈ (ks.map inrs).zip (bs.zip vs), Hb2 z.2.1 = some (.tup (z.1.map kV)) := by
      intro ks
      induction ks with
      | nil => intro bs vs _ z hz; cases hz
      | cons k ks ih =>
        intro bs vs hh z hz
        match bs, vs, hh, hz with
        | b :: bs, v :: vs, hh, hz =>
          rcases List.mem_cons.mp hz with e | hz
          · subst e
            show Hb2 b = some (.tup ((inrs k).map kV))
            rw [kV_inrs]
            exact hh (k, b) List.mem_cons_self
          · exact ih bs vs (fun y hy => hh y (List.mem_cons_of_mem _ hy)) z hz
    exact r2.sub _ _ (this ks bs _ hh z hz)
  have zl : zs.length = ks.length := by
    have := congrArg List.length k1
    simpa using this
  refine ⟨zs, ez, by omega, hm, ?_⟩
  rw [put_all_new zs [] (by
    rw [k1]
    exact nd.map _ fun a b hab hc => hab (by rw [← un_in a, ← un_in b, hc])) fun z _ => rfl]
  refine k _ _ _ _ _ e2 (r2.change (mo' := .dT ks ds) ho ⟨ps.map (·.2), ?_, h2, l2.symm⟩) rp_s q
  rw [upd_same, List.nil_append]
  have : zs.map (fun z => (z.1, z.2.2)) = (ks.map inrs).zip (ps.map (·.2)) := by
    rw [← k1]
    rw [ez, List.map_map, List.zip_map']
    rfl
  rw [this]
/-! ### tuples of texts -/
def cutT (ns : List Str) (lo hi : Option Int) : List Str := (ns.drop (HT.sIx ns.length 0 lo)).take (HT.sIx ns.length ns.length hi - HT.sIx ns.length 0 lo)
theorem cutT_cut (ns : List Str) (lo hi : Option Int) : cutV (ns.map V.str) lo hi = (cutT ns lo hi).map V.str := by
  unfold cutV cutT
  rw [List.length_map, List.map_take, List.map_drop]
theorem cutT_last (ns : List Str) : cutT ns none (some (-1)) = ns.dropLast := by
  unfold cutT
  rw [List.dropLast_eq_take]
  show (ns.drop 0).take ((-1 + (ns.length : Int)).toNat - 0) = _
  rw [List.drop_zero]
  congr 1
  omega
/-- a display of texts: a tracked tuple -/
theorem we_tupP {ta : TA} {Q : QD} (h : WA K F B ta ρ m fun xs m1 => ∃ ns : List Str, xs = (ns.map V.str).map D.s ∧ ns.length ≤ sizeLine ∧ Q (.pl ns) m1) : WE K F B (tTup ta) ρ m Q := fun Hb H σ R hB r hs k =>
  h Hb H σ _ hB r hs fun vs H1 Hb1 xs m1 e1 r1 hx q1 => by
    obtain ⟨ns, rfl, hl, q⟩ := q1
    have e := RpL.scal hx
    subst e
    refine ⟨by rw [List.length_map]; exact hl, fun p hp => k _ _ _ (.pl ns) _ (e1.trans (Same.new (r1.fresh hp))) (r1.data hp) ?_ q⟩
    unfold Rp
    exact ⟨p, rfl, upd_same⟩
theorem wo_catP {x : D} {ns ms : List Str} {Q : QD} (hx : TxT x ns) (hm : ms ≠ []) (hl : ns.length + ms.length ≤ sizeLine) (q : Q (.pl (ns ++ ms)) m) : WO K F B (L2.rCatA K) x (.pl ms) m Q := fun Hb H vx vy R hB r hvx hvy k => by
  obtain ⟨a, rfl, ha⟩ := hx.rp hvx
  have hvy' := hvy
  unfold Rp at hvy'
  obtain ⟨b, rfl, hb⟩ := hvy'
  refine ⟨a, b, _, _, rfl, rfl, sameT r.sub ha, SqT.of (r.sub _ _ hb), by rw [List.length_map, List.length_map]; exact hl, fun e => ?_, fun _ e => ?_, fun _ _ p hp => ?_⟩
  · have e0 : ns = [] := by simpa using e
    subst e0
    exact k.here r hvy q
  · exact absurd (by simpa using e) hm
  · refine k _ _ _ (.pl (ns ++ ms)) _ (Same.new (r.fresh hp)) (r.data hp) ?_ q
    unfold Rp
    exact ⟨p, rfl, by rw [upd_same, List.map_append]⟩
theorem wsl_P {x : D} {ns : List Str} {lo hi : Option Int} {Q : QD} (hx : TxT x ns) (q : ∀ d, TxT d (cutT ns lo hi) → (x = .pl ns → d = .pl (cutT ns lo hi)) → Q d m) : WSl K F B (L2.rSlA K) x lo hi m Q := fun Hb H vx R hB r hvx k => by
  obtain ⟨a, rfl, ha⟩ := hx.rp hvx
  refine ⟨a, _, rfl, sameT r.sub ha, fun hw => ?_, fun _ p hp => ?_⟩
  · rw [List.length_map] at hw
    have e : cutT ns lo hi = ns := by
      unfold cutT
      rw [hw.1, hw.2, List.drop_zero, Nat.sub_zero, List.take_length]
    exact k.here r hvx (q x (by rw [e]; exact hx) fun z => by rw [e]; exact z)
  · refine k _ _ _ (.pl (cutT ns lo hi)) _ (Same.new (r.fresh hp)) (r.data hp) ?_ (q _ (.inl rfl) fun _ => rfl)
    unfold Rp
    exact ⟨p, rfl, by rw [upd_same, cutT_cut]⟩
/-- data that is no None -/
def ThD : D → Prop
  | .s v => v ≠ .non
  | _ => True
theorem ThD.at {d : D} {v : V} (h : ThD d) (hd : Rp K Hb d v) : decide (v = V.non) = false := by
  cases d with
  | s w =>
    unfold Rp at hd
    subst hd
    exact decide_eq_false h
  | lst xs =>
    unfold Rp at hd
    obtain ⟨p, vs, rfl, _⟩ := hd
    rfl
  | tup xs =>
    unfold Rp at hd
    obtain ⟨p, vs, rfl, _⟩ := hd
    rfl
  | dic ks xs =>
    unfold Rp at hd
    obtain ⟨p, o, vs, rfl, _⟩ := hd
    rfl
  | ins C ns xs =>
    unfold Rp at hd
    obtain ⟨p, dx, vs, rfl, _⟩ := hd
    rfl
  | pl ns =>
    unfold Rp at hd
    obtain ⟨p, rfl, _⟩ := hd
    rfl
theorem TxT.th {d : D} {ns : List Str} (h : TxT d ns) : ThD d := by
  rcases h with rfl | rfl <;> exact trivial
theorem wo_isTh {x : D} {Q : QD} (h : ThD x) (q : Q (.s (.bl false)) m) : WO K F B rIsN x (.s .non) m Q := fun Hb H vx vy R hB r hx hy k => by
  unfold Rp at hy
  refine ⟨hy, ?_⟩
  rw [h.at hx]
  exact k.here r rp_s q
theorem wo_notTh {x : D} {Q : QD} (h : ThD x) (q : Q (.s (.bl true)) m) : WO K F B rNotN x (.s .non) m Q := fun Hb H vx vy R hB r hx hy k => by
  unfold Rp at hy
  refine ⟨hy, ?_⟩
  rw [h.at hx]
  exact k.here r rp_s q
/-- *e in a display or in arguments -/
theorem wa_star {te : TE} {ta : TA} {Q : List D → Mem → Prop} (h : WE K F B te ρ m fun x m1 => ∃ ds, SeqO m1 x ds ∧ WA K F B ta ρ m1 fun ys m2 => Q (ds ++ ys) m2) : WA K F B (StX.tStar K te ta) ρ m Q := fun Hb H σ R hB r hs k =>
  h Hb H σ _ hB r hs fun v H1 Hb1 x m1 e1 r1 hx q1 => by
    obtain ⟨ds, hd, q⟩ := q1
    have z : ∃ p xs, v = V.ref p ∧ (SqT K H1 p xs ∨ SqL K H1 p xs) ∧ RpL K Hb1 ds xs := by
      rcases hd with rfl | rfl | ⟨a, rfl, ho⟩
      · unfold Rp at hx
        obtain ⟨p, vs, rfl, h1, h2⟩ := hx
        exact ⟨p, vs, rfl, .inr (SqL.of (r1.sub _ _ h1)), h2⟩
      · unfold Rp at hx
        obtain ⟨p, vs, rfl, h1, h2⟩ := hx
        exact ⟨p, vs, rfl, .inl (sameT r1.sub h1), h2⟩
      · unfold Rp at hx
        subst hx
        obtain ⟨_, vs, h1, h2⟩ := r1.own a _ ho
        exact ⟨a, vs, rfl, .inr (SqL.of h1), h2⟩
    obtain ⟨p, xs, rfl, hsq, hx⟩ := z
    exact ⟨p, xs, rfl, hsq, q Hb1 H1 σ _ (hB.trans e1) r1 (hs.mono e1) fun ys H2 Hb2 es m2 e2 r2 hy q2 => k _ _ _ _ _ (e1.trans e2) r2 ((hx.mono e2).app hy) q2⟩
theorem wc_tupP {ns : List Str} {Q : QD} (q : Q (.pl ns) m) : WC K F B (rTupA K) [.pl ns] m Q := fun Hb H vs R hB r hx k => by
  obtain ⟨v, rfl, hv⟩ := rpL1 hx
  have hv' := hv
  unfold Rp at hv'
  obtain ⟨p, rfl, h1⟩ := hv'
  exact ⟨p, _, rfl, .inr ⟨SqT.of (r.sub _ _ h1), k.here r hv q⟩⟩
theorem wc_tupTx {x : D} {ns : List Str} {Q : QD} (hx : TxT x ns) (q : Q x m) : WC K F B (rTupA K) [x] m Q := by
  rcases hx with rfl | rfl
  · exact wc_tupP q
  · exact wc_tupT q
/-- tuple(xs) of a list of texts: a tracked tuple -/
theorem wc_tupLP {ns : List Str} {Q : QD} (q : Q (.pl ns) m) : WC K F B (rTupA K) [.lst ((ns.map V.str).map D.s)] m Q := fun Hb H vs R hB r hx k => by
  obtain ⟨v, rfl, hv⟩ := rpL1 hx
  unfold Rp at hv
  obtain ⟨p, us, rfl, h1, h2⟩ := hv
  have e := RpL.scal h2
  subst e
  refine ⟨p, _, rfl, .inl ⟨SqL.of (r.sub _ _ h1), fun l hl => ?_⟩⟩
  refine k _ _ _ (.pl ns) _ (Same.new (r.fresh hl)) (r.data hl) ?_ q
  unfold Rp
  exact ⟨l, rfl, upd_same⟩
/-! ### sorted(d) -/
theorem perm_srt {α : Type} {lt : α → α → Bool} (anti : ∀ x y, lt x y = false → lt y x = false → x = y) : ∀ {l m : List α}, l.Perm m → l.Pairwise (fun x y => lt y x = false) → m.Pairwise (fun x y => lt y x = false) → l = m
  | [], m, h, _, _ => (List.Perm.nil_eq h)
  | x :: l, [], h, _, _ => by
    have := h.length_eq
    cases this
  | x :: l, y :: m, h, hl, hm => by
    obtain ⟨l1, l2⟩ := List.pairwise_cons.mp hl
    obtain ⟨m1, m2⟩ := List.pairwise_cons.mp hm
    have hx : x = y ∨ lt x y = false := by
      rcases List.mem_cons.mp (h.mem_iff.mp List.mem_cons_self) with e | e
      · exact .inl e
      · exact .inr (m1 x e)
    have hy : x = y ∨ lt y x = false := by
      rcases List.mem_cons.mp (h.mem_iff.mpr List.mem_cons_self) with e | e
      · exact .inl e.symm
      · exact .inr (l1 y e)
    have e : x = y := by
      rcases hx with e | hx
      · exact e
      · rcases hy with e | hy
        · exact e
        · exact anti x y hx hy
    subst e
    rw [perm_srt anti (List.Perm.cons_inv h) l2 m2]
def pLt (x y : List Str) : Bool := tlt (cpsT x) (cpsT y)
theorem pLt_anti (x y : List Str) (h : pLt x y = false) (h' : pLt y x = false) : x = y := by
  have e := PyProof.Rows.lex_total (O := txtOrd) _ _ h h'
  have inj : ∀ a b : Str, a.cps.toList = b.cps.toList → a = b := fun a b q => by
    cases a with | mk a => cases b with | mk b =>
    congr 1
    exact Array.toList_inj.mp q
  have : ∀ x y : List Str, cpsT x = cpsT y → x = y := by
    intro x
    induction x with
    | nil =>
      intro y e
      cases y with
      | nil => rfl
      | cons b y => cases e
    | cons a x ih =>
      intro y e
      cases y with
      | nil => cases e
      | cons b y =>
        injection e with e1 e2
        rw [inj a b e1, ih y e2]
  exact this x y e
def sortT (ks : List (List Str)) : List (List Str) := ks.mergeSort fun x y => !pLt y x
theorem sortT_perm (ks : List (List Str)) : (sortT ks).Perm ks := List.mergeSort_perm ks _
theorem sortT_srt (ks : List (List Str)) : (sortT ks).Pairwise fun x y => pLt y x = false := by
  have O := tlt_swo (fun x : List Str => cpsT x)
  have := List.pairwise_mergeSort (le := fun x y => !pLt y x) (fun a b c h1 h2 => by
    have e1 : pLt b a = false := by simpa using h1
    have e2 : pLt c b = false := by simpa using h2
    have := O.tr a b c e1 e2
    show (!pLt c a) = true
    rw [show pLt c a = false from this]
    rfl) (fun a b => by
    show (!pLt b a || !pLt a b) = true
    cases e : pLt b a with
    | false => rfl
    | true =>
      rw [show pLt a b = false from O.asym b a e]
      rfl) ks
  exact this.imp fun h => by simpa using h
theorem Rel.tup1 {b : Addr} {xs : List V} (r : Rel K F Hb H m) (h : H b = some (.tup xs)) : ∃ Hb', Same Hb Hb' ∧ Rel K F Hb' H m ∧ Hb' b = some (.tup xs) := by
  cases e : Hb b with
  | some o =>
    have := r.sub b o e
    rw [h] at this
    cases this
    exact ⟨Hb, Same.refl _, r, e⟩
  | none =>
    refine ⟨upd Hb b (.tup xs), Same.new e, ⟨fun c u ec => ?_, fun c o ec => ?_, fun c mo ec => ?_, r.nt⟩, upd_same⟩
    · by_cases hc : c = b
      · subst hc
        rw [upd_same] at ec
        rw [h]
        exact ec
      · rw [upd_ne hc] at ec
        exact r.sub c u ec
    · have hc : c ≠ b := fun z => by
        subst z
        have := (r.fr c o ec).1
        rw [h] at this
        cases this
        exact r.nt c xs ec
      obtain ⟨f1, f2, f3⟩ := r.fr c o ec
      exact ⟨f1, by rw [upd_ne hc]; exact f2, f3⟩
    · obtain ⟨o1, o2⟩ := r.own c mo ec
      have hc : c ≠ b := fun z => by
        subst z
        cases mo with
        | lst ds =>
          obtain ⟨vs, q, _⟩ := o2
          rw [h] at q
          cases q
        | ins C ns ds =>
          obtain ⟨dx, vs, q, _⟩ := o2
          rw [h] at q
          cases q
        | dK ks ds =>
          obtain ⟨vs, q, _⟩ := o2
          rw [h] at q
          cases q
        | dT ks ds =>
          obtain ⟨vs, q, _⟩ := o2
          rw [h] at q
          cases q
        | stm c =>
          obtain ⟨s1, s2, s3, q, _⟩ := o2
          rw [h] at q
          cases q
        | cel =>
          obtain ⟨ns, q, _⟩ := o2
          rw [h] at q
          cases q
        | gen φ =>
          obtain ⟨o, Hc, q, _, _, no⟩ := o2
          rw [h] at q
          exact no xs (Option.some.inj q).symm
      exact ⟨by rw [upd_ne hc]; exact o1, o2.mono (Same.new e) rfl (Nat.le_refl _)⟩
theorem Rel.tups : ∀ {zs : List (Addr × List Str)} {Hb : Hp}, Rel K F Hb H m → (∀ z ∈ zs, H z.1 = some (.tup (z.2.map V.str))) → ∃ Hb', Same Hb Hb' ∧ Rel K F Hb' H m ∧ ∀ z ∈ zs, Hb' z.1 = some (.tup (z.2.map V.str))
  | [], Hb, r, _ => ⟨Hb, Same.refl _, r, fun z hz => by cases hz⟩
  | z :: zs, Hb, r, h => by
    obtain ⟨Hb1, e1, r1, h1⟩ := r.tup1 (h z List.mem_cons_self)
    obtain ⟨Hb2, e2, r2, h2⟩ := Rel.tups r1 fun y hy => h y (List.mem_cons_of_mem _ hy)
    refine ⟨Hb2, e1.trans e2, r2, fun y hy => ?_⟩
    rcases List.mem_cons.mp hy with e | hy
    · subst e
      exact e2 _ _ h1
    · exact h2 y hy
theorem wc_sortedT {a : Addr} {ks : List (List Str)} {ds : List D} {Q : QD} (ho : m.own a = some (.dT ks ds)) (h0 : ∃ r, ks = [] :: r) (q : Q (.lst ((sortT ks).map D.pl)) m) : WC K F B rSortedT [.s (.ref a)] m Q := fun Hb H vs R hB r hx k => by
  obtain ⟨v, rfl, hv⟩ := rpL1 hx
  unfold Rp at hv
  subst hv
  obtain ⟨hn, vs, h1, h2, h3⟩ := r.own a _ ho
  refine ⟨a, ks, vs, rfl, .inl h1, by rw [h3, h2.length], h0, fun p zs hp hperm hsrt ht => ?_⟩
  have e : zs.map (·.2) = sortT ks := perm_srt pLt_anti (hperm.trans (sortT_perm ks).symm) hsrt (sortT_srt ks)
  -- every key's tuple is data
  obtain ⟨Hb2, e2, r2, htb⟩ := r.tups ht
  refine k _ _ _ (.lst ((sortT ks).map D.pl)) _ (e2.trans (Same.new (r2.fresh hp))) (r2.data hp) ?_ q
  have hl : RpL K Hb2 ((zs.map (·.2)).map D.pl) (zs.map fun z => V.ref z.1) := by
    have : ∀ zs : List (Addr × List Str), (∀ z ∈ zs, Hb2 z.1 = some (.tup (z.2.map V.str))) → RpL K Hb2 ((zs.map (·.2)).map D.pl) (zs.map fun z => V.ref z.1) := by
      intro zs
      induction zs with
      | nil => intro _; exact RpL.nil
      | cons z zs ih =>
        intro h
        refine RpL.cons ?_ (ih fun y hy => h y (List.mem_cons_of_mem _ hy))
        unfold Rp
        exact ⟨z.1, rfl, h z List.mem_cons_self⟩
    exact this zs htb
  rw [← e]
  unfold Rp
  exact ⟨p, _, rfl, upd_same, hl.mono (Same.new (r2.fresh hp))⟩
/-! ### o.m(e, .., k = v, ..) -/
theorem we_methN {C : Addr} {f : Str} {n l : Nat} {φ : Phi} {te : TE} {ta tk : TA} {g : List V → List V → List V} {gd : List D → List D → List D} {Q : QD} (hE : OkX K F B X E)
    (hg : ∀ {Hb : Hp} {ds es : List D} {vs zs : List V}, Same B Hb → RpL K Hb ds vs → RpL K Hb es zs → RpL K Hb (gd ds es) (g vs zs))
    (h : WE K F B te ρ m fun x m1 => Recv m1 C f x ∧ WA K F B ta ρ m1 fun ds m2 => WA K F B tk ρ m2 fun es m3 => ds.length = n ∧ es.length = l ∧ φ (gd (x :: ds) es) m3 Q X) :
    WE K F B (tMethN C f n l (spOf K φ) g E te ta tk) ρ m Q := fun Hb H σ R hB r hs k =>
  h Hb H σ _ hB r hs fun v H1 Hb1 x m1 e1 r1 hx q1 => by
    obtain ⟨a, dx, fs, rfl, h1, h2⟩ := q1.1.at r1 hx
    exact ⟨a, dx, fs, rfl, h1, h2, q1.2 Hb1 H1 σ _ (hB.trans e1) r1 (hs.mono e1) fun vs H2 Hb2 ds m2 e2 r2 hxs q2 => q2 Hb2 H2 σ _ ((hB.trans e1).trans e2) r2 ((hs.mono e1).mono e2) fun zs H3 Hb3 es m3 e3 r3 hzs q3 =>
      ⟨by rw [hxs.length]; exact q3.1, by rw [hzs.length]; exact q3.2.1, _, m3, F, Hb3, Q, X, hg (((hB.trans e1).trans e2).trans e3) (RpL.cons ((hx.mono e2).mono e3) (hxs.mono e3)) hzs, r3, q3.2.2, k.mono ((e1.trans e2).trans e3), hE.mono (((hB.trans e1).trans e2).trans e3)⟩⟩
/-- o.f as a target, o owned -/
theorem wg_fld {to : TE} {f : Str} {x : D} {Q : Env → Mem → Prop} (h : WE K F B to ρ m fun o m1 => ∃ a C ns ds, o = .s (.ref a) ∧ m1.own a = some (.ins C ns ds) ∧ Cls K C ∧ NoAttr K C f ∧ ns.length < 1000 ∧
    Q ρ { m1 with own := putM m1.own a (.ins C (putN f ns) (putE f x ns ds)) }) : WG K F B (gFld K to f) x ρ m Q := fun Hb H σ v R hB r hs hx k =>
  h Hb H σ _ hB r hs fun o H1 Hb1 od m1 e1 r1 ho q1 => by
    obtain ⟨a, C, ns, ds, rfl, hown, c, n, hl, q⟩ := q1
    unfold Rp at ho
    subst ho
    obtain ⟨h0, dx, vs, h1, h2, h3⟩ := r1.own a _ hown
    refine ⟨a, C, dx, _, rfl, h1, c, n, ?_, ?_⟩
    · rw [List.length_zip]
      omega
    · refine k _ _ _ _ _ e1 (r1.change (mo' := .ins C (putN f ns) (putE f x ns ds)) hown ⟨dx, putE f v ns vs, ?_, h2.put (hx.mono e1) h3, put_len h3⟩) (hs.mono e1) q
      rw [upd_same, putF_zip f v ns vs (by rw [h3, h2.length])]
end
section
variable {P : Program} {w : World} {K : PySem.W.Frag} {mg : Str → Option Value} {base : Heap}
theorem ok_DK {CX : CXT} {x qual : Str} {st : Stmt} {dvs : List V} {kws : List (Str × V)} {f : Addr} {fd : FuncData} {N ps : List Str} {k : Nat} {φ : Phi} (F : FunD K x qual (defArgs st) (defBody st) (defScope st) dvs kws f fd) (S : FnScope N ps (defScope st)) (hl : ∀ ds m nx X, φ ds m nx X → ds.length = ps.length)
    (hbody : ∀ (cdv : Value) (A : Around) (outer : List PySem.Env) (s : Shared) (H : Hp) (E : XK), Room k (A.deeper (envOfC qual (defScope st) s.heap.objs.size f cdv)) →
      ∃ t, PSs (cxOf CX P w K mg base N qual (defScope st) f cdv A outer s H E) (defBody st) t ∧ BodyOk K φ N E t) : FnOk P w K mg base CX (k + 1) f fd ps (spOf K φ) := by
  refine F.ok S (spOf_len hl) fun cdv A outer s H vs Q E hr h => ?_
  obtain ⟨ds, m, F', Hb, nx, X, h1, h2, h3, h4, h5⟩ := h
  obtain ⟨t, ht, hw⟩ := hbody cdv A outer s H E hr
  exact ⟨t, ht, hw ds m nx X F' Hb h3 h5 Hb H _ _ (Same.refl _) h2 (RpS.start h1) ⟨fun σ H' Hb' ρ m' e r hs q => h4 _ _ _ _ _ e r rp_s q, h4, fun _ _ _ _ _ _ _ _ z => z.elim, fun _ _ _ _ _ _ _ _ z => z.elim⟩⟩
end
/-! ### one thing, told in another way -/
def Coarse (x y : D) : Prop := ∀ (K : PySem.W.Frag) (H : Hp) (v : V), Rp K H x v → Rp K H y v
def CoarseL (xs ys : List D) : Prop := ∀ (K : PySem.W.Frag) (H : Hp) (vs : List V), RpL K H xs vs → RpL K H ys vs
theorem Coarse.refl (x : D) : Coarse x x := fun _ _ _ h => h
theorem CoarseL.nil : CoarseL [] [] := fun _ _ _ h => h
theorem CoarseL.cons {x y : D} {xs ys : List D} (h : Coarse x y) (t : CoarseL xs ys) : CoarseL (x :: xs) (y :: ys) := fun K H vs r => by
  unfold RpL at r ⊢
  obtain ⟨v, us, e, r1, r2⟩ := r
  exact ⟨v, us, e, h K H v r1, t K H us r2⟩
theorem Coarse.lst {xs ys : List D} (h : CoarseL xs ys) : Coarse (.lst xs) (.lst ys) := fun K H v r => by
  unfold Rp at r ⊢
  obtain ⟨p, vs, e, h1, h2⟩ := r
  exact ⟨p, vs, e, h1, h K H vs h2⟩
theorem Coarse.tup {xs ys : List D} (h : CoarseL xs ys) : Coarse (.tup xs) (.tup ys) := fun K H v r => by
  unfold Rp at r ⊢
  obtain ⟨p, vs, e, h1, h2⟩ := r
  exact ⟨p, vs, e, h1, h K H vs h2⟩
abbrev plD (ns : List Str) : D := .tup ((ns.map V.str).map D.s)
theorem Coarse.tx {d : D} {ns : List Str} (h : TxT d ns) : Coarse d (plD ns) := fun K H v r => by
  obtain ⟨b, rfl, hb⟩ := h.rp r
  unfold Rp
  exact ⟨b, _, rfl, hb, RpL.ofScal _⟩
theorem CoarseL.pls {ds : List D} {nss : List (List Str)} (h : PlL ds nss) : CoarseL ds (nss.map plD) := by
  induction h with
  | nil => exact .nil
  | cons h t ih => exact .cons (.tx h) ih
section
variable {K : PySem.W.Frag} {B F Hb H : Hp} {m : Mem} {ρ : DD.Env} {E : XK} {X : XD}
theorem we_coarse {te : TE} {Q' Q : QD} (h : WE K F B te ρ m Q') (hq : ∀ d m', Q' d m' → ∃ y, Coarse d y ∧ Q y m') : WE K F B te ρ m Q := fun Hb H σ R hB r hs k =>
  h Hb H σ R hB r hs fun v H' Hb' d m' e r' hd q => by
    obtain ⟨y, c, q2⟩ := hq d m' q
    exact k v H' Hb' y m' e r' (c K Hb' v hd) q2
end
end DD

/-! PWalk: trees and walks, the pure theory. -/
namespace My
open PySem L2 DD HP1
open PySem.Spec PyProof.Rows
abbrev Place := List Str
structure Th where
  kind : Str
  wr : Option Str
abbrev Tr := List (Place × Th)
def look : Tr → Place → Option Th
  | [], _ => none
  | e :: tr, p => if e.1 = p then some e.2 else look tr p
abbrev keysT (tr : Tr) : List Place := tr.map (·.1)
abbrev kindT (tr : Tr) (p : Place) : Option Str := (look tr p).map (·.kind)
def ThOk (U : List Str) (t : Th) : Prop := (t.kind = "link" ∧ ∃ w, t.wr = some w ∧ DT.isPath w = true ∧ w.length ≤ 1000 ∧ ∀ s ∈ DT.steps w, s = "." ∨ s = ".." ∨ s ∈ U) ∨ ((t.kind = "folder" ∨ t.kind = "file") ∧ t.wr = none)
structure OkTr (U : List Str) (tr : Tr) : Prop where
  root : ∃ r, tr = ([], ⟨"folder", none⟩) :: r
  nd : (keysT tr).Nodup
  few : tr.length ≤ 100
  each : ∀ e ∈ tr, e.1.length ≤ 40 ∧ (∀ n ∈ e.1, DT.isName n = true) ∧ ThOk U e.2
  ul : U.length ≤ 100
  un : ∀ u ∈ U, DT.isName u = true
def HereOk (tr : Tr) (h : Place) : Prop := ∃ k ∈ keysT tr, h <+: k
abbrev linksT (tr : Tr) : List Place := (tr.filter fun e => decide (e.2.kind = ("link" : Str))).map (·.1)
/-- what a walk holds -/
structure WSt where
  sought : List Place
  outs : List (Place × Option Place × Option Str)
  word : Option Str
  done : Nat
def outAt : List (Place × Option Place × Option Str) → Place → Option (Option Place × Option Str)
  | [], _ => none
  | e :: r, p => if e.1 = p then some e.2 else outAt r p
def stepM (tr : Tr) (fol : Place → List Place → WSt → Option Place × WSt) (here : Place) (st : Str) (keeps : Bool) (opn : List Place) (s : WSt) : Option Place × WSt :=
  if kindT tr here ≠ some "folder" then (none, { s with word := some "file" })
  else if st = "." then (some here, s)
  else if st = ".." then (some here.dropLast, s)
  else
    let s1 : WSt := if here ++ [st] ∈ s.sought then s else { s with sought := s.sought ++ [here ++ [st]] }
    match kindT tr (here ++ [st]) with
    | none => (none, { s1 with word := some "lacking" })
    | some k => if k ≠ "link" ∨ keeps = true then (some (here ++ [st]), s1) else fol (here ++ [st]) opn s1
def goesL (stp : Place → Str → Bool → WSt → Option Place × WSt) (keepAt : Nat → Bool) : Nat → List Str → Place → WSt → Option Place × WSt
  | _, [], here, s => (some here, s)
  | k, st :: r, here, s => match stp here st (keepAt k) s with
    | (none, s') => (none, { s' with done := k })
    | (some h, s') => goesL stp keepAt (k + 1) r h s'
def goesE (tr : Tr) (p : Str) : Option Place × WSt → Option Place × WSt
  | (none, s) => (none, s)
  | (some h, s) => if DT.ended p = true ∧ kindT tr h ≠ some "folder" then (none, { s with word := some "file", done := (DT.steps p).length }) else (some h, s)
def keepAt (p : Str) (itself : Bool) (k : Nat) : Bool := itself && !DT.ended p && decide (k + 1 = (DT.steps p).length)
def goesB (tr : Tr) (stp : Place → Str → Bool → List Place → WSt → Option Place × WSt) (p : Str) (place : Place) (itself : Bool) (opn : List Place) (s : WSt) : Option Place × WSt :=
  goesE tr p (goesL (fun h st kp s => stp h st kp opn s) (keepAt p itself) 0 (DT.steps p) (if DT.rooted p = true then [] else place) s)
def folM (tr : Tr) : Nat → Place → List Place → WSt → Option Place × WSt
  | n, link, opn, s => if link ∈ opn then (none, { s with word := some "ring" }) else
    match outAt s.outs link with
    | some e => (e.1, { s with word := e.2 })
    | none => match n with
      | 0 => (none, s)
      | n + 1 => match (look tr link).bind (·.wr) with
        | none => (none, s)
        | some p =>
          let r := goesB tr (stepM tr (folM tr n)) p link.dropLast false (opn ++ [link]) s
          (r.1, { r.2 with outs := r.2.outs ++ [(link, r.1, r.2.word)] })
abbrev goesM (tr : Tr) (n : Nat) := goesB tr (stepM tr (folM tr n))
structure OkS (U : List Str) (tr : Tr) (s : WSt) : Prop where
  snd : s.sought.Nodup
  sin : ∀ q ∈ s.sought, ∃ k ∈ keysT tr, ∃ u ∈ U, q = k ++ [u]
  ond : (s.outs.map (·.1)).Nodup
  oin : ∀ o ∈ s.outs, o.1 ∈ linksT tr ∧ ∀ p, o.2.1 = some p → HereOk tr p
def PathOk (U : List Str) (p : Str) : Prop := DT.isPath p = true ∧ p.length ≤ 1000 ∧ ∀ s ∈ DT.steps p, s = "." ∨ s = ".." ∨ s ∈ U
structure OpnOk (tr : Tr) (n : Nat) (opn : List Place) : Prop where
  nd : opn.Nodup
  sub : ∀ l ∈ opn, l ∈ linksT tr
  fuel : (linksT tr).length ≤ n + opn.length
/-- a tree with one thing more -/
def DeedOk (U : List Str) (tr : Tr) (ns : Place) : Prop := OkTr U tr ∧ tr.length < 100 ∧ ns ≠ [] ∧ ns.length ≤ 40 ∧ (∀ n ∈ ns, DT.isName n = true) ∧ kindT tr ns.dropLast = some "folder" ∧ look tr ns = none
def st0 : WSt := ⟨[], [], none, 0⟩
/-- the walk without what is kept (as the law's own walk) -/
def folF (tr : Tr) : Nat → Place → List Place → WSt → Option Place × WSt
  | n, link, opn, s => if link ∈ opn then (none, { s with word := some "ring" }) else
    match n with
    | 0 => (none, s)
    | n + 1 => match (look tr link).bind (·.wr) with
      | none => (none, s)
      | some p => goesB tr (stepM tr (folF tr n)) p link.dropLast false (opn ++ [link]) s
abbrev goesF (tr : Tr) (n : Nat) := goesB tr (stepM tr (folF tr n))
/-- what is not the root lies in a folder -/
def Closed (tr : Tr) : Prop := ∀ e ∈ tr, e.1 ≠ [] → kindT tr e.1.dropLast = some "folder"
theorem look_app1 (tr : Tr) (ns q : Place) (th : Th) : look (tr ++ [(ns, th)]) q = match look tr q with | some t => some t | none => if ns = q then some th else none := by
  induction tr with
  | nil =>
    show (if ns = q then some th else none) = _
    rfl
  | cons e tr ih =>
    show (if e.1 = q then some e.2 else look (tr ++ [(ns, th)]) q) = match (if e.1 = q then some e.2 else look tr q) with | some t => some t | none => if ns = q then some th else none
    by_cases h : e.1 = q
    · rw [if_pos h, if_pos h]
    · rw [if_neg h, if_neg h, ih]
theorem look_mem : ∀ {tr : Tr} {p : Place} {th : Th}, look tr p = some th → (p, th) ∈ tr
  | e :: tr, p, th, h => by
    unfold look at h
    by_cases he : e.1 = p
    · rw [if_pos he] at h
      cases h
      rw [← he]
      exact List.mem_cons_self
    · rw [if_neg he] at h
      exact List.mem_cons_of_mem _ (look_mem h)
theorem kind_mem {tr : Tr} {p : Place} {k : Str} (h : kindT tr p = some k) : ∃ th, look tr p = some th ∧ th.kind = k ∧ (p, th) ∈ tr := by
  cases e : look tr p with
  | none =>
    have h' : (look tr p).map (·.kind) = some k := h
    rw [e] at h'
    cases h'
  | some th =>
    have h' : (look tr p).map (·.kind) = some k := h
    rw [e] at h'
    exact ⟨th, rfl, Option.some.inj h', look_mem e⟩
theorem hereOk_of {tr : Tr} {p : Place} {k : Str} (h : kindT tr p = some k) : HereOk tr p := by
  obtain ⟨th, _, _, hm⟩ := kind_mem h
  exact ⟨p, List.mem_map_of_mem hm, List.prefix_refl _⟩
theorem HereOk.names {U : List Str} {tr : Tr} {h : Place} (x : HereOk tr h) (ok : OkTr U tr) : h.length ≤ 40 ∧ ∀ n ∈ h, DT.isName n = true := by
  obtain ⟨k, hk, hp⟩ := x
  obtain ⟨e, he, rfl⟩ := List.mem_map.mp hk
  obtain ⟨a1, a2, _⟩ := ok.each e he
  exact ⟨Nat.le_trans hp.length_le a1, fun n hn => a2 n (hp.subset hn)⟩
theorem HereOk.last {tr : Tr} {h : Place} (x : HereOk tr h) : HereOk tr h.dropLast := by
  obtain ⟨k, hk, hp⟩ := x
  exact ⟨k, hk, (List.dropLast_prefix h).trans hp⟩
theorem HereOk.root {U : List Str} {tr : Tr} (ok : OkTr U tr) : HereOk tr [] := by
  obtain ⟨r, e⟩ := ok.root
  exact ⟨[], by rw [e]; exact List.mem_cons_self, List.prefix_refl _⟩
theorem OkS.w {U : List Str} {tr : Tr} {s : WSt} (x : OkS U tr s) (v : Option Str) (k : Nat) : OkS U tr { s with word := v, done := k } := ⟨x.snd, x.sin, x.ond, x.oin⟩
theorem OkS.len {U : List Str} {tr : Tr} {s : WSt} (x : OkS U tr s) (ok : OkTr U tr) : s.sought.length ≤ 10000 := by
  have h := len_le_of_sub (xs := s.sought) (ys := (keysT tr).flatMap fun k => U.map fun u => k ++ [u]) x.snd fun q hq => by
    obtain ⟨k, hk, u, hu, rfl⟩ := x.sin q hq
    exact List.mem_flatMap.mpr ⟨k, hk, List.mem_map.mpr ⟨u, hu, rfl⟩⟩
  have e : ∀ ks : List Place, (ks.flatMap fun k => U.map fun u => k ++ [u]).length = ks.length * U.length := by
    intro ks
    induction ks with
    | nil => simp
    | cons k ks ih =>
      rw [List.flatMap_cons, List.length_append, ih, List.length_map, List.length_cons, Nat.succ_mul]
      omega
  rw [e, List.length_map] at h
  exact Nat.le_trans h (Nat.le_trans (Nat.mul_le_mul ok.few ok.ul) (by decide))
theorem OkS.names {U : List Str} {tr : Tr} {s : WSt} (x : OkS U tr s) (ok : OkTr U tr) : ∀ q ∈ s.sought, ∀ n ∈ q, DT.isName n = true := fun q hq n hn' => by
  obtain ⟨k, hk, u, hu, rfl⟩ := x.sin q hq
  rcases List.mem_append.mp hn' with z | z
  · obtain ⟨e, he, rfl⟩ := List.mem_map.mp hk
    exact (ok.each e he).2.1 n z
  · rw [List.mem_singleton.mp z]
    exact ok.un u hu
theorem links_key {tr : Tr} {l : Place} (h : l ∈ linksT tr) : l ∈ keysT tr := by
  obtain ⟨e, he, rfl⟩ := List.mem_map.mp h
  exact List.mem_map_of_mem (List.mem_filter.mp he).1
theorem look_of_mem : ∀ {tr : Tr} {e : Place × Th}, (keysT tr).Nodup → e ∈ tr → look tr e.1 = some e.2
  | x :: tr, e, hn, he => by
    obtain ⟨n1, n2⟩ := List.nodup_cons.mp (show (x.1 :: keysT tr).Nodup from hn)
    unfold look
    rcases List.mem_cons.mp he with z | z
    · subst z
      rw [if_pos rfl]
    · rw [if_neg, look_of_mem n2 z]
      intro q
      exact n1 (by rw [q]; exact List.mem_map_of_mem z)
theorem link_th {U : List Str} {tr : Tr} {l : Place} (ok : OkTr U tr) (h : l ∈ linksT tr) : ∃ p, look tr l = some ⟨"link", some p⟩ ∧ PathOk U p := by
  obtain ⟨e, he, rfl⟩ := List.mem_map.mp h
  obtain ⟨h1, h2⟩ := List.mem_filter.mp he
  have hk : e.2.kind = "link" := of_decide_eq_true h2
  obtain ⟨_, _, ht⟩ := ok.each e h1
  rcases ht with ⟨_, w, hw, a, b, c⟩ | ⟨hk2, _⟩
  · refine ⟨w, ?_, a, b, c⟩
    rw [look_of_mem ok.nd h1]
    obtain ⟨e1, ⟨k, wr⟩⟩ := e
    cases hk
    cases hw
    rfl
  · rw [hk] at hk2
    rcases hk2 with z | z <;> exact absurd z (by decide)
theorem kind_link {tr : Tr} {l : Place} (h : kindT tr l = some "link") : l ∈ linksT tr := by
  obtain ⟨th, _, hk, hm⟩ := kind_mem h
  exact List.mem_map.mpr ⟨(l, th), List.mem_filter.mpr ⟨hm, decide_eq_true hk⟩, rfl⟩
theorem outAt_snoc {os : List (Place × Option Place × Option Str)} {l : Place} {e : Option Place × Option Str} (h : l ∉ os.map (·.1)) : outAt (os ++ [(l, e)]) l = some e := by
  induction os with
  | nil => exact if_pos rfl
  | cons o os ih =>
    rw [List.map_cons] at h
    have h1 : ¬ o.1 = l := fun z => h (by rw [z]; exact List.mem_cons_self)
    show (if o.1 = l then some o.2 else outAt (os ++ [(l, e)]) l) = _
    rw [if_neg h1, ih fun z => h (List.mem_cons_of_mem _ z)]
theorem outAt_none {os : List (Place × Option Place × Option Str)} {l : Place} : outAt os l = none ↔ l ∉ os.map (·.1) := by
  induction os with
  | nil => exact ⟨fun _ => List.not_mem_nil, fun _ => rfl⟩
  | cons o os ih =>
    show (if o.1 = l then some o.2 else outAt os l) = none ↔ _
    rw [List.map_cons, List.mem_cons]
    by_cases h : o.1 = l
    · rw [if_pos h]
      exact ⟨fun z => (nomatch z), fun z => absurd (Or.inl h.symm) z⟩
    · rw [if_neg h, ih]
      exact ⟨fun z y => y.elim (fun e => h e.symm) z, fun z y => z (.inr y)⟩
theorem outAt_mem {os : List (Place × Option Place × Option Str)} {l : Place} {e : Option Place × Option Str} : outAt os l = some e → (l, e) ∈ os := by
  induction os with
  | nil => intro h; exact (nomatch (show (none : Option (Option Place × Option Str)) = some e from h))
  | cons o os ih =>
    intro h
    have h' : (if o.1 = l then some o.2 else outAt os l) = some e := h
    by_cases ho : o.1 = l
    · rw [if_pos ho] at h'
      cases h'
      rw [← ho]
      exact List.mem_cons_self
    · rw [if_neg ho] at h'
      exact List.mem_cons_of_mem _ (ih h')
theorem links_few {U : List Str} {tr : Tr} (ok : OkTr U tr) : (linksT tr).length ≤ 100 := by
  rw [List.length_map]
  exact Nat.le_trans (List.length_filter_le _ _) ok.few
theorem links_nd {U : List Str} {tr : Tr} (ok : OkTr U tr) : (linksT tr).Nodup := by
  have := ok.nd
  unfold keysT at this
  exact (List.filter_sublist.map _).nodup this
theorem key_names {U : List Str} {tr : Tr} {l : Place} (ok : OkTr U tr) (h : l ∈ keysT tr) : l.length ≤ 40 ∧ ∀ n ∈ l, DT.isName n = true := by
  obtain ⟨e, he, rfl⟩ := List.mem_map.mp h
  obtain ⟨a, b, _⟩ := ok.each e he
  exact ⟨a, b⟩
theorem opn_more {tr : Tr} {n : Nat} {opn : List Place} {link : Place} (h : OpnOk tr (n + 1) opn) (hl : link ∈ linksT tr) (hn : link ∉ opn) : OpnOk tr n (opn ++ [link]) := by
  refine ⟨List.nodup_append.mpr ⟨h.nd, by simp, fun a ha b hb e => hn ?_⟩, fun l hl' => ?_, ?_⟩
  · rw [List.mem_singleton.mp hb] at e
    rw [← e]
    exact ha
  · rcases List.mem_append.mp hl' with z | z
    · exact h.sub l z
    · rw [List.mem_singleton.mp z]
      exact hl
  · have := h.fuel
    rw [List.length_append, List.length_singleton]
    omega
theorem opn_zero {tr : Tr} {opn : List Place} {link : Place} (h : OpnOk tr 0 opn) (hl : link ∈ linksT tr) (hn : link ∉ opn) : False := by
  have h1 := len_le_of_sub (xs := opn ++ [link]) (ys := linksT tr) (List.nodup_append.mpr ⟨h.nd, by simp, fun a ha b hb e => hn (by rw [List.mem_singleton.mp hb] at e; rw [← e]; exact ha)⟩) fun x hx => by
    rcases List.mem_append.mp hx with z | z
    · exact h.sub x z
    · rw [List.mem_singleton.mp z]
      exact hl
  have h2 := h.fuel
  rw [List.length_append, List.length_singleton] at h1
  omega
theorem pLt_snoc (q : Place) (x : Str) : pLt q (q ++ [x]) = true := by
  unfold pLt cpsT
  rw [List.map_append]
  have : ∀ l : List (List Nat), tlt l (l ++ [x.cps.toList]) = true := by
    intro l
    induction l with
    | nil => rfl
    | cons a l ih => exact (PyProof.Rows.lex_self (O := txtOrd) a l _).trans ih
  exact this _
theorem DeedOk.more {U : List Str} {tr : Tr} {ns : Place} {th : Th} (d : DeedOk U tr ns) (ht : ThOk U th) : OkTr U (tr ++ [(ns, th)]) := by
  obtain ⟨ok, hlt, h0, hl, hn, hk, hno⟩ := d
  obtain ⟨r, er⟩ := ok.root
  refine ⟨⟨r ++ [(ns, th)], by rw [er]; rfl⟩, ?_, ?_, fun e he => ?_, ok.ul, ok.un⟩
  · show ((tr ++ [(ns, th)]).map (·.1)).Nodup
    rw [List.map_append]
    refine List.nodup_append.mpr ⟨ok.nd, by simp, fun a ha b hb e => ?_⟩
    have eb : b = ns := by simpa using hb
    obtain ⟨x, hx, ex⟩ := List.mem_map.mp ha
    have := look_of_mem ok.nd hx
    rw [ex, e, eb, hno] at this
    cases this
  · rw [List.length_append, List.length_singleton]
    omega
  · rcases List.mem_append.mp he with z | z
    · exact ok.each e z
    · rw [List.mem_singleton.mp z]
      exact ⟨hl, hn, ht⟩
theorem look_list (tr : Tr) (f : Th) : ∀ (l : List Place) (p : Place), (∀ k ∈ l, look tr k ≠ none) → look (l.map fun k => (k, (look tr k).getD f)) p = if p ∈ l then look tr p else none
  | [], p, _ => by
    rw [if_neg List.not_mem_nil]
    rfl
  | k :: l, p, h => by
    show (if k = p then some ((look tr k).getD f) else look (l.map fun k => (k, (look tr k).getD f)) p) = _
    rw [look_list tr f l p fun x hx => h x (List.mem_cons_of_mem _ hx)]
    by_cases e : k = p
    · subst e
      rw [if_pos rfl, if_pos List.mem_cons_self]
      cases z : look tr k with
      | none => exact absurd z (h k List.mem_cons_self)
      | some x => rfl
    · rw [if_neg e]
      by_cases e2 : p ∈ l
      · rw [if_pos e2, if_pos (List.mem_cons_of_mem _ e2)]
      · rw [if_neg e2, if_neg fun z => (List.mem_cons.mp z).elim (fun y => e y.symm) e2]
abbrev upK (tr : Tr) : List Place := (sortT (keysT tr)).filter fun k => !decide (k = [])
abbrev gT (tr : Tr) (k : Place) : Place × Th := (k, (look tr k).getD ⟨"folder", none⟩)
def upTr (tr : Tr) (i : Nat) : Tr := ([], ⟨"folder", none⟩) :: ((upK tr).take i).map (gT tr)
theorem upK_mem {tr : Tr} {k : Place} : k ∈ upK tr ↔ k ∈ keysT tr ∧ k ≠ [] := by
  unfold upK
  rw [List.mem_filter, (sortT_perm _).mem_iff]
  simp
theorem upK_nd {U : List Str} {tr : Tr} (ok : OkTr U tr) : (upK tr).Nodup := ((sortT_perm _).nodup_iff.mpr ok.nd).filter _
theorem key_look {tr : Tr} {k : Place} (h : k ∈ keysT tr) : look tr k ≠ none := by
  intro z
  induction tr with
  | nil => cases h
  | cons e tr ih =>
    have z' : (if e.1 = k then some e.2 else look tr k) = none := z
    by_cases he : e.1 = k
    · rw [if_pos he] at z'
      cases z'
    · rw [if_neg he] at z'
      rcases List.mem_cons.mp (show k ∈ e.1 :: keysT tr from h) with y | y
      · exact he y.symm
      · exact ih y z'
theorem root_look {U : List Str} {tr : Tr} (ok : OkTr U tr) : look tr [] = some ⟨"folder", none⟩ := by
  obtain ⟨r, e⟩ := ok.root
  rw [e]
  rfl
theorem upTr_look {U : List Str} {tr : Tr} (ok : OkTr U tr) (i : Nat) (p : Place) : look (upTr tr i) p = if p = [] ∨ p ∈ (upK tr).take i then look tr p else none := by
  show (if ([] : Place) = p then some (⟨"folder", none⟩ : Th) else look (((upK tr).take i).map (gT tr)) p) = _
  rw [look_list tr ⟨"folder", none⟩ _ p fun k hk => key_look (upK_mem.mp (List.mem_of_mem_take hk)).1]
  by_cases e : p = []
  · subst e
    rw [if_pos rfl, if_pos (.inl rfl), root_look ok]
  · rw [if_neg (Ne.symm e)]
    by_cases e2 : p ∈ (upK tr).take i
    · rw [if_pos e2, if_pos (.inr e2)]
    · rw [if_neg e2, if_neg fun z => z.elim e e2]
theorem upK_len {U : List Str} {tr : Tr} (ok : OkTr U tr) : (upK tr).length + 1 ≤ tr.length := by
  have h := len_le_of_sub (xs := [] :: upK tr) (ys := keysT tr) (List.nodup_cons.mpr ⟨fun z => (upK_mem.mp z).2 rfl, upK_nd ok⟩) fun x hx => by
    rcases List.mem_cons.mp hx with e | e
    · obtain ⟨r, er⟩ := ok.root
      rw [e, er]
      exact List.mem_cons_self
    · exact (upK_mem.mp e).1
  rw [List.length_map] at h
  exact h
theorem upTr_ok {U : List Str} {tr : Tr} (ok : OkTr U tr) (i : Nat) : OkTr U (upTr tr i) := by
  refine ⟨⟨_, rfl⟩, ?_, ?_, fun e he => ?_, ok.ul, ok.un⟩
  · show ([] :: (((upK tr).take i).map (gT tr)).map (·.1)).Nodup
    rw [List.map_map, show ((·.1) ∘ gT tr) = id from rfl, List.map_id]
    exact List.nodup_cons.mpr ⟨fun z => (upK_mem.mp (List.mem_of_mem_take z)).2 rfl, (List.take_sublist _ _).nodup (upK_nd ok)⟩
  · show (((upK tr).take i).map (gT tr)).length + 1 ≤ 100
    rw [List.length_map, List.length_take]
    have := upK_len ok
    have := ok.few
    omega
  · rcases List.mem_cons.mp he with z | z
    · rw [z]
      exact ⟨Nat.zero_le _, fun n hn => (nomatch hn), .inr ⟨.inl rfl, rfl⟩⟩
    · obtain ⟨k, hk, ek⟩ := List.mem_map.mp z
      have hk2 := (upK_mem.mp (List.mem_of_mem_take hk)).1
      obtain ⟨x, hx, ex⟩ := List.mem_map.mp hk2
      have hl := look_of_mem ok.nd hx
      rw [ex] at hl
      rw [← ek]
      show k.length ≤ 40 ∧ _ ∧ ThOk U ((look tr k).getD _)
      rw [hl, ← ex]
      exact ok.each x hx
theorem up_deed {U : List Str} {tr : Tr} (ok : OkTr U tr) (cl : Closed tr) {i : Nat} {k : Place} (hk : (upK tr)[i]? = some k) : DeedOk U (upTr tr i) k := by
  obtain ⟨hi, ek⟩ := List.getElem?_eq_some_iff.mp hk
  have hm : k ∈ upK tr := List.mem_of_getElem? hk
  obtain ⟨hk1, hk0⟩ := upK_mem.mp hm
  obtain ⟨x, hx, ex⟩ := List.mem_map.mp hk1
  obtain ⟨a1, a2, _⟩ := ok.each x hx
  rw [ex] at a1 a2
  have nd := upK_nd ok
  have hlt : ∀ j : Nat, (hj : j < (upK tr).length) → (upK tr)[j] ∈ (upK tr).take i → j < i := fun j hj hjm => by
    obtain ⟨j', hj', e⟩ := List.mem_iff_getElem.mp hjm
    rw [List.getElem_take] at e
    rw [List.length_take] at hj'
    have := (List.getElem_inj nd).mp e
    omega
  refine ⟨upTr_ok ok i, ?_, hk0, a1, a2, ?_, ?_⟩
  · show (((upK tr).take i).map (gT tr)).length + 1 < 100
    rw [List.length_map, List.length_take]
    have := upK_len ok
    have := ok.few
    omega
  · have hp := cl x hx (by rw [ex]; exact hk0)
    rw [ex] at hp
    show (look (upTr tr i) k.dropLast).map _ = _
    rw [upTr_look ok, if_pos]
    · exact hp
    · by_cases e0 : k.dropLast = []
      · exact .inl e0
      · refine .inr ?_
        obtain ⟨th, _, _, hmem⟩ := kind_mem hp
        have hq : k.dropLast ∈ upK tr := upK_mem.mpr ⟨List.mem_map_of_mem hmem, e0⟩
        obtain ⟨j, hj, ej⟩ := List.mem_iff_getElem.mp hq
        have hs : (upK tr).Pairwise fun x y => pLt y x = false := (sortT_srt _).filter _
        have hpl : pLt k.dropLast k = true := by
          have e := List.dropLast_concat_getLast hk0
          have := pLt_snoc k.dropLast (k.getLast hk0)
          rw [e] at this
          exact this
        have hne : j ≠ i := fun z => by
          subst z
          have h1 : k.dropLast = k := ej.symm.trans ek
          have h2 := congrArg List.length h1
          rw [List.length_dropLast] at h2
          have h3 := List.length_pos_iff.mpr hk0
          omega
        have hji : j < i := by
          rcases Nat.lt_or_ge j i with y | y
          · exact y
          · have hij : i < j := by omega
            have := List.pairwise_iff_getElem.mp hs i j hi hj hij
            rw [ek, ej, hpl] at this
            cases this
        rw [← ej]
        exact List.mem_iff_getElem.mpr ⟨j, by rw [List.length_take]; omega, List.getElem_take⟩
  · rw [upTr_look ok, if_neg]
    rintro (z | z)
    · exact hk0 z
    · have := hlt i hi (by rw [ek]; exact z)
      omega
theorem upTr_more {tr : Tr} {i : Nat} {k : Place} {th : Th} (hk : (upK tr)[i]? = some k) (ht : look tr k = some th) : upTr tr (i + 1) = upTr tr i ++ [(k, th)] := by
  unfold upTr
  rw [List.take_add_one, hk]
  simp [gT, ht]
theorem upTr_all {U : List Str} {tr : Tr} (ok : OkTr U tr) (p : Place) : look (upTr tr (upK tr).length) p = look tr p := by
  rw [upTr_look ok, List.take_length]
  by_cases e : p = [] ∨ p ∈ upK tr
  · rw [if_pos e]
  · rw [if_neg e]
    cases z : look tr p with
    | none => rfl
    | some th => exact (e (by
      by_cases e0 : p = []
      · exact .inl e0
      · exact .inr (upK_mem.mpr ⟨List.mem_map_of_mem (look_mem z), e0⟩))).elim
theorem links_of_look {U : List Str} {tr tr' : Tr} (ok : OkTr U tr') (h : ∀ p, look tr' p = look tr p) : (linksT tr').length ≤ (linksT tr).length :=
  len_le_of_sub (links_nd ok) fun l hl => by
    obtain ⟨p, e, _⟩ := link_th ok hl
    refine kind_link ?_
    show (look tr l).map _ = _
    rw [← h, e]
    rfl
abbrev keysO (os : List (Place × Option Place × Option Str)) : List Place := os.map (·.1)
def Dis (os : List (Place × Option Place × Option Str)) (opn : List Place) : Prop := ∀ l ∈ keysO os, l ∉ opn
structure Val (tr : Tr) (s : WSt) : Prop where
  each : ∀ l e, outAt s.outs l = some e → ∃ (pl : Place) (p : Str) (W : List Place), e = (some pl, none) ∧ (look tr l).bind (·.wr) = some p ∧ (∀ x ∈ W, x ∈ keysO s.outs) ∧ l ∉ W ∧
    ∀ (n2 : Nat) (O2 : List Place) (s2 : WSt), OpnOk tr n2 O2 → (∀ x ∈ W, x ∉ O2) → (∀ x ∈ s.sought, x ∈ s2.sought) → goesF tr n2 p l.dropLast false O2 s2 = (some pl, s2)
  lk : ∀ l ∈ keysO s.outs, l ∈ linksT tr
structure Le (s s' : WSt) : Prop where
  o : ∀ l ∈ keysO s.outs, l ∈ keysO s'.outs
  q : ∀ x ∈ s.sought, x ∈ s'.sought
theorem Le.refl (s : WSt) : Le s s := ⟨fun _ h => h, fun _ h => h⟩
theorem Le.trans {a b c : WSt} (h : Le a b) (h' : Le b c) : Le a c := ⟨fun l x => h'.o l (h.o l x), fun l x => h'.q l (h.q l x)⟩
theorem Dis.le {s s' : WSt} {O : List Place} (h : Dis s'.outs O) (l : Le s s') : Dis s.outs O := fun x hx => h x (l.o x hx)
def SimR (tr : Tr) (b : Bool) (n : Nat) (opn : List Place) (s sF : WSt) (r : Option Place × WSt) (cF : Nat → List Place → WSt → Option Place × WSt) : Prop :=
  (∀ pl, r.1 = some pl → Val tr r.2 ∧ Dis r.2.outs opn ∧ r.2.word = none ∧ Le s r.2 ∧ cF n opn sF = (some pl, { sF with sought := r.2.sought }) ∧
    ∀ n2 O2 s2, OpnOk tr n2 O2 → Dis r.2.outs O2 → (∀ x ∈ r.2.sought, x ∈ s2.sought) → cF n2 O2 s2 = (some pl, s2)) ∧
  (r.1 = none → ∃ sF', cF n opn sF = (none, sF') ∧ sF'.word = r.2.word ∧ (b = true → sF'.done = r.2.done) ∧ sF'.sought = r.2.sought)
def Sim (tr : Tr) (b : Bool) (n : Nat) (cM : List Place → WSt → Option Place × WSt) (cF : Nat → List Place → WSt → Option Place × WSt) : Prop :=
  ∀ opn s sF, OpnOk tr n opn → Val tr s → Dis s.outs opn → s.word = none → sF.sought = s.sought → SimR tr b n opn s sF (cM opn s) cF
theorem Val.more {tr : Tr} {s s' : WSt} (h : Val tr s) (e : s'.outs = s.outs) (q : ∀ x ∈ s.sought, x ∈ s'.sought) : Val tr s' := by
  refine ⟨fun l x hx => ?_, fun l hl => h.lk l (by rw [e] at hl; exact hl)⟩
  rw [e] at hx
  obtain ⟨pl, p, W, a, b, c, d, f⟩ := h.each l x hx
  exact ⟨pl, p, W, a, b, fun y hy => by rw [e]; exact c y hy, d, fun n2 O2 s2 h1 h2 h3 => f n2 O2 s2 h1 h2 fun y hy => h3 y (q y hy)⟩
theorem st_same {sF : WSt} {q : List Place} (h : sF.sought = q) : ({ sF with sought := q } : WSt) = sF := by
  cases sF
  cases h
  rfl
theorem sim_fol {U : List Str} {tr : Tr} (ok : OkTr U tr) (n : Nat) (hg : ∀ m, n = m + 1 → ∀ p here, Sim tr true m (goesM tr m p here false) fun n2 => goesF tr n2 p here false) {link : Place} (hl : link ∈ linksT tr) :
    Sim tr false n (folM tr n link) fun n2 => folF tr n2 link := by
  intro opn s sF hO hV hD hw hq
  obtain ⟨p, hp, _⟩ := link_th ok hl
  have hbind : (look tr link).bind (·.wr) = some p := by rw [hp]; rfl
  have unF : ∀ n2 O2 s2, OpnOk tr n2 O2 → link ∉ O2 → ∃ m2, n2 = m2 + 1 ∧ OpnOk tr m2 (O2 ++ [link]) ∧ folF tr n2 link O2 s2 = goesF tr m2 p link.dropLast false (O2 ++ [link]) s2 := fun n2 O2 s2 h1 h2 => by
    cases n2 with
    | zero => exact (opn_zero h1 hl h2).elim
    | succ m2 =>
      refine ⟨m2, rfl, opn_more h1 hl h2, ?_⟩
      unfold folF
      rw [if_neg h2, hbind]
  unfold folM
  by_cases hin : link ∈ opn
  · rw [if_pos hin]
    refine ⟨fun pl h => (nomatch h), fun _ => ⟨{ sF with word := some "ring" }, ?_, rfl, (fun z => nomatch z), hq⟩⟩
    show folF tr n link opn sF = _
    unfold folF
    rw [if_pos hin]
  · rw [if_neg hin]
    cases e : outAt s.outs link with
    | some x =>
      obtain ⟨pl, p', W, a, b, c, d, f⟩ := hV.each link x e
      subst a
      rw [hbind] at b
      cases b
      have es : ({ s with word := none } : WSt) = s := by
        cases s
        cases hw
        rfl
      have hk : link ∈ keysO s.outs := List.mem_map_of_mem (outAt_mem e)
      show SimR tr false n opn s sF (some pl, { s with word := none }) _
      rw [es]
      refine ⟨fun pl' h => ?_, fun h => (nomatch h)⟩
      cases h
      refine ⟨hV, hD, hw, Le.refl s, ?_, fun n2 O2 s2 h1 h2 h3 => ?_⟩
      · obtain ⟨m2, rfl, h1, h2⟩ := unF n opn sF hO hin
        show folF tr (m2 + 1) link opn sF = _
        rw [h2, f m2 _ sF h1 (fun y hy z => (List.mem_append.mp z).elim (hD y (c y hy)) fun z => d (by rw [← List.mem_singleton.mp z]; exact hy)) (fun y hy => by rw [hq]; exact hy)]
        show _ = (some pl, ({ sF with sought := s.sought } : WSt))
        rw [st_same hq]
      · obtain ⟨m2, rfl, h4, h5⟩ := unF n2 O2 s2 h1 (h2 link hk)
        show folF tr (m2 + 1) link O2 s2 = _
        rw [h5]
        exact f m2 _ s2 h4 (fun y hy z => (List.mem_append.mp z).elim (h2 y (c y hy)) fun z => d (by rw [← List.mem_singleton.mp z]; exact hy)) h3
    | none =>
      obtain ⟨m, rfl, hO2, hF⟩ := unF n opn sF hO hin
      have hnk : link ∉ keysO s.outs := outAt_none.mp e
      have hD2 : Dis s.outs (opn ++ [link]) := fun y hy z => (List.mem_append.mp z).elim (hD y hy) fun z => hnk (by rw [← List.mem_singleton.mp z]; exact hy)
      obtain ⟨i1, i2⟩ := hg m rfl p link.dropLast (opn ++ [link]) s sF hO2 hV hD2 hw hq
      simp only [hbind]
      have hcM : ∀ g : Option Place × WSt, g = goesM tr m p link.dropLast false (opn ++ [link]) s → SimR tr false (m + 1) opn s sF (g.1, { g.2 with outs := g.2.outs ++ [(link, g.1, g.2.word)] }) fun n2 => folF tr n2 link := fun g hgE => by
        rw [← hgE] at i1 i2
        obtain ⟨ge, gs⟩ := g
        refine ⟨fun pl h => ?_, fun h => ?_⟩
        · have hge : ge = some pl := h
          subst hge
          obtain ⟨a, b, c, d, f, u⟩ := i1 pl rfl
          have c' : gs.word = none := c
          have hnk2 : link ∉ keysO gs.outs := fun z => b link z (List.mem_append_right _ List.mem_cons_self)
          refine ⟨⟨fun l x hx => ?_, fun l hl' => ?_⟩, fun y hy => ?_, c', ⟨fun y hy => ?_, d.q⟩, ?_, fun n2 O2 s2 h1 h2 h3 => ?_⟩
          · by_cases el : l = link
            · subst el
              have hx' : outAt (gs.outs ++ [(l, some pl, gs.word)]) l = some x := hx
              rw [outAt_snoc hnk2] at hx'
              cases hx'
              refine ⟨pl, p, keysO gs.outs, by rw [c'], hbind, fun y hy => ?_, hnk2, fun n2 O2 s2 h1 h2 h3 => u n2 O2 s2 h1 h2 h3⟩
              show y ∈ (gs.outs ++ [(l, some pl, gs.word)]).map (·.1)
              rw [List.map_append]
              exact List.mem_append_left _ hy
            · have hx' : outAt gs.outs l = some x := by
                have : ∀ os : List (Place × Option Place × Option Str), outAt (os ++ [(link, some pl, gs.word)]) l = outAt os l := by
                  intro os
                  induction os with
                  | nil => exact if_neg (Ne.symm el)
                  | cons o os ih =>
                    show (if o.1 = l then some o.2 else outAt (os ++ [(link, some pl, gs.word)]) l) = if o.1 = l then some o.2 else outAt os l
                    rw [ih]
                rw [← this gs.outs]
                exact hx
              obtain ⟨pl', p', W, w1, w2, w3, w4, w5⟩ := a.each l x hx'
              refine ⟨pl', p', W, w1, w2, fun y hy => ?_, w4, w5⟩
              show y ∈ (gs.outs ++ [(link, some pl, gs.word)]).map (·.1)
              rw [List.map_append]
              exact List.mem_append_left _ (w3 y hy)
          · have hl2 : l ∈ (gs.outs ++ [(link, some pl, gs.word)]).map (·.1) := hl'
            rw [List.map_append] at hl2
            rcases List.mem_append.mp hl2 with z | z
            · exact a.lk l z
            · rw [show l = link from by simpa using z]
              exact hl
          · have hy2 : y ∈ (gs.outs ++ [(link, some pl, gs.word)]).map (·.1) := hy
            rw [List.map_append] at hy2
            rcases List.mem_append.mp hy2 with z | z
            · exact fun z2 => b y z (List.mem_append_left _ z2)
            · rw [show y = link from by simpa using z]
              exact hin
          · show y ∈ (gs.outs ++ [(link, some pl, gs.word)]).map (·.1)
            rw [List.map_append]
            exact List.mem_append_left _ (d.o y hy)
          · show folF tr (m + 1) link opn sF = _
            rw [hF]
            exact f
          · have hl3 : link ∉ O2 := h2 link (by
              show link ∈ (gs.outs ++ [(link, some pl, gs.word)]).map (·.1)
              rw [List.map_append]
              exact List.mem_append_right _ List.mem_cons_self)
            obtain ⟨m2, rfl, h4, h5⟩ := unF n2 O2 s2 h1 hl3
            show folF tr (m2 + 1) link O2 s2 = _
            rw [h5]
            refine u m2 _ s2 h4 (fun y hy z => (List.mem_append.mp z).elim (h2 y ?_) fun z => hnk2 (by rw [← List.mem_singleton.mp z]; exact hy)) h3
            show y ∈ (gs.outs ++ [(link, some pl, gs.word)]).map (·.1)
            rw [List.map_append]
            exact List.mem_append_left _ hy
        · obtain ⟨sF', f1, f2, _, f4⟩ := i2 h
          refine ⟨sF', ?_, f2, (fun z => nomatch z), f4⟩
          show folF tr (m + 1) link opn sF = _
          rw [hF]
          exact f1
      exact hcM _ rfl
theorem sim_step {U : List Str} {tr : Tr} (ok : OkTr U tr) (n : Nat) (hf : ∀ link ∈ linksT tr, Sim tr false n (folM tr n link) fun n2 => folF tr n2 link) (here : Place) (st : Str) (kp : Bool) :
    Sim tr false n (stepM tr (folM tr n) here st kp) fun n2 => stepM tr (folF tr n2) here st kp := by
  intro opn s sF hO hV hD hw hq
  have here_ok : ∀ (pl : Place), (∀ n2 O2 s2, stepM tr (folF tr n2) here st kp O2 s2 = (some pl, s2)) → stepM tr (folM tr n) here st kp opn s = (some pl, s) → SimR tr false n opn s sF (stepM tr (folM tr n) here st kp opn s) fun n2 => stepM tr (folF tr n2) here st kp := fun pl h1 h2 => by
    rw [h2]
    refine ⟨fun pl' h => ?_, fun h => (nomatch h)⟩
    cases h
    refine ⟨hV, hD, hw, Le.refl s, ?_, fun n2 O2 s2 _ _ _ => h1 n2 O2 s2⟩
    show stepM tr (folF tr n) here st kp opn sF = (some pl, ({ sF with sought := s.sought } : WSt))
    rw [h1, st_same hq]
  by_cases hk : kindT tr here = some "folder"
  rotate_left
  · have e1 : ∀ fol O2 s2, stepM tr fol here st kp O2 s2 = (none, { s2 with word := some "file" }) := fun fol O2 s2 => by
      unfold stepM
      rw [if_pos hk]
    rw [e1]
    exact ⟨fun pl h => (nomatch h), fun _ => ⟨{ sF with word := some "file" }, e1 _ _ _, rfl, (fun z => nomatch z), hq⟩⟩
  by_cases h1 : st = "."
  · exact here_ok here (fun n2 O2 s2 => by unfold stepM; rw [if_neg (fun z => z hk), if_pos h1]) (by unfold stepM; rw [if_neg (fun z => z hk), if_pos h1])
  by_cases h2 : st = ".."
  · exact here_ok here.dropLast (fun n2 O2 s2 => by unfold stepM; rw [if_neg (fun z => z hk), if_neg h1, if_pos h2]) (by unfold stepM; rw [if_neg (fun z => z hk), if_neg h1, if_pos h2])
  have eS : ∀ fol O2 (s2 : WSt), stepM tr fol here st kp O2 s2 = (match kindT tr (here ++ [st]) with
      | none => (none, { (if here ++ [st] ∈ s2.sought then s2 else { s2 with sought := s2.sought ++ [here ++ [st]] }) with word := some "lacking" })
      | some k => if k ≠ "link" ∨ kp = true then (some (here ++ [st]), (if here ++ [st] ∈ s2.sought then s2 else { s2 with sought := s2.sought ++ [here ++ [st]] })) else fol (here ++ [st]) O2 (if here ++ [st] ∈ s2.sought then s2 else { s2 with sought := s2.sought ++ [here ++ [st]] })) := fun fol O2 s2 => by
    unfold stepM
    rw [if_neg (fun z => z hk), if_neg h1, if_neg h2]
    try rfl
  have hin1 : ∀ s2 : WSt, here ++ [st] ∈ s2.sought → (if here ++ [st] ∈ s2.sought then s2 else { s2 with sought := s2.sought ++ [here ++ [st]] }) = s2 := fun s2 h => if_pos h
  have hV1 : Val tr (if here ++ [st] ∈ s.sought then s else { s with sought := s.sought ++ [here ++ [st]] }) := by
    split
    · exact hV
    · exact hV.more rfl fun x hx => List.mem_append_left _ hx
  have hD1 : Dis (if here ++ [st] ∈ s.sought then s else { s with sought := s.sought ++ [here ++ [st]] }).outs opn := by
    split
    · exact hD
    · exact hD
  have hw1 : (if here ++ [st] ∈ s.sought then s else { s with sought := s.sought ++ [here ++ [st]] }).word = none := by
    split
    · exact hw
    · exact hw
  have hle : Le s (if here ++ [st] ∈ s.sought then s else { s with sought := s.sought ++ [here ++ [st]] }) := by
    split
    · exact Le.refl s
    · exact ⟨fun l h => h, fun x hx => List.mem_append_left _ hx⟩
  have hhere : here ++ [st] ∈ (if here ++ [st] ∈ s.sought then s else { s with sought := s.sought ++ [here ++ [st]] }).sought := by
    split
    · assumption
    · exact List.mem_append_right _ List.mem_cons_self
  have hF1 : (if here ++ [st] ∈ sF.sought then sF else { sF with sought := sF.sought ++ [here ++ [st]] }) = { sF with sought := (if here ++ [st] ∈ s.sought then s else { s with sought := s.sought ++ [here ++ [st]] }).sought } := by
    rw [hq]
    split
    · exact (st_same hq).symm
    · rfl
  rw [eS]
  generalize (if here ++ [st] ∈ s.sought then s else { s with sought := s.sought ++ [here ++ [st]] }) = s1 at hV1 hD1 hw1 hle hhere hF1 ⊢
  cases ek : kindT tr (here ++ [st]) with
  | none =>
    refine ⟨fun pl h => (nomatch h), fun _ => ⟨{ ({ sF with sought := s1.sought } : WSt) with word := some "lacking" }, ?_, rfl, (fun z => nomatch z), rfl⟩⟩
    show stepM tr (folF tr n) here st kp opn sF = _
    rw [eS, ek, hF1]
  | some k =>
    by_cases hc : k ≠ "link" ∨ kp = true
    · simp only [if_pos hc]
      refine ⟨fun pl h => ?_, fun h => (nomatch h)⟩
      cases h
      refine ⟨hV1, hD1, hw1, hle, ?_, fun n2 O2 s2 _ _ h3 => ?_⟩
      · show stepM tr (folF tr n) here st kp opn sF = _
        rw [eS, ek]
        simp only [if_pos hc]
        rw [hF1]
      · show stepM tr (folF tr n2) here st kp O2 s2 = _
        rw [eS, ek]
        simp only [if_pos hc]
        rw [hin1 s2 (h3 _ hhere)]
    · simp only [if_neg hc]
      have hkl : k = "link" := Classical.byContradiction fun z => hc (.inl z)
      obtain ⟨i1, i2⟩ := hf (here ++ [st]) (kind_link (ek.trans (congrArg some hkl))) opn s1 { sF with sought := s1.sought } hO hV1 hD1 hw1 rfl
      refine ⟨fun pl h => ?_, fun h => ?_⟩
      · obtain ⟨a, b, c, d, f, u⟩ := i1 pl h
        refine ⟨a, b, c, hle.trans d, ?_, fun n2 O2 s2 h4 h5 h6 => ?_⟩
        · show stepM tr (folF tr n) here st kp opn sF = _
          rw [eS, ek]
          simp only [if_neg hc]
          rw [hF1]
          exact f
        · show stepM tr (folF tr n2) here st kp O2 s2 = _
          rw [eS, ek]
          simp only [if_neg hc]
          rw [hin1 s2 (h6 _ (d.q _ hhere))]
          exact u n2 O2 s2 h4 h5 h6
      · obtain ⟨sF', f1, f2, _, f4⟩ := i2 h
        refine ⟨sF', ?_, f2, (fun z => nomatch z), f4⟩
        show stepM tr (folF tr n) here st kp opn sF = _
        rw [eS, ek]
        simp only [if_neg hc]
        rw [hF1]
        exact f1
theorem sim_goesL {tr : Tr} (n : Nat) (hs : ∀ here st kp, Sim tr false n (stepM tr (folM tr n) here st kp) fun n2 => stepM tr (folF tr n2) here st kp) (ka : Nat → Bool) : ∀ (l : List Str) (k : Nat) (here : Place),
    Sim tr true n (fun opn s => goesL (fun h st kp s => stepM tr (folM tr n) h st kp opn s) ka k l here s) fun n2 opn s => goesL (fun h st kp s => stepM tr (folF tr n2) h st kp opn s) ka k l here s
  | [], k, here => fun opn s sF hO hV hD hw hq => by
    refine ⟨fun pl h => ?_, fun h => (nomatch h)⟩
    cases h
    refine ⟨hV, hD, hw, Le.refl s, ?_, fun n2 O2 s2 _ _ _ => rfl⟩
    show (some here, sF) = (some here, ({ sF with sought := s.sought } : WSt))
    rw [st_same hq]
  | st :: l, k, here => fun opn s sF hO hV hD hw hq => by
    obtain ⟨i1, i2⟩ := hs here st (ka k) opn s sF hO hV hD hw hq
    have eM : goesL (fun h st kp s => stepM tr (folM tr n) h st kp opn s) ka k (st :: l) here s = (match stepM tr (folM tr n) here st (ka k) opn s with | (none, s') => (none, { s' with done := k }) | (some h, s') => goesL (fun h st kp s => stepM tr (folM tr n) h st kp opn s) ka (k + 1) l h s') := rfl
    have eF : ∀ n2 O2 s2, goesL (fun h st kp s => stepM tr (folF tr n2) h st kp O2 s) ka k (st :: l) here s2 = (match stepM tr (folF tr n2) here st (ka k) O2 s2 with | (none, s') => (none, { s' with done := k }) | (some h, s') => goesL (fun h st kp s => stepM tr (folF tr n2) h st kp O2 s) ka (k + 1) l h s') := fun _ _ _ => rfl
    show SimR tr true n opn s sF (goesL (fun h st kp s => stepM tr (folM tr n) h st kp opn s) ka k (st :: l) here s) _
    rw [eM]
    generalize stepM tr (folM tr n) here st (ka k) opn s = g at i1 i2 ⊢
    obtain ⟨ge, gs⟩ := g
    cases ge with
    | none =>
      obtain ⟨sF', f1, f2, _, f4⟩ := i2 rfl
      refine ⟨fun pl h => (nomatch h), fun _ => ⟨{ sF' with done := k }, ?_, f2, fun _ => rfl, f4⟩⟩
      show goesL (fun h st kp s => stepM tr (folF tr n) h st kp opn s) ka k (st :: l) here sF = _
      have f1' : stepM tr (folF tr n) here st (ka k) opn sF = (none, sF') := f1
      rw [eF, f1']
    | some h =>
      obtain ⟨a, b, c, d, f, u⟩ := i1 h rfl
      have f' : stepM tr (folF tr n) here st (ka k) opn sF = (some h, { sF with sought := gs.sought }) := f
      obtain ⟨j1, j2⟩ := sim_goesL n hs ka l (k + 1) h opn gs { sF with sought := gs.sought } hO a b c rfl
      refine ⟨fun pl hp => ?_, fun hp => ?_⟩
      · obtain ⟨a2, b2, c2, d2, f2, u2⟩ := j1 pl hp
        refine ⟨a2, b2, c2, d.trans d2, ?_, fun n2 O2 s2 h4 h5 h6 => ?_⟩
        · show goesL (fun h st kp s => stepM tr (folF tr n) h st kp opn s) ka k (st :: l) here sF = _
          rw [eF, f']
          exact f2
        · show goesL (fun h st kp s => stepM tr (folF tr n2) h st kp O2 s) ka k (st :: l) here s2 = _
          have u' : stepM tr (folF tr n2) here st (ka k) O2 s2 = (some h, s2) := u n2 O2 s2 h4 (h5.le d2) fun x hx => h6 x (d2.q x hx)
          rw [eF, u']
          exact u2 n2 O2 s2 h4 h5 h6
      · obtain ⟨sF', f1, f2, f3, f4⟩ := j2 hp
        refine ⟨sF', ?_, f2, f3, f4⟩
        show goesL (fun h st kp s => stepM tr (folF tr n) h st kp opn s) ka k (st :: l) here sF = _
        rw [eF, f']
        exact f1
theorem sim_goes {tr : Tr} (n : Nat) (hs : ∀ here st kp, Sim tr false n (stepM tr (folM tr n) here st kp) fun n2 => stepM tr (folF tr n2) here st kp) (p : Str) (here : Place) (kp : Bool) :
    Sim tr true n (goesM tr n p here kp) fun n2 => goesF tr n2 p here kp := by
  intro opn s sF hO hV hD hw hq
  have H : SimR tr true n opn s sF (goesL (fun h st kp s => stepM tr (folM tr n) h st kp opn s) (keepAt p kp) 0 (DT.steps p) (if DT.rooted p = true then [] else here) s) (fun n2 opn s => goesL (fun h st kp s => stepM tr (folF tr n2) h st kp opn s) (keepAt p kp) 0 (DT.steps p) (if DT.rooted p = true then [] else here) s) := sim_goesL n hs (keepAt p kp) (DT.steps p) 0 (if DT.rooted p = true then [] else here) opn s sF hO hV hD hw hq
  have eF : ∀ n2 O2 s2, goesF tr n2 p here kp O2 s2 = goesE tr p (goesL (fun h st kp s => stepM tr (folF tr n2) h st kp O2 s) (keepAt p kp) 0 (DT.steps p) (if DT.rooted p = true then [] else here) s2) := fun _ _ _ => rfl
  show SimR tr true n opn s sF (goesE tr p (goesL (fun h st kp s => stepM tr (folM tr n) h st kp opn s) (keepAt p kp) 0 (DT.steps p) (if DT.rooted p = true then [] else here) s)) _
  generalize goesL (fun h st kp s => stepM tr (folM tr n) h st kp opn s) (keepAt p kp) 0 (DT.steps p) (if DT.rooted p = true then [] else here) s = g at H ⊢
  obtain ⟨ge, gs⟩ := g
  obtain ⟨i1, i2⟩ := H
  cases ge with
  | none =>
    obtain ⟨sF', f1, f2, f3, f4⟩ := i2 rfl
    refine ⟨fun pl h => (nomatch h), fun _ => ⟨sF', ?_, f2, f3, f4⟩⟩
    show goesF tr n p here kp opn sF = _
    rw [eF]
    have f1' : goesL (fun h st kp s => stepM tr (folF tr n) h st kp opn s) (keepAt p kp) 0 (DT.steps p) (if DT.rooted p = true then [] else here) sF = (none, sF') := f1
    rw [f1']
    rfl
  | some h =>
    obtain ⟨a, b, c, d, f, u⟩ := i1 h rfl
    have f' : goesL (fun h st kp s => stepM tr (folF tr n) h st kp opn s) (keepAt p kp) 0 (DT.steps p) (if DT.rooted p = true then [] else here) sF = (some h, { sF with sought := gs.sought }) := f
    have eE : ∀ s2 : WSt, goesE tr p (some h, s2) = if DT.ended p = true ∧ kindT tr h ≠ some "folder" then (none, { s2 with word := some "file", done := (DT.steps p).length }) else (some h, s2) := fun _ => rfl
    rw [eE]
    by_cases hc : DT.ended p = true ∧ kindT tr h ≠ some "folder"
    · rw [if_pos hc]
      refine ⟨fun pl h => (nomatch h), fun _ => ⟨{ ({ sF with sought := gs.sought } : WSt) with word := some "file", done := (DT.steps p).length }, ?_, rfl, fun _ => rfl, rfl⟩⟩
      show goesF tr n p here kp opn sF = _
      rw [eF, f', eE, if_pos hc]
    · rw [if_neg hc]
      refine ⟨fun pl hp => ?_, fun h => (nomatch h)⟩
      cases hp
      refine ⟨a, b, c, d, ?_, fun n2 O2 s2 h4 h5 h6 => ?_⟩
      · show goesF tr n p here kp opn sF = _
        rw [eF, f', eE, if_neg hc]
      · show goesF tr n2 p here kp O2 s2 = _
        have u' : goesL (fun h st kp s => stepM tr (folF tr n2) h st kp O2 s) (keepAt p kp) 0 (DT.steps p) (if DT.rooted p = true then [] else here) s2 = (some h, s2) := u n2 O2 s2 h4 h5 h6
        rw [eF, u', eE, if_neg hc]
theorem sim_all {U : List Str} {tr : Tr} (ok : OkTr U tr) : ∀ (n : Nat) (p : Str) (here : Place) (kp : Bool), Sim tr true n (goesM tr n p here kp) fun n2 => goesF tr n2 p here kp
  | 0 => sim_goes 0 (sim_step ok 0 fun _ hl => sim_fol ok 0 (fun m hm => (nomatch hm)) hl)
  | n + 1 => sim_goes (n + 1) (sim_step ok (n + 1) fun _ hl => sim_fol ok (n + 1) (fun m hm => by cases hm; exact fun p here => sim_all ok n p here false) hl)
theorem walk_eq {U : List Str} {tr : Tr} (ok : OkTr U tr) {n : Nat} (hn : (linksT tr).length ≤ n) (p : Str) (here : Place) (kp : Bool) :
    (goesF tr n p here kp [] st0).1 = (goesM tr n p here kp [] st0).1 ∧ (goesF tr n p here kp [] st0).2.sought = (goesM tr n p here kp [] st0).2.sought ∧
    ((goesM tr n p here kp [] st0).1 = none → (goesF tr n p here kp [] st0).2.word = (goesM tr n p here kp [] st0).2.word ∧ (goesF tr n p here kp [] st0).2.done = (goesM tr n p here kp [] st0).2.done) := by
  obtain ⟨i1, i2⟩ := sim_all ok n p here kp [] st0 st0 ⟨List.nodup_nil, (fun l hl => nomatch hl), hn⟩ ⟨(fun l e h => nomatch (show (none : Option (Option Place × Option Str)) = some e from h)), fun l hl => (nomatch hl)⟩ (fun l hl => nomatch hl) rfl rfl
  cases e : (goesM tr n p here kp [] st0).1 with
  | none =>
    obtain ⟨sF', f1, f2, f3, f4⟩ := i2 e
    have f1' : goesF tr n p here kp [] st0 = (none, sF') := f1
    rw [f1']
    exact ⟨rfl, f4, fun _ => ⟨f2, f3 rfl⟩⟩
  | some pl =>
    obtain ⟨_, _, _, _, f, _⟩ := i1 pl e
    have f' : goesF tr n p here kp [] st0 = (some pl, { st0 with sought := (goesM tr n p here kp [] st0).2.sought }) := f
    rw [f']
    exact ⟨rfl, rfl, fun z => nomatch z⟩
theorem look_none {tr : Tr} {p : Place} : look tr p = none ↔ p ∉ keysT tr := by
  refine ⟨fun h z => key_look z h, fun h => ?_⟩
  cases e : look tr p with
  | none => rfl
  | some th => exact (h (List.mem_map_of_mem (look_mem e))).elim
theorem kind_look {tr tr' : Tr} (h : ∀ p, look tr' p = look tr p) : kindT tr' = kindT tr := funext fun p => by
  show (look tr' p).map _ = (look tr p).map _
  rw [h]
theorem step_look {tr tr' : Tr} (h : ∀ p, look tr' p = look tr p) (fol : Place → List Place → WSt → Option Place × WSt) : stepM tr' fol = stepM tr fol := by
  funext here st kp opn s
  unfold stepM
  rw [kind_look h]
theorem goesB_look {tr tr' : Tr} (h : ∀ p, look tr' p = look tr p) (stp : Place → Str → Bool → List Place → WSt → Option Place × WSt) : goesB tr' stp = goesB tr stp := by
  funext p place kp opn s
  unfold goesB
  generalize goesL _ _ _ _ _ _ = g
  obtain ⟨ge, gs⟩ := g
  cases ge with
  | none => rfl
  | some x =>
    show (if DT.ended p = true ∧ kindT tr' x ≠ some "folder" then _ else _) = if DT.ended p = true ∧ kindT tr x ≠ some "folder" then _ else _
    rw [kind_look h]
theorem folM_look {tr tr' : Tr} (h : ∀ p, look tr' p = look tr p) : ∀ n, folM tr' n = folM tr n
  | 0 => by
    funext link opn s
    unfold folM
    rfl
  | n + 1 => by
    funext link opn s
    unfold folM
    simp only [h, goesB_look h, step_look h, folM_look h n]
theorem goesM_look {tr tr' : Tr} (h : ∀ p, look tr' p = look tr p) (n : Nat) : goesM tr' n = goesM tr n := by
  show goesB tr' (stepM tr' (folM tr' n)) = goesB tr (stepM tr (folM tr n))
  rw [goesB_look h, step_look h, folM_look h]
theorem kind_root {U : List Str} {tr : Tr} (ok : OkTr U tr) : kindT tr [] = some "folder" := by
  show (look tr []).map _ = _
  rw [root_look ok]
  rfl
end My

/-! PLead: the walk without a state: where it leads, what it asks, why it stops. -/
namespace My
open PySem L2 DD HP1
open PySem.Spec PyProof.Rows

/-- what a walk comes to: the place, what was asked, the word, how many steps -/
structure Out where
  r : Option Place
  A : List Place
  w : Option Str
  dn : Option Nat
def addAll : List Place → List Place → List Place
  | q, [] => q
  | q, a :: A => addAll (if a ∈ q then q else q ++ [a]) A
def stopO (w : Str) : Out := ⟨none, [], some w, none⟩
def hereO (p : Place) : Out := ⟨some p, [], none, none⟩
def Out.asked (o : Out) (a : Place) : Out := { o with A := a :: o.A }
def stepP (tr : Tr) (fol : Place → List Place → Out) (here : Place) (st : Str) (keeps : Bool) (opn : List Place) : Out :=
  if kindT tr here ≠ some "folder" then stopO "file"
  else if st = "." then hereO here
  else if st = ".." then hereO here.dropLast
  else match kindT tr (here ++ [st]) with
    | none => (stopO "lacking").asked (here ++ [st])
    | some k => if k ≠ "link" ∨ keeps = true then (hereO (here ++ [st])).asked (here ++ [st]) else (fol (here ++ [st]) opn).asked (here ++ [st])
def goesLP (stp : Place → Str → Bool → Out) (keepAt : Nat → Bool) : Nat → List Str → Place → Out
  | _, [], here => hereO here
  | k, st :: r, here => match stp here st (keepAt k) with
    | ⟨none, A, w, _⟩ => ⟨none, A, w, some k⟩
    | ⟨some h, A, _, _⟩ => { goesLP stp keepAt (k + 1) r h with A := A ++ (goesLP stp keepAt (k + 1) r h).A }
def goesEP (tr : Tr) (p : Str) (o : Out) : Out := match o.r with
  | none => o
  | some h => if DT.ended p = true ∧ kindT tr h ≠ some "folder" then ⟨none, o.A, some "file", some (DT.steps p).length⟩ else o
def goesBP (tr : Tr) (stp : Place → Str → Bool → List Place → Out) (p : Str) (place : Place) (itself : Bool) (opn : List Place) : Out :=
  goesEP tr p (goesLP (fun h st kp => stp h st kp opn) (keepAt p itself) 0 (DT.steps p) (if DT.rooted p = true then [] else place))
def folP (tr : Tr) : Nat → Place → List Place → Out
  | n, link, opn => if link ∈ opn then stopO "ring" else
    match n with
    | 0 => ⟨none, [], none, none⟩
    | n + 1 => match (look tr link).bind (·.wr) with
      | none => ⟨none, [], none, none⟩
      | some p => goesBP tr (stepP tr (folP tr n)) p link.dropLast false (opn ++ [link])
abbrev goesP (tr : Tr) (n : Nat) := goesBP tr (stepP tr (folP tr n))
/-- what it makes of a state -/
def app (o : Out) (s : WSt) : Option Place × WSt := (o.r, { s with sought := addAll s.sought o.A, word := (match o.r with | some _ => s.word | none => match o.w with | some x => some x | none => s.word), done := (match o.r with | some _ => s.done | none => o.dn.getD s.done) })
theorem addAll_app (q A B : List Place) : addAll q (A ++ B) = addAll (addAll q A) B := by
  induction A generalizing q with
  | nil => rfl
  | cons a A ih => exact ih _
theorem app_here (p : Place) (s : WSt) : app (hereO p) s = (some p, s) := rfl
theorem app_stop (w : Str) (s : WSt) : app (stopO w) s = (none, { s with word := some w }) := rfl
theorem app_asked (o : Out) (a : Place) (s : WSt) : app (o.asked a) s = app o (if a ∈ s.sought then s else { s with sought := s.sought ++ [a] }) := by
  obtain ⟨r, A, w, dn⟩ := o
  show ((r, { s with sought := addAll (if a ∈ s.sought then s.sought else s.sought ++ [a]) A, word := _, done := _ }) : Option Place × WSt) = _
  by_cases h : a ∈ s.sought
  · rw [if_pos h, if_pos h]
    rfl
  · rw [if_neg h, if_neg h]
    rfl
theorem step_app {tr : Tr} {fol : Place → List Place → WSt → Option Place × WSt} {folp : Place → List Place → Out} (h : ∀ l o s, fol l o s = app (folp l o) s) (here : Place) (st : Str) (kp : Bool) (opn : List Place) (s : WSt) :
    stepM tr fol here st kp opn s = app (stepP tr folp here st kp opn) s := by
  unfold stepM stepP
  by_cases h1 : kindT tr here ≠ some "folder"
  · rw [if_pos h1, if_pos h1]
    rfl
  rw [if_neg h1, if_neg h1]
  by_cases h2 : st = "."
  · rw [if_pos h2, if_pos h2]
    rfl
  rw [if_neg h2, if_neg h2]
  by_cases h3 : st = ".."
  · rw [if_pos h3, if_pos h3]
    rfl
  rw [if_neg h3, if_neg h3]
  cases e : kindT tr (here ++ [st]) with
  | none =>
    simp only
    rw [app_asked]
    rfl
  | some k =>
    simp only
    by_cases h4 : k ≠ "link" ∨ kp = true
    · rw [if_pos h4, if_pos h4, app_asked]
      rfl
    · rw [if_neg h4, if_neg h4, app_asked, h]
theorem goesL_app {stp : Place → Str → Bool → WSt → Option Place × WSt} {stpp : Place → Str → Bool → Out} (h : ∀ a b c s, stp a b c s = app (stpp a b c) s) (ka : Nat → Bool) : ∀ (l : List Str) (k : Nat) (here : Place) (s : WSt),
    goesL stp ka k l here s = app (goesLP stpp ka k l here) s
  | [], k, here, s => rfl
  | st :: l, k, here, s => by
    unfold goesL goesLP
    rw [h]
    generalize stpp here st (ka k) = o
    obtain ⟨r, A, w, dn⟩ := o
    cases r with
    | none =>
      show ((none, _) : Option Place × WSt) = _
      unfold app
      cases w <;> rfl
    | some p =>
      show goesL stp ka (k + 1) l p _ = _
      rw [goesL_app h ka l (k + 1) p]
      unfold app
      simp only [addAll_app]
theorem goesE_app (tr : Tr) (p : Str) (o : Out) (s : WSt) : goesE tr p (app o s) = app (goesEP tr p o) s := by
  obtain ⟨r, A, w, dn⟩ := o
  cases r with
  | none => rfl
  | some h =>
    show (if _ then _ else _) = app (if _ then _ else _) s
    by_cases hc : DT.ended p = true ∧ kindT tr h ≠ some "folder"
    · rw [if_pos hc, if_pos hc]
      rfl
    · rw [if_neg hc, if_neg hc]
      rfl
theorem goesB_app {tr : Tr} {stp : Place → Str → Bool → List Place → WSt → Option Place × WSt} {stpp : Place → Str → Bool → List Place → Out} (h : ∀ a b c o s, stp a b c o s = app (stpp a b c o) s) (p : Str) (place : Place) (itself : Bool) (opn : List Place) (s : WSt) :
    goesB tr stp p place itself opn s = app (goesBP tr stpp p place itself opn) s := by
  unfold goesB goesBP
  rw [goesL_app (fun a b c s => h a b c opn s), goesE_app]
theorem fol_app (tr : Tr) : ∀ (n : Nat) (link : Place) (opn : List Place) (s : WSt), folF tr n link opn s = app (folP tr n link opn) s
  | 0, link, opn, s => by
    unfold folF folP
    by_cases h : link ∈ opn
    · rw [if_pos h, if_pos h]
      rfl
    · rw [if_neg h, if_neg h]
      rfl
  | n + 1, link, opn, s => by
    unfold folF folP
    by_cases h : link ∈ opn
    · rw [if_pos h, if_pos h]
      rfl
    · rw [if_neg h, if_neg h]
      cases e : (look tr link).bind (·.wr) with
      | none => rfl
      | some p => exact goesB_app (step_app (fol_app tr n)) p _ _ _ s
theorem goesF_app (tr : Tr) (n : Nat) (p : Str) (here : Place) (kp : Bool) (opn : List Place) (s : WSt) : goesF tr n p here kp opn s = app (goesP tr n p here kp opn) s :=
  goesB_app (step_app (fol_app tr n)) p here kp opn s
/-- where a path leads; what it looks at -/
abbrev leadP (tr : Tr) (n : Nat) (p : Str) (here : Place) (kp : Bool) : Option Place := (goesP tr n p here kp []).r
abbrev looksP (tr : Tr) (n : Nat) (p : Str) (here : Place) (kp : Bool) : List Place := addAll [] (goesP tr n p here kp []).A
theorem lead_eq {U : List Str} {tr : Tr} (ok : OkTr U tr) {n : Nat} (hn : (linksT tr).length ≤ n) (p : Str) (here : Place) (kp : Bool) : (goesM tr n p here kp [] st0).1 = leadP tr n p here kp := by
  rw [← (walk_eq ok hn p here kp).1, goesF_app]
  rfl
theorem looks_eq {U : List Str} {tr : Tr} (ok : OkTr U tr) {n : Nat} (hn : (linksT tr).length ≤ n) (p : Str) (here : Place) (kp : Bool) : (goesM tr n p here kp [] st0).2.sought = looksP tr n p here kp := by
  rw [← (walk_eq ok hn p here kp).2.1, goesF_app]
  rfl

/-! ### paths in parts -/
theorem goesLP_cons (stp : Place → Str → Bool → Out) (ka : Nat → Bool) (k : Nat) (st : Str) (l : List Str) (here : Place) : goesLP stp ka k (st :: l) here = match stp here st (ka k) with
    | ⟨none, A, w, _⟩ => ⟨none, A, w, some k⟩
    | ⟨some h, A, _, _⟩ => { goesLP stp ka (k + 1) l h with A := A ++ (goesLP stp ka (k + 1) l h).A } := rfl
theorem goesLP_cat (stp : Place → Str → Bool → Out) (ka : Nat → Bool) : ∀ (l1 l2 : List Str) (k : Nat) (here : Place), goesLP stp ka k (l1 ++ l2) here = match goesLP stp ka k l1 here with
    | ⟨none, A, w, dn⟩ => ⟨none, A, w, dn⟩
    | ⟨some h, A, _, _⟩ => { goesLP stp ka (k + l1.length) l2 h with A := A ++ (goesLP stp ka (k + l1.length) l2 h).A }
  | [], l2, k, here => rfl
  | st :: l1, l2, k, here => by
    rw [List.cons_append, goesLP_cons, goesLP_cons]
    generalize stp here st (ka k) = o
    obtain ⟨r, A, w, dn⟩ := o
    cases r with
    | none => rfl
    | some h =>
      simp only
      rw [goesLP_cat stp ka l1 l2 (k + 1) h]
      generalize goesLP stp ka (k + 1) l1 h = o2
      obtain ⟨r2, A2, w2, dn2⟩ := o2
      have e : k + 1 + l1.length = k + (l1.length + 1) := by omega
      cases r2 with
      | none => rfl
      | some h2 =>
        simp only [List.length_cons, e, List.append_assoc]
/-- the counts alone differ -/
def Out.alike (a b : Out) : Prop := a.r = b.r ∧ a.A = b.A ∧ a.w = b.w
theorem goesLP_shift (stp : Place → Str → Bool → Out) (ka kb : Nat → Bool) (i : Nat) : ∀ (l : List Str) (k j : Nat) (here : Place), (∀ m, m < l.length → ka (k + m) = kb (j + m)) → (goesLP stp ka k l here).alike (goesLP stp kb j l here)
  | [], k, j, here, h => ⟨rfl, rfl, rfl⟩
  | st :: l, k, j, here, h => by
    have h0 : ka k = kb j := h 0 (by simp)
    rw [goesLP_cons, goesLP_cons, h0]
    generalize stp here st (kb j) = o
    obtain ⟨r, A, w, dn⟩ := o
    cases r with
    | none => exact ⟨rfl, rfl, rfl⟩
    | some p =>
      obtain ⟨a, b, c⟩ := goesLP_shift stp ka kb i l (k + 1) (j + 1) p fun m hm => by
        have := h (m + 1) (by simpa using hm)
        rw [show k + 1 + m = k + (m + 1) by omega, show j + 1 + m = j + (m + 1) by omega]
        exact this
      exact ⟨a, by show A ++ _ = A ++ _; rw [b], c⟩
theorem mem_addAll {q A : List Place} {x : Place} : x ∈ addAll q A ↔ x ∈ q ∨ x ∈ A := by
  induction A generalizing q with
  | nil => simp [addAll]
  | cons a A ih =>
    show x ∈ addAll _ A ↔ _
    rw [ih]
    by_cases h : a ∈ q
    · rw [if_pos h]
      constructor
      · rintro (z | z)
        · exact .inl z
        · exact .inr (List.mem_cons_of_mem _ z)
      · rintro (z | z)
        · exact .inl z
        · rcases List.mem_cons.mp z with y | y
          · exact .inl (y ▸ h)
          · exact .inr y
    · rw [if_neg h]
      simp only [List.mem_append, List.mem_cons, List.not_mem_nil, or_false]
      constructor
      · rintro ((z | z) | z)
        · exact .inl z
        · exact .inr (.inl z)
        · exact .inr (.inr z)
      · rintro (z | z | z)
        · exact .inl (.inl z)
        · exact .inl (.inr z)
        · exact .inr z
/-- what is asked behind q, not asked in q -/
theorem addAll_filter (q p A : List Place) : addAll (q ++ p.filter fun x => decide (x ∉ q)) A = q ++ (addAll p A).filter fun x => decide (x ∉ q) := by
  induction A generalizing p with
  | nil => rfl
  | cons a A ih =>
    show addAll (if a ∈ q ++ p.filter (fun x => decide (x ∉ q)) then _ else _) A = q ++ (addAll (if a ∈ p then p else p ++ [a]) A).filter _
    rw [← ih]
    congr 1
    by_cases h1 : a ∈ q
    · rw [if_pos (List.mem_append_left _ h1)]
      by_cases h2 : a ∈ p
      · rw [if_pos h2]
      · rw [if_neg h2, List.filter_append]
        simp [h1]
    · by_cases h2 : a ∈ p
      · rw [if_pos h2, if_pos]
        exact List.mem_append_right _ (List.mem_filter.mpr ⟨h2, decide_eq_true h1⟩)
      · rw [if_neg h2, if_neg, List.filter_append]
        · simp [h1]
        · intro z
          rcases List.mem_append.mp z with y | y
          · exact h1 y
          · exact h2 (List.mem_filter.mp y).1
theorem looks_more (A B : List Place) : addAll [] (A ++ B) = addAll [] A ++ (addAll [] B).filter fun x => decide (x ∉ addAll [] A) := by
  rw [addAll_app]
  have := addAll_filter (addAll [] A) [] B
  simpa using this
end My
namespace My
open PySem L2 DD HP1
open PySem.Spec PyProof.Rows
/-! ### where a walk comes out there is a thing, or one lies beneath -/
def Out.Fine (tr : Tr) (o : Out) : Prop := ∀ x, o.r = some x → HereOk tr x
theorem step_fine {tr : Tr} {fol : Place → List Place → Out} (h : ∀ l o, (fol l o).Fine tr) {here : Place} (hh : HereOk tr here) (st : Str) (kp : Bool) (opn : List Place) : (stepP tr fol here st kp opn).Fine tr := by
  unfold stepP
  split
  · exact fun x z => (nomatch z)
  split
  · intro x z
    cases z
    exact hh
  split
  · intro x z
    cases z
    exact hh.last
  cases e : kindT tr (here ++ [st]) with
  | none => exact fun x z => (nomatch z)
  | some k =>
    simp only
    split
    · intro x z
      cases z
      exact hereOk_of e
    · exact h _ _
theorem goesLP_fine {tr : Tr} {stp : Place → Str → Bool → Out} (h : ∀ a b c, HereOk tr a → (stp a b c).Fine tr) (ka : Nat → Bool) : ∀ (l : List Str) (k : Nat) (here : Place), HereOk tr here → (goesLP stp ka k l here).Fine tr
  | [], k, here, hh => fun x z => by
    cases z
    exact hh
  | st :: l, k, here, hh => by
    have e := goesLP_cons stp ka k st l here
    have h1 := h here st (ka k) hh
    rw [e]
    generalize stp here st (ka k) = o at h1 ⊢
    obtain ⟨r, A, w, dn⟩ := o
    cases r with
    | none => exact fun x z => (nomatch z)
    | some p => exact goesLP_fine h ka l (k + 1) p (h1 p rfl)
theorem goesBP_fine {U : List Str} {tr : Tr} (ok : OkTr U tr) {stp : Place → Str → Bool → List Place → Out} (h : ∀ a b c o, HereOk tr a → (stp a b c o).Fine tr) (p : Str) {place : Place} (hp : HereOk tr place) (kp : Bool) (opn : List Place) : (goesBP tr stp p place kp opn).Fine tr := by
  have h1 := goesLP_fine (stp := fun a b c => stp a b c opn) (fun a b c ha => h a b c opn ha) (keepAt p kp) (DT.steps p) 0 (if DT.rooted p = true then [] else place) (by
    split
    · exact HereOk.root ok
    · exact hp)
  unfold goesBP
  generalize goesLP _ _ _ _ _ = o at h1 ⊢
  intro x hx
  unfold goesEP at hx
  cases e : o.r with
  | none =>
    rw [e] at hx
    simp only at hx
    rw [e] at hx
    cases hx
  | some y =>
    rw [e] at hx
    simp only at hx
    split at hx
    · cases hx
    · exact h1 x hx
theorem fol_fine {U : List Str} {tr : Tr} (ok : OkTr U tr) : ∀ (n : Nat) (l : Place) (o : List Place), l ∈ linksT tr ∨ True → HereOk tr l ∨ ¬ (l ∈ linksT tr) → (folP tr n l o).Fine tr
  | 0, l, o, _, _ => by
    unfold folP
    split <;> exact fun x z => (nomatch z)
  | n + 1, l, o, _, _ => by
    unfold folP
    split
    · exact fun x z => (nomatch z)
    cases e : (look tr l).bind (·.wr) with
    | none => exact fun x z => (nomatch z)
    | some p =>
      have hl : HereOk tr l := by
        cases e2 : look tr l with
        | none =>
          rw [e2] at e
          cases e
        | some th => exact ⟨l, List.mem_map_of_mem (look_mem e2), List.prefix_refl _⟩
      exact goesBP_fine ok (fun a b c o' ha => step_fine (fun l' o'' => fol_fine ok n l' o'' (.inr trivial) (by
        by_cases z : l' ∈ linksT tr
        · exact .inl ⟨l', links_key z, List.prefix_refl _⟩
        · exact .inr z)) ha b c o') p hl.last false _
theorem goesP_fine {U : List Str} {tr : Tr} (ok : OkTr U tr) (n : Nat) (p : Str) {here : Place} (hh : HereOk tr here) (kp : Bool) (opn : List Place) : (goesP tr n p here kp opn).Fine tr :=
  goesBP_fine ok (fun a b c o ha => step_fine (fun l' o' => fol_fine ok n l' o' (.inr trivial) (by
    by_cases z : l' ∈ linksT tr
    · exact .inl ⟨l', links_key z, List.prefix_refl _⟩
    · exact .inr z)) ha b c o) p hh kp opn
theorem lead_short {U : List Str} {tr : Tr} (ok : OkTr U tr) {n : Nat} {p : Str} {here x : Place} (hh : HereOk tr here) {kp : Bool} (h : leadP tr n p here kp = some x) : x.length ≤ 1000 ∧ ∀ n ∈ x, DT.isName n = true := by
  have := (goesP_fine ok n p hh kp [] x h).names ok
  exact ⟨Nat.le_trans this.1 (by decide), this.2⟩
theorem goes_root {tr : Tr} {n : Nat} {p : Str} (h : DT.rooted p = true) (a b : Place) (kp : Bool) (opn : List Place) : goesP tr n p a kp opn = goesP tr n p b kp opn := by
  show goesEP tr p (goesLP _ _ 0 _ (if DT.rooted p = true then [] else a)) = goesEP tr p (goesLP _ _ 0 _ (if DT.rooted p = true then [] else b))
  rw [if_pos h, if_pos h]
theorem OkS.short {U : List Str} {tr : Tr} {s : WSt} (x : OkS U tr s) (ok : OkTr U tr) : ∀ q ∈ s.sought, q.length ≤ 1000 := fun q hq => by
  obtain ⟨k, hk, u, hu, rfl⟩ := x.sin q hq
  have := (key_names ok hk).1
  rw [List.length_append, List.length_singleton]
  omega
end My
namespace My
open PySem L2 DD HP1
open PySem.Spec PyProof.Rows
/-! ### why -/
theorem why_eq {U : List Str} {tr : Tr} (ok : OkTr U tr) {n : Nat} (hn : (linksT tr).length ≤ n) (p : Str) (here : Place) (kp : Bool) (h : leadP tr n p here kp = none) :
    (goesM tr n p here kp [] st0).2.word = (goesP tr n p here kp []).w ∧ (goesM tr n p here kp [] st0).2.done = (goesP tr n p here kp []).dn.getD 0 := by
  obtain ⟨h1, _, h3⟩ := walk_eq ok hn p here kp
  rw [goesF_app] at h1 h3
  have hM : (goesM tr n p here kp [] st0).1 = none := by
    rw [lead_eq ok hn]
    exact h
  obtain ⟨a, b⟩ := h3 hM
  rw [← a, ← b]
  have h' : (goesP tr n p here kp []).r = none := h
  generalize goesP tr n p here kp [] = o at h'
  obtain ⟨r, A, w, dn⟩ := o
  cases h'
  refine ⟨?_, rfl⟩
  cases w <;> rfl
end My

/-! PPart: a path's text in parts; a walk in parts. -/
namespace DT
open PySem L2
open TL
theorem pcs_root (l : List Nat) : l.head? = some 47 ↔ ((pcs l).headD [1] = [] ∧ l ≠ []) := by
  cases l with
  | nil => simp
  | cons c r =>
    by_cases hc : c = 47
    · subst hc
      rw [pcs_bar]
      simp
    · rw [pcs_cons _ hc]
      simp [hc]
/-- bars are no step -/
theorem filt_app (a b : List (List Nat)) : (a ++ b).filter (fun p => !p.isEmpty) = a.filter (fun p => !p.isEmpty) ++ b.filter (fun p => !p.isEmpty) := List.filter_append _ _
theorem filt_rep (k : Nat) : (List.replicate k ([] : List Nat)).filter (fun p => !p.isEmpty) = [] := by
  rw [List.filter_eq_nil_iff]
  intro q hq
  rw [(List.mem_replicate.mp hq).2]
  simp
theorem filt_dropE (ps : List (List Nat)) : (dropE ps).filter (fun p => !p.isEmpty) = ps.filter fun p => !p.isEmpty := by
  rcases dropE_cut ps with ⟨h1, h2⟩ | ⟨qs, p, k, h1, h2, h3⟩
  · have e : ps.filter (fun p => !p.isEmpty) = [] := List.filter_eq_nil_iff.mpr fun p hp => by
      rw [h2 p hp]
      simp
    rw [h1, e]
    rfl
  · rw [h3, h2, filt_app, List.filter_append, List.filter_cons, List.filter_cons]
    rw [filt_rep]
    rfl
theorem steps_join {a b s : Str} (hs : (tlLast a = some 47 ∧ s = "") ∨ (s = "/")) (hb : rooted b = false) : steps (a ++ s ++ b) = steps a ++ steps b := by
  have e1 : tl ("/" : Str) = [47] := by decide +kernel
  have e0 : tl ("" : Str) = [] := by decide +kernel
  rw [steps_tl, steps_tl a, steps_tl b, tl_append, tl_append, ← List.map_append]
  congr 1
  rcases hs with ⟨hl, rfl⟩ | rfl
  · unfold tlLast at hl
    obtain ⟨a', ha'⟩ := List.getLast?_eq_some_iff.mp hl
    rw [e0, List.append_nil, ha', List.append_assoc]
    show (pcs (a' ++ 47 :: tl b)).filter _ = (pcs (a' ++ 47 :: [])).filter _ ++ _
    rw [pcs_cat, pcs_cat, List.filter_append, List.filter_append]
    show _ = _ ++ List.filter _ [[]] ++ _
    simp
  · rw [e1, List.append_assoc]
    show (pcs (tl a ++ 47 :: tl b)).filter _ = _
    rw [pcs_cat, List.filter_append]
theorem lastP_join {a b s : Str} (hs : (tlLast a = some 47 ∧ s = "") ∨ (s = "/")) : lastP (a ++ s ++ b) = lastP b := by
  have e1 : tl ("/" : Str) = [47] := by decide +kernel
  have e0 : tl ("" : Str) = [] := by decide +kernel
  have key : ∀ x : List Nat, (pcs (x ++ 47 :: tl b)).getLastD [] = (pcs (tl b)).getLastD [] := fun x => by
    rw [pcs_cat, List.getLastD_eq_getLast?, List.getLastD_eq_getLast?, List.getLast?_append]
    cases h : (pcs (tl b)).getLast? with
    | none => exact absurd (List.getLast?_eq_none_iff.mp h) (pcs_ne _)
    | some y => rfl
  unfold lastP
  rw [tl_append, tl_append]
  rcases hs with ⟨hl, rfl⟩ | rfl
  · unfold tlLast at hl
    obtain ⟨a', ha'⟩ := List.getLast?_eq_some_iff.mp hl
    rw [e0, List.append_nil, ha', List.append_assoc]
    exact congrArg mk (key a')
  · rw [e1, List.append_assoc]
    exact congrArg mk (key (tl a))
theorem rooted_join {a b s : Str} (ha : tl a ≠ []) : rooted (a ++ s ++ b) = rooted a := by
  unfold rooted
  rw [tl_append, tl_append]
  cases h : tl a with
  | nil => exact absurd h ha
  | cons c r => rfl
theorem steps_ne {b : Str} (hp : isPath b = true) (h : rooted b = false) : steps b ≠ [] := by
  rw [steps_tl]
  have h1 : ¬ (tl b).head? = some 47 := fun z => by
    unfold rooted at h
    rw [decide_eq_true z] at h
    cases h
  have h2 : tl b ≠ [] := fun e => (isPath_iff.mp hp).1 (tl_ext (l := []) e |>.trans mk_nil)
  cases e : tl b with
  | nil => exact absurd e h2
  | cons c r =>
    have hc : c ≠ 47 := fun z => h1 (by rw [e, z]; rfl)
    rw [pcs_cons _ hc, List.filter_cons_of_pos (by rfl)]
    simp
/-- a path that is not ended: its begin, its last step -/
theorem begin_last {z : Str} (hp : isPath z = true) (he : ended z = false) : ∃ x, (steps z).getLast? = some x ∧ isName x = true ∧ rooted (begin z) = rooted z ∧ (steps z = steps (begin z) ++ [x] ∨ (steps z = [x] ∧ begin z = "." ∧ rooted z = false)) := by
  rcases steps_cut z with z1 | ⟨qs, p, k, q1, q2, q3, q4, q5⟩
  · exfalso
    have h1 : rooted z = true := by
      cases h : rooted z with
      | true => rfl
      | false => exact absurd z1 (steps_ne hp h)
    rw [steps_tl] at z1
    have z2 := List.map_eq_nil_iff.mp z1
    rw [List.filter_eq_nil_iff] at z2
    have h3 : (pcs (tl z)).getLastD [] = [] := by
      rw [List.getLastD_eq_getLast?]
      cases h : (pcs (tl z)).getLast? with
      | none => rfl
      | some y =>
        have := z2 y (List.mem_of_getLast? h)
        simpa using this
    unfold ended lastP at he
    rw [h3] at he
    exact absurd he (by rw [dotty_nil]; decide)
  · have hk : k = 0 := by
      cases k with
      | zero => rfl
      | succ k =>
        exfalso
        have h3 : (pcs (tl z)).getLastD [] = [] := by
          rw [q2, List.replicate_succ', List.getLastD_eq_getLast?]
          have : (qs ++ p :: (List.replicate k [] ++ [[]])) = (qs ++ p :: List.replicate k []) ++ [[]] := by simp
          rw [this, List.getLast?_concat]
          rfl
        unfold ended lastP at he
        rw [h3] at he
        exact absurd he (by rw [dotty_nil]; decide)
    subst hk
    have q2' : pcs (tl z) = qs ++ [p] := q2
    have hlast : lastP z = mk p := by
      unfold lastP
      rw [q2', List.getLastD_eq_getLast?, List.getLast?_concat]
      rfl
    have hn : isName (mk p) = true := by
      have := (isPath_iff.mp hp).2 p (by rw [q2']; simp)
      unfold ended at he
      rw [hlast] at he
      rw [he] at this
      simpa using this
    have hst : steps z = ((qs.filter fun p => !p.isEmpty).map mk) ++ [mk p] := by
      rw [steps_tl, q2', List.filter_append, List.map_append]
      congr 1
      rw [List.filter_cons_of_pos (by simpa using q1)]
      rfl
    have hbl := pcs_suf q3
    have hbeg : begin z = if beginL (tl z) = [] then (if rooted z = true then ("/" : Str) else (".": Str)) else mk (beginL (tl z)) := by
      unfold begin
      rw [if_neg q5]
    have hmem : ∀ q ∈ qs, 47 ∉ q := fun q hq => pcs_noslash (l := tl z) (by rw [q2']; exact List.mem_append_left _ hq)
    have hz0 : tl z ≠ [] := fun e => (isPath_iff.mp hp).1 (tl_ext (l := []) e |>.trans mk_nil)
    refine ⟨mk p, q4, hn, ?_, ?_⟩
    · rw [hbeg]
      by_cases h2 : beginL (tl z) = []
      · rw [if_pos h2]
        cases hr : rooted z with
        | true => decide +kernel
        | false => decide +kernel
      · rw [if_neg h2]
        rw [hbl] at h2 ⊢
        have hne : dropE qs ≠ [] := fun z => h2 (by rw [z]; rfl)
        rcases dropE_cut qs with ⟨h1, _⟩ | ⟨q', p', k', r1, r2, r3⟩
        · exact absurd h1 hne
        have e1 : pcs (jn (dropE qs)) = dropE qs := pcs_jn _ hne fun q hq => hmem q (mem_dropE hq)
        unfold rooted
        rw [tl_mk', Bool.eq_iff_iff, decide_eq_true_eq, decide_eq_true_eq, pcs_root, pcs_root, e1, q2', r3, r2]
        have : ((q' ++ p' :: List.replicate k' []) ++ [p]).headD [1] = (q' ++ [p']).headD [1] := by
          cases q' <;> rfl
        rw [this]
        rw [r3] at h2
        exact ⟨fun z => ⟨z.1, hz0⟩, fun z => ⟨z.1, h2⟩⟩
    · rw [hbeg]
      by_cases h2 : beginL (tl z) = []
      · rw [if_pos h2]
        have hq0 : (qs.filter fun p => !p.isEmpty) = [] := by
          rw [hbl] at h2
          rw [← filt_dropE]
          rcases dropE_cut qs with ⟨h1, _⟩ | ⟨q', p', k', r1, r2, r3⟩
          · rw [h1]
            rfl
          · exfalso
            rw [r3, jn_snoc] at h2
            split at h2
            · exact r1 h2
            · simp at h2
        rw [hq0] at hst
        cases hr : rooted z with
        | true =>
          left
          rw [if_pos rfl, hst]
          have : steps ("/" : Str) = [] := by decide +kernel
          rw [this]
          rfl
        | false =>
          right
          exact ⟨hst, by rw [if_neg (by decide)], rfl⟩
      · rw [if_neg h2]
        left
        rw [hst, steps_tl (mk _), tl_mk', hbl]
        rw [hbl] at h2
        have hne : dropE qs ≠ [] := fun z => h2 (by rw [z]; rfl)
        rw [pcs_jn _ hne fun q hq => hmem q (mem_dropE hq), filt_dropE]
theorem name_steps {x : Str} (h : isName x = true) : pcs (tl x) = [tl x] ∧ dotty x = false ∧ tl x ≠ [] := by
  have h1 : 47 ∉ tl x := name_bar h
  have h2 : tl x ≠ [] := fun e => by
    unfold isName at h
    simp only [Bool.and_eq_true, decide_eq_true_eq] at h
    rw [len_tl, e] at h
    exact absurd h.1 (by decide)
  refine ⟨pcs_one _ h1, ?_, h2⟩
  rw [dotty_iff]
  simp only [Bool.or_eq_false_iff, decide_eq_false_iff_not]
  refine ⟨fun z => ?_, fun z => ?_, fun z => ?_⟩
  · subst z
    exact absurd h (by decide +kernel)
  · subst z
    exact absurd h (by decide +kernel)
  · subst z
    exact absurd h (by decide +kernel)
theorem dot_name {x : Str} (h : isName x = true) : isPath ("./" ++ x) = true ∧ steps ("./" ++ x) = [(".": Str), x] ∧ rooted ("./" ++ x) = false ∧ ended ("./" ++ x) = false := by
  obtain ⟨h1, h2, h3⟩ := name_steps h
  have e : tl (("./" : Str) ++ x) = [46] ++ 47 :: tl x := by
    rw [tl_append]
    have : tl ("./" : Str) = [46, 47] := by decide +kernel
    rw [this]
    rfl
  have hp : pcs (tl (("./" : Str) ++ x)) = [[46], tl x] := by
    rw [e, pcs_cat, h1]
    rfl
  have hd : mk [46] = ("." : Str) := by decide +kernel
  refine ⟨isPath_iff.mpr ⟨fun z => ?_, fun p hp' => ?_⟩, ?_, ?_, ?_⟩
  · have := congrArg tl z
    rw [e] at this
    have e0 : tl ("" : Str) = [] := by decide +kernel
    rw [e0] at this
    cases this
  · rw [hp] at hp'
    rcases List.mem_cons.mp hp' with q | q
    · rw [q]
      decide +kernel
    · rw [List.mem_singleton.mp q, mk_tl', h, Bool.or_true]
  · rw [steps_tl, hp, List.filter_cons_of_pos (by rfl), List.filter_cons_of_pos (by simpa using h3)]
    show [mk [46], mk (tl x)] = _
    rw [mk_tl', hd]
  · unfold rooted
    rw [e]
    rfl
  · unfold ended lastP
    rw [hp]
    show dotty (mk (tl x)) = false
    rw [mk_tl', h2]
/-- all pieces are empty or such -/
def GoodQ (Q : Str → Prop) (l : List Nat) : Prop := ∀ p ∈ pcs l, p = [] ∨ Q (mk p)
theorem goodQ_cat {Q : Str → Prop} {a b : List Nat} (ha : GoodQ Q a) (hb : GoodQ Q b) : GoodQ Q (a ++ 47 :: b) := fun p hp => by
  rw [pcs_cat] at hp
  rcases List.mem_append.mp hp with z | z
  · exact ha p z
  · exact hb p z
theorem goodQ_nil {Q : Str → Prop} : GoodQ Q [] := fun p hp => by
  have e : p = [] := by simpa [pcs] using hp
  exact .inl e
theorem goodQ_bars {Q : Str → Prop} {a b : List Nat} (ha : GoodQ Q a) (hb : GoodQ Q b) : ∀ n : Nat, GoodQ Q (a ++ List.replicate (n + 1) 47 ++ b)
  | 0 => by
    have := goodQ_cat ha hb
    simpa using this
  | n + 1 => by
    have e : a ++ List.replicate (n + 1 + 1) 47 ++ b = a ++ List.replicate (n + 1) 47 ++ (47 :: b) := by
      rw [List.replicate_succ' (n := n + 1)]
      simp
    rw [e]
    exact goodQ_bars ha (goodQ_cat goodQ_nil hb) n
theorem goodQ_add {Q : Str → Prop} {a b : List Nat} {j : Nat} (ha : GoodQ Q a) (hb : GoodQ Q b) (hj : 1 ≤ j) : GoodQ Q (a ++ List.replicate j 47 ++ b) := by
  obtain ⟨i, rfl⟩ : ∃ i, j = i + 1 := ⟨j - 1, by omega⟩
  exact goodQ_bars ha hb i
theorem goodQ_good {Q : Str → Prop} {l : List Nat} (h : GoodQ Q l) (hQ : ∀ x, Q x → (dotty x || isName x) = true) : Good l := fun p hp => by
  rcases h p hp with z | z
  · rw [z]
    decide +kernel
  · exact hQ _ z
theorem goodQ_steps {Q : Str → Prop} {z : Str} (h : GoodQ Q (tl z)) : ∀ x ∈ steps z, Q x := fun x hx => by
  rw [steps_tl] at hx
  obtain ⟨p, hp, rfl⟩ := List.mem_map.mp hx
  obtain ⟨h1, h2⟩ := List.mem_filter.mp hp
  exact (h p h1).resolve_left fun e => by
    rw [e] at h2
    cases h2
theorem goodQ_one {Q : Str → Prop} {z : Str} (h : 47 ∉ tl z) (q : Q z) : GoodQ Q (tl z) := fun p hp => by
  rw [pcs_one _ h] at hp
  have e : p = tl z := by simpa using hp
  right
  rw [e, mk_tl']
  exact q
end DT
namespace My
open PySem L2 DD HP1
open PySem.Spec PyProof.Rows
/-- a walk in two parts -/
theorem lead_cat {tr : Tr} {n : Nat} {a b c : Str} {here : Place} {kp : Bool} (hs : DT.steps c = DT.steps a ++ DT.steps b) (hr : DT.rooted c = DT.rooted a) (he : DT.ended c = DT.ended b) (hrb : DT.rooted b = false) (hb : DT.steps b ≠ []) :
    (∃ h, leadP tr n a here false = some h ∧ kindT tr h = some "folder" ∧ leadP tr n c here kp = leadP tr n b h kp ∧ looksP tr n c here kp = looksP tr n a here false ++ (looksP tr n b h kp).filter fun x => decide (x ∉ looksP tr n a here false)) ∨
    ((∀ h, leadP tr n a here false = some h → kindT tr h ≠ some "folder") ∧ leadP tr n c here kp = none ∧ looksP tr n c here kp = looksP tr n a here false) := by
  have hlb : 0 < (DT.steps b).length := List.length_pos_iff.mpr hb
  have ha : goesP tr n a here false [] = goesEP tr a (goesLP (fun h st kp => stepP tr (folP tr n) h st kp []) (keepAt a false) 0 (DT.steps a) (if DT.rooted a = true then [] else here)) := rfl
  have hc : goesP tr n c here kp [] = goesEP tr c (goesLP (fun h st kp => stepP tr (folP tr n) h st kp []) (keepAt c kp) 0 (DT.steps c) (if DT.rooted c = true then [] else here)) := rfl
  have hbb : ∀ h, goesP tr n b h kp [] = goesEP tr b (goesLP (fun h st kp => stepP tr (folP tr n) h st kp []) (keepAt b kp) 0 (DT.steps b) h) := fun h => by
    show goesEP tr b (goesLP _ _ 0 _ (if DT.rooted b = true then [] else h)) = _
    rw [hrb]
    rfl
  unfold leadP looksP
  rw [ha, hc, hs, hr, goesLP_cat]
  generalize (if DT.rooted a = true then ([] : Place) else here) = st
  have h1 := goesLP_shift (fun h st kp => stepP tr (folP tr n) h st kp []) (keepAt c kp) (keepAt a false) 0 (DT.steps a) 0 0 st fun m hm => by
    unfold keepAt
    rw [hs, List.length_append]
    rw [decide_eq_false (show ¬ 0 + m + 1 = (DT.steps a).length + (DT.steps b).length by omega)]
    simp
  generalize goesLP (fun h st kp => stepP tr (folP tr n) h st kp []) (keepAt c kp) 0 (DT.steps a) st = la at h1 ⊢
  generalize goesLP (fun h st kp => stepP tr (folP tr n) h st kp []) (keepAt a false) 0 (DT.steps a) st = lb at h1 ⊢
  obtain ⟨r, A, w, dn⟩ := la
  obtain ⟨r', A', w', dn'⟩ := lb
  obtain ⟨e1, e2, e3⟩ := h1
  have e1' : r = r' := e1
  have e2' : A = A' := e2
  subst e1' e2'
  cases r with
  | none => exact .inr ⟨fun h z => (nomatch z), rfl, rfl⟩
  | some h =>
    have hEa : ∀ x : Out, x = ⟨some h, A, w', dn'⟩ → (goesEP tr a x).A = A ∧ ((goesEP tr a x).r = some h ∨ ((goesEP tr a x).r = none ∧ kindT tr h ≠ some "folder")) := fun x hx => by
      subst hx
      show (Out.A (if _ then _ else _)) = A ∧ (Out.r (if _ then _ else _) = some h ∨ Out.r (if _ then _ else _) = none ∧ _)
      by_cases hcnd : DT.ended a = true ∧ kindT tr h ≠ some "folder"
      · rw [if_pos hcnd]
        exact ⟨rfl, .inr ⟨rfl, hcnd.2⟩⟩
      · rw [if_neg hcnd]
        exact ⟨rfl, .inl rfl⟩
    obtain ⟨f1, f2⟩ := hEa _ rfl
    by_cases hk : kindT tr h = some "folder"
    · refine .inl ⟨h, f2.resolve_right fun z => z.2 hk, hk, ?_⟩
      rw [f1]
      simp only [hbb]
      have h2 := goesLP_shift (fun h st kp => stepP tr (folP tr n) h st kp []) (keepAt c kp) (keepAt b kp) 0 (DT.steps b) (0 + (DT.steps a).length) 0 h fun m hm => by
        unfold keepAt
        rw [hs, List.length_append, he]
        congr 1
        rw [Bool.eq_iff_iff, decide_eq_true_eq, decide_eq_true_eq]
        omega
      generalize goesLP (fun h st kp => stepP tr (folP tr n) h st kp []) (keepAt c kp) (0 + (DT.steps a).length) (DT.steps b) h = lc at h2 ⊢
      generalize goesLP (fun h st kp => stepP tr (folP tr n) h st kp []) (keepAt b kp) 0 (DT.steps b) h = ld at h2 ⊢
      obtain ⟨r2, A2, w2, dn2⟩ := lc
      obtain ⟨r3, A3, w3, dn3⟩ := ld
      obtain ⟨g1, g2, g3⟩ := h2
      have g1' : r2 = r3 := g1
      have g2' : A2 = A3 := g2
      subst g1' g2'
      cases r2 with
      | none => exact ⟨rfl, looks_more A A2⟩
      | some x =>
        show Out.r (if _ then _ else _) = Out.r (if _ then _ else _) ∧ addAll [] (Out.A (if _ then _ else _)) = addAll [] A ++ List.filter _ (addAll [] (Out.A (if _ then _ else _)))
        rw [he]
        by_cases hcnd : DT.ended b = true ∧ kindT tr x ≠ some "folder"
        · rw [if_pos hcnd, if_pos hcnd]
          exact ⟨rfl, looks_more A A2⟩
        · rw [if_neg hcnd, if_neg hcnd]
          exact ⟨rfl, looks_more A A2⟩
    · have hb2 : ∃ x l, DT.steps b = x :: l := by
        cases e : DT.steps b with
        | nil => exact absurd e hb
        | cons x l => exact ⟨x, l, rfl⟩
      obtain ⟨x, l, ex⟩ := hb2
      have hst : ∀ k, goesLP (fun h st kp => stepP tr (folP tr n) h st kp []) (keepAt c kp) k (DT.steps b) h = ⟨none, [], some "file", some k⟩ := fun k => by
        rw [ex, goesLP_cons]
        unfold stepP
        rw [if_pos hk]
        rfl
      refine .inr ⟨fun h' z => ?_, ?_, ?_⟩
      · rcases f2 with q | q
        · rw [q] at z
          cases z
          exact hk
        · rw [q.1] at z
          cases z
      · simp only
        rw [hst]
        rfl
      · simp only
        rw [hst, f1]
        show addAll [] (A ++ []) = _
        rw [List.append_nil]
/-- the last step behind the begin -/
theorem lead_last {tr : Tr} {n : Nat} {a b c x : Str} {here : Place} (hr : DT.rooted b = DT.rooted a) (ha : DT.ended a = false) (hs : DT.steps a = DT.steps b ++ [x] ∨ (DT.steps a = [x] ∧ b = "." ∧ DT.rooted a = false)) (hf : kindT tr here = some "folder")
    (hc : DT.steps c = [(".": Str), x]) (hcr : DT.rooted c = false) (hce : DT.ended c = false) :
    (∃ h, leadP tr n b here false = some h ∧ kindT tr h = some "folder" ∧ leadP tr n a here false = leadP tr n c h false) ∨
    ((∀ h, leadP tr n b here false = some h → kindT tr h ≠ some "folder") ∧ leadP tr n a here false = none) := by
  have kf : ∀ (p : Str), keepAt p false = fun _ => false := fun p => by
    funext k
    unfold keepAt
    simp
  have hcE : ∀ h, kindT tr h = some "folder" → leadP tr n c h false = (goesLP (fun h st kp => stepP tr (folP tr n) h st kp []) (fun _ => false) 0 [x] h).r := fun h hk => by
    show (goesEP tr c (goesLP _ (keepAt c false) 0 (DT.steps c) (if DT.rooted c = true then [] else h))).r = _
    rw [hc, hcr, if_neg (by decide), kf, goesLP_cons]
    have e1 : stepP tr (folP tr n) h "." false [] = hereO h := by
      unfold stepP
      rw [if_neg (fun z => z hk), if_pos rfl]
    rw [e1]
    have h2 := goesLP_shift (fun h st kp => stepP tr (folP tr n) h st kp []) (fun _ => false) (fun _ => false) 0 [x] (0 + 1) 0 h fun m hm => rfl
    have e3 : ∀ o : Out, (goesEP tr c o).r = o.r := fun o => by
      unfold goesEP
      cases e : o.r with
      | none => exact e
      | some y =>
        simp only
        rw [if_neg (fun z => by rw [hce] at z; exact nomatch z.1)]
        exact e
    rw [e3]
    exact h2.1
  have haE : leadP tr n a here false = (goesLP (fun h st kp => stepP tr (folP tr n) h st kp []) (fun _ => false) 0 (DT.steps a) (if DT.rooted a = true then [] else here)).r := by
    show (goesEP tr a (goesLP _ (keepAt a false) 0 (DT.steps a) (if DT.rooted a = true then [] else here))).r = _
    rw [kf]
    generalize goesLP _ _ _ _ _ = o
    unfold goesEP
    cases e : o.r with
    | none => exact e
    | some y =>
      simp only
      rw [if_neg (fun z => by rw [ha] at z; exact nomatch z.1)]
      exact e
  rcases hs with hs | ⟨hs, hb, hra⟩
  · have hbE : leadP tr n b here false = (goesEP tr b (goesLP (fun h st kp => stepP tr (folP tr n) h st kp []) (fun _ => false) 0 (DT.steps b) (if DT.rooted a = true then [] else here))).r := by
      show (goesEP tr b (goesLP _ (keepAt b false) 0 (DT.steps b) (if DT.rooted b = true then [] else here))).r = _
      rw [kf, hr]
    rw [haE, hbE, hs, goesLP_cat]
    generalize goesLP (fun h st kp => stepP tr (folP tr n) h st kp []) (fun _ => false) 0 (DT.steps b) (if DT.rooted a = true then [] else here) = o
    obtain ⟨r, A, w, dn⟩ := o
    cases r with
    | none => exact .inr ⟨fun h z => (nomatch z), rfl⟩
    | some h =>
      have f2 : (goesEP tr b ⟨some h, A, w, dn⟩).r = some h ∨ ((goesEP tr b ⟨some h, A, w, dn⟩).r = none ∧ kindT tr h ≠ some "folder") := by
        show Out.r (if _ then _ else _) = some h ∨ Out.r (if _ then _ else _) = none ∧ _
        by_cases hcnd : DT.ended b = true ∧ kindT tr h ≠ some "folder"
        · rw [if_pos hcnd]
          exact .inr ⟨rfl, hcnd.2⟩
        · rw [if_neg hcnd]
          exact .inl rfl
      by_cases hk : kindT tr h = some "folder"
      · refine .inl ⟨h, f2.resolve_right fun z => z.2 hk, hk, ?_⟩
        rw [hcE h hk]
        exact (goesLP_shift (fun h st kp => stepP tr (folP tr n) h st kp []) (fun _ => false) (fun _ => false) 0 [x] _ 0 h fun m hm => rfl).1
      · refine .inr ⟨fun h' z => ?_, ?_⟩
        · rcases f2 with q | q
          · rw [q] at z
            cases z
            exact hk
          · rw [q.1] at z
            cases z
        · simp only
          rw [goesLP_cons]
          unfold stepP
          rw [if_pos hk]
          rfl
  · refine .inl ⟨here, ?_, hf, ?_⟩
    · subst hb
      show (goesEP tr "." (goesLP _ (keepAt "." false) 0 (DT.steps ".") (if DT.rooted "." = true then [] else here))).r = _
      rw [show DT.steps ("." : Str) = [(".": Str)] from by decide +kernel, show DT.rooted ("." : Str) = false from by decide +kernel, if_neg (by decide), goesLP_cons]
      have e1 : stepP tr (folP tr n) here "." (keepAt "." false 0) [] = hereO here := by
        unfold stepP
        rw [if_neg (fun z => z hf), if_pos rfl]
      rw [e1]
      show Out.r (if _ then _ else _) = _
      rw [if_neg (fun z => z.2 hf)]
      rfl
    · rw [hcE here hf, haE, hs, hra, if_neg (by decide)]
end My

/-! HLam: a lambda handed to a def, its table told as it grows; a try with several clauses, named or not. -/
namespace HL1
open PySem PySem.Spec PyProof.Rows L2
/-- the heap behind the making of a lambda: as it was, or with one code object more -/
inductive Grew (P c' : Addr) (q : Str) (ps : Array Value) (H : Hp) : Hp → Prop
  | known (h : ∃ p, codeAmong p ps.toList = some (.ref c')) : Grew P c' q ps H H
  | fresh (more : Array Value) (hn : H c' = none) (ht : TriplesOk (ps ++ more).toList) (ha : ∀ p cv, codeAmong p (ps ++ more).toList = some cv → (∃ p', codeAmong p' ps.toList = some cv) ∨ cv = .ref c') :
      Grew P c' q ps H (upd (upd H P (.tbl (ps ++ more))) c' (LamX.CodeO c' q))
section
variable {X : Cx} {pins : List (Addr × Obj)} {σ : L2.St} {H : Hp} {s : Shared}
theorem lamNew {c P : Addr} {q : Str} {ps : Array Value} {params : Arguments} {body : Expr} {scope : Scope} {pos : Pos} {E Q : Value → Shared → Prop} (I : Inv X pins σ H s) (hq : X.env.qual ++ "<lambda>" = q) (TB : LamX.TabB X.base X.mg c P) (hcode : X.env.code = .ref c)
    (tP : H P = some (.tbl ps)) (tOk : TriplesOk ps.toList) (tAll : ∀ p cv, codeAmong p ps.toList = some cv → ∃ c', cv = .ref c' ∧ H c' = some (LamX.CodeO c' q)) (hdef : defaultsOf params X.env = ([], []))
    (hfree : ∀ y ∈ scope.names, y.2 = .free → ∃ c, X.env.cells.lookup y.1 = some c)
    (h : ∀ (f c' : Addr) (pm ctv : Value) (H1 : Hp) (s1 : Shared), Inv X pins σ H1 s1 → Grew P c' q ps H H1 → H1 c' = some (LamX.CodeO c' q) →
      s1.heap.get? f = some (PySem.W.kla_obj "<lambda>" q params body scope (cloFrom X.env.cells scope.names []) pm c' ctv) → H1 f = none → f ∉ frs X.stack → Q (.ref f) s1) :
    wpAny (model X.prog X.w) X.A (eval (.Lambda params body scope pos) X.env) Q E s := by
  subst hq
  refine PySem.W.kla_eval hdef ?_
  have hbP := TB.bm.keeps I.bk
  have hgP : s.heap.get? P = some { cls := .none, data := .fields ps } := I.hok P _ tP
  have away : ∀ f, s.heap.objs.size ≤ f → f ∉ frs X.stack := fun f hf hm => by
    rcases List.mem_cons.mp (I.stkSub f hm) with z | z
    · have lo := I.lt
      rw [← z] at lo
      exact absurd (Nat.lt_of_lt_of_le lo hf) (Nat.lt_irrefl f)
    · exact I.nofs hf z
  cases fnd : codeAmong pos ps.toList with
  | some cv =>
    obtain ⟨c', rfl, hc'⟩ := tAll pos cv fnd
    refine PySem.W.kla_makeFunctionHit (c := c) (P := P) (ps := ps) (mg := X.mg) (closure_ok hfree) I.ok.glob (I.mod.glob.keeps I.bk) hcode (TB.code.keeps I.bk) hgP tOk fnd hbP ?_
    intro ctv g tk up grown
    have J := I.kept (h' := g.push (PySem.W.kla_obj "<lambda>" (X.env.qual ++ "<lambda>") params body scope (cloFrom X.env.cells scope.names []) ((X.mg "__name__").getD .none) c' ctv)) (t' := tk) fun b o e => Heap.get?_push_of_some _ (up b o e)
    exact h _ c' _ ctv H _ J (.known ⟨pos, fnd⟩) hc' (Heap.get?_push_size _ rfl) (I.hok.fresh grown) (away _ grown)
  | none =>
    refine PySem.W.kla_makeFunction (c := c) (P := P) (ps := ps) (mg := X.mg) (closure_ok hfree) I.ok.glob (I.mod.glob.keeps I.bk) hcode (TB.code.keeps I.bk) hgP tOk fnd TB.gP hbP ?_
    intro c' ctv g tk ext lo hi rec_ tab
    obtain ⟨c2, oc, vs, tt, rfl', r1, r2, r3⟩ := rec_
    cases rfl'
    have big : s.heap.objs.size ≤ g.objs.size := Nat.le_of_lt (Nat.lt_of_le_of_lt lo hi)
    have free' : H c' = none := I.hok.fresh lo
    have J := LamX.inv_table (t' := tk) (q := X.env.qual ++ "<lambda>") (more := #[rawInt pos.line, rawInt pos.col, .ref c']) (h' := g.push (PySem.W.kla_obj "<lambda>" (X.env.qual ++ "<lambda>") params body scope (cloFrom X.env.cells scope.names []) ((X.mg "__name__").getD .none) c' ctv)) I tP
      (fun b o nb e => Heap.get?_push_of_some _ (ext b o nb e)) (Heap.get?_push_of_some _ tab) lo ⟨oc, vs, tt, Heap.get?_push_of_some _ r1, r2, r3⟩
    have lst : (ps ++ #[rawInt pos.line, rawInt pos.col, .ref c']).toList = ps.toList ++ [rawInt pos.line, rawInt pos.col, .ref c'] := by simp
    refine h g.objs.size c' _ ctv _ _ J (.fresh _ free' (by rw [lst]; exact PySem.TriplesOk_snoc _ _ _ _ tOk) fun p cv hcv => ?_) upd_same (Heap.get?_push_size _ rfl) ?_ (away _ big)
    · rw [lst] at hcv
      exact (LamX.among_app _ tOk hcv).imp (fun z => ⟨p, z⟩) fun z => z
    · have n2 : g.objs.size ≠ P := Nat.ne_of_gt (Nat.lt_of_lt_of_le (Heap.lt_size hgP) big)
      rw [upd_ne (Nat.ne_of_gt hi), upd_ne n2]
      exact I.hok.fresh big
theorem takes_len {W : WX} (tk : Takes X W) : Takes X (fun cls d σ' H' => σ'.length = X.N.length → W cls d σ' H') := fun u s' z => by
  obtain ⟨a, B, sI, pins', σ', H', cls, d, e, J, b1, b2, b3, b4, b5, b6, w⟩ := z
  exact tk u s' ⟨a, B, sI, pins', σ', H', cls, d, e, J, b1, b2, b3, b4, b5, b6, w J.len⟩
end
/-- what the reading of x(lambda: ..) asks: the table's state, then the def's reading over the lambda's -/
def tLam (P : Addr) (q : Str) (Ng : List Str) (tg : (XK → TE) → TS) (t : XK → TE) : TE := fun σ H Q => ∃ ps, H P = some (.tbl ps) ∧ TriplesOk ps.toList ∧ (∀ p cv, codeAmong p ps.toList = some cv → ∃ c', cv = .ref c' ∧ H c' = some (LamX.CodeO c' q)) ∧
  ∀ f c' H1, H1 f = none → H1 c' = some (LamX.CodeO c' q) → Grew P c' q ps H H1 → tg (fun E σZ HZ Q' => σZ[0]? = some (some (.ref f)) ∧ HZ c' = some (LamX.CodeO c' q) ∧ t E σ HZ Q') { nx := fun _ H' => Q .non H', rt := Q } (L2.start Ng [.ref f]) H1
section
variable {X : Cx}
theorem pe_lam {x a q : Str} {g c P : Addr} {k : Nat} {st : Stmt} {fd : FuncData} {Ng : List Str} {params : Arguments} {body : Expr} {scope : Scope} {t : XK → TE} {tg : (XK → TE) → TS} {p lpos pos : Pos} (hg : Gl X x) (hm : X.mg x = some (.ref g)) (F : L2.Fun X.K x x st g fd) (hb : L2.Binds X.K fd [a] []) (Sg : FnScope Ng [a] (defScope st))
    (h0 : Ng[0]? = some a) (hva : Vis (defScope st) a) (hq : X.env.qual ++ "<lambda>" = q)
    (hG : ∀ (cdv : Value) (s : Shared) (H : Hp) (ask : XK → TE), (∀ (W : WX) (pn : List (Addr × Obj)) (xe : Value → Shared → Prop) (p1 p2 : Pos), Takes ((cxOf C8.CX0 X.prog X.w X.K X.mg X.base Ng x (defScope st) g cdv X.A X.stack s H C8.E0).tr pn xe) W →
        PE ((cxOf C8.CX0 X.prog X.w X.K X.mg X.base Ng x (defScope st) g cdv X.A X.stack s H C8.E0).tr pn xe) (.Call (.Name a p1) [] [] p2) (ask fun cls d H' => ∀ σ' : L2.St, σ'.length = Ng.length → W cls d σ' H')) →
      PSs (cxOf C8.CX0 X.prog X.w X.K X.mg X.base Ng x (defScope st) g cdv X.A X.stack s H C8.E0) (defBody st) (tg ask))
    (TB : LamX.TabB X.base X.mg c P) (hcode : X.env.code = .ref c) (hr : Room (k + 2) X.A) (L : LamX.LamS X.env.scope scope) (hdef : defaultsOf params X.env = ([], []))
    (hbind : ∀ (q : Str) (cl : List (Str × Addr)) (pm cv ctv : Value), bindArgs (PySem.W.kla_fn "<lambda>" q params body scope cl pm cv ctv) ⟨[], []⟩ = pure [])
    (hbody : ∀ (A : Around) (outer : List Env) (s : Shared) (H : Hp) (E : XK) (f c' : Addr), Room k (A.deeper (LamX.lamEnv X scope s.heap.objs.size f c')) → PE (LamX.lamCx X A outer s H E scope f c') body (t E))
    (hdb : (x == ("__debug__" : Str)) = false := by decide) (hd : (a == ("__debug__" : Str)) = false := by decide) (hcd : (a == ("__classdict__" : Str)) = false := by decide) :
    PE X (.Call (.Name x p) [.Lambda params body scope lpos] [] pos) (tLam P q Ng tg t) := by
  obtain ⟨oc, od, kV, doc, pm, an, cdv, ct, osl, rfl, lk, hcg⟩ := F.ex
  refine ⟨fun pins s σ H Q I ⟨ps, tP, tOk, tAll, go⟩ => wpAny_Call_Name_kw (ld_glob I hg hm ?_ hdb)⟩
  refine PySem.W.callWith_K (h₀ := X.base) I.ok.mod.kin F.kp ?_ (by rfl) (by rfl)
  show wpAny _ _ (spliced ((false, eval (.Lambda params body scope lpos) X.env) :: backTo pos (starEach [] X.env))) _ _ s
  refine Calls.spliced_cons (lamNew I hq TB hcode tP tOk tAll hdef (L.has I.ok) ?_)
  intro f c' pm' ctv H1 s1 J gr hc' obj fr0 fr1
  refine Calls.spliced_nil ⟨J.kIn, wpAny_call ?_⟩
  subst hq
  refine codeAny_mono (LamX.run_ofS (CX := C8.CX0) (E := C8.E0) (Q := Q) (N := Ng) (ps := [a]) (us := [.ref f]) (vs := [.ref f]) lk hcg Sg hr J.env0 (hb s1 [.ref f] J.kIn rfl) (.cons rfl .nil) rfl fun hr1 => ⟨_, hG cdv s1 H1 (fun E σZ HZ Q' => σZ[0]? = some (some (.ref f)) ∧ HZ c' = some (LamX.CodeO c' (X.env.qual ++ "<lambda>")) ∧ t E σ HZ Q') ?_, ?_⟩) fun r s2 hr2 => ?_
  · intro W pn xe p1 p2 tk
    exact LamX.pe_act (i := 0) J L obj fr0 fr1 (hbind _ _ _ _ _) (takes_len tk) (fun cls d σ' H' hE hl => hE σ' hl) hr1 (fun A outer s0 H0 hr0 => hbody A outer s0 H0 _ f c' hr0) h0 hva hd hcd
  · exact go f c' H1 fr0 hc' gr
  · match r, hr2 with
    | .ok (.ret u), z => exact J.after z
    | .ok .next, z => exact False.elim z
    | .ok .brk, z => exact False.elim z
    | .ok .cont, z => exact False.elim z
    | .error e, z => exact False.elim z
end
/-- whether the clause of the class S takes an exception of the class C -/
theorem exm_two {K : PySem.W.Frag} {C S : Addr} {r : Bool} (h1 : PySem.W.subIn K (.ref S) (.type "BaseException") = some true) (h2 : PySem.W.isClsIn K S = true) (h3 : PySem.W.typeIn K (.ref S) = some (.type "type")) (h4 : PySem.W.subIn K (.ref C) (.ref S) = some r) :
    PySem.W.exmOne K (.ref C) (.ref S) = some r := by
  have b1 : (PySem.W.subIn K (.ref S) (.type "BaseException") == some true) = true := by rw [h1] <;> rfl
  have b2 : ((PySem.W.clsIn K S).isSome && PySem.W.typeIn K (.ref S) == some (.type "type")) = true := by
    have h2' : (PySem.W.clsIn K S).isSome = true := h2
    rw [h2', h3] <;> rfl
  show (if _ then (if _ then PySem.W.subIn K (.ref C) (.ref S) else none) else none) = some r
  rw [if_pos b1, if_pos b2]
  exact h4
/-! ### a try with several clauses -/
/-- what the clauses wish of an exception: class, slot of the name if there is one, suite -/
def wM (K : PySem.W.Frag) (D : Ends) : List (Value × Option Nat × (Addr → Value → Option Addr → TS)) → WX
  | [] => fun _ _ _ _ => False
  | (c, none, ts) :: r => fun cls d σ H => ∃ b, PySem.W.exmOne K cls c = some b ∧ (b = true → ∀ a, H a = none → ts a cls d D σ H) ∧ (b = false → wM K D r cls d σ H)
  | (c, some i, ts) :: r => fun cls d σ H => ∃ b, PySem.W.exmOne K cls c = some b ∧ (b = true → ∀ a, H a = none → ts a cls d { nx := fun σ1 H1 => D.nx (σ1.set i none) H1, rt := D.rt, bk := fun σ1 H1 => D.bk (σ1.set i none) H1, ct := fun σ1 H1 => D.ct (σ1.set i none) H1 } (σ.set i (some (.ref a))) H) ∧
      (b = false → wM K D r cls d σ H)
inductive HdM (X : Cx) : List ExceptHandler → List (Value × Option Nat × (Addr → Value → Option Addr → TS)) → Prop
  | nil : HdM X [] []
  | plain {x : Str} {c : Value} {ts : Addr → Value → Option Addr → TS} {b₀ : Stmt} {su : List Stmt} {p1 p2 : Pos} {hds : List ExceptHandler} {l : List (Value × Option Nat × (Addr → Value → Option Addr → TS))} (nm : Names X x c)
      (hsu : ∀ (a : Addr) (oe : Obj) (cls : Value) (d : Option Addr) (pn : List (Addr × Obj)), Zc cls d oe → (∃ vs, oe.data = .fields vs) → PSs (X.suite a ((a, oe) :: pn)) (b₀ :: su) (ts a cls d)) (r : HdM X hds l) :
      HdM X (.ExceptHandler (some (.Name x p1)) none (b₀ :: su) p2 :: hds) ((c, none, ts) :: l)
  | named {x n : Str} {c : Value} {i : Nat} {ts : Addr → Value → Option Addr → TS} {b₀ : Stmt} {su : List Stmt} {p1 p2 : Pos} {hds : List ExceptHandler} {l : List (Value × Option Nat × (Addr → Value → Option Addr → TS))} (nm : Names X x c) (hi : X.N[i]? = some n) (hln : X.env.kindOf n = some .local)
      (hsu : ∀ (a : Addr) (oe : Obj) (cls : Value) (d : Option Addr) (pn : List (Addr × Obj)), Zc cls d oe → (∃ vs, oe.data = .fields vs) → PSs (X.suite a ((a, oe) :: pn)) (b₀ :: su) (ts a cls d)) (r : HdM X hds l) :
      HdM X (.ExceptHandler (some (.Name x p1)) (some n) (b₀ :: su) p2 :: hds) ((c, some i, ts) :: l)
def tTryM (K : PySem.W.Frag) (n : Nat) (l : List (Value × Option Nat × (Addr → Value → Option Addr → TS))) (tb : XK → TS) : TS := fun D σ H => tb (fun cls d H' => ∀ σ' : L2.St, σ'.length = n → wM K D l cls d σ' H') D σ H
section
variable {X : Cx} {body : List Stmt} {h₀ : ExceptHandler} {hds : List ExceptHandler} {l : List (Value × Option Nat × (Addr → Value → Option Addr → TS))} {pos : Pos} {tb : XK → TS}
theorem ps_tryM (hs : X.stack = X.env :: X.outer) (hf : X.env.frame = some X.env.locals) (hN : X.N.Nodup)
    (hb : ∀ (W : WX) (pn : List (Addr × Obj)) (xe : Value → Shared → Prop), Takes (X.tr pn xe) W → PassesOwn (model X.prog X.w) X.A X.env xe → PSs (X.tr pn xe) body (tb fun cls d H' => ∀ σ' : L2.St, σ'.length = X.N.length → W cls d σ' H'))
    (hh : HdM X (h₀ :: hds) l) : PS X (.Try body (h₀ :: hds) [] [] pos) (tTryM X.K X.N.length l tb) := by
  refine ⟨fun pins s σ H D I h => ?_⟩
  have ok := I.ok
  have frm : X.A.frames = some (X.env :: X.outer) := hs ▸ ok.frames
  refine wpAny_Try_except (wpAny_mono ((hb (wM X.K D l) (X.pn ++ pins) (fun e z₁ => wpAny (model X.prog X.w) X.A (noteFrame e X.env) (fun _ z₂ => wpAny (model X.prog X.w) X.A (setFlight e none)
    (fun _ z₃ => wpAny (model X.prog X.w) X.A (handleBy e X.env (h₀ :: hds)) (SP X pins D) X.xe z₃) X.xe z₂) X.xe z₁) (fun u s' caught => ?_) PassesOwn.looking).run [] s σ H D (I.toTry _) h) (fun fl s1 done => ?_) (fun _ _ z => z))
  · obtain ⟨a, B, sI, pins', σ', H', cls, d, rfl, J0, nb, up, sk, na, os, ag, want⟩ := caught
    have J : Inv X pins σ' H' sI := J0.ofTry ok
    rw [show (X.tr (X.pn ++ pins) _).stack = X.env :: X.outer from hs] at sk
    show wpAny (model X.prog X.w) X.A (noteFrame (.ref a) X.env) _ _ _
    refine Sky.land Zc.steady frm hf sk fun g3 fly3 to3 => ?_
    have K3 : Inv X pins σ' H' { s' with heap := g3 } := J.landed nb fly3.1 (up.trans to3) os ag
    obtain ⟨o3, v3, at3, zc3, dt3⟩ := fly3.there
    have off : a ∉ frs (X.env :: X.outer) := fun hm => by
      obtain ⟨_, o', e', no⟩ := fly3.2.2.1.mem hm
      rw [at3] at e'
      cases e'
      exact no _ dt3
    have nLoc : a ≠ X.env.locals := fun z => off (List.mem_filterMap.mpr ⟨X.env, List.mem_cons_self, by rw [hf, z]⟩)
    have nFs : a ∉ X.fs := fun hm => by
      obtain ⟨ev, m1, m2⟩ := List.mem_filterMap.mp hm
      exact off (List.mem_filterMap.mpr ⟨ev, List.mem_cons_of_mem _ m1, m2⟩)
    have asks : ∀ {x : Str} {c : Value} {np : Pos} {Q E : Value → Shared → Prop}, Names X x c → Q c { s' with heap := g3 } → wpAny (model X.prog X.w) (X.A.mark (some (.ref a))) (eval (.Name x np) X.env) Q E { s' with heap := g3 } := fun {x c np Q E} nm q => by
      have S3 := K3.suite at3 dt3 na nLoc nFs
      obtain ⟨hg, hdbg, hm⟩ := nm
      rcases hm with hm | ⟨hm, hv, hnn⟩
      · exact ld_glob (X := X.suite a ((a, o3) :: (X.pn ++ pins))) S3 hg hm q hdbg
      · exact ld_blt (X := X.suite a ((a, o3) :: (X.pn ++ pins))) S3 hg hm hv q hnn hdbg
    have kind3 : PySem.W.Looks (model X.prog X.w) g3 (typeOf (.ref a)) cls := fun _ _ _ _ k q => wpAny_typeOf_ref (k _ _ at3) (zc3.1.symm ▸ q)
    have again : ∀ {hs' : List ExceptHandler} {l' : List (Value × Option Nat × (Addr → Value → Option Addr → TS))}, HdM X hs' l' → wM X.K D l' cls d σ' H' → wpAny (model X.prog X.w) X.A (handleBy (.ref a) X.env hs') (SP X pins D) X.xe { s' with heap := g3 } := by
      intro hs' l' hk
      induction hk with
      | nil => exact False.elim
      | @plain x c ts b₀ su p1 p2 hds2 l2 nm hsu r ih =>
        rintro ⟨b, eb, yes, no⟩
        refine wpAny_handleBy_cons (codeAny_handlers_test (asks nm ((PySem.W.exm_one (M := model X.prog X.w) K3.kIn kind3 eb).here ?_))) (fun z => by cases z)
        cases b with
        | false => exact ih (no rfl)
        | true =>
          refine codeAny_handlers_suite (HandSPX.lands_againZ fly3 fun g4 fly4 to4 => ?_)
          obtain ⟨o4, v4, at4, zc4, dt4⟩ := fly4.there
          have K4 : Inv X pins σ' H' { s' with heap := g4 } := J.landed nb fly4.1 ((up.trans to3).trans to4) os ag
          refine wpAny_mono ((hsu a o4 cls d (X.pn ++ pins) zc4 ⟨_, dt4⟩).run [] _ _ H' _ (K4.suite at4 dt4 na nLoc nFs) (yes rfl a na)) (fun fl s6 done => ?_) (fun _ _ z => z.elim)
          match fl, done with
          | .next, ⟨σ6, H6, S6, q6⟩ => exact ⟨σ6, H6, S6.unsuite ok, q6⟩
          | .brk, ⟨σ6, H6, S6, q6⟩ => exact ⟨σ6, H6, S6.unsuite ok, q6⟩
          | .cont, ⟨σ6, H6, S6, q6⟩ => exact ⟨σ6, H6, S6.unsuite ok, q6⟩
          | .ret u, ⟨v6, σ6, H6, S6, r6, q6⟩ => exact ⟨v6, σ6, H6, S6.unsuite ok, r6, q6⟩
      | @named x n c i ts b₀ su p1 p2 hds2 l2 nm hi hln hsu r ih =>
        rintro ⟨b, eb, yes, no⟩
        refine wpAny_handleBy_cons (codeAny_handlers_test (asks nm ((PySem.W.exm_one (M := model X.prog X.w) K3.kIn kind3 eb).here ?_))) (fun z => by cases z)
        cases b with
        | false => exact ih (no rfl)
        | true =>
          refine codeAny_handlers_suite_as (HandSPX.lands_againZ fly3 fun g4 fly4 to4 => ?_)
          obtain ⟨o4, v4, at4, zc4, dt4⟩ := fly4.there
          have K4 : Inv X pins σ' H' { s' with heap := g4 } := J.landed nb fly4.1 ((up.trans to3).trans to4) os ag
          refine store_ok (X := X.suite a ((a, o4) :: (X.pn ++ pins))) (v := .ref a) (K4.suite at4 dt4 na nLoc nFs) hN hi (.inl hln) rfl (fun s5 S5 => ?_) (.inr hln)
          refine wpAny_mono ((hsu a o4 cls d (X.pn ++ pins) zc4 ⟨_, dt4⟩).run [] s5 _ H' _ S5 (yes rfl a na)) (fun fl s6 done => ?_) (fun _ _ z => z.elim)
          have gone : ∀ {σ6 : L2.St} {H6 : Hp} {R : Shared → Prop}, Inv (X.suite a ((a, o4) :: (X.pn ++ pins))) [] σ6 H6 s6 → (∀ s7, Inv X pins (σ6.set i none) H6 s7 → R s7) →
              wpAny (model X.prog X.w) X.A (do bindName X.env n .none; unbindBehindTheSuite X.env n p2) (fun _ s7 => R s7) X.xe s6 := fun {σ6 H6 R} S6 hR => gone_ok (S6.unsuite ok) hN hi hln hR
          match fl, done with
          | .next, ⟨σ6, H6, S6, q6⟩ => exact gone S6 fun s7 J7 => ⟨_, _, J7, q6⟩
          | .brk, ⟨σ6, H6, S6, q6⟩ => exact gone S6 fun s7 J7 => ⟨_, _, J7, q6⟩
          | .cont, ⟨σ6, H6, S6, q6⟩ => exact gone S6 fun s7 J7 => ⟨_, _, J7, q6⟩
          | .ret u, ⟨v6, σ6, H6, S6, r6, q6⟩ => exact gone S6 fun s7 J7 => ⟨_, _, _, J7, r6, q6⟩
    exact again hh want
  · match fl, done with
    | .next, ⟨σ6, H6, J6, q6⟩ => exact wpAny_execs_nil ⟨σ6, H6, J6.ofTry ok, q6⟩
    | .brk, ⟨σ6, H6, J6, q6⟩ => exact ⟨σ6, H6, J6.ofTry ok, q6⟩
    | .cont, ⟨σ6, H6, J6, q6⟩ => exact ⟨σ6, H6, J6.ofTry ok, q6⟩
    | .ret u, ⟨v6, σ6, H6, J6, r6, q6⟩ => exact ⟨v6, σ6, H6, J6.ofTry ok, r6, q6⟩
end
end HL1

/-! DLam: lambdas, tables of code objects, tries with several clauses, over data. -/
namespace DD
open PySem L2
open PySem.Spec PyProof.Rows
/-- a table of code objects that all bear the name q -/
def tabM (q : Str) : MO := .gen fun Hb o => ∃ ps, o = .tbl ps ∧ TriplesOk ps.toList ∧ ∀ p cv, codeAmong p ps.toList = some cv → ∃ c', cv = .ref c' ∧ Hb c' = some (LamX.CodeO c' q)
/-- the law's promise where it makes lambdas: its table is empty at the entry -/
def spLawT (K : PySem.W.Frag) (P : Addr) : Sp := fun vs H Q _ => ∃ (a : Addr) (ns : List Int), vs = [.ref a] ∧ SqL K H a (ns.map V.int) ∧ ns.length ≤ 63 ∧ H P = some (.tbl #[]) ∧ ∀ H', Q (.bl true) H'
section
variable {P : Program} {w : World} {K : PySem.W.Frag} {mg : Str → Option Value} {base : Heap} {B F Hb H : Hp} {m : Mem} {ρ : DD.Env}
theorem tab_start {T : Addr} {q : Str} (h : H T = some (.tbl #[])) : Rel K (fun _ => none) (fun b => if b = T then none else H b) H ⟨0, putM (fun _ => none) T (tabM q)⟩ := by
  refine ⟨fun b o e => ?_, (fun _ _ z => nomatch z), fun b mo e => ?_, (fun _ _ z => nomatch z)⟩
  · have e' : (if b = T then none else H b) = some o := e
    by_cases hb : b = T
    · rw [if_pos hb] at e'
      cases e'
    · rw [if_neg hb] at e'
      exact e'
  · have e' : putM (fun _ => none) T (tabM q) b = some mo := e
    by_cases hb : b = T
    · subst hb
      rw [putM_same] at e'
      cases e'
      exact ⟨if_pos rfl, .tbl #[], _, h, Same.refl _, ⟨#[], rfl, True.intro, fun p cv z => by simp [codeAmong] at z⟩, fun xs z => nomatch z⟩
    · rw [putM_ne hb] at e'
      cases e'
theorem okCT {CX : CXT} {x qual : Str} {st : Stmt} {f c : Addr} {fd : FuncData} {N ps : List Str} {k : Nat} {sp : Sp} (Fn : Fun K x qual st f fd) (hfd : fd.code = .ref c) (S : FnScope N ps (defScope st)) (len : ∀ vs H Q E, sp vs H Q E → vs.length = ps.length)
    (hbody : ∀ (A : Around) (outer : List PySem.Env) (s : Shared) (H : Hp) (vs : List V) (Q : VK) (E : XK), Room k (A.deeper (envOfC qual (defScope st) s.heap.objs.size f (.ref c))) → sp vs H Q E →
      ∃ t, PSs (cxOf CX P w K mg base N qual (defScope st) f (.ref c) A outer s H E) (defBody st) t ∧ t { nx := fun _ H' => Q .non H', rt := Q } (L2.start N vs) H) : FnOk P w K mg base CX (k + 1) f fd ps sp := by
  obtain ⟨oc, od, kV, doc, pm, an, cdv, ct, osl, rfl, lk, hcd⟩ := Fn.ex
  have e : cdv = .ref c := hfd
  subst e
  exact fn_of lk hcd S len fun A outer s H vs Q E hr hsp => hbody A outer s H vs Q E hr hsp
theorem ok_lawT {CX : CXT} {x qual : Str} {st : Stmt} {f c T : Addr} {q : Str} {fd : FuncData} {N : List Str} {y : Str} {k : Nat} (Fn : Fun K x qual st f fd) (hfd : fd.code = .ref c) (S : FnScope N [y] (defScope st))
    (hbody : ∀ (A : Around) (outer : List PySem.Env) (s : Shared) (H : Hp) (E : XK), Room k (A.deeper (envOfC qual (defScope st) s.heap.objs.size f (.ref c))) →
      ∃ t, PSs (cxOf CX P w K mg base N qual (defScope st) f (.ref c) A outer s H E) (defBody st) t ∧ ∀ (a : Addr) (ns : List Int) (B : Hp), SqL K B a (ns.map V.int) → ns.length ≤ 63 →
        WS K (fun _ => none) B t (startD N [.s (.ref a)]) ⟨0, putM (fun _ => none) T (tabM q)⟩ { nx := fun _ _ => False, rt := fun d _ => d = .s (.bl true) }) : FnOk P w K mg base CX (k + 1) f fd [y] (spLawT K T) := by
  refine okCT Fn hfd S (fun vs H Q E h => by obtain ⟨a, ns, rfl, _⟩ := h; rfl) fun A outer s H vs Q E hr h => ?_
  obtain ⟨a, ns, rfl, hS, hl, hT, q'⟩ := h
  obtain ⟨t, ht, hw⟩ := hbody A outer s H E hr
  have hS' : SqL K (fun b => if b = T then none else H b) a (ns.map V.int) := by
    by_cases ha : a = T
    · subst ha
      rcases hS with (z | ⟨o, z⟩) | z
      · rw [hT] at z
        cases z
      · rw [hT] at z
        cases z
      · exact .inr z
    · rcases hS with (z | ⟨o, z⟩) | z
      · exact .inl (.inl ((if_neg ha).trans z))
      · exact .inl (.inr ⟨o, (if_neg ha).trans z⟩)
      · exact .inr z
  refine ⟨t, ht, hw a ns _ hS' hl _ H _ _ (Same.refl _) (tab_start hT) (RpS.start (RpL.cons rp_s RpL.nil)) ⟨fun _ _ _ _ _ _ _ _ z => z.elim, fun v H' Hb' d m' e r hd z => ?_, fun _ _ _ _ _ _ _ _ z => z.elim, fun _ _ _ _ _ _ _ _ z => z.elim⟩⟩
  subst z
  unfold Rp at hd
  subst hd
  exact q' _
/-- x(lambda: ..): the def's reading, where asking is the lambda's reading -/
theorem we_lam {T : Addr} {q : Str} {Ng : List Str} {tg : (XK → TE) → TS} {t : XK → TE} {Q : QD} (hT : m.own T = some (tabM q))
    (h : ∀ B' (ask : XK → TE) (f : Addr), Same B B' → (∀ B2 E ρ' m' Q', Same B' B2 → ρ'[0]? = some (some (.s (.ref f))) → WE K F B2 (t E) ρ m' Q' → WE K F B2 (ask E) ρ' m' Q') →
      WS K F B' (tg ask) (startD Ng [.s (.ref f)]) m { nx := fun _ m' => Q (.s .non) m', rt := Q }) : WE K F B (HL1.tLam T q Ng tg t) ρ m Q := fun Hb H σ R hB r hs k => by
  obtain ⟨hn, o, Hc, hTo, hsm, ⟨ps, rfl, tOk, tAll⟩, _⟩ := r.own T _ hT
  have all' : ∀ p cv, codeAmong p ps.toList = some cv → ∃ c', cv = .ref c' ∧ Hb c' = some (LamX.CodeO c' q) := fun p cv z => by
    obtain ⟨c', e1, e2⟩ := tAll p cv z
    exact ⟨c', e1, hsm _ _ e2⟩
  refine ⟨ps, hTo, tOk, fun p cv z => ?_, fun f c' H1 hf hc' gr => ?_⟩
  · obtain ⟨c', e1, e2⟩ := all' p cv z
    exact ⟨c', e1, r.sub _ _ e2⟩
  have key : ∀ Hb1, Same Hb Hb1 → Hb1 c' = some (LamX.CodeO c' q) → Rel K F Hb1 H1 m → tg (fun E σZ HZ Q' => σZ[0]? = some (some (.ref f)) ∧ HZ c' = some (LamX.CodeO c' q) ∧ t E σ HZ Q') { nx := fun _ H' => R .non H', rt := R } (L2.start Ng [.ref f]) H1 := fun Hb1 e1 hco r1 => by
    refine h Hb1 _ f (hB.trans e1) (fun B2 E ρ' m' Q' hB0 h0 hw => fun Hb2 H2 σ2 R2 hB2 r2 hs2 k2 => ?_) Hb1 H1 _ _ (Same.refl _) r1 (RpS.start (RpL.cons rp_s RpL.nil)) ⟨fun σ' H' Hb' ρ' m' e r' hs' q' => k _ _ _ _ _ (e1.trans e) r' rp_s q', fun v H' Hb' d m' e r' hd q' => k _ _ _ _ _ (e1.trans e) r' hd q', fun _ _ _ _ _ _ _ _ z => z.elim, fun _ _ _ _ _ _ _ _ z => z.elim⟩
    obtain ⟨v, hv, hr⟩ := hs2.2 0 _ h0
    unfold Rp at hr
    subst hr
    exact ⟨hv, r2.sub _ _ (hB2 _ _ (hB0 _ _ hco)), hw Hb2 H2 σ R2 hB2 r2 (hs.mono (e1.trans (hB0.trans hB2))) k2⟩
  cases gr with
  | known hp =>
    obtain ⟨p, hp⟩ := hp
    obtain ⟨c2, e1, e2⟩ := all' p _ hp
    cases e1
    exact key Hb (Same.refl _) e2 r
  | fresh more hfr ht ha =>
    have nT : T ≠ c' := ne_of_none hTo hfr
    have r1 : Rel K F (upd Hb c' (LamX.CodeO c' q)) (upd H c' (LamX.CodeO c' q)) m := r.data hfr
    have e1 : Same Hb (upd Hb c' (LamX.CodeO c' q)) := Same.new (r.fresh hfr)
    have r2 := r1.change (o := .tbl (ps ++ more)) (mo' := tabM q) hT ⟨.tbl (ps ++ more), upd Hb c' (LamX.CodeO c' q), upd_same, Same.refl _, ⟨ps ++ more, rfl, ht, fun p cv z => by
      rcases ha p cv z with ⟨p', y⟩ | y
      · obtain ⟨c2, y1, y2⟩ := all' p' cv y
        exact ⟨c2, y1, e1 _ _ y2⟩
      · exact ⟨c', y, upd_same⟩⟩, fun xs z => nomatch z⟩
    have em : ({ m with own := putM m.own T (tabM q) } : Mem) = m := by
      have : putM m.own T (tabM q) = m.own := by
        funext b
        by_cases hb : b = T
        · subst hb
          rw [putM_same, hT]
        · rw [putM_ne hb]
      rw [this]
    rw [em, upd_swap nT.symm] at r2
    exact key _ e1 upd_same r2

/-- list(x), x a tuple of texts -/
theorem wc_listTx {x : D} {ns : List Str} {Q : QD} (hx : TxT x ns) (q : Q (.lst ((ns.map V.str).map D.s)) m) : WC K F B (rListA K) [x] m Q := fun Hb H vs R hB r hv k => by
  obtain ⟨v, rfl, hv1⟩ := rpL1 hv
  exact wc_listT q Hb H [v] R hB r (RpL.cons (Coarse.tx hx K Hb v hv1) RpL.nil) k
/-- what may stand for a place where one is handed in: a tuple of texts, or a list of them -/
def StT (d : D) (ns : List Str) : Prop := TxT d ns ∨ d = .lst ((ns.map V.str).map D.s)
theorem wc_tupSt {x : D} {ns : List Str} {Q : QD} (hx : StT x ns) (q : ∀ y, TxT y ns → Q y m) : WC K F B (rTupA K) [x] m Q := by
  rcases hx with h | rfl
  · exact wc_tupTx h (q x h)
  · exact wc_tupLP (q _ (.inl rfl))

/-! ### a try with several clauses -/
/-- every exception that is let out finds its clause -/
def CatM (K : PySem.W.Frag) (n : Nat) (B : Hp) (E : DE) (C : Addr) (ns : List Str) (ds : List D) (m : Mem) : List (Value × Option Nat × (Addr → Value → Option Addr → TS)) → Prop
  | [] => False
  | (c, none, ts) :: r => ∃ b, PySem.W.exmOne K (.ref C) c = some b ∧ (b = true → ∀ F' B' d vs a, Same B B' → (∀ dd, d = some dd → F' dd = some (.xd (ns.zip vs))) → (d = none → ns = []) → RpL K B' ds vs → ns.length = ds.length → WS K F' B' (ts a (.ref C) d) (List.replicate n none) m E) ∧ (b = false → CatM K n B E C ns ds m r)
  | (c, some i, ts) :: r => ∃ b, PySem.W.exmOne K (.ref C) c = some b ∧ (b = true → ∀ F' B' d vs a, Same B B' → (∀ dd, d = some dd → F' dd = some (.xd (ns.zip vs))) → (d = none → ns = []) → RpL K B' ds vs → ns.length = ds.length →
      WS K F' B' (ts a (.ref C) d) ((List.replicate n none).set i (some (.s (.ref a)))) m { nx := fun ρ m => E.nx (ρ.set i none) m, rt := E.rt, bk := fun ρ m => E.bk (ρ.set i none) m, ct := fun ρ m => E.ct (ρ.set i none) m }) ∧ (b = false → CatM K n B E C ns ds m r)
theorem catM_ok {n : Nat} {E : DE} {R : Ends} {C : Addr} {ns : List Str} {ds : List D} {vs : List V} {d : Option Addr} {Hb' H' : Hp} {m' : Mem} (k : OkE K F Hb E R) (eH : Same Hb Hb') (hB : Same B Hb) (rX : RelX K F Hb' H' m' d ns vs) (hv : RpL K Hb' ds vs) (hl : ns.length = ds.length) (σ' : L2.St) (hσ : σ'.length = n) :
    ∀ l : List (Value × Option Nat × (Addr → Value → Option Addr → TS)), CatM K n B E C ns ds m' l → HL1.wM K R l (.ref C) d σ' H'
  | [], z => z.elim
  | (c, o, ts) :: r, h => by
    have ends : ∀ (F' : Hp), (∀ Hb1 H1 m1, Rel K F' Hb1 H1 m1 → Rel K F Hb1 H1 m1) → OkE K F' Hb' E R ∧ ∀ i, OkE K F' Hb' { nx := fun ρ m => E.nx (ρ.set i none) m, rt := E.rt, bk := fun ρ m => E.bk (ρ.set i none) m, ct := fun ρ m => E.ct (ρ.set i none) m }
        { nx := fun σ1 H1 => R.nx (σ1.set i none) H1, rt := R.rt, bk := fun σ1 H1 => R.bk (σ1.set i none) H1, ct := fun σ1 H1 => R.ct (σ1.set i none) H1 } := fun F' hF => ⟨⟨fun σ1 H1 Hb1 ρ1 m1 e r1 hs1 q => k.nx _ _ _ _ _ (eH.trans e) (hF _ _ _ r1) hs1 q, fun v H1 Hb1 d1 m1 e r1 hd q => k.rt _ _ _ _ _ (eH.trans e) (hF _ _ _ r1) hd q,
        fun σ1 H1 Hb1 ρ1 m1 e r1 hs1 q => k.bk _ _ _ _ _ (eH.trans e) (hF _ _ _ r1) hs1 q, fun σ1 H1 Hb1 ρ1 m1 e r1 hs1 q => k.ct _ _ _ _ _ (eH.trans e) (hF _ _ _ r1) hs1 q⟩, fun i => ⟨fun σ1 H1 Hb1 ρ1 m1 e r1 hs1 q => k.nx _ _ _ _ _ (eH.trans e) (hF _ _ _ r1) hs1.unset q, fun v H1 Hb1 d1 m1 e r1 hd q => k.rt _ _ _ _ _ (eH.trans e) (hF _ _ _ r1) hd q,
        fun σ1 H1 Hb1 ρ1 m1 e r1 hs1 q => k.bk _ _ _ _ _ (eH.trans e) (hF _ _ _ r1) hs1.unset q, fun σ1 H1 Hb1 ρ1 m1 e r1 hs1 q => k.ct _ _ _ _ _ (eH.trans e) (hF _ _ _ r1) hs1.unset q⟩⟩
    have rest : CatM K n B E C ns ds m' r → HL1.wM K R r (.ref C) d σ' H' := catM_ok k eH hB rX hv hl σ' hσ r
    cases d with
    | none =>
      obtain ⟨hns, hvs, rr⟩ := rX
      have hd1 : ∀ dd, (none : Option Addr) = some dd → F dd = some (.xd (ns.zip vs)) := fun dd z => nomatch z
      cases o with
      | none =>
        obtain ⟨b, eb, yes, no⟩ := h
        refine ⟨b, eb, fun hb a ha => ?_, fun hb => rest (no hb)⟩
        exact yes hb F Hb' none vs a (hB.trans eH) hd1 (fun _ => hns) hv hl Hb' H' _ _ (Same.refl _) rr (rpS_none hσ) (ends F fun _ _ _ z => z).1
      | some i =>
        obtain ⟨b, eb, yes, no⟩ := h
        refine ⟨b, eb, fun hb a ha => ?_, fun hb => rest (no hb)⟩
        exact yes hb F Hb' none vs a (hB.trans eH) hd1 (fun _ => hns) hv hl Hb' H' _ _ (Same.refl _) rr ((rpS_none hσ).set rp_s) ((ends F fun _ _ _ z => z).2 i)
    | some dd =>
      obtain ⟨hF, rr⟩ := rX
      have hd1 : ∀ dd', (some dd : Option Addr) = some dd' → upd F dd (.xd (ns.zip vs)) dd' = some (.xd (ns.zip vs)) := fun dd' z => by
        cases z
        exact upd_same
      cases o with
      | none =>
        obtain ⟨b, eb, yes, no⟩ := h
        refine ⟨b, eb, fun hb a ha => ?_, fun hb => rest (no hb)⟩
        exact yes hb (upd F dd (.xd (ns.zip vs))) Hb' (some dd) vs a (hB.trans eH) hd1 (fun z => nomatch z) hv hl Hb' H' _ _ (Same.refl _) rr (rpS_none hσ) (ends _ fun _ _ _ z => z.unframe hF).1
      | some i =>
        obtain ⟨b, eb, yes, no⟩ := h
        refine ⟨b, eb, fun hb a ha => ?_, fun hb => rest (no hb)⟩
        exact yes hb (upd F dd (.xd (ns.zip vs))) Hb' (some dd) vs a (hB.trans eH) hd1 (fun z => nomatch z) hv hl Hb' H' _ _ (Same.refl _) rr ((rpS_none hσ).set rp_s) ((ends _ fun _ _ _ z => z.unframe hF).2 i)
theorem ws_tryM {n : Nat} {l : List (Value × Option Nat × (Addr → Value → Option Addr → TS))} {tb : XK → TS} {X : XD} {E : DE} (hb : ∀ B' EX, Same B B' → OkX K F B' X EX → WS K F B' (tb EX) ρ m E) (hX : ∀ C ns ds m', X C ns ds m' → CatM K n B E C ns ds m' l) :
    WS K F B (HL1.tTryM K n l tb) ρ m E := fun Hb H σ R hB r hs k => by
  refine hb Hb _ hB (fun C d H' Hb' ns ds vs m' eH rX hv hl hx => ?_) Hb H σ R (Same.refl _) r hs k
  intro σ' hσ
  exact catM_ok k eH hB rX hv hl σ' hσ l (hX C ns ds m' hx)
end
end DD

/-! DSolo: an expression that reads owned lists as data, and leaves all as it was. -/
namespace DD
open PySem L2
open PySem.Spec PyProof.Rows
section
variable {K : PySem.W.Frag} {B F Hb H : Hp} {m : Mem} {ρ ρ' : DD.Env}
theorem repM_ntup {cnt : Nat} {a : Addr} {mo : MO} {xs : List V} (h : RepM K Hb H cnt a mo) : H a ≠ some (.tup xs) := fun z => by
  cases mo with
  | lst ds =>
    obtain ⟨vs, q, _⟩ := h
    rw [z] at q
    cases q
  | ins C ns ds =>
    obtain ⟨dx, vs, q, _⟩ := h
    rw [z] at q
    cases q
  | dK ks ds =>
    obtain ⟨vs, q, _⟩ := h
    rw [z] at q
    cases q
  | dT ks ds =>
    obtain ⟨vs, q, _⟩ := h
    rw [z] at q
    cases q
  | stm c =>
    obtain ⟨s1, s2, s3, q, _⟩ := h
    rw [z] at q
    cases q
  | cel =>
    obtain ⟨ns, q, _⟩ := h
    rw [z] at q
    cases q
  | gen φ =>
    obtain ⟨o, Hc, q, _, _, no⟩ := h
    rw [z] at q
    exact no xs (Option.some.inj q).symm
/-- owned lists told as data in the slots -/
def SoloE (as : Addr → Option (List D)) (ρ ρ' : DD.Env) : Prop := ρ'.length = ρ.length ∧ ∀ (i : Nat) (d : D), ρ'[i]? = some (some d) → ρ[i]? = some (some d) ∨ ∃ (a : Addr) (ds : List D), ρ[i]? = some (some (D.s (.ref a))) ∧ as a = some ds ∧ d = D.lst ds
theorem solo_rel {as : Addr → Option (List D)} (has : ∀ a ds, as a = some ds → m.own a = some (.lst ds)) (r : Rel K F Hb H m) :
    ∃ Hb' F', Same Hb Hb' ∧ Rel K F' Hb' H ⟨m.cnt, fun _ => none⟩ ∧ (∀ a ds, as a = some ds → ∃ vs, Hb' a = some (.lst vs) ∧ RpL K Hb ds vs) ∧
      ∀ Hb2 H' m', Same Hb' Hb2 → Rel K F' Hb2 H' m' → Rel K F Hb H' m := by
  classical
  refine ⟨fun b => match as b with | some _ => H b | none => Hb b, fun b => match as b with | some _ => none | none => match m.own b with | some _ => H b | none => F b, fun b o e => ?_, ⟨fun b o e => ?_, fun b o e => ?_, (fun _ _ z => nomatch z), fun b xs e => ?_⟩, fun a ds e => ?_, fun Hb2 H' m' e2 r2 => ⟨fun b o e => ?_, fun b o e => ?_, fun b mo e => ?_, r.nt⟩⟩
  · show (match as b with | some _ => H b | none => Hb b) = some o
    cases ea : as b with
    | none => exact e
    | some ds => exact r.sub b o e
  · have e' : (match as b with | some _ => H b | none => Hb b) = some o := e
    cases ea : as b with
    | none =>
      rw [ea] at e'
      exact r.sub b o e'
    | some ds =>
      rw [ea] at e'
      exact e'
  · have e' : (match as b with | some _ => none | none => match m.own b with | some _ => H b | none => F b) = some o := e
    show H b = some o ∧ (match as b with | some _ => H b | none => Hb b) = none ∧ _
    cases ea : as b with
    | some ds =>
      rw [ea] at e'
      cases e'
    | none =>
      rw [ea] at e'
      cases eo : m.own b with
      | some mo =>
        rw [eo] at e'
        exact ⟨e', (r.own b mo eo).1, rfl⟩
      | none =>
        rw [eo] at e'
        obtain ⟨f1, f2, _⟩ := r.fr b o e'
        exact ⟨f1, f2, rfl⟩
  · have e' : (match as b with | some _ => none | none => match m.own b with | some _ => H b | none => F b) = some (.tup xs) := e
    cases ea : as b with
    | some ds =>
      rw [ea] at e'
      cases e'
    | none =>
      rw [ea] at e'
      cases eo : m.own b with
      | some mo =>
        rw [eo] at e'
        exact repM_ntup (r.own b mo eo).2 e'
      | none =>
        rw [eo] at e'
        exact r.nt b xs e'
  · obtain ⟨h1, vs, h2, h3⟩ := r.own a _ (has a ds e)
    refine ⟨vs, ?_, h3⟩
    show (match as a with | some _ => H a | none => Hb a) = _
    rw [e]
    exact h2
  · refine r2.sub b o (e2 b o ?_)
    show (match as b with | some _ => H b | none => Hb b) = some o
    cases ea : as b with
    | none => exact e
    | some ds => exact r.sub b o e
  · obtain ⟨f1, f2, f3⟩ := r.fr b o e
    have ea : as b = none := by
      cases ea : as b with
      | none => rfl
      | some ds =>
        rw [has b ds ea] at f3
        cases f3
    refine ⟨(r2.fr b o ?_).1, f2, f3⟩
    show (match as b with | some _ => none | none => match m.own b with | some _ => H b | none => F b) = some o
    rw [ea, f3]
    exact e
  · obtain ⟨h1, h2⟩ := r.own b mo e
    refine ⟨h1, h2.mono (Same.refl _) ?_ (Nat.le_refl _)⟩
    obtain ⟨o, ho⟩ := h2.some
    rw [ho]
    cases ea : as b with
    | some ds =>
      refine r2.sub b o (e2 b o ?_)
      show (match as b with | some _ => H b | none => Hb b) = some o
      rw [ea]
      exact ho
    | none =>
      refine (r2.fr b o ?_).1
      show (match as b with | some _ => none | none => match m.own b with | some _ => H b | none => F b) = some o
      rw [ea, e]
      exact ho
theorem we_solo {te : TE} (as : Addr → Option (List D)) (has : ∀ a ds, as a = some ds → m.own a = some (.lst ds)) (hρ : SoloE as ρ ρ') {Q : V → Prop} (h : ∀ F' B', Same B B' → WE K F' B' te ρ' ⟨m.cnt, fun _ => none⟩ fun d _ => ∃ w, d = .s w ∧ Q w) :
    WE K F B te ρ m fun d m' => m' = m ∧ ∃ w, d = .s w ∧ Q w := fun Hb H σ R hB r hs k => by
  obtain ⟨Hb', F', e1, r1, hl, back⟩ := solo_rel has r
  refine h F' Hb' (hB.trans e1) Hb' H σ R (Same.refl _) r1 ⟨by rw [hρ.1]; exact hs.1, fun i d hd => ?_⟩ fun v H' Hb2 d m' e2 r2 hd q => ?_
  · rcases hρ.2 i d hd with z | ⟨a, ds, z1, z2, rfl⟩
    · obtain ⟨v, h1, h2⟩ := hs.2 i d z
      exact ⟨v, h1, h2.mono e1⟩
    · obtain ⟨v, h1, h2⟩ := hs.2 i _ z1
      unfold Rp at h2
      subst h2
      obtain ⟨vs, y1, y2⟩ := hl a ds z2
      refine ⟨.ref a, h1, ?_⟩
      unfold Rp
      exact ⟨a, vs, rfl, y1, y2.mono e1⟩
  · obtain ⟨w, rfl, q⟩ := q
    unfold Rp at hd
    subst hd
    exact k v H' Hb (.s v) m (Same.refl _) (back Hb2 H' m' e2 r2) rp_s ⟨rfl, v, rfl, q⟩
/-- .. the same without slots that change: the memory is let alone -/
theorem we_alone {te : TE} {Q : V → Prop} (h : ∀ F' B', Same B B' → WE K F' B' te ρ ⟨m.cnt, fun _ => none⟩ fun d _ => ∃ w, d = .s w ∧ Q w) : WE K F B te ρ m fun d m' => m' = m ∧ ∃ w, d = .s w ∧ Q w :=
  we_solo (fun _ => none) (fun _ _ z => nomatch z) ⟨rfl, fun i d z => .inl z⟩ h
end
end DD

/-! DLock: a, b, c = x, y, z; walks over a dict with tuple keys, which is locked meanwhile. -/
namespace DD
open PySem L2 HP1
open PySem.Spec PyProof.Rows
section
variable {K : PySem.W.Frag} {B F Hb H : Hp} {m : Mem} {ρ : DD.Env}
theorem ws_par3 {i j l : Nat} {ta : TA} {E : DE} (h : WA K F B ta ρ m fun xs m1 => ∃ x y z, xs = [x, y, z] ∧ E.nx (((ρ.set i (some x)).set j (some y)).set l (some z)) m1) : WS K F B (tPar3 i j l ta) ρ m E := fun Hb H σ R hB r hs k =>
  h Hb H σ _ hB r hs fun vs H1 Hb1 xs m1 e1 r1 hx q1 => by
    obtain ⟨x, y, z, rfl, q⟩ := q1
    unfold RpL at hx
    obtain ⟨v, us, rfl, h1, h2⟩ := hx
    unfold RpL at h2
    obtain ⟨u, us', rfl, h3, h4⟩ := h2
    unfold RpL at h4
    obtain ⟨w, us2, rfl, h5, h6⟩ := h4
    unfold RpL at h6
    subst h6
    exact ⟨v, u, w, rfl, k.nx _ _ _ _ _ e1 r1 ((((hs.mono e1).set h1).set h3).set h5) q⟩
/-- the dict at a, locked, as the frame holds it -/
def LockF (K : PySem.W.Frag) (F B : Hp) (a : Addr) (ks : List (List Str)) (ds : List D) : Prop := ∃ od vs, F a = some (.frz od (.dT ((ks.map inrs).zip vs))) ∧ RpL K B ds vs ∧ ks.length = ds.length
theorem wo_inQF {a : Addr} {ks : List (List Str)} {ds : List D} {x : D} {ns : List Str} {neg : Bool} {Q : QD} (hx : TxT x ns) (ho : LockF K F B a ks ds) (q : Q (.s (.bl (if neg = true then !(lookT ks ds ns).isSome else (lookT ks ds ns).isSome))) m) :
    WO K F B (rInQ K neg) x (.s (.ref a)) m Q := fun Hb H vx vy R hB r hvx hvy k => by
  unfold Rp at hvy
  subst hvy
  obtain ⟨od, vs, h1, h2, h3⟩ := ho
  obtain ⟨b, rfl, hb⟩ := hx.rp hvx
  refine ⟨a, valV ((ks.map inrs).zip vs) (inrs ns), rfl, ⟨_, inrs ns, b, .inr ⟨od, (r.fr a _ h1).1⟩, rfl, by rw [kV_inrs]; exact sameT r.sub hb, rfl⟩, ?_⟩
  have e : (valV ((ks.map inrs).zip vs) (inrs ns)).isSome = (lookT ks ds ns).isSome := by
    obtain ⟨i1, i2⟩ := look_val (K := K) (Hb := Hb) ns (h2.mono hB) h3
    cases q : lookT ks ds ns with
    | none =>
      rw [i2 q]
      rfl
    | some d =>
      obtain ⟨v, e, _⟩ := i1 d q
      rw [e]
      rfl
  rw [e]
  exact k.here r rp_s q
theorem wo_ixQF {a : Addr} {ks : List (List Str)} {ds : List D} {x d : D} {ns : List Str} {Q : QD} (hx : TxT x ns) (ho : LockF K F B a ks ds) (hd : lookT ks ds ns = some d) (q : Q d m) :
    WO K F B (rIxQ K) (.s (.ref a)) x m Q := fun Hb H vx vy R hB r hvx hvy k => by
  unfold Rp at hvx
  subst hvx
  obtain ⟨od, vs, h1, h2, h3⟩ := ho
  obtain ⟨v, e1, e2⟩ := (look_val (K := K) (Hb := Hb) ns (h2.mono hB) h3).1 d hd
  obtain ⟨b, rfl, hb⟩ := hx.rp hvy
  refine ⟨a, v, rfl, ?_, k.here r e2 q⟩
  rw [← e1]
  exact ⟨_, inrs ns, b, .inr ⟨od, (r.fr a _ h1).1⟩, rfl, by rw [kV_inrs]; exact sameT r.sub hb, rfl⟩
theorem Rel.lock {a : Addr} {ks : List (List Str)} {ds : List D} (r : Rel K F Hb H m) (h : m.own a = some (.dT ks ds)) : ∃ vs, H a = some (.dT ((ks.map inrs).zip vs)) ∧ RpL K Hb ds vs ∧ ks.length = ds.length ∧ F a = none ∧
    ∀ od, Rel K (upd F a (.frz od (.dT ((ks.map inrs).zip vs)))) Hb (upd H a (.frz od (.dT ((ks.map inrs).zip vs)))) (offM m a) := by
  obtain ⟨h1, vs, h2, h3, h4⟩ := r.own a _ h
  have hF : F a = none := r.ownF h
  refine ⟨vs, h2, h3, h4, hF, fun od => ⟨fun b o e => ?_, fun b o e => ?_, fun b mo e => ?_, nt_upd r.nt (fun _ z => nomatch z)⟩⟩
  · rw [upd_ne (ne_of_none e h1)]
    exact r.sub b o e
  · by_cases hb : b = a
    · subst hb
      rw [upd_same] at e ⊢
      exact ⟨e, h1, dropM_same⟩
    · rw [upd_ne hb] at e ⊢
      obtain ⟨z1, z2, z3⟩ := r.fr b o e
      exact ⟨z1, z2, (dropM_ne hb).trans z3⟩
  · by_cases hb : b = a
    · subst hb
      have q : (none : Option MO) = some mo := by
        rw [← e]
        exact dropM_same.symm
      cases q
    · obtain ⟨z1, z2⟩ := r.own b mo (by rw [← e]; exact (dropM_ne hb).symm)
      exact ⟨z1, z2.mono (Same.refl _) (upd_ne hb) (Nat.le_refl _)⟩
theorem Rel.unlock {a : Addr} {ks : List (List Str)} {ds : List D} {vs : List V} {od : Obj} (r : Rel K (upd F a (.frz od (.dT ((ks.map inrs).zip vs)))) Hb H m) (hF : F a = none) (h3 : RpL K Hb ds vs) (h4 : ks.length = ds.length) :
    H a = some (.frz od (.dT ((ks.map inrs).zip vs))) ∧ Rel K F Hb (upd H a (.dT ((ks.map inrs).zip vs))) (onM m a (.dT ks ds)) := by
  obtain ⟨f1, f2, f3⟩ := r.fr a _ upd_same
  refine ⟨f1, fun b o e => ?_, fun b o e => ?_, fun b mo e => ?_, nt_of r.nt hF⟩
  · rw [upd_ne (ne_of_none e f2)]
    exact r.sub b o e
  · have hb := ne_fr e hF
    obtain ⟨z1, z2, z3⟩ := r.fr b o (by rw [upd_ne hb]; exact e)
    rw [upd_ne hb]
    exact ⟨z1, z2, (putM_ne hb).trans z3⟩
  · by_cases hb : b = a
    · subst hb
      have e' : putM m.own b (.dT ks ds) b = some mo := e
      rw [putM_same] at e'
      cases e'
      exact ⟨f2, vs, upd_same, h3, h4⟩
    · obtain ⟨z1, z2⟩ := r.own b mo (by rw [← e]; exact (putM_ne hb).symm)
      exact ⟨z1, z2.mono (Same.refl _) (upd_ne hb) (Nat.le_refl _)⟩
/-- for k in d: d a dict with tuple keys -/
theorem ws_forK {j : Nat} {g : TG} {tb : TS} {E : DE} {a : Addr} {ks : List (List Str)} {ds : List D} (hj : ρ[j]? = some (some (.s (.ref a)))) (ho : m.own a = some (.dT ks ds)) (I : Nat → DD.Env → Mem → Prop) (h0 : I 0 ρ (offM m a))
    (ht : ∀ F' B' i k ρ' m', Same B B' → LockF K F' B' a ks ds → ks[i]? = some k → I i ρ' m' → WG K F' B' g (.pl k) ρ' m' fun ρ2 m2 => WS K F' B' tb ρ2 m2 { nx := I (i + 1), ct := I (i + 1), bk := fun ρ m => E.nx ρ (onM m a (.dT ks ds)), rt := fun d m => E.rt d (onM m a (.dT ks ds)) })
    (hd : ∀ ρ' m', I ks.length ρ' m' → E.nx ρ' (onM m' a (.dT ks ds))) : WS K F B (tLock (tFor (iKeys (tVar j)) g tb)) ρ m E := fun Hb H σ R hB r hs k => by
  obtain ⟨vs, h1, h3, h4, hF, hR⟩ := r.lock ho
  refine ⟨a, _, h1, trivial, fun od => ?_⟩
  have rL := hR od
  obtain ⟨v, hv1, hv2⟩ := hs.2 j _ hj
  unfold Rp at hv2
  subst hv2
  have lenK : ((ks.map inrs).zip vs).length = ks.length := by
    rw [List.length_zip, List.length_map, h3.length]
    omega
  refine ⟨.ref a, hv1, a, od, rfl, .inr ⟨_, upd_same, ?_⟩⟩
  refine ⟨fun i n σ' H' => n = ks.length - i ∧ i ≤ ks.length ∧ ∃ Hb' ρ' m', Same Hb Hb' ∧ Rel K (upd F a (.frz od (.dT ((ks.map inrs).zip vs)))) Hb' H' m' ∧ RpS K Hb' ρ' σ' ∧ I i ρ' m', ⟨ks.length, by simp, Nat.zero_le _, Hb, ρ, _, Same.refl _, rL, hs, h0⟩, ?_⟩
  rintro i n σ' H' ⟨rfl, hi, Hb', ρ', m', e', r', hs', hI⟩
  have hL : H' a = some (.frz od (.dT ((ks.map inrs).zip vs))) := (r'.fr a _ upd_same).1
  by_cases hlt : i < ks.length
  · refine .inr ⟨⟨hL, by rw [lenK]; exact hlt⟩, fun σ2 H2 => ∃ Hb2 ρ2 m2, Same Hb Hb2 ∧ Rel K (upd F a (.frz od (.dT ((ks.map inrs).zip vs)))) Hb2 H2 m2 ∧ RpS K Hb2 ρ2 σ2 ∧ I (i + 1) ρ2 m2, fun σ2 H2 q2 => ⟨ks.length - (i + 1), by omega, rfl, hlt, q2⟩, fun x H2 y => ?_⟩
    obtain ⟨rfl, k0, v0, q0, hk0, rfl, hq0⟩ := y
    obtain ⟨z1, z2⟩ := List.getElem?_zip_eq_some.mp hk0
    rw [List.getElem?_map] at z1
    have hki : ks[i]? = some ks[i] := by simp [hlt]
    rw [hki] at z1
    cases z1
    rw [kV_inrs] at hq0
    obtain ⟨Hb2, e2, r2, hq2⟩ := r'.tup1 hq0
    have e12 : Same Hb Hb2 := e'.trans e2
    refine ht (upd F a (.frz od (.dT ((ks.map inrs).zip vs)))) Hb2 i ks[i] ρ' m' (hB.trans e12) ⟨od, vs, upd_same, h3.mono e12, h4⟩ hki hI Hb2 H2 σ' _ _ (Same.refl _) r2 (hs'.mono e2) (by unfold Rp; exact ⟨q0, rfl, hq2⟩) fun σ3 H3 Hb3 ρ3 m3 e3 r3 hs3 q3 => ?_
    have e13 : Same Hb Hb3 := e12.trans e3
    refine q3 Hb3 H3 σ3 _ e3 r3 hs3 ⟨fun σ4 H4 Hb4 ρ4 m4 e4 r4 hs4 q4 => ⟨Hb4, ρ4, m4, e13.trans e4, r4, hs4, q4⟩, fun v4 H4 Hb4 d4 m4 e4 r4 hd4 q4 => ?_, fun σ4 H4 Hb4 ρ4 m4 e4 r4 hs4 q4 => ?_, fun σ4 H4 Hb4 ρ4 m4 e4 r4 hs4 q4 => ⟨Hb4, ρ4, m4, e13.trans e4, r4, hs4, q4⟩⟩
    · obtain ⟨y1, y2⟩ := r4.unlock hF (h3.mono (e13.trans e4)) h4
      exact ⟨y1, k.rt _ _ _ _ _ (e13.trans e4) y2 hd4 q4⟩
    · obtain ⟨y1, y2⟩ := r4.unlock hF (h3.mono (e13.trans e4)) h4
      exact ⟨y1, k.nx _ _ _ _ _ (e13.trans e4) y2 hs4 q4⟩
  · have e : i = ks.length := by omega
    subst e
    obtain ⟨y1, y2⟩ := r'.unlock hF (h3.mono e') h4
    exact .inl ⟨⟨hL, by rw [lenK]; exact Nat.le_refl _⟩, y1, k.nx _ _ _ _ _ e' y2 hs' (hd _ _ hI)⟩
/-- len of a dict with tuple keys -/
theorem wc_lenT {a : Addr} {ks : List (List Str)} {ds : List D} {Q : QD} (ho : m.own a = some (.dT ks ds)) (q : Q (.s (.int ((ks.length : Nat) : Int))) m) : WC K F B rLenT [.s (.ref a)] m Q := fun Hb H vs R hB r hx k => by
  obtain ⟨v, rfl, hv⟩ := rpL1 hx
  unfold Rp at hv
  subst hv
  obtain ⟨hn, vs, h1, h2, h3⟩ := r.own a _ ho
  refine ⟨a, _, rfl, h1, ?_⟩
  have e : ((ks.map inrs).zip vs).length = ks.length := by
    rw [List.length_zip, List.length_map, h2.length]
    omega
  rw [e]
  exact k.here r rp_s q
end
end DD

/-! HDic: dict([(tuple, value), ..]), the keys unlike; a comprehension over a dict with tuple keys. -/
namespace HD1
open PySem PySem.Spec PyProof.Rows L2
theorem tk_ext {P : Program} {w : World} {knd : KeyKind P w Key} {h h' : Heap} {k : List Key} {a : Addr} (x : IsTupleKey knd h k a) (e : ∀ o, h.get? a = some o → h'.get? a = some o) : IsTupleKey knd h' k a :=
  let ⟨o, i, n, ho, r⟩ := x
  ⟨o, i, n, e o ho, r⟩
theorem tk_lt {P : Program} {w : World} {knd : KeyKind P w Key} {h : Heap} {k : List Key} {a : Addr} (x : IsTupleKey knd h k a) : a < h.objs.size :=
  let ⟨_, _, _, ho, _⟩ := x
  Heap.lt_size ho
/-- dict(xs) of pairs whose keys are tuples, all unlike -/
def rDictPT (K : PySem.W.Frag) : List V → Hp → VK → Prop := fun xs H Q => ∃ (a : Addr) (zs : List (Addr × List Key × Addr × V)), xs = [.ref a] ∧ SqL K H a ((zs.map (·.1)).map V.ref) ∧ (∀ z ∈ zs, SqT K H z.1 [.ref z.2.2.1, z.2.2.2] ∧ H z.2.2.1 = some (.tup (z.2.1.map kV))) ∧ (zs.map (·.2.1)).Nodup ∧
  ∀ p, H p = none → Q (.ref p) (upd H p (.dT (zs.map fun z => (z.2.1, z.2.2.2))))
section
variable {X : Cx}
theorem pairs_ofT {pins : List (Addr × Obj)} {σ : L2.St} {H : Hp} {s : Shared} (I : Inv X pins σ H s) : ∀ {zs : List (Addr × List Key × Addr × V)}, (∀ z ∈ zs, SqT X.K H z.1 [.ref z.2.2.1, z.2.2.2] ∧ H z.2.2.1 = some (.tup (z.2.1.map kV))) →
    ∃ ps : List (List Key × Addr × Value), KT H (zs.map fun z => (z.2.1, z.2.2.2)) ps ∧ ps.length = zs.length ∧ ps.map (·.1) = zs.map (·.2.1) ∧ (∀ (j : Nat) (q : List Key × Addr × Value), ps[j]? = some q → ∃ z, zs[j]? = some z ∧ IsTup s.heap z.1 #[.ref q.2.1, q.2.2]) ∧ ∀ x ∈ ps, H x.2.1 = some (.tup (x.1.map kV))
  | [], _ => ⟨[], .nil, rfl, rfl, fun j q e => by simp at e, fun x hx => nomatch hx⟩
  | z :: zs, h => by
    obtain ⟨ps, kt, hl, hk, hp, hh⟩ := pairs_ofT I fun y hy => h y (List.mem_cons_of_mem _ hy)
    obtain ⟨h1, h2⟩ := h z List.mem_cons_self
    obtain ⟨its, rv, ht, _⟩ := I.tuple h1
    obtain ⟨u, y, ei, ru, ry⟩ := vals2 rv
    subst ei
    cases ru
    refine ⟨(z.2.1, z.2.2.1, y) :: ps, .cons ⟨rfl, h2, ry⟩ kt, by rw [List.length_cons, List.length_cons, hl], by rw [List.map_cons, List.map_cons, hk], fun j q e => ?_, fun x hx => ?_⟩
    · cases j with
      | zero =>
        have e' : (z.2.1, z.2.2.1, y) = q := Option.some.inj e
        subst e'
        exact ⟨z, rfl, ht⟩
      | succ j =>
        obtain ⟨z', e1, e2⟩ := hp j q (by simpa using e)
        exact ⟨z', by simpa using e1, e2⟩
    · rcases List.mem_cons.mp hx with e | e
      · rw [e]
        exact h2
      · exact hh x e
theorem call_dictPT (hcalm : X.calm = true) (hu : X.A.units + 64 < cLine) : CallR X (.type "dict") (rDictPT X.K) := by
  intro pins s σ H xs us Q I r q
  obtain ⟨a, zs, ex, hq, hp, hn, q⟩ := q
  subst ex
  obtain ⟨u, eu, rx⟩ := vals1 r
  subst eu
  cases rx
  obtain ⟨its, rv, pl, hz⟩ := I.list hq
  have ei := refs_at rv
  subst ei
  rw [List.length_map, List.length_map] at hz
  obtain ⟨ps, kt, hl, hk1, hat, hkey⟩ := pairs_ofT I hp
  obtain ⟨o, n, ho, hc, hd, hdat⟩ := pl
  have his : ∀ x ∈ ps, IsTupleKey (mixKind X.prog X.w) s.heap x.1 x.2.1 := fun x hx => key_of I.hok (hkey x hx)
  have hnd : (ps.map (·.1)).Nodup := by rw [hk1]; exact hn
  refine call_dict_pairsH (knd := tupleKind (mixKind X.prog X.w)) (ps := ps) (PairArg.list a ((zs.map (·.1)).map Value.ref).toArray (fun j => ((zs.map (·.1))[j]?).getD default) (ps.map fun q => (Value.ref q.2.1, q.2.2))) (I.ok.hd hcalm) (show Around.units _ < cLine from ?_) ⟨⟨o, n, ho, hc, hd, hdat⟩, by simp [hl], fun j k v e => ?_⟩
    ⟨by rw [List.length_map], fun j k v e => ?_⟩ (fun h' hk x hx => tk_ext (his x hx) fun o q => hk _ o (Nat.ne_of_lt (tk_lt (his x hx))) (fun z => nomatch z) q) (by rw [List.length_map, hl]; exact hz) fun h' tk hd' k => ?_
  · show X.A.units + 1 + 1 < cLine
    omega
  · rw [List.getElem?_map] at e
    cases ep : ps[j]? with
    | none => rw [ep] at e; cases e
    | some q' =>
      rw [ep] at e
      cases e
      obtain ⟨z, e1, e2⟩ := hat j q' ep
      refine ⟨by simp [e1], .inl ?_⟩
      have e3 : ((zs.map (·.1))[j]?).getD default = z.1 := by simp [e1]
      show Heap.IsTuple _ (((zs.map (·.1))[j]?).getD default) _
      rw [e3]
      exact e2
  · have e' : (ps.map fun q => (Value.ref q.2.1, q.2.2))[j]? = some (k, v) := e
    rw [List.getElem?_map] at e'
    cases ep : ps[j]? with
    | none => rw [ep] at e'; cases e'
    | some q' =>
      rw [ep] at e'
      cases e'
      exact ⟨q'.1, q'.2.1, rfl, rfl⟩
  · have hm : (s.heap.objs.size == sysModules) = false := beq_eq_false_iff_ne.mpr (Nat.ne_of_gt I.big)
    have hlen : (zs.map fun z => (z.2.1, z.2.2.2)).length ≤ sizeLine := by
      rw [List.length_map]
      exact hz
    rw [storedAllH_nil_of_nodup ps hnd] at hd'
    obtain ⟨o2, es, ep, g1, g2, g3, g4, _, g5⟩ := hd'
    have hnone := I.hok.fresh (Nat.le_refl s.heap.objs.size)
    refine ⟨.ref s.heap.objs.size, upd H s.heap.objs.size (.dT (zs.map fun z => (z.2.1, z.2.2.2))), I.laid (t' := tk) (fun b o e => k b o (fun z => nomatch z) e) (Nat.le_refl _) (show ObjOk X.prog X.w _ _ _ (.dT (zs.map fun z => (z.2.1, z.2.2.2))) from ⟨hlen, hm, ps, kt.keeps fun c ys ec => ?_, o2, es, ep, g1, g2, g3, g4, g5⟩), rfl, q _ hnone⟩
    rw [upd_ne (fun z => by rw [z, hnone] at ec; cases ec)]
    exact ec
end
end HD1
namespace DD
open PySem L2 HP1 HD1
open PySem.Spec PyProof.Rows
section
variable {K : PySem.W.Frag} {B F Hb H : Hp} {m : Mem} {ρ : DD.Env}
theorem rp_pairs : ∀ {l : List (List Str × D)} {vs : List V}, RpL K Hb (l.map fun z => .tup [.pl z.1, z.2]) vs → ∃ zs : List (Addr × List Key × Addr × V), vs = (zs.map (·.1)).map V.ref ∧ zs.map (·.2.1) = l.map (fun z => inrs z.1) ∧ RpL K Hb (l.map (·.2)) (zs.map (·.2.2.2)) ∧
    ∀ z ∈ zs, SqT K Hb z.1 [.ref z.2.2.1, z.2.2.2] ∧ Hb z.2.2.1 = some (.tup (z.2.1.map kV))
  | [], vs, h => by
    rw [List.map_nil] at h
    unfold RpL at h
    subst h
    exact ⟨[], rfl, rfl, RpL.nil, fun z hz => nomatch hz⟩
  | z :: l, vs, h => by
    rw [List.map_cons] at h
    unfold RpL at h
    obtain ⟨v, us, rfl, hv, hu⟩ := h
    obtain ⟨zs, e1, e2, e3, e4⟩ := rp_pairs hu
    unfold Rp at hv
    obtain ⟨p, ws, rfl, h1, h2⟩ := hv
    unfold RpL at h2
    obtain ⟨v1, us1, rfl, hv1, h2⟩ := h2
    unfold RpL at h2
    obtain ⟨v2, us2, rfl, hv2, h2⟩ := h2
    unfold RpL at h2
    subst h2
    unfold Rp at hv1
    obtain ⟨b, rfl, hb⟩ := hv1
    refine ⟨(p, inrs z.1, b, v2) :: zs, by rw [e1]; rfl, by rw [List.map_cons, List.map_cons, e2], ?_, fun y hy => ?_⟩
    · exact RpL.cons hv2 e3
    · rcases List.mem_cons.mp hy with e | e
      · subst e
        exact ⟨h1, by rw [kV_inrs]; exact hb⟩
      · exact e4 y e
theorem inrs_inj {a b : List Str} (h : inrs a = inrs b) : a = b := by rw [← un_in a, ← un_in b, h]
/-- dict([(k, d), ..]) of places, all unlike -/
theorem wc_dictPT {ks : List (List Str)} {ds : List D} {Q : QD} (hn : ks.Nodup) (hl : ks.length = ds.length) (q : ∀ a, m.own a = none → Q (.s (.ref a)) { m with own := putM m.own a (.dT ks ds) }) :
    WC K F B (rDictPT K) [.lst ((ks.zip ds).map fun z => .tup [.pl z.1, z.2])] m Q := fun Hb H vs R hB r hx k => by
  obtain ⟨v, rfl, hv⟩ := rpL1 hx
  unfold Rp at hv
  obtain ⟨p, ws, rfl, h1, h2⟩ := hv
  obtain ⟨zs, e1, e2, e3, e4⟩ := rp_pairs h2
  subst e1
  have k1 : (ks.zip ds).map (fun z => inrs z.1) = ks.map inrs := by
    show (ks.zip ds).map (inrs ∘ Prod.fst) = _
    rw [← List.map_map, List.map_fst_zip (by omega)]
  have k2 : (ks.zip ds).map (·.2) = ds := List.map_snd_zip (by omega)
  rw [k1] at e2
  rw [k2] at e3
  refine ⟨p, zs, rfl, SqL.of (r.sub _ _ h1), fun z hz => ⟨sameT r.sub (e4 z hz).1, r.sub _ _ (e4 z hz).2⟩, ?_, fun a ha => ?_⟩
  · rw [e2]
    exact List.pairwise_map.mpr (hn.imp fun h z => h (inrs_inj z))
  · have ez : (zs.map fun z => (z.2.1, z.2.2.2)) = (ks.map inrs).zip (zs.map (·.2.2.2)) := by
      rw [← e2]
      clear e2 e3 e4 k1 k2 h1 h2 hx
      induction zs with
      | nil => rfl
      | cons z zs ih =>
        show (z.2.1, z.2.2.2) :: (zs.map fun z => (z.2.1, z.2.2.2)) = (z.2.1, z.2.2.2) :: ((zs.map (·.2.1)).zip (zs.map (·.2.2.2)))
        rw [ih]
    rw [ez]
    exact k _ _ _ (.s (.ref a)) _ (Same.refl _) (r.owned (mo := .dT ks ds) ha ⟨_, upd_same, e3, hl⟩) rp_s (q a (r.free ha))
/-- [.. for k in d]: d a dict with tuple keys; what is made is f of the keys -/
theorem we_lcK {j : Nat} {g : TG} {tt : TT} {te : TE} {vs : List Nat} {a : Addr} {ks : List (List Str)} {ds : List D} {Q : QD} (hj : ρ[j]? = some (some (.s (.ref a)))) (ho : m.own a = some (.dT ks ds)) (p : List Str → Bool) (f : List Str → D) (hl : ks.length ≤ sizeLine)
    (hf : ∀ F' B' k, Same B B' → LockF K F' B' a ks ds → k ∈ ks → WGw K F' B' g vs (.pl k) ρ (offM m a) fun ρ2 m2 => m2 = offM m a ∧ WT K F' B' tt ρ2 (offM m a) fun b m3 => b = p k ∧ m3 = offM m a ∧ (b = true → WE K F' B' te ρ2 (offM m a) fun y m4 => y = f k ∧ m4 = offM m a))
    (q : Q (.lst ((ks.filter p).map f)) m) : WE K F B (tLockE (tLc (iKeys (tVar j)) g tt te vs)) ρ m Q := fun Hb H σ R hB r hs k => by
  obtain ⟨vs0, h1, h3, h4, hF, hR⟩ := r.lock ho
  refine ⟨a, _, h1, trivial, fun od => ?_⟩
  have rL := hR od
  obtain ⟨v, hv1, hv2⟩ := hs.2 j _ hj
  unfold Rp at hv2
  subst hv2
  have lenK : ((ks.map inrs).zip vs0).length = ks.length := by
    rw [List.length_zip, List.length_map, h3.length]
    omega
  refine ⟨.ref a, hv1, a, od, rfl, .inr ⟨_, upd_same, ?_⟩⟩
  intro A hA
  have haA : a ≠ A := fun z => by
    rw [← z, upd_same] at hA
    cases hA
  have hFA : upd F a (.frz od (.dT ((ks.map inrs).zip vs0))) A = none := rL.nofr hA
  refine ⟨fun i n H' => n = ks.length - i ∧ i ≤ ks.length ∧ ∃ Hb' acc us, Same Hb Hb' ∧ Rel K (upd (upd F a (.frz od (.dT ((ks.map inrs).zip vs0)))) A (.lst us)) Hb' H' (offM m a) ∧ RpL K Hb' acc us ∧ acc = ((ks.take i).filter p).map f, ⟨ks.length, by simp, Nat.zero_le _, Hb, [], [], Same.refl _, rL.aside hA, RpL.nil, by simp⟩, ?_⟩
  rintro i n H' ⟨rfl, hi, Hb', acc, us, e', r', ha, hacc⟩
  have hL : H' a = some (.frz od (.dT ((ks.map inrs).zip vs0))) := (r'.fr a _ (by rw [upd_ne haA]; exact upd_same)).1
  by_cases hlt : i < ks.length
  · refine .inr ⟨⟨hL, by rw [lenK]; exact hlt⟩, fun H2 => ∃ Hb2 acc2 us2, Same Hb Hb2 ∧ Rel K (upd (upd F a (.frz od (.dT ((ks.map inrs).zip vs0)))) A (.lst us2)) Hb2 H2 (offM m a) ∧ RpL K Hb2 acc2 us2 ∧ acc2 = ((ks.take (i + 1)).filter p).map f, fun H2 ⟨Hb2, acc2, us2, z1, z2, z3, z4⟩ => ⟨ks.length - (i + 1), by omega, rfl, hlt, Hb2, acc2, us2, z1, z2, z3, z4⟩, fun x H2 y => ?_⟩
    obtain ⟨rfl, k0, v0, q0, hk0, rfl, hq0⟩ := y
    obtain ⟨z1, z2⟩ := List.getElem?_zip_eq_some.mp hk0
    rw [List.getElem?_map] at z1
    have hki : ks[i]? = some ks[i] := by simp [hlt]
    rw [hki] at z1
    cases z1
    rw [kV_inrs] at hq0
    obtain ⟨Hb2, e2, r2, hq2⟩ := r'.tup1 hq0
    have e12 : Same Hb Hb2 := e'.trans e2
    refine hf (upd (upd F a (.frz od (.dT ((ks.map inrs).zip vs0)))) A (.lst us)) Hb2 ks[i] (hB.trans e12) ⟨od, vs0, by rw [upd_ne haA]; exact upd_same, h3.mono e12, h4⟩ (List.getElem_mem hlt) Hb2 H2 σ _ _ (Same.refl _) r2 (hs.mono e12) (by unfold Rp; exact ⟨q0, rfl, hq2⟩) fun σ3 H3 Hb3 ρ3 m3 e3 r3 hs3 q3 => ?_
    obtain ⟨em, q3⟩ := q3
    subst em
    refine q3 Hb3 H3 σ3 _ e3 r3 hs3 fun b H4 Hb4 m4 e4 r4 q4 => ?_
    obtain ⟨eb, em, q4⟩ := q4
    subst em
    have e14 : Same Hb Hb4 := (e12.trans e3).trans e4
    have ha4 : RpL K Hb4 acc us := ha.mono ((e2.trans e3).trans e4)
    have hlen : acc.length ≤ i := by
      rw [hacc, List.length_map]
      refine Nat.le_trans (List.length_filter_le _ _) ?_
      rw [List.length_take]
      omega
    cases b with
    | true =>
      refine iteT (q4 rfl Hb4 H4 σ3 _ (e3.trans e4) r4 (hs3.mono e4) fun v H5 Hb5 y5 m5 e5 r5 hy5 q5 => ?_)
      obtain ⟨ey, em⟩ := q5
      subst em
      have hD := (r5.fr A _ upd_same).1
      have ha5 : RpL K Hb5 acc us := ha4.mono e5
      refine ⟨us, hD, by rw [ha5.length]; omega, Hb5, acc ++ [y5], us ++ [v], e14.trans e5, r5.turnA, ha5.app (RpL.cons hy5 RpL.nil), ?_⟩
      rw [List.take_add_one, hki, List.filter_append, List.map_append, hacc, ey]
      simp [← eb]
    | false =>
      refine iteF ⟨Hb4, acc, us, e14, r4, ha4, ?_⟩
      rw [List.take_add_one, hki, List.filter_append, List.map_append, hacc]
      simp [← eb]
  · have e : i = ks.length := by omega
    subst e
    have e4 : Same Hb' (upd Hb' A (.lst us)) := Same.new (r'.fr A _ upd_same).2.1
    refine .inl ⟨⟨hL, by rw [lenK]; exact Nat.le_refl _⟩, hL, ?_⟩
    obtain ⟨_, y2⟩ := (r'.settle hFA).unlock hF (h3.mono (e'.trans e4)) h4
    have em : onM (offM m a) a (.dT ks ds) = m := by
      have e1 : putM (dropM m.own a) a (.dT ks ds) = m.own := by
        funext b
        by_cases hb : b = a
        · rw [hb, putM_same, ho]
        · rw [putM_ne hb, dropM_ne hb]
      show (⟨m.cnt, putM (dropM m.own a) a (.dT ks ds)⟩ : Mem) = m
      rw [e1]
    rw [em] at y2
    refine k _ _ _ (.lst ((ks.filter p).map f)) _ (e'.trans e4) y2 ?_ q
    unfold Rp
    rw [List.take_length] at hacc
    subst hacc
    exact ⟨A, us, rfl, upd_same, ha.mono e4⟩
end
end DD

/-! PTidy: tidied paths lead alike. -/
namespace My
open PySem L2 DD HP1
open PySem.Spec PyProof.Rows
/-- where steps lead -/
def walkR (sp : Place → Str → Option Place) : List Str → Place → Option Place
  | [], h => some h
  | s :: r, h => (sp h s).bind (walkR sp r)
theorem walkR_cat {sp : Place → Str → Option Place} : ∀ (l m : List Str) (h : Place), walkR sp (l ++ m) h = (walkR sp l h).bind (walkR sp m)
  | [], m, h => rfl
  | s :: l, m, h => by
    show (sp h s).bind (walkR sp (l ++ m)) = ((sp h s).bind (walkR sp l)).bind (walkR sp m)
    rw [Option.bind_assoc]
    congr 1
    funext x
    exact walkR_cat l m x
theorem walkR_snoc {sp : Place → Str → Option Place} (l : List Str) (s : Str) (h : Place) : walkR sp (l ++ [s]) h = (walkR sp l h).bind fun x => sp x s := by
  rw [walkR_cat]
  congr 1
  funext x
  show (sp x s).bind (walkR sp []) = sp x s
  cases sp x s <;> rfl
theorem goesLP_r {stp : Place → Str → Bool → Out} {ka : Nat → Bool} (hk : ∀ k, ka k = false) : ∀ (l : List Str) (k : Nat) (h : Place), (goesLP stp ka k l h).r = walkR (fun h s => (stp h s false).r) l h
  | [], k, h => rfl
  | s :: l, k, h => by
    rw [goesLP_cons, hk k]
    show _ = ((stp h s false).r).bind (walkR _ l)
    obtain ⟨r, A, w, dn⟩ := stp h s false
    cases r with
    | none => rfl
    | some x => exact goesLP_r hk l (k + 1) x
def endR (tr : Tr) (e : Bool) (x : Place) : Option Place := if e = true ∧ kindT tr x ≠ some "folder" then none else some x
theorem endR_ok {tr : Tr} {e : Bool} {x : Place} (h : kindT tr x = some "folder") : endR tr e x = some x := by
  unfold endR
  rw [if_neg (fun y => y.2 h)]
abbrev spP (tr : Tr) (n : Nat) : Place → Str → Option Place := fun h s => (stepP tr (folP tr n) h s false []).r
theorem leadP_walk (tr : Tr) (n : Nat) (p : Str) (here : Place) : leadP tr n p here false = (walkR (spP tr n) (DT.steps p) (if DT.rooted p = true then [] else here)).bind (endR tr (DT.ended p)) := by
  have h := goesLP_r (stp := fun h st kp => stepP tr (folP tr n) h st kp []) (ka := keepAt p false) (fun k => rfl) (DT.steps p) 0 (if DT.rooted p = true then [] else here)
  show (goesEP tr p (goesLP _ _ 0 (DT.steps p) (if DT.rooted p = true then [] else here))).r = _
  rw [← h]
  generalize goesLP _ _ 0 (DT.steps p) (if DT.rooted p = true then [] else here) = o
  obtain ⟨r, A, w, dn⟩ := o
  cases r with
  | none => rfl
  | some x =>
    show (Out.r (if DT.ended p = true ∧ kindT tr x ≠ some "folder" then _ else _)) = endR tr (DT.ended p) x
    unfold endR
    split <;> rfl
/-- what is asked of a step -/
structure SpOk (isF : Place → Prop) (sp : Place → Str → Option Place) : Prop where
  nf : ∀ h s, ¬ isF h → sp h s = none
  dot : ∀ h, isF h → sp h "." = some h
  up : ∀ h, isF h → sp h ".." = some h.dropLast
theorem spP_ok (tr : Tr) (n : Nat) : SpOk (fun h => kindT tr h = some "folder") (spP tr n) where
  nf := fun h s hn => by
    show (stepP tr (folP tr n) h s false []).r = none
    unfold stepP
    rw [if_pos hn]
    rfl
  dot := fun h hf => by
    show (stepP tr (folP tr n) h "." false []).r = some h
    unfold stepP
    rw [if_neg (fun z => z hf), if_pos rfl]
    rfl
  up := fun h hf => by
    show (stepP tr (folP tr n) h ".." false []).r = some h.dropLast
    unfold stepP
    rw [if_neg (fun z => z hf), if_neg (by decide +kernel), if_pos rfl]
    rfl
/-- the tidied walk and the walk -/
def RelA (isF : Place → Prop) (a b : Option Place) : Prop := a = b ∨ (b = none ∧ ∃ x, a = some x ∧ ¬ isF x)
section
variable {isF : Place → Prop} {sp : Place → Str → Option Place} {d r : Bool} {h0 : Place}
theorem RelA.bind (so : SpOk isF sp) {a b : Option Place} (h : RelA isF a b) (s : Str) : (a.bind fun x => sp x s) = b.bind fun x => sp x s := by
  rcases h with rfl | ⟨rfl, x, rfl, hx⟩
  · rfl
  · exact so.nf x s hx
theorem RelA.lay (so : SpOk isF sp) (hr : r = true → h0 = [] ∧ isF []) {st : List Str} {b : Option Place} (h : RelA isF (walkR sp st h0) b) (s : Str) : RelA isF (walkR sp (DT.lay d false r st s) h0) (b.bind fun x => sp x s) := by
  unfold DT.lay
  split
  · rename_i hs
    rw [hs.1]
    rcases h with h | ⟨rfl, x, h, hx⟩
    · rw [h]
      cases b with
      | none => exact .inl rfl
      | some y =>
        by_cases hy : isF y
        · left
          exact (so.dot y hy).symm
        · right
          exact ⟨so.nf y _ hy, y, rfl, hy⟩
    · exact .inr ⟨rfl, x, h, hx⟩
  · rw [if_neg (fun z => by cases z.2.1)]
    split
    · rename_i hs
      obtain ⟨e1, e2, e3⟩ := hs
      obtain ⟨e4, hf⟩ := hr e2
      subst e1 e3 e4
      left
      have h1 : walkR sp [] [] = some [] := rfl
      rw [h1] at h ⊢
      rcases h with rfl | ⟨_, x, hx, hn⟩
      · exact (so.up [] hf).symm
      · cases hx
        exact absurd hf hn
    · left
      rw [walkR_snoc]
      exact h.bind so s
theorem RelA.fold (so : SpOk isF sp) (hr : r = true → h0 = [] ∧ isF []) : ∀ (l : List Str) {st : List Str} {b : Option Place}, RelA isF (walkR sp st h0) b → RelA isF (walkR sp (l.foldl (DT.lay d false r) st) h0) (b.bind (walkR sp l))
  | [], st, b, h => by
    cases b <;> exact h
  | s :: l, st, b, h => by
    have h1 := RelA.fold so hr l (RelA.lay (d := d) so hr h s)
    rw [Option.bind_assoc] at h1
    exact h1
theorem RelA.tidy (so : SpOk isF sp) (hr : r = true → h0 = [] ∧ isF []) (l : List Str) : RelA isF (walkR sp (DT.tidyS d false r l) h0) (walkR sp l h0) :=
  RelA.fold (b := some h0) so hr l (.inl rfl)
theorem lay_name {u : Bool} {st : List Str} {s : Str} (h : DT.isName s = true) : DT.lay d u r st s = st ++ [s] := by
  obtain ⟨n1, n2⟩ := DT.name_nd h
  unfold DT.lay
  rw [if_neg (fun z => n1 z.1), if_neg (fun z => n2 z.1), if_neg (fun z => n2 z.1)]
theorem tidy_last {u : Bool} {l : List Str} {s : Str} (h : l.getLast? = some s) (hn : DT.isName s = true) : DT.lastN (DT.tidyS d u r l) = true := by
  have e : l = l.dropLast ++ [s] := by
    obtain ⟨hne, h1⟩ := List.getLast?_eq_some_iff.mp h
    rw [h1]
    simp
  rw [e, DT.tidy_snoc, lay_name hn]
  unfold DT.lastN
  rw [List.getLast?_concat]
  exact hn
theorem tidy_eq_last (so : SpOk isF sp) (hr : r = true → h0 = [] ∧ isF []) {l : List Str} {s : Str} (h : l.getLast? = some s) (hn : DT.isName s = true) : walkR sp (DT.tidyS d false r l) h0 = walkR sp l h0 := by
  have e : l = l.dropLast ++ [s] := by
    obtain ⟨hne, h1⟩ := List.getLast?_eq_some_iff.mp h
    rw [h1]
    simp
  rw [e, DT.tidy_snoc, lay_name hn, walkR_snoc, walkR_snoc]
  exact (RelA.tidy so hr _).bind so s
end
/-- a step of a tree without links -/
theorem spP_plain {tr : Tr} {n : Nat} (hl : ∀ p, kindT tr p ≠ some "link") {h y : Place} {s : Str} (hs : DT.isName s = true) (e : spP tr n h s = some y) : y = h ++ [s] := by
  obtain ⟨n1, n2⟩ := DT.name_nd hs
  have e' : (stepP tr (folP tr n) h s false []).r = some y := e
  unfold stepP at e'
  by_cases hf : kindT tr h = some "folder"
  · rw [if_neg (fun z => z hf), if_neg n1, if_neg n2] at e'
    cases hk : kindT tr (h ++ [s]) with
    | none => rw [hk] at e'; cases e'
    | some k =>
      rw [hk] at e'
      have hkl : k ≠ "link" := fun z => hl _ (by rw [hk, z]; rfl)
      have e2 : (Out.r (if k ≠ "link" ∨ false = true then (hereO (h ++ [s])).asked (h ++ [s]) else (folP tr n (h ++ [s]) []).asked (h ++ [s]))) = some y := e'
      rw [if_pos (.inl hkl)] at e2
      exact (Option.some.inj e2).symm
  · rw [if_pos hf] at e'
    cases e'
section
variable {tr : Tr} {n : Nat} {d u r : Bool} {h0 : Place}
theorem upw_lay (hl : ∀ p, kindT tr p ≠ some "link") (hr : r = true → h0 = []) {st : List Str} {y y' : Place} (h : walkR (spP tr n) st h0 = some y) {s : Str} (e : spP tr n y s = some y') : walkR (spP tr n) (DT.lay d u r st s) h0 = some y' := by
  have hf : kindT tr y = some "folder" := Classical.byContradiction fun z => by
    rw [(spP_ok tr n).nf y s z] at e
    cases e
  unfold DT.lay
  split
  · rename_i hs
    rw [hs.1, (spP_ok tr n).dot y hf] at e
    rw [h, e]
  · split
    · rename_i hs
      obtain ⟨e1, _, e3⟩ := hs
      subst e1
      rw [(spP_ok tr n).up y hf] at e
      unfold DT.lastN at e3
      cases hg : st.getLast? with
      | none => rw [hg] at e3; cases e3
      | some x =>
        rw [hg] at e3
        have e4 : st = st.dropLast ++ [x] := by
          obtain ⟨hne, h1⟩ := List.getLast?_eq_some_iff.mp hg
          rw [h1]
          simp
        rw [e4, walkR_snoc] at h
        cases hw : walkR (spP tr n) st.dropLast h0 with
        | none => rw [hw] at h; cases h
        | some y0 =>
          rw [hw] at h
          have h5 : spP tr n y0 x = some y := h
          have h6 := spP_plain hl e3 h5
          subst h6
          rw [List.dropLast_concat] at e
          exact e
    · split
      · rename_i hs
        obtain ⟨e1, e2, e3⟩ := hs
        have e4 := hr e2
        subst e1 e3 e4
        cases h
        rw [(spP_ok tr n).up [] hf] at e
        exact e
      · rw [walkR_snoc, h]
        exact e
theorem upw_fold (hl : ∀ p, kindT tr p ≠ some "link") (hr : r = true → h0 = []) : ∀ (l : List Str) {st : List Str} {y x : Place}, walkR (spP tr n) st h0 = some y → walkR (spP tr n) l y = some x → walkR (spP tr n) (l.foldl (DT.lay d u r) st) h0 = some x
  | [], st, y, x, h, e => by
    cases e
    exact h
  | s :: l, st, y, x, h, e => by
    have e' : (spP tr n y s).bind (walkR (spP tr n) l) = some x := e
    cases hs : spP tr n y s with
    | none => rw [hs] at e'; cases e'
    | some y' =>
      rw [hs] at e'
      exact upw_fold hl hr l (upw_lay (d := d) (u := u) hl hr h hs) e'
end
/-- where the text of tidied steps leads -/
theorem lead_plain {tr : Tr} {n : Nat} {st : List Str} {rt en : Bool} {here : Place} (hs : ∀ s ∈ st, DT.isStep s) (hf : kindT tr (if rt = true then [] else here) = some "folder") :
    leadP tr n (DT.plainT st rt en) here false = (walkR (spP tr n) st (if rt = true then [] else here)).bind (endR tr (st ≠ [] && (!(DT.lastN st) || en))) := by
  rw [leadP_walk]
  by_cases h0 : st = []
  · subst h0
    have h1 : (walkR (spP tr n) [] (if rt = true then ([] : Place) else here)).bind (endR tr (([] : List Str) ≠ [] && (!(DT.lastN []) || en))) = some (if rt = true then [] else here) := by
      show endR tr _ _ = _
      unfold endR
      rw [if_neg (fun z => z.2 hf)]
    rw [h1]
    cases rt with
    | true =>
      have e : DT.plainT [] true en = "/" := by cases en <;> decide +kernel
      rw [e, show DT.steps ("/" : Str) = [] from by decide +kernel, show DT.rooted ("/" : Str) = true from by decide +kernel]
      show endR tr _ [] = some []
      unfold endR
      rw [if_neg (fun z => z.2 hf)]
    | false =>
      have e : DT.plainT [] false en = "." := by cases en <;> decide +kernel
      rw [e, show DT.steps ("." : Str) = [(".": Str)] from by decide +kernel, show DT.rooted ("." : Str) = false from by decide +kernel]
      have hf' : kindT tr here = some "folder" := hf
      show ((spP tr n here ".").bind (walkR (spP tr n) [])).bind (endR tr _) = some here
      rw [(spP_ok tr n).dot here hf']
      show endR tr _ here = some here
      unfold endR
      rw [if_neg (fun z => z.2 hf')]
  · rw [DT.plain_steps hs h0, DT.plain_rooted hs h0, DT.plain_ended hs h0]
    have : (decide (st ≠ []) && (!(DT.lastN st) || en)) = (!(DT.lastN st) || en) := by
      rw [decide_eq_true h0, Bool.true_and]
    rw [this]
section
variable {tr : Tr} {n : Nat} {z : Str} {here : Place} {d r : Bool}
/-- without ups: alike -/
theorem lead_tidy (hz : DT.isPath z = true) (hs : ∀ s ∈ DT.steps z, DT.isStep s) (hf : kindT tr (if DT.rooted z = true then [] else here) = some "folder") (hr : r = true → DT.rooted z = true) :
    leadP tr n (DT.plainT (DT.tidyS d false r (DT.steps z)) (DT.rooted z) (DT.ended z)) here false = leadP tr n z here false := by
  rw [lead_plain (DT.tidy_mem hs) hf, leadP_walk]
  have hr' : r = true → (if DT.rooted z = true then ([] : Place) else here) = [] ∧ kindT tr [] = some "folder" := fun e => by
    have e1 := hr e
    rw [if_pos e1] at hf ⊢
    exact ⟨rfl, hf⟩
  cases he : DT.ended z with
  | false =>
    obtain ⟨x, hx, hn, _⟩ := DT.begin_last hz he
    rw [tidy_eq_last (spP_ok tr n) hr' hx hn, tidy_last hx hn]
    congr 2
    simp
  | true =>
    have hR := RelA.tidy (d := d) (spP_ok tr n) hr' (DT.steps z)
    generalize hst : DT.tidyS d false r (DT.steps z) = st at hR ⊢
    by_cases h0 : st = []
    · subst h0
      have hw : walkR (spP tr n) [] (if DT.rooted z = true then ([] : Place) else here) = some (if DT.rooted z = true then [] else here) := rfl
      rw [hw] at hR ⊢
      rcases hR with h | ⟨_, x, h, hx⟩
      · rw [← h]
        show endR tr _ _ = endR tr _ _
        rw [endR_ok hf, endR_ok hf]
      · cases h
        exact absurd hf hx
    · have e1 : (decide (st ≠ []) && (!(DT.lastN st) || true)) = true := by
        rw [decide_eq_true h0]
        simp
      rw [e1]
      rcases hR with h | ⟨h1, x, h, hx⟩
      · rw [h]
      · rw [h, h1]
        show endR tr true x = none
        unfold endR
        rw [if_pos ⟨rfl, hx⟩]
theorem endR_some {tr : Tr} {e : Bool} {x y : Place} (h : endR tr e x = some y) : x = y ∧ (e = true → kindT tr x = some "folder") := by
  unfold endR at h
  split at h
  · cases h
  · rename_i hn
    exact ⟨Option.some.inj h, fun e1 => Classical.byContradiction fun z => hn ⟨e1, z⟩⟩
theorem bind_some {a : Option Place} {tr : Tr} {e : Bool} {y : Place} (h : a.bind (endR tr e) = some y) : a = some y ∧ (e = true → kindT tr y = some "folder") := by
  cases a with
  | none => cases h
  | some x =>
    obtain ⟨h1, h2⟩ := endR_some h
    subst h1
    exact ⟨rfl, h2⟩
/-- the bar at the end, too, where it led anywhere -/
theorem lead_bar (hz : DT.isPath z = true) (hs : ∀ s ∈ DT.steps z, DT.isStep s) (hf : kindT tr (if DT.rooted z = true then [] else here) = some "folder") (hr : r = true → DT.rooted z = true) {y : Place} (h : leadP tr n z here false = some y) (en : Bool) (hen : en = true → DT.ended z = true) :
    leadP tr n (DT.plainT (DT.tidyS d false r (DT.steps z)) (DT.rooted z) en) here false = some y := by
  rw [← lead_tidy (d := d) hz hs hf hr, lead_plain (DT.tidy_mem hs) hf] at h
  rw [lead_plain (DT.tidy_mem hs) hf]
  obtain ⟨h1, h2⟩ := bind_some h
  rw [h1]
  show endR tr _ y = some y
  unfold endR
  rw [if_neg]
  rintro ⟨e1, e2⟩
  refine e2 (h2 ?_)
  cases en with
  | false =>
    simp only [Bool.or_false, Bool.and_eq_true] at e1
    rw [e1.1, e1.2]
    rfl
  | true =>
    rw [hen rfl]
    exact e1
/-- ups, too, without links -/
theorem lead_ups {u : Bool} (hl : ∀ p, kindT tr p ≠ some "link") (hz : DT.isPath z = true) (hs : ∀ s ∈ DT.steps z, DT.isStep s) (hf : kindT tr (if DT.rooted z = true then [] else here) = some "folder") (hr : r = true → DT.rooted z = true) {y : Place} (h : leadP tr n z here false = some y) (en : Bool)
    (hen : en = true → DT.ended z = true) : leadP tr n (DT.plainT (DT.tidyS d u r (DT.steps z)) (DT.rooted z) en) here false = some y := by
  rw [leadP_walk] at h
  rw [lead_plain (DT.tidy_mem hs) hf]
  obtain ⟨h1, h2⟩ := bind_some h
  have hr' : r = true → (if DT.rooted z = true then ([] : Place) else here) = [] := fun e => if_pos (hr e)
  have hw : walkR (spP tr n) (DT.tidyS d u r (DT.steps z)) (if DT.rooted z = true then [] else here) = some y := upw_fold hl hr' (DT.steps z) (st := []) rfl h1
  rw [hw]
  show endR tr _ y = some y
  unfold endR
  rw [if_neg]
  rintro ⟨e1, e2⟩
  refine e2 (h2 ?_)
  cases he : DT.ended z with
  | true => rfl
  | false =>
    obtain ⟨x, hx, hn, _⟩ := DT.begin_last hz he
    rw [tidy_last hx hn] at e1
    cases en with
    | true => rw [hen rfl] at he; cases he
    | false => simp at e1
end
end My
namespace DT
open PySem L2 TL
theorem sum_sub {a b : List (List Nat)} (h : a.Sublist b) : (a.map fun p => p.length + 1).sum ≤ (b.map fun p => p.length + 1).sum := by
  induction h with
  | slnil => exact Nat.le_refl _
  | cons x _ ih =>
    rw [List.map_cons, List.sum_cons]
    omega
  | cons_cons x _ ih =>
    rw [List.map_cons, List.sum_cons, List.map_cons, List.sum_cons]
    omega
theorem jn_sub {a b : List (List Nat)} (h : a.Sublist b) : (jn a).length ≤ (jn b).length := by
  rcases jn_len (ps := a) with h1 | rfl
  · rcases jn_len (ps := b) with h2 | rfl
    · have := sum_sub h
      omega
    · rw [List.sublist_nil.mp h]
      exact Nat.le_refl _
  · exact Nat.zero_le _
theorem lay_sub {d u r : Bool} {st m : List Str} (h : st.Sublist m) (s : Str) : (lay d u r st s).Sublist (m ++ [s]) := by
  have h1 : st.Sublist (m ++ [s]) := h.trans (List.sublist_append_left _ _)
  unfold lay
  split
  · exact h1
  · split
    · exact (List.dropLast_sublist _).trans h1
    · split
      · exact h1
      · exact h.append (List.Sublist.refl _)
theorem tidy_fold_sub {d u r : Bool} : ∀ (l : List Str) {st m : List Str}, st.Sublist m → (l.foldl (lay d u r) st).Sublist (m ++ l)
  | [], st, m, h => by rw [List.append_nil]; exact h
  | s :: l, st, m, h => by
    have := tidy_fold_sub (d := d) (u := u) (r := r) l (lay_sub (d := d) (u := u) (r := r) h s)
    rw [List.append_assoc] at this
    exact this
theorem tidy_sub {d u r : Bool} (l : List Str) : (tidyS d u r l).Sublist l := tidy_fold_sub (m := []) l (List.Sublist.refl _)
theorem plain_short {z : Str} {d u r rt en : Bool} : (plainT (tidyS d u r (steps z)) rt en).length ≤ z.length + 3 := by
  have h1 : (jn ((tidyS d u r (steps z)).map tl)).length ≤ (jn (pcs (tl z))).length := by
    refine jn_sub (((tidy_sub (steps z)).map tl).trans ?_)
    rw [steps_tl, List.map_map]
    have e : ∀ l : List (List Nat), l.map (tl ∘ mk) = l := fun l => by
      induction l with
      | nil => rfl
      | cons p l ih =>
        rw [List.map_cons, ih]
        rfl
    rw [e]
    exact List.filter_sublist
  rw [jn_pcs] at h1
  rw [len_tl, len_tl z]
  show (plainL (tidyS d u r (steps z)) rt en).length ≤ _
  unfold plainL
  split
  · show 1 ≤ _
    omega
  · unfold bodyL
    rw [List.length_append, List.length_append]
    have e1 : (if rt = true then [47] else []).length ≤ 1 := by split <;> decide
    have e2 : (if en = true ∧ lastN (tidyS d u r (steps z)) = true then [47] else []).length ≤ 1 := by split <;> decide
    omega
end DT

namespace My
open PySem L2 DD HP1
open PySem.Spec PyProof.Rows
/-! ### the text by places -/
def topS (i : Nat) : Stmt := PySem.Challenge.pw_unwalked_k53_whole_tidied_in_trees.main.body.getD i (.Pass ⟨0, 0, 0, 0⟩)
abbrev s_is_name : Stmt := topS 11
abbrev N_is_name : List Str := ["thing", "sign"]
theorem sc_is_name : FnScope N_is_name ["thing"] (defScope s_is_name) := ⟨rfl, rfl, rfl, by decide +kernel, rfl, by decide +kernel, by decide +kernel⟩
abbrev s_is_path_text : Stmt := topS 12
abbrev N_is_path_text : List Str := ["thing", "piece"]
theorem sc_is_path_text : FnScope N_is_path_text ["thing"] (defScope s_is_path_text) := ⟨rfl, rfl, rfl, by decide +kernel, rfl, by decide +kernel, by decide +kernel⟩
abbrev s_Path___init__ : Stmt := inClass (topS 13) 0
abbrev N_Path___init__ : List Str := ["self", "text"]
theorem sc_Path___init__ : FnScope N_Path___init__ ["self", "text"] (defScope s_Path___init__) := ⟨rfl, rfl, rfl, by decide +kernel, rfl, by decide +kernel, by decide +kernel⟩
abbrev s_Path_steps : Stmt := inClass (topS 13) 4
abbrev N_Path_steps : List Str := ["self", "piece"]
theorem sc_Path_steps : FnScope N_Path_steps ["self"] (defScope s_Path_steps) := ⟨rfl, rfl, rfl, by decide +kernel, rfl, by decide +kernel, by decide +kernel⟩
abbrev s_path_of : Stmt := topS 14
abbrev N_path_of : List Str := ["steps", "rooted", "ended", "text"]
theorem sc_path_of : FnScope N_path_of ["steps", "rooted", "ended"] (defScope s_path_of) := ⟨rfl, rfl, rfl, by decide +kernel, rfl, by decide +kernel, by decide +kernel⟩
abbrev s_Strikes___init__ : Stmt := inClass (topS 17) 0
abbrev N_Strikes___init__ : List Str := ["self", "words", "word"]
theorem sc_Strikes___init__ : FnScope N_Strikes___init__ ["self", "words"] (defScope s_Strikes___init__) := ⟨rfl, rfl, rfl, by decide +kernel, rfl, by decide +kernel, by decide +kernel⟩
abbrev s_Strikes___contains__ : Stmt := inClass (topS 17) 3
abbrev N_Strikes___contains__ : List Str := ["self", "thing"]
theorem sc_Strikes___contains__ : FnScope N_Strikes___contains__ ["self", "thing"] (defScope s_Strikes___contains__) := ⟨rfl, rfl, rfl, by decide +kernel, rfl, by decide +kernel, by decide +kernel⟩
abbrev s_Strikes_words : Stmt := inClass (topS 17) 8
abbrev N_Strikes_words : List Str := ["self"]
theorem sc_Strikes_words : FnScope N_Strikes_words ["self"] (defScope s_Strikes_words) := ⟨rfl, rfl, rfl, by decide +kernel, rfl, by decide +kernel, by decide +kernel⟩
abbrev s_tidied : Stmt := topS 18
abbrev N_tidied : List Str := ["path", "strikes", "steps", "step"]
theorem sc_tidied : FnScope N_tidied ["path", "strikes"] (defScope s_tidied) := ⟨rfl, rfl, rfl, by decide +kernel, rfl, by decide +kernel, by decide +kernel⟩
abbrev s_place_of : Stmt := topS 20
abbrev N_place_of : List Str := ["thing", "name"]
theorem sc_place_of : FnScope N_place_of ["thing"] (defScope s_place_of) := ⟨rfl, rfl, rfl, by decide +kernel, rfl, by decide +kernel, by decide +kernel⟩
abbrev s_Walk___init__ : Stmt := inClass (topS 21) 0
abbrev N_Walk___init__ : List Str := ["self", "tree"]
theorem sc_Walk___init__ : FnScope N_Walk___init__ ["self", "tree"] (defScope s_Walk___init__) := ⟨rfl, rfl, rfl, by decide +kernel, rfl, by decide +kernel, by decide +kernel⟩
abbrev s_Walk_goes : Stmt := inClass (topS 21) 1
abbrev N_Walk_goes : List Str := ["self", "path", "place", "itself", "open_links", "here", "steps", "number", "step", "keeps"]
theorem sc_Walk_goes : FnScope N_Walk_goes ["self", "path", "place", "itself", "open_links"] (defScope s_Walk_goes) := ⟨rfl, rfl, rfl, by decide +kernel, rfl, by decide +kernel, by decide +kernel⟩
abbrev s_Walk_stepped : Stmt := inClass (topS 21) 2
abbrev N_Walk_stepped : List Str := ["self", "here", "step", "keeps", "open_links", "there", "kind"]
theorem sc_Walk_stepped : FnScope N_Walk_stepped ["self", "here", "step", "keeps", "open_links"] (defScope s_Walk_stepped) := ⟨rfl, rfl, rfl, by decide +kernel, rfl, by decide +kernel, by decide +kernel⟩
abbrev s_Walk_followed : Stmt := inClass (topS 21) 3
abbrev N_Walk_followed : List Str := ["self", "link", "open_links", "end"]
theorem sc_Walk_followed : FnScope N_Walk_followed ["self", "link", "open_links"] (defScope s_Walk_followed) := ⟨rfl, rfl, rfl, by decide +kernel, rfl, by decide +kernel, by decide +kernel⟩
abbrev s_Tree___init__ : Stmt := inClass (topS 22) 0
abbrev N_Tree___init__ : List Str := ["self"]
theorem sc_Tree___init__ : FnScope N_Tree___init__ ["self"] (defScope s_Tree___init__) := ⟨rfl, rfl, rfl, by decide +kernel, rfl, by decide +kernel, by decide +kernel⟩
abbrev s_Tree_kind : Stmt := inClass (topS 22) 4
abbrev N_Tree_kind : List Str := ["self", "place"]
theorem sc_Tree_kind : FnScope N_Tree_kind ["self", "place"] (defScope s_Tree_kind) := ⟨rfl, rfl, rfl, by decide +kernel, rfl, by decide +kernel, by decide +kernel⟩
abbrev s_Tree_target : Stmt := inClass (topS 22) 5
abbrev N_Tree_target : List Str := ["self", "place"]
theorem sc_Tree_target : FnScope N_Tree_target ["self", "place"] (defScope s_Tree_target) := ⟨rfl, rfl, rfl, by decide +kernel, rfl, by decide +kernel, by decide +kernel⟩
abbrev s_Tree_folder : Stmt := inClass (topS 22) 9
abbrev N_Tree_folder : List Str := ["self", "place"]
theorem sc_Tree_folder : FnScope N_Tree_folder ["self", "place"] (defScope s_Tree_folder) := ⟨rfl, rfl, rfl, by decide +kernel, rfl, by decide +kernel, by decide +kernel⟩
abbrev s_Tree_file : Stmt := inClass (topS 22) 10
abbrev N_Tree_file : List Str := ["self", "place"]
theorem sc_Tree_file : FnScope N_Tree_file ["self", "place"] (defScope s_Tree_file) := ⟨rfl, rfl, rfl, by decide +kernel, rfl, by decide +kernel, by decide +kernel⟩
abbrev s_Tree_link : Stmt := inClass (topS 22) 11
abbrev N_Tree_link : List Str := ["self", "place", "path"]
theorem sc_Tree_link : FnScope N_Tree_link ["self", "place", "path"] (defScope s_Tree_link) := ⟨rfl, rfl, rfl, by decide +kernel, rfl, by decide +kernel, by decide +kernel⟩
abbrev s_Tree_put : Stmt := inClass (topS 22) 12
abbrev N_Tree_put : List Str := ["self", "place", "kind", "path"]
theorem sc_Tree_put : FnScope N_Tree_put ["self", "place", "kind", "path"] (defScope s_Tree_put) := ⟨rfl, rfl, rfl, by decide +kernel, rfl, by decide +kernel, by decide +kernel⟩
abbrev s_Tree_check_free : Stmt := inClass (topS 22) 13
abbrev N_Tree_check_free : List Str := ["self", "place"]
theorem sc_Tree_check_free : FnScope N_Tree_check_free ["self", "place"] (defScope s_Tree_check_free) := ⟨rfl, rfl, rfl, by decide +kernel, rfl, by decide +kernel, by decide +kernel⟩
abbrev s_Tree_walked : Stmt := inClass (topS 22) 16
abbrev N_Tree_walked : List Str := ["self", "path", "start", "itself", "place", "walk"]
theorem sc_Tree_walked : FnScope N_Tree_walked ["self", "path", "start", "itself"] (defScope s_Tree_walked) := ⟨rfl, rfl, rfl, by decide +kernel, rfl, by decide +kernel, by decide +kernel⟩
abbrev s_Tree_lead : Stmt := inClass (topS 22) 17
abbrev N_Tree_lead : List Str := ["self", "path", "start", "itself"]
theorem sc_Tree_lead : FnScope N_Tree_lead ["self", "path", "start", "itself"] (defScope s_Tree_lead) := ⟨rfl, rfl, rfl, by decide +kernel, rfl, by decide +kernel, by decide +kernel⟩
abbrev s__law_p_written : Stmt := topS 24
abbrev N__law_p_written : List Str := ["_law_stream", "_law_names_here", "_law_most", "_law_many", "_law_steps", "_law_k", "_law_bars", "_law_found", "_law_step"]
theorem sc__law_p_written : FnScope N__law_p_written ["_law_stream", "_law_names_here", "_law_most"] (defScope s__law_p_written) := ⟨rfl, rfl, rfl, by decide +kernel, rfl, by decide +kernel, by decide +kernel⟩
abbrev s__law_t_drawn : Stmt := topS 25
abbrev N__law_t_drawn : List Str := ["_law_stream", "_law_names_here", "_law_most", "_law_found", "_law_k", "_law_homes", "_law_place", "_law_kind"]
theorem sc__law_t_drawn : FnScope N__law_t_drawn ["_law_stream", "_law_names_here", "_law_most"] (defScope s__law_t_drawn) := ⟨rfl, rfl, rfl, by decide +kernel, rfl, by decide +kernel, by decide +kernel⟩
abbrev s__law_t_up : Stmt := topS 26
abbrev N__law_t_up : List Str := ["_law_tree", "_law_place"]
theorem sc__law_t_up : FnScope N__law_t_up ["_law_tree"] (defScope s__law_t_up) := ⟨rfl, rfl, rfl, by decide +kernel, rfl, by decide +kernel, by decide +kernel⟩
abbrev s__law_t_built : Stmt := topS 27
abbrev N__law_t_built : List Str := ["_law_tree", "_law_found", "_law_place", "_law_kind", "_law_written"]
theorem sc__law_t_built : FnScope N__law_t_built ["_law_tree"] (defScope s__law_t_built) := ⟨rfl, rfl, rfl, by decide +kernel, rfl, by decide +kernel, by decide +kernel⟩
abbrev s__law_t_folders : Stmt := topS 28
abbrev N__law_t_folders : List Str := ["_law_tree", "_law_place"]
theorem sc__law_t_folders : FnScope N__law_t_folders ["_law_tree"] (defScope s__law_t_folders) := ⟨rfl, rfl, rfl, by decide +kernel, rfl, by decide +kernel, by decide +kernel⟩
abbrev s__law_start : Stmt := topS 29
abbrev N__law_start : List Str := ["_law_script"]
theorem sc__law_start : FnScope N__law_start ["_law_script"] (defScope s__law_start) := ⟨rfl, rfl, rfl, by decide +kernel, rfl, by decide +kernel, by decide +kernel⟩
abbrev s__law_draw : Stmt := topS 30
abbrev N__law_draw : List Str := ["_law_stream", "_law_many", "_law_cell", "_law_digit", "_law_mixed"]
theorem sc__law_draw : FnScope N__law_draw ["_law_stream", "_law_many"] (defScope s__law_draw) := ⟨rfl, rfl, rfl, by decide +kernel, rfl, by decide +kernel, by decide +kernel⟩
abbrev s__law_pick : Stmt := topS 31
abbrev N__law_pick : List Str := ["_law_stream", "_law_some"]
theorem sc__law_pick : FnScope N__law_pick ["_law_stream", "_law_some"] (defScope s__law_pick) := ⟨rfl, rfl, rfl, by decide +kernel, rfl, by decide +kernel, by decide +kernel⟩
abbrev s__law_name : Stmt := topS 32
abbrev N__law_name : List Str := ["_law_stream", "_law_size", "_law_k"]
theorem sc__law_name : FnScope N__law_name ["_law_stream"] (defScope s__law_name) := ⟨rfl, rfl, rfl, by decide +kernel, rfl, by decide +kernel, by decide +kernel⟩
abbrev s__law_names : Stmt := topS 33
abbrev N__law_names : List Str := ["_law_stream", "_law_many", "_law_found", "_law_k", "_law_spare", "_law_letter", "_law_x"]
theorem sc__law_names : FnScope N__law_names ["_law_stream", "_law_many"] (defScope s__law_names) := ⟨rfl, rfl, rfl, by decide +kernel, rfl, by decide +kernel, by decide +kernel⟩
abbrev s_law : Stmt := topS 34
abbrev N_law : List Str := ["_law_script", "_law_stream", "_law_turn", "_law_names_here", "_law_tree", "_law_plain", "_law_place", "_law_made", "_law_linkless", "_law_home", "_law_path", "_law_words", "_law_end", "_law_longer"]
theorem sc_law : FnScope N_law ["_law_script"] (defScope s_law) := ⟨rfl, rfl, rfl, by decide +kernel, rfl, by decide +kernel, by decide +kernel⟩
theorem st_is_name (d0 : D) : startD N_is_name [d0] = [some d0, none] := rfl
theorem st_is_path_text (d0 : D) : startD N_is_path_text [d0] = [some d0, none] := rfl
theorem st_Path___init__ (d0 d1 : D) : startD N_Path___init__ [d0, d1] = [some d0, some d1] := rfl
theorem st_Path_steps (d0 : D) : startD N_Path_steps [d0] = [some d0, none] := rfl
theorem st_path_of (d0 d1 d2 : D) : startD N_path_of [d0, d1, d2] = [some d0, some d1, some d2, none] := rfl
theorem st_Strikes___init__ (d0 d1 : D) : startD N_Strikes___init__ [d0, d1] = [some d0, some d1, none] := rfl
theorem st_Strikes___contains__ (d0 d1 : D) : startD N_Strikes___contains__ [d0, d1] = [some d0, some d1] := rfl
theorem st_Strikes_words (d0 : D) : startD N_Strikes_words [d0] = [some d0] := rfl
theorem st_tidied (d0 d1 : D) : startD N_tidied [d0, d1] = [some d0, some d1, none, none] := rfl
theorem st_place_of (d0 : D) : startD N_place_of [d0] = [some d0, none] := rfl
theorem st_Walk___init__ (d0 d1 : D) : startD N_Walk___init__ [d0, d1] = [some d0, some d1] := rfl
theorem st_Walk_goes (d0 d1 d2 d3 d4 : D) : startD N_Walk_goes [d0, d1, d2, d3, d4] = [some d0, some d1, some d2, some d3, some d4, none, none, none, none, none] := rfl
theorem st_Walk_stepped (d0 d1 d2 d3 d4 : D) : startD N_Walk_stepped [d0, d1, d2, d3, d4] = [some d0, some d1, some d2, some d3, some d4, none, none] := rfl
theorem st_Walk_followed (d0 d1 d2 : D) : startD N_Walk_followed [d0, d1, d2] = [some d0, some d1, some d2, none] := rfl
theorem st_Tree___init__ (d0 : D) : startD N_Tree___init__ [d0] = [some d0] := rfl
theorem st_Tree_kind (d0 d1 : D) : startD N_Tree_kind [d0, d1] = [some d0, some d1] := rfl
theorem st_Tree_target (d0 d1 : D) : startD N_Tree_target [d0, d1] = [some d0, some d1] := rfl
theorem st_Tree_folder (d0 d1 : D) : startD N_Tree_folder [d0, d1] = [some d0, some d1] := rfl
theorem st_Tree_file (d0 d1 : D) : startD N_Tree_file [d0, d1] = [some d0, some d1] := rfl
theorem st_Tree_link (d0 d1 d2 : D) : startD N_Tree_link [d0, d1, d2] = [some d0, some d1, some d2] := rfl
theorem st_Tree_put (d0 d1 d2 d3 : D) : startD N_Tree_put [d0, d1, d2, d3] = [some d0, some d1, some d2, some d3] := rfl
theorem st_Tree_check_free (d0 d1 : D) : startD N_Tree_check_free [d0, d1] = [some d0, some d1] := rfl
theorem st_Tree_walked (d0 d1 d2 d3 : D) : startD N_Tree_walked [d0, d1, d2, d3] = [some d0, some d1, some d2, some d3, none, none] := rfl
theorem st_Tree_lead (d0 d1 d2 d3 : D) : startD N_Tree_lead [d0, d1, d2, d3] = [some d0, some d1, some d2, some d3] := rfl
theorem st__law_p_written (d0 d1 d2 : D) : startD N__law_p_written [d0, d1, d2] = [some d0, some d1, some d2, none, none, none, none, none, none] := rfl
theorem st__law_t_drawn (d0 d1 d2 : D) : startD N__law_t_drawn [d0, d1, d2] = [some d0, some d1, some d2, none, none, none, none, none] := rfl
theorem st__law_t_up (d0 : D) : startD N__law_t_up [d0] = [some d0, none] := rfl
theorem st__law_t_built (d0 : D) : startD N__law_t_built [d0] = [some d0, none, none, none, none] := rfl
theorem st__law_t_folders (d0 : D) : startD N__law_t_folders [d0] = [some d0, none] := rfl
theorem st__law_start (d0 : D) : startD N__law_start [d0] = [some d0] := rfl
theorem st__law_draw (d0 d1 : D) : startD N__law_draw [d0, d1] = [some d0, some d1, none, none, none] := rfl
theorem st__law_pick (d0 d1 : D) : startD N__law_pick [d0, d1] = [some d0, some d1] := rfl
theorem st__law_name (d0 : D) : startD N__law_name [d0] = [some d0, none, none] := rfl
theorem st__law_names (d0 d1 : D) : startD N__law_names [d0, d1] = [some d0, some d1, none, none, none, none, none] := rfl
theorem st_law (d0 : D) : startD N_law [d0] = [some d0, none, none, none, none, none, none, none, none, none, none, none, none, none] := rfl
/-! ### what the top has written -/
structure Txt (K : PySem.W.Frag) (mg : Str → Option Value) where
  c_Path : Addr
  c_Strikes : Addr
  c_Walk : Addr
  c_Tree : Addr
  a_is_name : Addr
  d_is_name : FuncData
  F_is_name : Fun K "is_name" "is_name" s_is_name a_is_name d_is_name
  b_is_name : Binds K d_is_name ["thing"] []
  g_is_name : mg "is_name" = some (.ref a_is_name)
  a_is_path_text : Addr
  d_is_path_text : FuncData
  F_is_path_text : Fun K "is_path_text" "is_path_text" s_is_path_text a_is_path_text d_is_path_text
  b_is_path_text : Binds K d_is_path_text ["thing"] []
  g_is_path_text : mg "is_path_text" = some (.ref a_is_path_text)
  a_Path___init__ : Addr
  d_Path___init__ : FuncData
  F_Path___init__ : Fun K "__init__" "Path.__init__" s_Path___init__ a_Path___init__ d_Path___init__
  b_Path___init__ : Binds K d_Path___init__ ["self", "text"] []
  m_Path___init__ : Meth K c_Path "__init__" a_Path___init__
  a_Path_steps : Addr
  d_Path_steps : FuncData
  F_Path_steps : Fun K "steps" "Path.steps" s_Path_steps a_Path_steps d_Path_steps
  b_Path_steps : Binds K d_Path_steps ["self"] []
  m_Path_steps : Meth K c_Path "steps" a_Path_steps
  a_path_of : Addr
  d_path_of : FuncData
  F_path_of : FunD K "path_of" "path_of" (defArgs s_path_of) (defBody s_path_of) (defScope s_path_of) [] [("rooted", .bl false), ("ended", .bl false)] a_path_of d_path_of
  g_path_of : mg "path_of" = some (.ref a_path_of)
  kb_path_of_rooted_ended : KBn K d_path_of ["steps", "rooted", "ended"] 1 ["rooted", "ended"] (fun us ws => us ++ ws) (fun vs zs => vs ++ zs)
  a_Strikes___init__ : Addr
  d_Strikes___init__ : FuncData
  x0_Strikes___init__ : Addr
  F_Strikes___init__ : FunD K "__init__" "Strikes.__init__" (defArgs s_Strikes___init__) (defBody s_Strikes___init__) (defScope s_Strikes___init__) [.ref x0_Strikes___init__] [] a_Strikes___init__ d_Strikes___init__
  b_Strikes___init__ : Binds K d_Strikes___init__ ["self", "words"] []
  m_Strikes___init__ : Meth K c_Strikes "__init__" a_Strikes___init__
  a_Strikes___contains__ : Addr
  d_Strikes___contains__ : FuncData
  F_Strikes___contains__ : Fun K "__contains__" "Strikes.__contains__" s_Strikes___contains__ a_Strikes___contains__ d_Strikes___contains__
  b_Strikes___contains__ : Binds K d_Strikes___contains__ ["self", "thing"] []
  m_Strikes___contains__ : Meth K c_Strikes "__contains__" a_Strikes___contains__
  a_Strikes_words : Addr
  d_Strikes_words : FuncData
  F_Strikes_words : Fun K "words" "Strikes.words" s_Strikes_words a_Strikes_words d_Strikes_words
  b_Strikes_words : Binds K d_Strikes_words ["self"] []
  m_Strikes_words : Meth K c_Strikes "words" a_Strikes_words
  a_tidied : Addr
  d_tidied : FuncData
  F_tidied : Fun K "tidied" "tidied" s_tidied a_tidied d_tidied
  b_tidied : Binds K d_tidied ["path", "strikes"] []
  g_tidied : mg "tidied" = some (.ref a_tidied)
  a_place_of : Addr
  d_place_of : FuncData
  F_place_of : Fun K "place_of" "place_of" s_place_of a_place_of d_place_of
  b_place_of : Binds K d_place_of ["thing"] []
  g_place_of : mg "place_of" = some (.ref a_place_of)
  a_Walk___init__ : Addr
  d_Walk___init__ : FuncData
  F_Walk___init__ : Fun K "__init__" "Walk.__init__" s_Walk___init__ a_Walk___init__ d_Walk___init__
  b_Walk___init__ : Binds K d_Walk___init__ ["self", "tree"] []
  m_Walk___init__ : Meth K c_Walk "__init__" a_Walk___init__
  a_Walk_goes : Addr
  d_Walk_goes : FuncData
  x1_Walk_goes : Addr
  q1_Walk_goes : ∀ H, SqT K H x1_Walk_goes []
  F_Walk_goes : FunD K "goes" "Walk.goes" (defArgs s_Walk_goes) (defBody s_Walk_goes) (defScope s_Walk_goes) [] [("itself", .bl false), ("open_links", .ref x1_Walk_goes)] a_Walk_goes d_Walk_goes
  kb_Walk_goes_3_itself : ∃ mv : List Value, KBn K d_Walk_goes ["self", "path", "place", "itself", "open_links"] 3 ["itself"] (fun us ws => us ++ (ws ++ mv)) (fun vs zs => vs ++ (zs ++ [.ref x1_Walk_goes]))
  kb_Walk_goes_3_open_links : ∃ mv : List Value, KBn K d_Walk_goes ["self", "path", "place", "itself", "open_links"] 3 ["open_links"] (fun us ws => us ++ (mv ++ ws)) (fun vs zs => vs ++ ([.bl false] ++ zs))
  m_Walk_goes : Meth K c_Walk "goes" a_Walk_goes
  a_Walk_stepped : Addr
  d_Walk_stepped : FuncData
  F_Walk_stepped : Fun K "stepped" "Walk.stepped" s_Walk_stepped a_Walk_stepped d_Walk_stepped
  b_Walk_stepped : Binds K d_Walk_stepped ["self", "here", "step", "keeps", "open_links"] []
  m_Walk_stepped : Meth K c_Walk "stepped" a_Walk_stepped
  a_Walk_followed : Addr
  d_Walk_followed : FuncData
  F_Walk_followed : Fun K "followed" "Walk.followed" s_Walk_followed a_Walk_followed d_Walk_followed
  b_Walk_followed : Binds K d_Walk_followed ["self", "link", "open_links"] []
  m_Walk_followed : Meth K c_Walk "followed" a_Walk_followed
  a_Tree___init__ : Addr
  d_Tree___init__ : FuncData
  F_Tree___init__ : Fun K "__init__" "Tree.__init__" s_Tree___init__ a_Tree___init__ d_Tree___init__
  b_Tree___init__ : Binds K d_Tree___init__ ["self"] []
  m_Tree___init__ : Meth K c_Tree "__init__" a_Tree___init__
  a_Tree_kind : Addr
  d_Tree_kind : FuncData
  F_Tree_kind : Fun K "kind" "Tree.kind" s_Tree_kind a_Tree_kind d_Tree_kind
  b_Tree_kind : Binds K d_Tree_kind ["self", "place"] []
  m_Tree_kind : Meth K c_Tree "kind" a_Tree_kind
  a_Tree_target : Addr
  d_Tree_target : FuncData
  F_Tree_target : Fun K "target" "Tree.target" s_Tree_target a_Tree_target d_Tree_target
  b_Tree_target : Binds K d_Tree_target ["self", "place"] []
  m_Tree_target : Meth K c_Tree "target" a_Tree_target
  a_Tree_folder : Addr
  d_Tree_folder : FuncData
  F_Tree_folder : Fun K "folder" "Tree.folder" s_Tree_folder a_Tree_folder d_Tree_folder
  b_Tree_folder : Binds K d_Tree_folder ["self", "place"] []
  m_Tree_folder : Meth K c_Tree "folder" a_Tree_folder
  a_Tree_file : Addr
  d_Tree_file : FuncData
  F_Tree_file : Fun K "file" "Tree.file" s_Tree_file a_Tree_file d_Tree_file
  b_Tree_file : Binds K d_Tree_file ["self", "place"] []
  m_Tree_file : Meth K c_Tree "file" a_Tree_file
  a_Tree_link : Addr
  d_Tree_link : FuncData
  F_Tree_link : Fun K "link" "Tree.link" s_Tree_link a_Tree_link d_Tree_link
  b_Tree_link : Binds K d_Tree_link ["self", "place", "path"] []
  m_Tree_link : Meth K c_Tree "link" a_Tree_link
  a_Tree_put : Addr
  d_Tree_put : FuncData
  F_Tree_put : Fun K "put" "Tree.put" s_Tree_put a_Tree_put d_Tree_put
  b_Tree_put : Binds K d_Tree_put ["self", "place", "kind", "path"] []
  m_Tree_put : Meth K c_Tree "put" a_Tree_put
  a_Tree_check_free : Addr
  d_Tree_check_free : FuncData
  F_Tree_check_free : Fun K "check_free" "Tree.check_free" s_Tree_check_free a_Tree_check_free d_Tree_check_free
  b_Tree_check_free : Binds K d_Tree_check_free ["self", "place"] []
  m_Tree_check_free : Meth K c_Tree "check_free" a_Tree_check_free
  a_Tree_walked : Addr
  d_Tree_walked : FuncData
  F_Tree_walked : Fun K "walked" "Tree.walked" s_Tree_walked a_Tree_walked d_Tree_walked
  b_Tree_walked : Binds K d_Tree_walked ["self", "path", "start", "itself"] []
  m_Tree_walked : Meth K c_Tree "walked" a_Tree_walked
  a_Tree_lead : Addr
  d_Tree_lead : FuncData
  x0_Tree_lead : Addr
  q0_Tree_lead : ∀ H, SqT K H x0_Tree_lead []
  F_Tree_lead : FunD K "lead" "Tree.lead" (defArgs s_Tree_lead) (defBody s_Tree_lead) (defScope s_Tree_lead) [] [("start", .ref x0_Tree_lead), ("itself", .bl false)] a_Tree_lead d_Tree_lead
  kb_Tree_lead_2_start : ∃ mv : List Value, KBn K d_Tree_lead ["self", "path", "start", "itself"] 2 ["start"] (fun us ws => us ++ (ws ++ mv)) (fun vs zs => vs ++ (zs ++ [.bl false]))
  m_Tree_lead : Meth K c_Tree "lead" a_Tree_lead
  a__law_p_written : Addr
  d__law_p_written : FuncData
  F__law_p_written : Fun K "_law_p_written" "_law_p_written" s__law_p_written a__law_p_written d__law_p_written
  b__law_p_written : Binds K d__law_p_written ["_law_stream", "_law_names_here", "_law_most"] []
  g__law_p_written : mg "_law_p_written" = some (.ref a__law_p_written)
  a__law_t_drawn : Addr
  d__law_t_drawn : FuncData
  F__law_t_drawn : Fun K "_law_t_drawn" "_law_t_drawn" s__law_t_drawn a__law_t_drawn d__law_t_drawn
  b__law_t_drawn : Binds K d__law_t_drawn ["_law_stream", "_law_names_here", "_law_most"] []
  g__law_t_drawn : mg "_law_t_drawn" = some (.ref a__law_t_drawn)
  a__law_t_up : Addr
  d__law_t_up : FuncData
  F__law_t_up : Fun K "_law_t_up" "_law_t_up" s__law_t_up a__law_t_up d__law_t_up
  b__law_t_up : Binds K d__law_t_up ["_law_tree"] []
  g__law_t_up : mg "_law_t_up" = some (.ref a__law_t_up)
  a__law_t_built : Addr
  d__law_t_built : FuncData
  F__law_t_built : Fun K "_law_t_built" "_law_t_built" s__law_t_built a__law_t_built d__law_t_built
  b__law_t_built : Binds K d__law_t_built ["_law_tree"] []
  g__law_t_built : mg "_law_t_built" = some (.ref a__law_t_built)
  a__law_t_folders : Addr
  d__law_t_folders : FuncData
  F__law_t_folders : Fun K "_law_t_folders" "_law_t_folders" s__law_t_folders a__law_t_folders d__law_t_folders
  b__law_t_folders : Binds K d__law_t_folders ["_law_tree"] []
  g__law_t_folders : mg "_law_t_folders" = some (.ref a__law_t_folders)
  a__law_start : Addr
  d__law_start : FuncData
  F__law_start : Fun K "_law_start" "_law_start" s__law_start a__law_start d__law_start
  b__law_start : Binds K d__law_start ["_law_script"] []
  g__law_start : mg "_law_start" = some (.ref a__law_start)
  a__law_draw : Addr
  d__law_draw : FuncData
  F__law_draw : Fun K "_law_draw" "_law_draw" s__law_draw a__law_draw d__law_draw
  b__law_draw : Binds K d__law_draw ["_law_stream", "_law_many"] []
  g__law_draw : mg "_law_draw" = some (.ref a__law_draw)
  a__law_pick : Addr
  d__law_pick : FuncData
  F__law_pick : Fun K "_law_pick" "_law_pick" s__law_pick a__law_pick d__law_pick
  b__law_pick : Binds K d__law_pick ["_law_stream", "_law_some"] []
  g__law_pick : mg "_law_pick" = some (.ref a__law_pick)
  a__law_name : Addr
  d__law_name : FuncData
  F__law_name : Fun K "_law_name" "_law_name" s__law_name a__law_name d__law_name
  b__law_name : Binds K d__law_name ["_law_stream"] []
  g__law_name : mg "_law_name" = some (.ref a__law_name)
  a__law_names : Addr
  d__law_names : FuncData
  F__law_names : Fun K "_law_names" "_law_names" s__law_names a__law_names d__law_names
  b__law_names : Binds K d__law_names ["_law_stream", "_law_many"] []
  g__law_names : mg "_law_names" = some (.ref a__law_names)
  a_law : Addr
  d_law : FuncData
  F_law : Fun K "law" "law" s_law a_law d_law
  b_law : Binds K d_law ["_law_script"] []
  g_law : mg "law" = some (.ref a_law)
  g_Path : mg "Path" = some (.ref c_Path)
  y_Path : InsTy K c_Path
  mk_Path : Mk K c_Path a_Path___init__
  n_Path_text : NoAttr K c_Path "text"
  n_Path_rooted : NoAttr K c_Path "rooted"
  n_Path_ended : NoAttr K c_Path "ended"
  kt_Path_Path : PySem.W.kitOne K (.ref c_Path) (.ref c_Path) = some true
  g_Strikes : mg "Strikes" = some (.ref c_Strikes)
  y_Strikes : InsTy K c_Strikes
  mk_Strikes : Mk K c_Strikes a_Strikes___init__
  n_Strikes_held : NoAttr K c_Strikes "held"
  g_Walk : mg "Walk" = some (.ref c_Walk)
  y_Walk : InsTy K c_Walk
  mk_Walk : Mk K c_Walk a_Walk___init__
  n_Walk_tree : NoAttr K c_Walk "tree"
  n_Walk_sought : NoAttr K c_Walk "sought"
  n_Walk_outcomes : NoAttr K c_Walk "outcomes"
  n_Walk_word : NoAttr K c_Walk "word"
  n_Walk_done : NoAttr K c_Walk "done"
  g_Tree : mg "Tree" = some (.ref c_Tree)
  y_Tree : InsTy K c_Tree
  mk_Tree : Mk K c_Tree a_Tree___init__
  n_Tree_held : NoAttr K c_Tree "held"
  op_Strikes___contains__ : PySem.W.findIn K (.ref c_Strikes) ("__contains__") = some (some (.ref a_Strikes___contains__))
  z_all : mg "all" = none
  z_dict : mg "dict" = none
  z_enumerate : mg "enumerate" = none
  z_int : mg "int" = none
  z_isinstance : mg "isinstance" = none
  z_len : mg "len" = none
  z_list : mg "list" = none
  z_range : mg "range" = none
  z_sorted : mg "sorted" = none
  z_str : mg "str" = none
  z_tuple : mg "tuple" = none
  u_LETTERS : Value
  g_LETTERS : mg "LETTERS" = some u_LETTERS
  r_LETTERS : RelV (.str "abcdefghijklmnopqrstuvwxyz") u_LETTERS
  u_LONGEST : Value
  g_LONGEST : mg "LONGEST" = some u_LONGEST
  r_LONGEST : RelV (.int 8) u_LONGEST
  a_WORDS : Addr
  g_WORDS : mg "WORDS" = some (.ref a_WORDS)
  q_WORDS : ∀ H, SqT K H a_WORDS [.str "dot", .str "up", .str "root up", .str "end bar"]
/-! ### data of this program -/
abbrev strD (z : Str) : D := .s (.str z)
abbrev intD (i : Int) : D := .s (.int i)
abbrev blD (b : Bool) : D := .s (.bl b)
abbrev nonD : D := .s .non
def strsD (zs : List Str) : D := .lst (zs.map strD)
def sz : Nat := 1000000
def pN : List Str := ["text", "rooted", "ended"]
def pV (z : Str) : List D := [strD z, blD (DT.rooted z), blD (DT.ended z)]
/-- any object that is no text -/
def NoText (K : PySem.W.Frag) (m : Mem) (d : D) : Prop := ∃ t, TyD K m d t ∧ PySem.W.kitOne K t (.type "str") = some false
def pathD (C : Addr) (z : Str) : D := .ins C pN (pV z)
def Stream (m : Mem) (p : Addr) : Prop := ∃ c, m.own p = some (.stm c) ∧ m.own c = some .cel ∧ p ≠ c
def more (m : Mem) (n : Nat) : Mem := { m with cnt := m.cnt + n }
def sepOf (a : Str) : Str := if DT.tlLast a = some 47 then ("" : Str) else ("/" : Str)
def joinP (a b : Str) : Str := if DT.rooted b = true then b else a ++ sepOf a ++ b
def lastD (z : Str) : D := match (DT.steps z).getLast? with
  | some p => strD p
  | none => nonD
def wordsAll : List Str := ["dot", "up", "root up", "end bar"]
def heldOf (ws : List Str) : List Str := wordsAll.filter fun w => decide (w ∈ ws)
def strkD (C : Addr) (hs : List Str) : D := .ins C ["held"] [strsD hs]
def hasW (w : Str) (hs : List Str) : Bool := decide (w ∈ hs)
def tidiedT (hs : List Str) (z : Str) : Str := DT.plainT (DT.tidyS (hasW "dot" hs) (hasW "up" hs) (hasW "root up" hs && DT.rooted z) (DT.steps z)) (DT.rooted z) (DT.ended z && !(hasW "end bar" hs))
def strikeD (pr : Nat × Nat) : D := .tup [intD pr.1, intD pr.2]
/-! ### trees -/
def thD (C : Addr) (t : Th) : D := .tup [strD t.kind, match t.wr with | none => nonD | some w => pathD C w]
def thL (t : Th) : D := .tup [strD t.kind, match t.wr with | none => nonD | some w => strD w]
def wordV : Option Str → V
  | none => .non
  | some w => .str w
abbrev wordD (w : Option Str) : D := .s (wordV w)
def ResD (d : D) : Option Place → Prop
  | none => d = nonD
  | some p => TxT d p
inductive OutL : List D → List (Place × Option Place × Option Str) → Prop
  | nil : OutL [] []
  | cons {d : D} {p : Place} {e : Option Place} {w : Option Str} {ds : List D} {os : List (Place × Option Place × Option Str)} (h : ResD d e) (t : OutL ds os) : OutL (.tup [d, wordD w] :: ds) ((p, e, w) :: os)
def wN : List Str := ["tree", "sought", "outcomes", "word", "done"]
def wI (C t sa oa : Addr) (s : WSt) : MO := .ins C wN [.s (.ref t), .s (.ref sa), .s (.ref oa), wordD s.word, intD s.done]
def mW (C : Addr) (m : Mem) (t w sa oa : Addr) (sds ods : List D) (s : WSt) : Mem := { m with own := putM (putM (putM m.own sa (.lst sds)) oa (.dT (s.outs.map (·.1)) ods)) w (wI C t sa oa s) }
structure FreeW (m : Mem) (w sa oa : Addr) : Prop where
  hw : m.own w = none
  hs : m.own sa = none
  ho : m.own oa = none
  n1 : w ≠ sa
  n2 : w ≠ oa
  n3 : sa ≠ oa
def TreeAt (CT CP : Addr) (m : Mem) (t : Addr) (tr : Tr) : Prop := ∃ h, m.own t = some (.ins CT ["held"] [.s (.ref h)]) ∧ m.own h = some (.dT (keysT tr) (tr.map fun e => thD CP e.2))
/-- what the three defs of a walk share -/
structure WalkIn (CT CP CW : Addr) (U : List Str) (n : Nat) (m m0 : Mem) (t w sa oa : Addr) (tr : Tr) (sds ods od : List D) (opn : List Place) (s : WSt) : Prop where
  mem : m = mW CW m0 t w sa oa sds ods s
  fr : FreeW m0 w sa oa
  tree : TreeAt CT CP m0 t tr
  ok : OkTr U tr
  oks : OkS U tr s
  so : PlL sds s.sought
  ou : OutL ods s.outs
  op : PlL od opn
  opk : OpnOk tr n opn
  dis : ∀ o ∈ s.outs, o.1 ∉ opn
def WalkOut (CW : Addr) (U : List Str) (m0 : Mem) (t w sa oa : Addr) (tr : Tr) (opn : List Place) (r : Option Place × WSt) (nx : QD) : Prop :=
  ∀ d sds ods, ResD d r.1 → (∀ p, r.1 = some p → HereOk tr p) → PlL sds r.2.sought → OutL ods r.2.outs → OkS U tr r.2 → (∀ o ∈ r.2.outs, o.1 ∉ opn) → nx d (mW CW m0 t w sa oa sds ods r.2)
def TreeMore (CT CP : Addr) (m : Mem) (t : Addr) (tr : Tr) (ns : Place) (th : Th) (nx : Mem → Prop) : Prop := ∃ h, m.own t = some (.ins CT ["held"] [.s (.ref h)]) ∧ m.own h = some (.dT (keysT tr) (tr.map fun e => thD CP e.2)) ∧
  nx { m with own := putM m.own h (.dT (keysT (tr ++ [(ns, th)])) ((tr ++ [(ns, th)]).map fun e => thD CP e.2)) }
/-- what lead, why, looked want -/
structure LeadIn (CT CP : Addr) (U : List Str) (m : Mem) (t : Addr) (tr : Tr) (p : Str) (hd : D) (here : Place) : Prop where
  tree : TreeAt CT CP m t tr
  ok : OkTr U tr
  ln : (linksT tr).length ≤ 13
  path : PathOk U p
  hd : TxT hd here
  fol : kindT tr here = some "folder"
def wayD (p : Str) (d : D) (r : Option Place × WSt) : D := .tup [d, (if r.1.isSome = true then nonD else wordD r.2.word), intD (if r.1.isSome = true then (DT.steps p).length else r.2.done)]
/-- what the law's own walk wants -/
structure LawIn (U : List Str) (n : Nat) (m : Mem) (l q : Addr) (tr : Tr) (sds od : List D) (opn : List Place) (s : WSt) : Prop where
  tree : m.own l = some (.dT (keysT tr) (tr.map fun e => thL e.2))
  ask : m.own q = some (.lst sds)
  ok : OkTr U tr
  oks : OkS U tr s
  so : PlL sds s.sought
  op : PlL od opn
  opk : OpnOk tr n opn
def LawOut (U : List Str) (m : Mem) (q : Addr) (tr : Tr) (p : Str) (r : Option Place × WSt) (nx : QD) : Prop :=
  ∀ d sds, ResD d r.1 → (∀ p, r.1 = some p → HereOk tr p) → PlL sds r.2.sought → OkS U tr r.2 → nx (wayD p d r) { m with own := putM m.own q (.lst sds) }
def mT (CT CP : Addr) (m : Mem) (t h : Addr) (tr : Tr) : Mem := { m with own := putM (putM m.own h (.dT (keysT tr) (tr.map fun e => thD CP e.2))) t (.ins CT ["held"] [.s (.ref h)]) }
abbrev foldersT (tr : Tr) : List Place := (sortT (keysT tr)).filter fun k => decide (kindT tr k = some ("folder" : Str))
def φ_is_name {K : PySem.W.Frag} {mg : Str → Option Value} (T : Txt K mg) : Phi := fun ds m nx _ => ∃ d, ds = [d] ∧ ((∃ z, d = strD z ∧ z.length ≤ sz ∧ nx (blD (DT.isName z)) m) ∨ (NoText K m d ∧ nx (blD false) m))
def φ_is_path_text {K : PySem.W.Frag} {mg : Str → Option Value} (T : Txt K mg) : Phi := fun ds m nx _ => ∃ d, ds = [d] ∧ ((∃ z, d = strD z ∧ z.length ≤ sz ∧ nx (blD (DT.isPath z)) m) ∨ (NoText K m d ∧ nx (blD false) m))
def φ_Path___init__ {K : PySem.W.Frag} {mg : Str → Option Value} (T : Txt K mg) : Phi := fun ds m nx _ => ∃ x z, ds = [.s (.ref x), strD z] ∧ DT.isPath z = true ∧ z.length ≤ sz ∧ m.own x = some (.ins T.c_Path [] []) ∧ nx nonD { m with own := putM m.own x (.ins T.c_Path pN (pV z)) }
def φ_Path_steps {K : PySem.W.Frag} {mg : Str → Option Value} (T : Txt K mg) : Phi := fun ds m nx _ => ∃ z, ds = [pathD T.c_Path z] ∧ z.length ≤ sz ∧ nx (strsD (DT.steps z)) m
def φ_path_of {K : PySem.W.Frag} {mg : Str → Option Value} (T : Txt K mg) : Phi := fun ds m nx _ => ∃ st rt en, ds = [strsD st, blD rt, blD en] ∧ (∀ s ∈ st, DT.isStep s) ∧ st.length ≤ 10000 ∧ nx (pathD T.c_Path (DT.plainT st rt en)) m
def φ_Strikes___init__ {K : PySem.W.Frag} {mg : Str → Option Value} (T : Txt K mg) : Phi := fun ds m nx _ => ∃ x ws y, ds = [.s (.ref x), y] ∧ (y = strsD ws ∨ y = .tup (ws.map strD)) ∧ (∀ w ∈ ws, w ∈ wordsAll) ∧ m.own x = some (.ins T.c_Strikes [] []) ∧ nx nonD { m with own := putM m.own x (.ins T.c_Strikes ["held"] [strsD (heldOf ws)]) }
def φ_Strikes___contains__ {K : PySem.W.Frag} {mg : Str → Option Value} (T : Txt K mg) : Phi := fun ds m nx _ => ∃ hs d, ds = [strkD T.c_Strikes hs, d] ∧ ((∃ z, d = strD z ∧ nx (blD (decide (z ∈ hs))) m) ∨ (NoText K m d ∧ nx (blD false) m))
def φ_Strikes_words {K : PySem.W.Frag} {mg : Str → Option Value} (T : Txt K mg) : Phi := fun ds m nx _ => ∃ hs, ds = [strkD T.c_Strikes hs] ∧ nx (strsD hs) m
def φ_tidied {K : PySem.W.Frag} {mg : Str → Option Value} (T : Txt K mg) : Phi := fun ds m nx _ => ∃ z hs, ds = [pathD T.c_Path z, strkD T.c_Strikes hs] ∧ DT.isPath z = true ∧ z.length ≤ 9000 ∧ nx (pathD T.c_Path (tidiedT hs z)) m
def φ_place_of {K : PySem.W.Frag} {mg : Str → Option Value} (T : Txt K mg) : Phi := fun ds m nx _ => ∃ d ns, ds = [d] ∧ TxT d ns ∧ ns.length ≤ 1000 ∧ (∀ n ∈ ns, DT.isName n = true) ∧ nx d m
def φ_Walk___init__ {K : PySem.W.Frag} {mg : Str → Option Value} (T : Txt K mg) : Phi := fun ds m nx _ => ∃ w t, ds = [.s (.ref w), .s (.ref t)] ∧ m.own w = some (.ins T.c_Walk [] []) ∧ ∀ sa oa, FreeW { m with own := dropM m.own w } w sa oa →
  nx nonD (mW T.c_Walk { m with own := dropM m.own w } t w sa oa [] [] ⟨[], [], none, 0⟩)
def φ_Walk_goes {K : PySem.W.Frag} {mg : Str → Option Value} (T : Txt K mg) : Nat → Phi
  | 0 => fun _ _ _ _ => False
  | n + 1 => fun ds m nx _ => ∃ U m0 t w sa oa tr sds ods od opn s p hd here kp, ds = [.s (.ref w), pathD T.c_Path p, hd, blD kp, .tup od] ∧ WalkIn T.c_Tree T.c_Path T.c_Walk U n m m0 t w sa oa tr sds ods od opn s ∧
    PathOk U p ∧ TxT hd here ∧ HereOk tr here ∧ WalkOut T.c_Walk U m0 t w sa oa tr opn (goesM tr n p here kp opn s) nx
def φ_Walk_stepped {K : PySem.W.Frag} {mg : Str → Option Value} (T : Txt K mg) (n : Nat) : Phi := fun ds m nx _ => ∃ U m0 t w sa oa tr sds ods od opn s st hd here kp, ds = [.s (.ref w), hd, strD st, blD kp, .tup od] ∧
  WalkIn T.c_Tree T.c_Path T.c_Walk U n m m0 t w sa oa tr sds ods od opn s ∧ (st = "." ∨ st = ".." ∨ st ∈ U) ∧ TxT hd here ∧ HereOk tr here ∧ WalkOut T.c_Walk U m0 t w sa oa tr opn (stepM tr (folM tr n) here st kp opn s) nx
def φ_Walk_followed {K : PySem.W.Frag} {mg : Str → Option Value} (T : Txt K mg) (n : Nat) : Phi := fun ds m nx _ => ∃ U m0 t w sa oa tr sds ods od opn s link, ds = [.s (.ref w), .pl link, .tup od] ∧
  WalkIn T.c_Tree T.c_Path T.c_Walk U n m m0 t w sa oa tr sds ods od opn s ∧ link ∈ linksT tr ∧ WalkOut T.c_Walk U m0 t w sa oa tr opn (folM tr n link opn s) nx
def φ_Tree___init__ {K : PySem.W.Frag} {mg : Str → Option Value} (T : Txt K mg) : Phi := fun ds m nx _ => ∃ t, ds = [.s (.ref t)] ∧ m.own t = some (.ins T.c_Tree [] []) ∧ ∀ h, m.own h = none →
  nx nonD { m with own := putM (putM m.own h (.dT [[]] [thD T.c_Path ⟨"folder", none⟩])) t (.ins T.c_Tree ["held"] [.s (.ref h)]) }
def φ_Tree_kind {K : PySem.W.Frag} {mg : Str → Option Value} (T : Txt K mg) : Phi := fun ds m nx _ => ∃ t tr d ns, ds = [.s (.ref t), d] ∧ TreeAt T.c_Tree T.c_Path m t tr ∧ TxT d ns ∧ ns.length ≤ 1000 ∧ (∀ n ∈ ns, DT.isName n = true) ∧ nx (wordD (kindT tr ns)) m
def φ_Tree_target {K : PySem.W.Frag} {mg : Str → Option Value} (T : Txt K mg) : Phi := fun ds m nx _ => ∃ t tr d ns th p, ds = [.s (.ref t), d] ∧ TreeAt T.c_Tree T.c_Path m t tr ∧ TxT d ns ∧ ns.length ≤ 1000 ∧ (∀ n ∈ ns, DT.isName n = true) ∧ look tr ns = some th ∧ th.wr = some p ∧ nx (pathD T.c_Path p) m
def φ_Tree_folder {K : PySem.W.Frag} {mg : Str → Option Value} (T : Txt K mg) : Phi := fun ds m nx _ => ∃ U t tr ns, ds = [.s (.ref t), .pl ns] ∧ DeedOk U tr ns ∧ TreeMore T.c_Tree T.c_Path m t tr ns ⟨"folder", none⟩ (nx nonD)
def φ_Tree_file {K : PySem.W.Frag} {mg : Str → Option Value} (T : Txt K mg) : Phi := fun ds m nx _ => ∃ U t tr ns, ds = [.s (.ref t), .pl ns] ∧ DeedOk U tr ns ∧ TreeMore T.c_Tree T.c_Path m t tr ns ⟨"file", none⟩ (nx nonD)
def φ_Tree_link {K : PySem.W.Frag} {mg : Str → Option Value} (T : Txt K mg) : Phi := fun ds m nx _ => ∃ U t tr ns p, ds = [.s (.ref t), .pl ns, pathD T.c_Path p] ∧ DeedOk U tr ns ∧ TreeMore T.c_Tree T.c_Path m t tr ns ⟨"link", some p⟩ (nx nonD)
def φ_Tree_put {K : PySem.W.Frag} {mg : Str → Option Value} (T : Txt K mg) : Phi := fun ds m nx _ => ∃ U t tr ns th pd, ds = [.s (.ref t), .pl ns, strD th.kind, pd] ∧ DeedOk U tr ns ∧ thD T.c_Path th = .tup [strD th.kind, pd] ∧ TreeMore T.c_Tree T.c_Path m t tr ns th (nx nonD)
def φ_Tree_check_free {K : PySem.W.Frag} {mg : Str → Option Value} (T : Txt K mg) : Phi := fun ds m nx _ => ∃ U t tr ns, ds = [.s (.ref t), .pl ns] ∧ TreeAt T.c_Tree T.c_Path m t tr ∧ DeedOk U tr ns ∧ nx nonD m
def φ_Tree_walked {K : PySem.W.Frag} {mg : Str → Option Value} (T : Txt K mg) : Phi := fun ds m nx _ => ∃ U t tr p hd here kp, ds = [.s (.ref t), pathD T.c_Path p, hd, blD kp] ∧ LeadIn T.c_Tree T.c_Path U m t tr p hd here ∧
  ∀ d w sa oa sds ods, FreeW m w sa oa → ResD d (goesM tr 13 p here kp [] st0).1 → PlL sds (goesM tr 13 p here kp [] st0).2.sought → OkS U tr (goesM tr 13 p here kp [] st0).2 →
    nx (.tup [d, .s (.ref w)]) (mW T.c_Walk m t w sa oa sds ods (goesM tr 13 p here kp [] st0).2)
def φ_Tree_lead {K : PySem.W.Frag} {mg : Str → Option Value} (T : Txt K mg) : Phi := fun ds m nx _ => ∃ U t tr p hd here kp, ds = [.s (.ref t), pathD T.c_Path p, hd, blD kp] ∧ LeadIn T.c_Tree T.c_Path U m t tr p hd here ∧
  ∀ d, ResD d (goesM tr 13 p here kp [] st0).1 → nx d m
def φ__law_p_written {K : PySem.W.Frag} {mg : Str → Option Value} (T : Txt K mg) : Phi := fun ds m nx _ => ∃ p zs n, ds = [.s (.ref p), strsD zs, intD n] ∧ Stream m p ∧ m.cnt < 800000000 ∧ zs.length ≤ 10 ∧ (∀ z ∈ zs, DT.isName z = true) ∧ 0 ≤ n ∧ n ≤ 20 ∧ ∀ z, DT.isPath z = true → z.length ≤ 400 → (∀ x ∈ DT.steps z, x = "." ∨ x = ".." ∨ x ∈ zs) → nx (strD z) (more m 100)
def φ__law_t_drawn {K : PySem.W.Frag} {mg : Str → Option Value} (T : Txt K mg) : Phi := fun ds m nx _ => ∃ p zs n, ds = [.s (.ref p), strsD zs, intD (n : Nat)] ∧ Stream m p ∧ m.cnt < 700000000 ∧ zs ≠ [] ∧ zs.length ≤ 10 ∧ (∀ z ∈ zs, DT.isName z = true) ∧ n ≤ 20 ∧
  ∀ l tr, m.own l = none → OkTr zs tr → Closed tr → tr.length ≤ n + 1 → (∀ e ∈ tr, e.1.length ≤ 4 ∧ ∀ x ∈ e.1, x ∈ zs) → (∀ e ∈ tr, ∀ w, e.2.wr = some w → w.length ≤ 400) → nx (.s (.ref l)) { cnt := m.cnt + 3000, own := putM m.own l (.dT (keysT tr) (tr.map fun e => thL e.2)) }
def φ__law_t_up {K : PySem.W.Frag} {mg : Str → Option Value} (T : Txt K mg) : Phi := fun ds m nx _ => ∃ U l tr, ds = [.s (.ref l)] ∧ OkTr U tr ∧ m.own l = some (.dT (keysT tr) (tr.map fun e => thL e.2)) ∧ nx (.lst (((sortT (keysT tr)).filter fun k => !decide (k = [])).map D.pl)) m
def φ__law_t_built {K : PySem.W.Frag} {mg : Str → Option Value} (T : Txt K mg) : Phi := fun ds m nx _ => ∃ U l tr, ds = [.s (.ref l)] ∧ m.own l = some (.dT (keysT tr) (tr.map fun e => thL e.2)) ∧ OkTr U tr ∧ Closed tr ∧
  ∀ t h tr', m.own t = none → m.own h = none → t ≠ h → OkTr U tr' → (∀ p, look tr' p = look tr p) → (linksT tr').length ≤ (linksT tr).length → nx (.s (.ref t)) (mT T.c_Tree T.c_Path m t h tr')
def φ__law_t_folders {K : PySem.W.Frag} {mg : Str → Option Value} (T : Txt K mg) : Phi := fun ds m nx _ => ∃ U l tr, ds = [.s (.ref l)] ∧ OkTr U tr ∧ m.own l = some (.dT (keysT tr) (tr.map fun e => thL e.2)) ∧ nx (.lst ((foldersT tr).map D.pl)) m
def φ__law_draw {K : PySem.W.Frag} {mg : Str → Option Value} (T : Txt K mg) : Phi := fun ds m nx _ => ∃ p n, ds = [.s (.ref p), intD n] ∧ Stream m p ∧ 0 < n ∧ n < 1073741824 ∧ m.cnt < 1000000000 ∧ ∀ r, 0 ≤ r → r < n → nx (intD r) (more m 1)
def φ__law_pick {K : PySem.W.Frag} {mg : Str → Option Value} (T : Txt K mg) : Phi := fun ds m nx _ => ∃ p x xs, ds = [.s (.ref p), x] ∧ Stream m p ∧ m.cnt < 1000000000 ∧ DD.seqD x = some xs ∧ xs ≠ [] ∧ xs.length ≤ sz ∧ ∀ d ∈ xs, nx d (more m 1)
def φ__law_name {K : PySem.W.Frag} {mg : Str → Option Value} (T : Txt K mg) : Phi := fun ds m nx _ => ∃ p, ds = [.s (.ref p)] ∧ Stream m p ∧ m.cnt < 900000000 ∧ ∀ z, DT.isName z = true → nx (strD z) (more m 10)
def φ__law_names {K : PySem.W.Frag} {mg : Str → Option Value} (T : Txt K mg) : Phi := fun ds m nx _ => ∃ p n, ds = [.s (.ref p), intD n] ∧ Stream m p ∧ m.cnt < 800000000 ∧ 0 ≤ n ∧ n ≤ 10 ∧ ∀ zs : List Str, (zs.length : Int) = n → (∀ z ∈ zs, DT.isName z = true) → zs.Nodup → nx (strsD zs) (more m 100)
def t_is_name {K : PySem.W.Frag} {mg : Str → Option Value} (T : Txt K mg) (E : XK) : TS :=
    (tRet (tAndV (tCB (rIsiA K) (tCons (tVar 0) (tCons (tC (.ty "str")) tNil))) (tAndV (tChain rLeI rLeI (tC (.int 1)) (tCB (rLenA K) (tCons (tVar 0) tNil)) (tC (.int 8))) (tCB (rAll K) (tCons (tLc (iAny K (tVar 0)) (gName 1) tYes (tOp (rInA K) (tVar 1) (tC (.str "abcdefghijklmnopqrstuvwxyz"))) [1]) tNil)))))
def t_is_path_text {K : PySem.W.Frag} {mg : Str → Option Value} (T : Txt K mg) (E : XK) : TS :=
    (tSeq (tIfS (tOr (tNot (tB (tCB (rIsiA K) (tCons (tVar 0) (tCons (tC (.ty "str")) tNil))))) (tTest (tOp (rEqA K) (tVar 0) (tC (.str ""))))) (tRet (tC (.bl false))) tNext)
    (tRet (tCB (rAll K) (tCons (tLc (iAny K (tM1 rSplit (tVar 0) (tC (.str "/")))) (gName 1) tYes (tOrV (tOp (rInA K) (tVar 1) (tTup (tCons (tC (.str "")) (tCons (tC (.str ".")) (tCons (tC (.str "..")) tNil))))) (tCall (spOf K (φ_is_name T)) [] E0 (tCons (tVar 1) tNil))) [1]) tNil))))
def t_Path___init__ {K : PySem.W.Frag} {mg : Str → Option Value} (T : Txt K mg) (E : XK) : TS :=
    (tSeq (tIfS (tNot (tB (tCall (spOf K (φ_is_path_text T)) [] E0 (tCons (tVar 1) tNil)))) tNever tNext)
    (tSeq (sFld K (tVar 0) (tVar 1) "text")
    (tSeq (sFld K (tVar 0) (tOp (rEqA K) (tOp (rIx K) (tVar 1) (tC (.int 0))) (tC (.str "/"))) "rooted")
    (sFld K (tVar 0) (tOp (rInA K) (tOp (rIx K) (tM1 rSplit (tVar 1) (tC (.str "/"))) (tUn rNeg (tC (.int 1)))) (tTup (tCons (tC (.str "")) (tCons (tC (.str ".")) (tCons (tC (.str "..")) tNil))))) "ended"))))
def t_Path_steps {K : PySem.W.Frag} {mg : Str → Option Value} (T : Txt K mg) (E : XK) : TS :=
    (tRet (tLc (iAny K (tM1 rSplit (tFld K (tVar 0) "text") (tC (.str "/")))) (gName 1) (tTest (tOp (rNeA K) (tVar 1) (tC (.str "")))) (tVar 1) [1]))
def t_path_of {K : PySem.W.Frag} {mg : Str → Option Value} (T : Txt K mg) (E : XK) : TS :=
    (tSeq (tAsg (tM1 (rJoin K) (tC (.str "/")) (tVar 0)) (gName 3))
    (tSeq (tIfS (tB (tVar 1)) (tAsg (tOp (rAddA K) (tC (.str "/")) (tVar 3)) (gName 3)) tNext)
    (tSeq (tIfS (tTest (tOp (rEqA K) (tVar 3) (tC (.str "")))) (tRet (tMake T.c_Path (spOf K (φ_Path___init__ T)) [] E0 (tCons (tC (.str ".")) tNil))) tNext)
    (tRet (tMake T.c_Path (spOf K (φ_Path___init__ T)) [] E0 (tCons (tIf (tAnd (tB (tVar 2)) (tAnd (tTest (tOp (rNeA K) (tVar 0) (tLst tNil))) (tB (tCall (spOf K (φ_is_name T)) [] E0 (tCons (tOp (rIx K) (tVar 0) (tUn rNeg (tC (.int 1)))) tNil))))) (tOp (rAddA K) (tVar 3) (tC (.str "/"))) (tVar 3)) tNil))))))
def t_Strikes___init__ {K : PySem.W.Frag} {mg : Str → Option Value} (T : Txt K mg) (E : XK) : TS :=
    (tSeq (tIfS (tNot (tB (tCB (rIsiA K) (tCons (tVar 1) (tCons (tTup (tCons (tC (.ty "list")) (tCons (tC (.ty "tuple")) tNil))) tNil))))) tNever tNext)
    (tSeq (tFor (iAny K (tVar 1)) (gName 2) (tIfS (tOr (tNot (tB (tCB (rIsiA K) (tCons (tVar 2) (tCons (tC (.ty "str")) tNil))))) (tTest (tOp (rNInA K) (tVar 2) (tC (.ref T.a_WORDS))))) tNever tNext))
    (sFld K (tVar 0) (tLc (iAny K (tC (.ref T.a_WORDS))) (gName 2) (tTest (tOp (rInA K) (tVar 2) (tVar 1))) (tVar 2) [2]) "held")))
def t_Strikes___contains__ {K : PySem.W.Frag} {mg : Str → Option Value} (T : Txt K mg) (E : XK) : TS :=
    (tRet (tAndV (tCB (rIsiA K) (tCons (tVar 1) (tCons (tC (.ty "str")) tNil))) (tOp (rInA K) (tVar 1) (tFld K (tVar 0) "held"))))
def t_Strikes_words {K : PySem.W.Frag} {mg : Str → Option Value} (T : Txt K mg) (E : XK) : TS :=
    (tRet (tCB (rListA K) (tCons (tFld K (tVar 0) "held") tNil)))
def t_tidied {K : PySem.W.Frag} {mg : Str → Option Value} (T : Txt K mg) (E : XK) : TS :=
    (tSeq (tAsg (tLst tNil) (gName 2))
    (tSeq (tFor (iAny K (tMeth T.c_Path "steps" (spOf K (φ_Path_steps T)) [] E0 (tVar 0) tNil)) (gName 3) (tSeq (tIfS (tAnd (tTest (tOp (rEqA K) (tVar 3) (tC (.str ".")))) (tTest (tOp (HO1.rInO T.c_Strikes (spOf K (φ_Strikes___contains__ T)) E0 false) (tC (.str "dot")) (tVar 1)))) tCont tNext)
    (tIfS (tAnd (tTest (tOp (rEqA K) (tVar 3) (tC (.str "..")))) (tAnd (tTest (tOp (HO1.rInO T.c_Strikes (spOf K (φ_Strikes___contains__ T)) E0 false) (tC (.str "up")) (tVar 1))) (tAnd (tTest (tOp (rNeA K) (tVar 2) (tLst tNil))) (tB (tCall (spOf K (φ_is_name T)) [] E0 (tCons (tOp (rIx K) (tVar 2) (tUn rNeg (tC (.int 1)))) tNil)))))) (tDrop (tBM0 K "list" rPop (tVar 2))) (tIfS (tOr (tTest (tOp (rNeA K) (tVar 3) (tC (.str "..")))) (tOr (tTest (tOp (HO1.rInO T.c_Strikes (spOf K (φ_Strikes___contains__ T)) E0 true) (tC (.str "root up")) (tVar 1))) (tOr (tNot (tB (tFld K (tVar 0) "rooted"))) (tTest (tOp (rNeA K) (tVar 2) (tLst tNil)))))) (tDrop (tBM K "list" rAppend (tVar 2) (tCons (tVar 3) tNil))) tNext))))
    (tRet (tCallN 1 2 (spOf K (φ_path_of T)) (fun vs zs => vs ++ zs) E0 (tCons (tVar 2) tNil) (tCons (tFld K (tVar 0) "rooted") (tCons (tAndV (tFld K (tVar 0) "ended") (tOp (HO1.rInO T.c_Strikes (spOf K (φ_Strikes___contains__ T)) E0 true) (tC (.str "end bar")) (tVar 1))) tNil))))))
def t_place_of {K : PySem.W.Frag} {mg : Str → Option Value} (T : Txt K mg) (E : XK) : TS :=
    (tSeq (tIfS (tOr (tNot (tB (tCB (rIsiA K) (tCons (tVar 0) (tCons (tTup (tCons (tC (.ty "list")) (tCons (tC (.ty "tuple")) tNil))) tNil))))) (tNot (tB (tCB (rAll K) (tCons (tLc (iAny K (tVar 0)) (gName 1) tYes (tCall (spOf K (φ_is_name T)) [] E0 (tCons (tVar 1) tNil)) [1]) tNil))))) (tRet (tC .non)) tNext)
    (tRet (tCB (rTupA K) (tCons (tVar 0) tNil))))
def t_Walk___init__ {K : PySem.W.Frag} {mg : Str → Option Value} (T : Txt K mg) (E : XK) : TS :=
    (tSeq (sFld K (tVar 0) (tVar 1) "tree")
    (tSeq (sFld K (tVar 0) (tLst tNil) "sought")
    (tSeq (sFld K (tVar 0) tDNewT "outcomes")
    (tSeq (sFld K (tVar 0) (tC .non) "word")
    (sFld K (tVar 0) (tC (.int 0)) "done")))))
def t_Walk_goes {K : PySem.W.Frag} {mg : Str → Option Value} (T : Txt K mg) (n : Nat) (E : XK) : TS :=
    (tSeq (tPar 5 6 (tCons (tIf (tB (tFld K (tVar 1) "rooted")) (tTup tNil) (tVar 2)) (tCons (tMeth T.c_Path "steps" (spOf K (φ_Path_steps T)) [] E0 (tVar 1) tNil) tNil)))
    (tSeq (tFor (iEnum K (tCons (tVar 6) tNil)) (gTup K 2 (gCons (gName 7) (gCons (gName 8) gNil))) (tSeq (tAsg (tAndV (tVar 3) (tAndV (tNotV (tFld K (tVar 1) "ended")) (tOp (rEqA K) (tVar 7) (tOp rSubI (tCB (rLenA K) (tCons (tVar 6) tNil)) (tC (.int 1)))))) (gName 9))
    (tSeq (tAsg (tMeth T.c_Walk "stepped" (spOf K (φ_Walk_stepped T n)) [] E0 (tVar 0) (tCons (tVar 5) (tCons (tVar 8) (tCons (tVar 9) (tCons (tVar 4) tNil))))) (gName 5))
    (tIfS (tTest (tOp rIsN (tVar 5) (tC .non))) (tSeq (sFld K (tVar 0) (tVar 7) "done")
    (tRet (tC .non))) tNext))))
    (tSeq (tIfS (tAnd (tB (tFld K (tVar 1) "ended")) (tTest (tOp (rNeA K) (tMeth T.c_Tree "kind" (spOf K (φ_Tree_kind T)) [] E0 (tFld K (tVar 0) "tree") (tCons (tVar 5) tNil)) (tC (.str "folder"))))) (tSeq (tAsg (tTup (tCons (tC (.str "file")) (tCons (tCB (rLenA K) (tCons (tVar 6) tNil)) tNil))) (gTup K 2 (gCons (HP1.gFld K (tVar 0) "word") (gCons (HP1.gFld K (tVar 0) "done") gNil))))
    (tRet (tC .non))) tNext)
    (tRet (tVar 5)))))
def t_Walk_stepped {K : PySem.W.Frag} {mg : Str → Option Value} (T : Txt K mg) (n : Nat) (E : XK) : TS :=
    (tSeq (tIfS (tTest (tOp (rNeA K) (tMeth T.c_Tree "kind" (spOf K (φ_Tree_kind T)) [] E0 (tFld K (tVar 0) "tree") (tCons (tVar 1) tNil)) (tC (.str "folder")))) (tSeq (sFld K (tVar 0) (tC (.str "file")) "word")
    (tRet (tC .non))) tNext)
    (tSeq (tIfS (tTest (tOp (rInA K) (tVar 2) (tTup (tCons (tC (.str ".")) (tCons (tC (.str "..")) tNil))))) (tRet (tIf (tTest (tOp (rEqA K) (tVar 2) (tC (.str ".")))) (tVar 1) (tSl (L2.rSlA K) (tVar 1) tNoPart (tPart (tUn rNeg (tC (.int 1))))))) tNext)
    (tSeq (tAsg (tOp (L2.rCatA K) (tVar 1) (tTup (tCons (tVar 2) tNil))) (gName 5))
    (tSeq (tIfS (tTest (tOp (HP1.rInP K true) (tVar 5) (tFld K (tVar 0) "sought"))) (tDrop (tBM K "list" rAppend (tFld K (tVar 0) "sought") (tCons (tVar 5) tNil))) tNext)
    (tSeq (tAsg (tMeth T.c_Tree "kind" (spOf K (φ_Tree_kind T)) [] E0 (tFld K (tVar 0) "tree") (tCons (tVar 5) tNil)) (gName 6))
    (tSeq (tIfS (tTest (tOp rIsN (tVar 6) (tC .non))) (tSeq (sFld K (tVar 0) (tC (.str "lacking")) "word")
    (tRet (tC .non))) tNext)
    (tRet (tIf (tOr (tTest (tOp (rNeA K) (tVar 6) (tC (.str "link")))) (tB (tVar 3))) (tVar 5) (tMeth T.c_Walk "followed" (spOf K (φ_Walk_followed T n)) [] E0 (tVar 0) (tCons (tVar 5) (tCons (tVar 4) tNil)))))))))))
def t_Walk_followed {K : PySem.W.Frag} {mg : Str → Option Value} (T : Txt K mg) (n : Nat) (E : XK) : TS :=
    (tSeq (tIfS (tTest (tOp (HP1.rInP K false) (tVar 1) (tVar 2))) (tSeq (sFld K (tVar 0) (tC (.str "ring")) "word")
    (tRet (tC .non))) tNext)
    (tSeq (tIfS (tTest (tOp (HP1.rInQ K true) (tVar 1) (tFld K (tVar 0) "outcomes"))) (tSeq (tAsg (HP1.tMethN T.c_Walk "goes" 2 1 (spOf K (φ_Walk_goes T n)) (fun vs zs => vs ++ ([.bl false] ++ zs)) E0 (tVar 0) (tCons (tMeth T.c_Tree "target" (spOf K (φ_Tree_target T)) [] E0 (tFld K (tVar 0) "tree") (tCons (tVar 1) tNil)) (tCons (tSl (L2.rSlA K) (tVar 1) tNoPart (tPart (tUn rNeg (tC (.int 1))))) tNil)) (tCons (tTup (StX.tStar K (tVar 2) (tCons (tVar 1) tNil))) tNil)) (gName 3))
    (tAsg (tTup (tCons (tVar 3) (tCons (tFld K (tVar 0) "word") tNil))) (gSub (tFld K (tVar 0) "outcomes") (tVar 1) rSetD))) tNext)
    (tSeq (tAsg (tOp (HP1.rIxQ K) (tFld K (tVar 0) "outcomes") (tVar 1)) (gTup K 2 (gCons (gName 3) (gCons (HP1.gFld K (tVar 0) "word") gNil))))
    (tRet (tVar 3)))))
def t_Tree___init__ {K : PySem.W.Frag} {mg : Str → Option Value} (T : Txt K mg) (E : XK) : TS :=
    (sFld K (tVar 0) (HP1.tDispT [((tTup tNil), (tTup (tCons (tC (.str "folder")) (tCons (tC .non) tNil))))]) "held")
def t_Tree_kind {K : PySem.W.Frag} {mg : Str → Option Value} (T : Txt K mg) (E : XK) : TS :=
    (tRet (tOp (rIx K) (HP1.tGetQ K (tFld K (tVar 0) "held") (tCall (spOf K (φ_place_of T)) [] E0 (tCons (tVar 1) tNil)) (tTup (tCons (tC .non) (tCons (tC .non) tNil)))) (tC (.int 0))))
def t_Tree_target {K : PySem.W.Frag} {mg : Str → Option Value} (T : Txt K mg) (E : XK) : TS :=
    (tRet (tOp (rIx K) (HP1.tGetQ K (tFld K (tVar 0) "held") (tCall (spOf K (φ_place_of T)) [] E0 (tCons (tVar 1) tNil)) (tTup (tCons (tC .non) (tCons (tC .non) tNil)))) (tC (.int 1))))
def t_Tree_folder {K : PySem.W.Frag} {mg : Str → Option Value} (T : Txt K mg) (E : XK) : TS :=
    (tDrop (tMeth T.c_Tree "put" (spOf K (φ_Tree_put T)) [] E0 (tVar 0) (tCons (tCB (rTupA K) (tCons (tVar 1) tNil)) (tCons (tC (.str "folder")) (tCons (tC .non) tNil)))))
def t_Tree_file {K : PySem.W.Frag} {mg : Str → Option Value} (T : Txt K mg) (E : XK) : TS :=
    (tDrop (tMeth T.c_Tree "put" (spOf K (φ_Tree_put T)) [] E0 (tVar 0) (tCons (tCB (rTupA K) (tCons (tVar 1) tNil)) (tCons (tC (.str "file")) (tCons (tC .non) tNil)))))
def t_Tree_link {K : PySem.W.Frag} {mg : Str → Option Value} (T : Txt K mg) (E : XK) : TS :=
    (tDrop (tMeth T.c_Tree "put" (spOf K (φ_Tree_put T)) [] E0 (tVar 0) (tCons (tCB (rTupA K) (tCons (tVar 1) tNil)) (tCons (tC (.str "link")) (tCons (tVar 2) tNil)))))
def t_Tree_put {K : PySem.W.Frag} {mg : Str → Option Value} (T : Txt K mg) (E : XK) : TS :=
    (tSeq (tIfS (tTest (tOp (rEqA K) (tVar 1) (tTup tNil))) tNever tNext)
    (tSeq (tDrop (tMeth T.c_Tree "check_free" (spOf K (φ_Tree_check_free T)) [] E0 (tVar 0) (tCons (tVar 1) tNil)))
    (tAsg (tTup (tCons (tVar 2) (tCons (tVar 3) tNil))) (gSub (tFld K (tVar 0) "held") (tVar 1) rSetD))))
def t_Tree_check_free {K : PySem.W.Frag} {mg : Str → Option Value} (T : Txt K mg) (E : XK) : TS :=
    (tSeq (tIfS (tTest (tOp (rNeA K) (tMeth T.c_Tree "kind" (spOf K (φ_Tree_kind T)) [] E0 (tVar 0) (tCons (tSl (L2.rSlA K) (tVar 1) tNoPart (tPart (tUn rNeg (tC (.int 1))))) tNil)) (tC (.str "folder")))) tNever tNext)
    (tIfS (tTest (tOp (HP1.rInQ K false) (tVar 1) (tFld K (tVar 0) "held"))) tNever tNext))
def t_Tree_walked {K : PySem.W.Frag} {mg : Str → Option Value} (T : Txt K mg) (E : XK) : TS :=
    (tSeq (tAsg (tCB (rTupA K) (tCons (tVar 2) tNil)) (gName 4))
    (tSeq (tIfS (tTest (tOp (rNeA K) (tMeth T.c_Tree "kind" (spOf K (φ_Tree_kind T)) [] E0 (tVar 0) (tCons (tVar 4) tNil)) (tC (.str "folder")))) tNever tNext)
    (tSeq (tAsg (tMake T.c_Walk (spOf K (φ_Walk___init__ T)) [] E0 (tCons (tVar 0) tNil)) (gName 5))
    (tRet (tTup (tCons (HP1.tMethN T.c_Walk "goes" 2 1 (spOf K (φ_Walk_goes T 14)) (fun vs zs => vs ++ (zs ++ [.ref T.x1_Walk_goes])) E0 (tVar 5) (tCons (tVar 1) (tCons (tVar 4) tNil)) (tCons (tVar 3) tNil)) (tCons (tVar 5) tNil)))))))
def t_Tree_lead {K : PySem.W.Frag} {mg : Str → Option Value} (T : Txt K mg) (E : XK) : TS :=
    (tRet (tOp (rIx K) (tMeth T.c_Tree "walked" (spOf K (φ_Tree_walked T)) [] E0 (tVar 0) (tCons (tVar 1) (tCons (tVar 2) (tCons (tVar 3) tNil)))) (tC (.int 0))))
def t__law_p_written {K : PySem.W.Frag} {mg : Str → Option Value} (T : Txt K mg) (E : XK) : TS :=
    (tSeq (tAsg (tCall (spOf K (φ__law_draw T)) [] E0 (tCons (tVar 0) (tCons (tOp (rAddA K) (tVar 2) (tC (.int 1))) tNil))) (gName 3))
    (tSeq (tAsg (tLc (iRng1 (tCons (tVar 3) tNil)) (gName 5) tYes (tCall (spOf K (φ__law_pick T)) [] E0 (tCons (tVar 0) (tCons (tOp (rAddA K) (tOp rMulA (tVar 1) (tC (.int 2))) (tLst (tCons (tC (.str ".")) (tCons (tC (.str "..")) (tCons (tC (.str "..")) tNil))))) tNil))) [5]) (gName 4))
    (tSeq (tAsg (tLc (iRng1 (tCons (tOp (rAddA K) (tVar 3) (tC (.int 1))) tNil)) (gName 5) tYes (tOp rMulA (tC (.str "/")) (tCall (spOf K (φ__law_pick T)) [] E0 (tCons (tVar 0) (tCons (tLst (tCons (tC (.int 1)) (tCons (tC (.int 1)) (tCons (tC (.int 1)) (tCons (tC (.int 2)) (tCons (tC (.int 3)) tNil)))))) tNil)))) [5]) (gName 6))
    (tSeq (tAsg (tIf (tOr (tTest (tOp (rEqA K) (tVar 3) (tC (.int 0)))) (tTest (tOp (rEqA K) (tCall (spOf K (φ__law_draw T)) [] E0 (tCons (tVar 0) (tCons (tC (.int 3)) tNil))) (tC (.int 0))))) (tOp (rIx K) (tVar 6) (tC (.int 0))) (tC (.str ""))) (gName 7))
    (tSeq (tFor (iEnum K (tCons (tVar 4) tNil)) (gTup K 2 (gCons (gName 5) (gCons (gName 8) gNil))) (tAsg (tOp (rAddA K) (tOp (rAddA K) (tVar 7) (tIf (tTest (tOp rGtI (tVar 5) (tC (.int 0)))) (tOp (rIx K) (tVar 6) (tVar 5)) (tC (.str "")))) (tVar 8)) (gName 7)))
    (tRet (tOp (rAddA K) (tVar 7) (tIf (tAnd (tTest (tOp rGtI (tVar 3) (tC (.int 0)))) (tTest (tOp (rEqA K) (tCall (spOf K (φ__law_draw T)) [] E0 (tCons (tVar 0) (tCons (tC (.int 4)) tNil))) (tC (.int 0))))) (tOp (rIx K) (tVar 6) (tUn rNeg (tC (.int 1)))) (tC (.str ""))))))))))
def t__law_t_drawn {K : PySem.W.Frag} {mg : Str → Option Value} (T : Txt K mg) (E : XK) : TS :=
    (tSeq (tAsg (HP1.tDispT [((tTup tNil), (tTup (tCons (tC (.str "folder")) (tCons (tC .non) tNil))))]) (gName 3))
    (tSeq (tFor (iRng1 (tCons (tCall (spOf K (φ__law_draw T)) [] E0 (tCons (tVar 0) (tCons (tOp (rAddA K) (tVar 2) (tC (.int 1))) tNil))) tNil)) (gName 4) (tSeq (tAsg (tLc (iAny K (tCB HP1.rSortedT (tCons (tVar 3) tNil))) (gName 6) (tAnd (tTest (tOp (rEqA K) (tOp (rIx K) (tOp (HP1.rIxQ K) (tVar 3) (tVar 6)) (tC (.int 0))) (tC (.str "folder")))) (tTest (tOp rLtI (tCB (rLenA K) (tCons (tVar 6) tNil)) (tC (.int 4))))) (tVar 6) [6]) (gName 5))
    (tSeq (tAsg (tOp (L2.rCatA K) (tCall (spOf K (φ__law_pick T)) [] E0 (tCons (tVar 0) (tCons (tVar 5) tNil))) (tTup (tCons (tCall (spOf K (φ__law_pick T)) [] E0 (tCons (tVar 0) (tCons (tVar 1) tNil))) tNil))) (gName 6))
    (tSeq (tAsg (tCall (spOf K (φ__law_pick T)) [] E0 (tCons (tVar 0) (tCons (tLst (tCons (tC (.str "folder")) (tCons (tC (.str "folder")) (tCons (tC (.str "folder")) (tCons (tC (.str "file")) (tCons (tC (.str "link")) (tCons (tC (.str "link")) tNil))))))) tNil))) (gName 7))
    (tIfS (tTest (tOp (HP1.rInQ K true) (tVar 6) (tVar 3))) (tAsg (tTup (tCons (tVar 7) (tCons (tIf (tTest (tOp (rEqA K) (tVar 7) (tC (.str "link")))) (tCall (spOf K (φ__law_p_written T)) [] E0 (tCons (tVar 0) (tCons (tVar 1) (tCons (tC (.int 3)) tNil)))) (tC .non)) tNil))) (gSub (tVar 3) (tVar 6) rSetD)) tNext)))))
    (tRet (tVar 3))))
def t__law_t_up {K : PySem.W.Frag} {mg : Str → Option Value} (T : Txt K mg) (E : XK) : TS :=
    (tRet (tLc (iAny K (tCB HP1.rSortedT (tCons (tVar 0) tNil))) (gName 1) (tTest (tOp (rNeA K) (tVar 1) (tTup tNil))) (tVar 1) [1]))
def t__law_t_built {K : PySem.W.Frag} {mg : Str → Option Value} (T : Txt K mg) (E : XK) : TS :=
    (tSeq (tAsg (tMake T.c_Tree (spOf K (φ_Tree___init__ T)) [] E0 tNil) (gName 1))
    (tSeq (tFor (iAny K (tCall (spOf K (φ__law_t_up T)) [] E0 (tCons (tVar 0) tNil))) (gName 2) (tSeq (tAsg (tOp (HP1.rIxQ K) (tVar 0) (tVar 2)) (gTup K 2 (gCons (gName 3) (gCons (gName 4) gNil))))
    (tIfS (tTest (tOp (rEqA K) (tVar 3) (tC (.str "folder")))) (tDrop (tMeth T.c_Tree "folder" (spOf K (φ_Tree_folder T)) [] E0 (tVar 1) (tCons (tVar 2) tNil))) (tIfS (tTest (tOp (rEqA K) (tVar 3) (tC (.str "file")))) (tDrop (tMeth T.c_Tree "file" (spOf K (φ_Tree_file T)) [] E0 (tVar 1) (tCons (tVar 2) tNil))) (tDrop (tMeth T.c_Tree "link" (spOf K (φ_Tree_link T)) [] E0 (tVar 1) (tCons (tVar 2) (tCons (tMake T.c_Path (spOf K (φ_Path___init__ T)) [] E0 (tCons (tVar 4) tNil)) tNil))))))))
    (tRet (tVar 1))))
def t__law_t_folders {K : PySem.W.Frag} {mg : Str → Option Value} (T : Txt K mg) (E : XK) : TS :=
    (tRet (tLc (iAny K (tCB HP1.rSortedT (tCons (tVar 0) tNil))) (gName 1) (tTest (tOp (rEqA K) (tOp (rIx K) (tOp (HP1.rIxQ K) (tVar 0) (tVar 1)) (tC (.int 0))) (tC (.str "folder")))) (tVar 1) [1]))
def t__law_start {K : PySem.W.Frag} {mg : Str → Option Value} (T : Txt K mg) (E : XK) : TS :=
    (tRet (tLst (tCons (tCB (rListA K) (tCons (tVar 0) tNil)) (tCons (tC (.int 0)) (tCons (tC (.int 0)) (tCons (tC (.int 11)) tNil))))))
def t__law_draw {K : PySem.W.Frag} {mg : Str → Option Value} (T : Txt K mg) (E : XK) : TS :=
    (tSeq (tAsg (tOp (rAddA K) (tOp (rIx K) (tVar 0) (tC (.int 2))) (tC (.int 1))) (gSub (tVar 0) (tC (.int 2)) rSetL))
    (tSeq (tIfS (tAnd (tTest (tOp (rEqA K) (tOp (rIx K) (tVar 0) (tC (.int 1))) (tC (.int 0)))) (tTest (tOp (rNeA K) (tOp (rIx K) (tVar 0) (tC (.int 0))) (tLst tNil)))) (tSeq (tAsg (tBM K "list" rPopAt (tOp (rIx K) (tVar 0) (tC (.int 0))) (tCons (tC (.int 0)) tNil)) (gName 2))
    (tSeq (tAsg (tOp rModI (tCB rInt1 (tCons (tOp (rAddA K) (tOp (rAddA K) (tOp rMulA (tOp (rIx K) (tVar 0) (tC (.int 3))) (tC (.int 8191))) (tVar 2)) (tC (.int 3))) tNil)) (tC (.int 2147483647))) (gSub (tVar 0) (tC (.int 3)) rSetL))
    (tAsg (tIf (tTest (tOp rGeI (tVar 2) (tOp rPowI (tC (.int 10)) (tC (.int 18))))) (tVar 2) (tC (.int 0))) (gSub (tVar 0) (tC (.int 1)) rSetL)))) tNext)
    (tSeq (tIfS (tTest (tOp rGtI (tOp (rIx K) (tVar 0) (tC (.int 1))) (tC (.int 0)))) (tSeq (tAsg (tOp rModI (tCB rInt1 (tCons (tOp (rIx K) (tVar 0) (tC (.int 1))) tNil)) (tVar 1)) (gName 3))
    (tSeq (tAsg (tOp rDivI (tOp (rIx K) (tVar 0) (tC (.int 1))) (tVar 1)) (gSub (tVar 0) (tC (.int 1)) rSetL))
    (tRet (tVar 3)))) tNext)
    (tSeq (tAsg (tOp rModI (tCB rInt1 (tCons (tOp rPowI (tOp (rAddA K) (tOp (rAddA K) (tOp (rIx K) (tVar 0) (tC (.int 3))) (tOp rMulA (tC (.int 7919)) (tOp (rIx K) (tVar 0) (tC (.int 2))))) (tC (.int 104729))) (tC (.int 5))) tNil)) (tC (.int 2147483629))) (gName 4))
    (tRet (tOp rModI (tOp rModI (tCB rInt1 (tCons (tOp rPowI (tOp (rAddA K) (tOp (rAddA K) (tOp rMulA (tVar 4) (tC (.int 48271))) (tOp rMulA (tC (.int 30011)) (tOp (rIx K) (tVar 0) (tC (.int 2))))) (tC (.int 29))) (tC (.int 3))) tNil)) (tC (.int 1000000007))) (tVar 1)))))))
def t__law_pick {K : PySem.W.Frag} {mg : Str → Option Value} (T : Txt K mg) (E : XK) : TS :=
    (tRet (tOp (rIx K) (tVar 1) (tCall (spOf K (φ__law_draw T)) [] E0 (tCons (tVar 0) (tCons (tCB (rLenA K) (tCons (tVar 1) tNil)) tNil)))))
def t__law_name {K : PySem.W.Frag} {mg : Str → Option Value} (T : Txt K mg) (E : XK) : TS :=
    (tSeq (tAsg (tOp (rIx K) (tLst (tCons (tC (.int 1)) (tCons (tC (.int 1)) (tCons (tC (.int 2)) (tCons (tC (.int 3)) (tCons (tC (.int 5)) (tCons (tC (.int 8)) tNil))))))) (tCall (spOf K (φ__law_draw T)) [] E0 (tCons (tVar 0) (tCons (tC (.int 6)) tNil)))) (gName 1))
    (tRet (tM1 (rJoin K) (tC (.str "")) (tLc (iRng1 (tCons (tVar 1) tNil)) (gName 2) tYes (tCall (spOf K (φ__law_pick T)) [] E0 (tCons (tVar 0) (tCons (tC (.str "abcdefghijklmnopqrstuvwxyz")) tNil))) [2]))))
def t__law_names {K : PySem.W.Frag} {mg : Str → Option Value} (T : Txt K mg) (E : XK) : TS :=
    (tSeq (tAsg (tLst tNil) (gName 2))
    (tSeq (tFor (iRng1 (tCons (tVar 1) tNil)) (gName 3) (tSeq (tAsg (tOp (rAddA K) (tLst (tCons (tCall (spOf K (φ__law_name T)) [] E0 (tCons (tVar 0) tNil)) tNil)) (tLc (iAny K (tC (.str "abcdefghijklmnop"))) (gName 5) tYes (tOp (rAddA K) (tVar 5) (tC (.str "jq"))) [5])) (gName 4))
    (tDrop (tBM K "list" rAppend (tVar 2) (tCons (tOp (rIx K) (tLc (iAny K (tVar 4)) (gName 6) (tTest (tOp (rNInA K) (tVar 6) (tVar 2))) (tVar 6) [6]) (tC (.int 0))) tNil)))))
    (tRet (tVar 2))))
def t_law {K : PySem.W.Frag} {mg : Str → Option Value} (T : Txt K mg) (E : XK) : TS :=
    (tSeq (tAsg (tCall (spStart K) [] E0 (tCons (tVar 0) tNil)) (gName 1))
    (tSeq (tFor (iRng1 (tCons (tC (.int 4)) tNil)) (gName 2) (tSeq (tAsg (tCall (spOf K (φ__law_names T)) [] E0 (tCons (tVar 1) (tCons (tC (.int 3)) tNil))) (gName 3))
    (tSeq (tAsg (tCall (spOf K (φ__law_t_drawn T)) [] E0 (tCons (tVar 1) (tCons (tVar 3) (tCons (tC (.int 12)) tNil)))) (gName 4))
    (tSeq (tAsg (tCB (HD1.rDictPT K) (tCons (tLockE (tLc (iKeys (tVar 4)) (gName 6) tYes (tTup (tCons (tVar 6) (tCons (tIf (tTest (tOp (rEqA K) (tOp (rIx K) (tOp (HP1.rIxQ K) (tVar 4) (tVar 6)) (tC (.int 0))) (tC (.str "link")))) (tTup (tCons (tC (.str "folder")) (tCons (tC .non) tNil))) (tOp (HP1.rIxQ K) (tVar 4) (tVar 6))) tNil))) [6])) tNil)) (gName 5))
    (tSeq (tPar 7 8 (tCons (tCall (spOf K (φ__law_t_built T)) [] E0 (tCons (tVar 4) tNil)) (tCons (tCall (spOf K (φ__law_t_built T)) [] E0 (tCons (tVar 5) tNil)) tNil)))
    (tFor (iAny K (tCall (spOf K (φ__law_t_folders T)) [] E0 (tCons (tVar 4) tNil))) (gName 9) (tSeq (tAsg (tMake T.c_Path (spOf K (φ_Path___init__ T)) [] E0 (tCons (tCall (spOf K (φ__law_p_written T)) [] E0 (tCons (tVar 1) (tCons (tVar 3) (tCons (tC (.int 8)) tNil)))) tNil)) (gName 10))
    (tSeq (tAsg (tSl (DD.rSlA K) (tSl (DD.rSlA K) (tLst (tCons (tC (.str "dot")) (tCons (tC (.str "root up")) tNil))) (tPart (tCall (spOf K (φ__law_draw T)) [] E0 (tCons (tVar 1) (tCons (tC (.int 2)) tNil)))) tNoPart) tNoPart (tPart (tOp (rAddA K) (tC (.int 1)) (tCall (spOf K (φ__law_draw T)) [] E0 (tCons (tVar 1) (tCons (tC (.int 2)) tNil)))))) (gName 11))
    (tSeq (tAsg (HP1.tMethN T.c_Tree "lead" 1 1 (spOf K (φ_Tree_lead T)) (fun vs zs => vs ++ (zs ++ [.bl false])) E0 (tVar 7) (tCons (tVar 10) tNil) (tCons (tVar 9) tNil)) (gName 12))
    (tSeq (tIfS (tTest (tOp (rNeA K) (HP1.tMethN T.c_Tree "lead" 1 1 (spOf K (φ_Tree_lead T)) (fun vs zs => vs ++ (zs ++ [.bl false])) E0 (tVar 7) (tCons (tCall (spOf K (φ_tidied T)) [] E0 (tCons (tVar 10) (tCons (tMake T.c_Strikes (spOf K (φ_Strikes___init__ T)) [] E0 (tCons (tVar 11) tNil)) tNil))) tNil) (tCons (tVar 9) tNil)) (tVar 12))) (tRet (tC (.bl false))) tNext)
    (tSeq (tAsg (tCall (spOf K (φ_tidied T)) [] E0 (tCons (tVar 10) (tCons (tMake T.c_Strikes (spOf K (φ_Strikes___init__ T)) [] E0 (tCons (tOp (rAddA K) (tVar 11) (tLst (tCons (tC (.str "end bar")) tNil))) tNil)) tNil))) (gName 13))
    (tSeq (tIfS (tAnd (tTest (tOp rNotN (tVar 12) (tC .non))) (tTest (tOp (rNeA K) (HP1.tMethN T.c_Tree "lead" 1 1 (spOf K (φ_Tree_lead T)) (fun vs zs => vs ++ (zs ++ [.bl false])) E0 (tVar 7) (tCons (tVar 13) tNil) (tCons (tVar 9) tNil)) (tVar 12)))) (tRet (tC (.bl false))) tNext)
    (tSeq (tAsg (HP1.tMethN T.c_Tree "lead" 1 1 (spOf K (φ_Tree_lead T)) (fun vs zs => vs ++ (zs ++ [.bl false])) E0 (tVar 8) (tCons (tVar 10) tNil) (tCons (tVar 9) tNil)) (gName 12))
    (tSeq (tAsg (tOp (rAddA K) (tOp (rAddA K) (tVar 11) (tLst (tCons (tC (.str "up")) tNil))) (tSl (DD.rSlA K) (tLst (tCons (tC (.str "end bar")) tNil)) tNoPart (tPart (tCall (spOf K (φ__law_draw T)) [] E0 (tCons (tVar 1) (tCons (tC (.int 2)) tNil)))))) (gName 11))
    (tIfS (tAnd (tTest (tOp rNotN (tVar 12) (tC .non))) (tTest (tOp (rNeA K) (HP1.tMethN T.c_Tree "lead" 1 1 (spOf K (φ_Tree_lead T)) (fun vs zs => vs ++ (zs ++ [.bl false])) E0 (tVar 8) (tCons (tCall (spOf K (φ_tidied T)) [] E0 (tCons (tVar 10) (tCons (tMake T.c_Strikes (spOf K (φ_Strikes___init__ T)) [] E0 (tCons (tVar 11) tNil)) tNil))) tNil) (tCons (tVar 9) tNil)) (tVar 12)))) (tRet (tC (.bl false))) tNext)))))))))))))))
    (tRet (tC (.bl true)))))
end My

namespace My
open PySem L2 DD HP1
open PySem.Spec PyProof.Rows
theorem pcs_len : ∀ l : List Nat, (DT.pcs l).length ≤ l.length + 1
  | [] => by simp [DT.pcs]
  | c :: r => by
    have ih := pcs_len r
    have hne := DT.pcs_ne r
    by_cases hc : c = 47
    · subst hc
      rw [DT.pcs_bar]
      simp only [List.length_cons]
      omega
    · rw [DT.pcs_cons _ hc]
      simp only [List.length_cons, List.length_tail]
      omega
theorem pcs_each : ∀ {l p : List Nat}, p ∈ DT.pcs l → p.length ≤ l.length
  | [], p, h => by
    have e : p = [] := by simpa [DT.pcs] using h
    subst e
    exact Nat.le_refl _
  | c :: r, p, h => by
    by_cases hc : c = 47
    · subst hc
      rw [DT.pcs_bar] at h
      rcases List.mem_cons.mp h with z | z
      · subst z
        exact Nat.zero_le _
      · have := pcs_each z
        simp only [List.length_cons]
        omega
    · rw [DT.pcs_cons _ hc] at h
      have e := DT.pcs_head r
      rcases List.mem_cons.mp h with z | z
      · have := pcs_each (l := r) (p := (DT.pcs r).headD []) (by rw [← e]; exact List.mem_cons_self)
        subst z
        simp only [List.length_cons]
        omega
      · have := pcs_each (l := r) (p := p) (by rw [← e]; exact List.mem_cons_of_mem _ z)
        simp only [List.length_cons]
        omega
theorem pieces_len (z : Str) : (DT.pieces z).length ≤ z.length + 1 := by
  unfold DT.pieces
  rw [List.length_map, TL.len_tl]
  exact pcs_len _
theorem pieces_each {z p : Str} (h : p ∈ DT.pieces z) : p.length ≤ z.length := by
  unfold DT.pieces at h
  obtain ⟨q, hq, rfl⟩ := List.mem_map.mp h
  rw [TL.len_tl z]
  exact pcs_each hq
theorem pieces_line {z : Str} (h : z.length ≤ sz) : (DT.pieces z).length ≤ sizeLine := by
  have h1 := pieces_len z
  have h2 : z.length ≤ 1000000 := h
  rw [sizeLine_eq]
  omega
theorem split_line {z : Str} (h : z.length ≤ sz) : z.length + 2 ≤ sizeLine := by
  have h2 : z.length ≤ 1000000 := h
  rw [sizeLine_eq]
  omega
theorem bar1 : (("/" : Str).length == 0) = false := by decide +kernel
theorem inDots (p : Str) : inV (.str p) [.str "", .str ".", .str ".."] = DT.dotty p := rfl
theorem path_ne {z : Str} (h : DT.isPath z = true) : TL.tl z ≠ [] := fun e => (DT.isPath_iff.mp h).1 (DT.tl_ext (l := []) e |>.trans DT.mk_nil)
theorem first_of {z : Str} (h : TL.tl z ≠ []) : ∃ c, atI z.cps.toList 0 = some c ∧ (TL.tl z).head? = some c := by
  cases e : TL.tl z with
  | nil => exact absurd e h
  | cons c r => exact ⟨c, atI_zero (by rw [show z.cps.toList = c :: r from e]; rfl), rfl⟩
theorem last_of {z : Str} (h : TL.tl z ≠ []) : ∃ c, atI z.cps.toList (-1) = some c ∧ (TL.tl z).getLast? = some c := by
  cases e : (TL.tl z).getLast? with
  | none => exact absurd (List.getLast?_eq_none_iff.mp e) h
  | some c => exact ⟨c, atI_last e, rfl⟩
theorem one_eq (c d : Nat) : decide ((V.str ⟨#[c]⟩) = V.str ⟨#[d]⟩) = decide (c = d) := by
  rw [Bool.eq_iff_iff]
  simp
theorem bar_eq (c : Nat) : decide ((V.str ⟨#[c]⟩) = V.str ("/" : Str)) = decide (c = 47) := by
  rw [show ("/" : Str) = ⟨#[47]⟩ by decide +kernel]
  exact one_eq c 47
theorem bar_is : ("/" : Str) = ⟨#[47]⟩ := by decide +kernel
theorem pieces_last (z : Str) : (DT.pieces z).getLast? = some (DT.lastP z) := by
  unfold DT.pieces DT.lastP
  rw [List.getLast?_map]
  cases e : (DT.pcs (TL.tl z)).getLast? with
  | none => exact absurd (List.getLast?_eq_none_iff.mp e) (DT.pcs_ne _)
  | some p =>
    rw [List.getLastD_eq_getLast?, e]
    rfl
theorem steps_ok' {z : Str} (h : DT.isPath z = true) : ∀ p ∈ DT.steps z, PyData.strOk p = true := DT.steps_ok h
theorem join_path {a b : Str} (ha : DT.isPath a = true) (hb : DT.isPath b = true) : DT.isPath (joinP a b) = true := by
  unfold joinP
  by_cases h : DT.rooted b = true
  · rw [if_pos h]
    exact hb
  · rw [if_neg h]
    obtain ⟨a1, a2⟩ := DT.isPath_iff.mp ha
    obtain ⟨b1, b2⟩ := DT.isPath_iff.mp hb
    have hbn := path_ne hb
    have e1 : TL.tl ("/" : Str) = [47] := by decide +kernel
    have e0 : TL.tl ("" : Str) = [] := by decide +kernel
    refine DT.isPath_iff.mpr ⟨fun z => ?_, ?_⟩
    · have z2 := congrArg TL.tl z
      rw [TL.tl_append, e0] at z2
      exact hbn (List.append_eq_nil_iff.mp z2).2
    · rw [TL.tl_append, TL.tl_append]
      unfold sepOf
      by_cases hl : DT.tlLast a = some 47
      · rw [if_pos hl, e0, List.append_nil]
        unfold DT.tlLast at hl
        obtain ⟨a', ha'⟩ : ∃ a', TL.tl a = a' ++ [47] := by
          have := List.getLast?_eq_some_iff.mp hl
          exact this
        rw [ha'] at a2 ⊢
        rw [List.append_assoc]
        exact DT.good_cat (DT.good_cut (b := []) a2).1 b2
      · rw [if_neg hl, e1, List.append_assoc]
        exact DT.good_cat a2 b2
theorem len2 (x y : D) : [x, y].length ≤ sizeLine := le_line (by show 2 ≤ 1000000; decide)
theorem eq_emp (z : Str) : decide (V.str z = V.str ("" : Str)) = decide (z = "") := by
  rw [Bool.eq_iff_iff]
  simp
theorem fst_bar {z : Str} (h : TL.tl z ≠ []) : ∃ c, atI z.cps.toList 0 = some c ∧ DT.rooted z = decide (c = 47) := by
  obtain ⟨c, h1, h2⟩ := first_of h
  refine ⟨c, h1, ?_⟩
  unfold DT.rooted
  rw [h2, Bool.eq_iff_iff]
  simp
theorem strs_of (qs : List (List Nat)) : (qs.map DT.mk).map (fun y => D.s (.str y)) = qs.map fun q => strD (DT.mk q) := by
  rw [List.map_map]
  rfl
theorem strs_scal (zs : List Str) : zs.map strD = (zs.map V.str).map D.s := by
  rw [List.map_map]
  rfl
theorem inV_strs (x : Str) (zs : List Str) : inV (.str x) (zs.map V.str) = decide (x ∈ zs) := by
  unfold inV
  rw [List.any_map, Bool.eq_iff_iff, List.any_eq_true]
  constructor
  · rintro ⟨y, hy, e⟩
    have e2 : (y == x) = true := e
    have e3 : y = x := by simpa using e2
    subst e3
    exact decide_eq_true hy
  · intro h
    refine ⟨x, of_decide_eq_true h, ?_⟩
    show (x == x) = true
    simp
theorem flat_strs (zs : List Str) : (zs.map V.str).all flatV = true := by
  rw [List.all_map, List.all_eq_true]
  intro _ _
  rfl
theorem make_path {K : PySem.W.Frag} {mg : Str → Option Value} (T : Txt K mg) {F B : Hp} {ρ : DD.Env} {m : Mem} {te : TE} {Q : QD} (h : WE K F B te ρ m fun d m1 => ∃ z, d = strD z ∧ DT.isPath z = true ∧ z.length ≤ sz ∧ Q (pathD T.c_Path z) m1) :
    WE K F B (tMake T.c_Path (spOf K (φ_Path___init__ T)) [] E0 (tCons te tNil)) ρ m Q :=
  we_make (dds := []) okx0 RpL.nil (wa_cons (we_imp h fun d m1 ⟨z, e, hp, hz, q⟩ => by
    subst e
    refine wa_nil fun x hx => ?_
    first
      | (refine ⟨x, z, rfl, hp, hz, putM_same, rfl, pN, _, putM_same, ?_⟩; rw [putM_put, dropM_put hx]; exact q)
      | (refine Or.inl ⟨x, z, rfl, hp, hz, putM_same, rfl, pN, _, putM_same, ?_⟩; rw [putM_put, dropM_put hx]; exact q)))
theorem more_more (m : Mem) (a b : Nat) : more (more m a) b = more m (a + b) := by
  unfold more
  rw [Nat.add_assoc]
theorem len_twice {α : Type} (xs : List α) : (List.replicate (2 : Int).toNat xs).flatten.length = 2 * xs.length := by
  show (xs ++ (xs ++ [])).length = _
  rw [List.append_nil, List.length_append]
  omega
theorem lc_draws {K : PySem.W.Frag} {F B : Hp} {ρ : DD.Env} {m : Mem} {wi : TI} {te : TE} {i N : Nat} {Q : QD} (P : Str → Prop) (hN : N ≤ 1000000) (hw : ∀ Q', Q' (rngD 0 N) m → WI K F B wi ρ m Q')
    (ht : ∀ F' k d, k < N → WE K F' B te ((wipeD ρ [i]).set i (some d)) (more m k) fun y m' => ∃ z, y = strD z ∧ P z ∧ m' = more m (k + 1))
    (q : ∀ zs : List Str, zs.length = N → (∀ z ∈ zs, P z) → Q (strsD zs) (more m N)) : WE K F B (tLc wi (gName i) tYes te [i]) ρ m Q := by
  refine we_lc (hw _ ⟨fun k acc m' => ∃ zs : List Str, acc = zs.map strD ∧ zs.length = k ∧ (∀ z ∈ zs, P z) ∧ m' = more m k, ⟨[], rfl, rfl, (fun _ z => nomatch z), rfl⟩, fun F' k d acc m' hd ⟨zs, e1, e2, e3, e4⟩ => ?_, fun acc m' ⟨zs, e1, e2, e3, e4⟩ => ?_⟩)
  · subst e1 e4
    have hk := (rngD_get hd).1
    refine wgw_name List.mem_cons_self (wt_yes ⟨fun _ => we_imp (ht F' k d hk) fun y m4 ⟨z, ey, hz, em⟩ => ?_, fun z => nomatch z⟩)
    subst ey em
    refine ⟨by rw [List.length_map]; exact Nat.lt_of_lt_of_le (by omega) (le_line hN), zs ++ [z], by simp, by simp [e2], fun x hx => ?_, rfl⟩
    rcases List.mem_append.mp hx with w | w
    · exact e3 x w
    · have e : x = z := by simpa using w
      subst e
      exact hz
  · subst e1 e4
    rw [rngD_length] at e2 ⊢
    exact q zs e2 e3
theorem sum_le {b : Nat} : ∀ {zs : List Str}, (∀ z ∈ zs, z.length ≤ b) → (zs.map (·.length)).sum ≤ zs.length * b
  | [], _ => Nat.zero_le _
  | z :: zs, h => by
    have ih := sum_le (zs := zs) fun y hy => h y (List.mem_cons_of_mem _ hy)
    have h1 := h z List.mem_cons_self
    rw [List.map_cons, List.sum_cons, List.length_cons, Nat.succ_mul]
    omega
theorem name_of : ∀ {zs : List Str}, (∀ z ∈ zs, ∃ c, c ∈ DT.letters ∧ z = ⟨#[c]⟩) → (TL.tl (Txt.join "" zs)).length = zs.length ∧ ∀ c ∈ TL.tl (Txt.join "" zs), c ∈ DT.letters := fun {zs} h => by
  rw [DT.tl_join0]
  induction zs with
  | nil => exact ⟨rfl, fun c hc => by cases hc⟩
  | cons z zs ih =>
    obtain ⟨i1, i2⟩ := ih fun y hy => h y (List.mem_cons_of_mem _ hy)
    obtain ⟨c, hc, rfl⟩ := h z List.mem_cons_self
    rw [List.map_cons, List.flatten_cons]
    refine ⟨?_, fun d hd => ?_⟩
    · rw [List.length_append, i1]
      show 1 + zs.length = zs.length + 1
      omega
    · rcases List.mem_append.mp hd with w | w
      · have e : d = c := by simpa [TL.tl] using w
        subst e
        exact hc
      · exact i2 d w
theorem chr_of {z : Str} {d : D} (h : d ∈ chrs z) : ∃ c, c ∈ TL.tl z ∧ d = strD ⟨#[c]⟩ := by
  unfold chrs at h
  obtain ⟨c, hc, rfl⟩ := List.mem_map.mp h
  exact ⟨c, hc, rfl⟩
theorem steps_count {z : Str} {n : Nat} (h : z.length ≤ n) : (DT.steps z).length ≤ n + 1 := by
  unfold DT.steps
  have h1 := List.length_filter_le (fun p : Str => !decide (p = "")) (DT.pieces z)
  have h2 := pieces_len z
  omega
theorem join_ok {st : List Str} (h : ∀ s ∈ st, DT.isStep s) (hl : st.length ≤ 10000) : (st.map (·.length)).sum + st.length * ("/" : Str).length ≤ 16777216 := by
  have h1 := sum_le (b := 8) (zs := st) fun s hs => DT.isStep_len (h s hs)
  have hb : ("/" : Str).length = 1 := by decide +kernel
  rw [hb]
  omega
theorem join_mk (st : List Str) : Txt.join "/" st = DT.mk (DT.jn (st.map TL.tl)) := by
  apply TL.ext_tl
  have := DT.tl_joinB (st.map TL.tl)
  rw [DT.map_mk_tl] at this
  rw [this]
  rfl
theorem jn_len9 {st : List Str} (h : ∀ s ∈ st, DT.isStep s) (hl : st.length ≤ 10000) : (DT.mk (DT.jn (st.map TL.tl))).length ≤ 90000 := by
  have h1 := DT.jn_le (b := 8) (st := st) fun s hs => DT.isStep_len (h s hs)
  rw [TL.len_tl]
  show (DT.jn (st.map TL.tl)).length ≤ _
  omega
theorem mk_app (a b : List Nat) : DT.mk a ++ DT.mk b = DT.mk (a ++ b) := by
  apply TL.ext_tl
  rw [TL.tl_append]
  rfl
theorem bar_mk : ("/" : Str) = DT.mk [47] := by decide +kernel
theorem dot_mk : ("." : Str) = DT.mk [46] := by decide +kernel
theorem lastN_get {st : List Str} {x : Str} (h : st.getLast? = some x) : DT.lastN st = DT.isName x := by
  unfold DT.lastN
  rw [h]
theorem last_strs {st : List Str} {x : Str} (h : st.getLast? = some x) : (st.map strD).getLast? = some (strD x) := by
  rw [List.getLast?_map, h]
  rfl
theorem st_last {st : List Str} (h : st ≠ []) : ∃ x, st.getLast? = some x ∧ x ∈ st := ⟨_, List.getLast?_eq_some_getLast h, List.getLast_mem h⟩
theorem stepsOk {st : List Str} (h : ∀ s ∈ st, DT.isStep s) : ∀ z ∈ st, PyData.strOk z = true := fun z hz => DT.isStep_ok (h z hz)
theorem look_map (f : Th → D) : ∀ (tr : Tr) (p : Place), lookT (keysT tr) (tr.map fun e => f e.2) p = (look tr p).map f
  | [], p => rfl
  | e :: tr, p => by
    show (if e.1 = p then some (f e.2) else lookT (keysT tr) (tr.map fun e => f e.2) p) = (if e.1 = p then some e.2 else look tr p).map f
    rw [look_map f tr p]
    by_cases h : e.1 = p
    · rw [if_pos h, if_pos h]
      rfl
    · rw [if_neg h, if_neg h]
theorem txt_ty {K : PySem.W.Frag} {m : Mem} {d : D} {ns : List Str} (h : TxT d ns) : TyD K m d (.type "tuple") := by
  rcases h with rfl | rfl
  · exact .pl ns
  · exact .tup _
theorem k_lt {K : PySem.W.Frag} : PySem.W.kitAny K (.type "tuple") (["list", "tuple"].map Value.type) = some true := kit_any (by decide +kernel)
theorem name_sz {n : Str} (h : DT.isName n = true) : n.length ≤ sz := by
  unfold DT.isName at h
  simp only [Bool.and_eq_true, decide_eq_true_eq] at h
  exact Nat.le_trans h.2.1 (by decide)
theorem names_ok {ns : List Str} (h : ∀ n ∈ ns, DT.isName n = true) : ∀ z ∈ ns, PyData.strOk z = true := fun z hz => DT.name_ok (h z hz)
theorem num1_neg {K : PySem.W.Frag} {F B : Hp} {ρ : DD.Env} {m : Mem} {Q : Option Int → Mem → Prop} (q : Q (some (-1)) m) : WPt K F B (tPart (tUn rNeg (tC (.int 1)))) ρ m Q := wpt_some (we_un (we_c (wu_neg ⟨-1, rfl, q⟩)))
theorem len0 : ([] : List Str).length ≤ sizeLine := le_line (by show 0 ≤ 1000000; decide)
theorem eq_tup {K : PySem.W.Frag} {F B : Hp} {m : Mem} {x y : D} {ns ms : List Str} {Q : QD} (hx : TxT x ns) (hy : TxT y ms) (a : ∀ z ∈ ns, PyData.strOk z = true) (b : ∀ z ∈ ms, PyData.strOk z = true) (q : Q (.s (.bl (decide (ns = ms)))) m) : WO K F B (rEqA K) x y m Q := by
  refine wo_eqD hx.py hy.py (shaped_tupP a) (shaped_tupP b) ?_
  rw [eqv_tupP]
  exact q
theorem ne_tup {K : PySem.W.Frag} {F B : Hp} {m : Mem} {x y : D} {ns ms : List Str} {Q : QD} (hx : TxT x ns) (hy : TxT y ms) (a : ∀ z ∈ ns, PyData.strOk z = true) (b : ∀ z ∈ ms, PyData.strOk z = true) (q : Q (.s (.bl (!decide (ns = ms)))) m) : WO K F B (rNeA K) x y m Q := by
  refine wo_neD hx.py hy.py (shaped_tupP a) (shaped_tupP b) ?_
  rw [eqv_tupP]
  exact q
theorem TreeAt.recv {CT CP : Addr} {m : Mem} {t : Addr} {tr : Tr} {f : Str} (h : TreeAt CT CP m t tr) (hf : f ∉ (["held"] : List Str)) : Recv m CT f (.s (.ref t)) := by
  obtain ⟨h, h1, _⟩ := h
  exact ⟨_, _, h1, hf⟩
theorem word_ne (w : Option Str) (k : Str) : decide (wordV w = V.str k) = decide (w = some k) := by
  cases w with
  | none => 
    rw [decide_eq_false (fun z => by cases z), decide_eq_false (fun z => by cases z)]
  | some x =>
    rw [Bool.eq_iff_iff]
    simp only [decide_eq_true_eq]
    exact ⟨fun z => by cases z; rfl, fun z => by cases z; rfl⟩
theorem word_scal (w : Option Str) (k : Str) : scal (wordV w) (.str k) = true := by cases w <;> rfl
theorem putM_comm {m : Addr → Option MO} {a b : Addr} {o u : MO} (h : a ≠ b) : putM (putM m a o) b u = putM (putM m b u) a o := by
  funext c
  unfold putM
  by_cases h1 : c = a
  · subst h1
    rw [if_neg h, if_pos rfl, if_pos rfl]
  · rw [if_neg h1, if_neg h1]
theorem mW_t {C : Addr} {m : Mem} {t w sa oa a : Addr} {sds ods : List D} {s : WSt} (f : FreeW m w sa oa) {o : MO} (h : m.own a = some o) : (mW C m t w sa oa sds ods s).own a = some o := by
  have n1 : a ≠ w := fun z => by rw [z, f.hw] at h; cases h
  have n2 : a ≠ sa := fun z => by rw [z, f.hs] at h; cases h
  have n3 : a ≠ oa := fun z => by rw [z, f.ho] at h; cases h
  show putM (putM (putM m.own sa _) oa _) w _ a = _
  rw [putM_ne n1, putM_ne n3, putM_ne n2]
  exact h
theorem TreeAt.inW {CT CP C : Addr} {m : Mem} {t w sa oa t0 : Addr} {sds ods : List D} {s : WSt} {tr : Tr} (h : TreeAt CT CP m t tr) (f : FreeW m w sa oa) : TreeAt CT CP (mW C m t0 w sa oa sds ods s) t tr := by
  obtain ⟨a, h1, h2⟩ := h
  exact ⟨a, mW_t f h1, mW_t f h2⟩
theorem mW_w {C : Addr} {m : Mem} {t w sa oa : Addr} {sds ods : List D} {s : WSt} : (mW C m t w sa oa sds ods s).own w = some (wI C t sa oa s) := putM_same
theorem mW_sa {C : Addr} {m : Mem} {t w sa oa : Addr} {sds ods : List D} {s : WSt} (f : FreeW m w sa oa) : (mW C m t w sa oa sds ods s).own sa = some (.lst sds) := by
  show putM (putM (putM m.own sa _) oa _) w _ sa = _
  rw [putM_ne (Ne.symm f.n1), putM_ne f.n3, putM_same]
theorem mW_oa {C : Addr} {m : Mem} {t w sa oa : Addr} {sds ods : List D} {s : WSt} (f : FreeW m w sa oa) : (mW C m t w sa oa sds ods s).own oa = some (.dT (s.outs.map (·.1)) ods) := by
  show putM (putM (putM m.own sa _) oa _) w _ oa = _
  rw [putM_ne (Ne.symm f.n2), putM_same]
/-- the walk's object is written -/
theorem mW_set {C : Addr} {m : Mem} {t w sa oa : Addr} {sds ods : List D} {s s' : WSt} (h : s'.outs = s.outs) : ({ mW C m t w sa oa sds ods s with own := putM (mW C m t w sa oa sds ods s).own w (wI C t sa oa s') } : Mem) = mW C m t w sa oa sds ods s' := by
  unfold mW
  rw [h]
  simp only [putM_put]
theorem mW_sought {C : Addr} {m : Mem} {t w sa oa : Addr} {sds sds' ods : List D} {s s' : WSt} (f : FreeW m w sa oa) (h : s'.outs = s.outs) (hw : s'.word = s.word) (hd : s'.done = s.done) :
    ({ mW C m t w sa oa sds ods s with own := putM (mW C m t w sa oa sds ods s).own sa (.lst sds') } : Mem) = mW C m t w sa oa sds' ods s' := by
  unfold mW wI
  rw [h, hw, hd]
  simp only
  rw [putM_comm f.n1, putM_comm (Ne.symm f.n3), putM_put]
theorem mW_outs {C : Addr} {m : Mem} {t w sa oa : Addr} {sds ods ods' : List D} {s s' : WSt} {ks : List Place} (f : FreeW m w sa oa) (h : s'.outs.map (·.1) = ks) (hw : s'.word = s.word) (hd : s'.done = s.done) :
    ({ mW C m t w sa oa sds ods s with own := putM (mW C m t w sa oa sds ods s).own oa (.dT ks ods') } : Mem) = mW C m t w sa oa sds ods' s' := by
  unfold mW wI
  rw [h, hw, hd]
  simp only
  rw [putM_comm f.n2, putM_put]
theorem drop3 {own : Addr → Option MO} {w sa oa : Addr} {a b c : MO} (h1 : own w = none) (h2 : own sa = none) (h3 : own oa = none) : dropM (dropM (dropM (putM (putM (putM own sa a) oa b) w c) w) oa) sa = own := by
  funext x
  unfold dropM putM
  by_cases e1 : x = sa
  · rw [if_pos e1, e1, h2]
  · rw [if_neg e1]
    by_cases e2 : x = oa
    · rw [if_pos e2, e2, h3]
    · rw [if_neg e2]
      by_cases e3 : x = w
      · rw [if_pos e3, e3, h1]
      · rw [if_neg e3, if_neg e3, if_neg e2, if_neg e1]
theorem conv_mW {C : Addr} {m : Mem} {t w sa oa : Addr} {sds ods : List D} {s : WSt} (f : FreeW m w sa oa) : Conv (mW C m t w sa oa sds ods s) m := fun K F Hb H r => by
  have r1 := ((r.leave w).leave oa).leave sa
  have e : ({ mW C m t w sa oa sds ods s with own := dropM (dropM (dropM (mW C m t w sa oa sds ods s).own w) oa) sa } : Mem) = m := by
    show ({ cnt := m.cnt, own := dropM (dropM (dropM (putM (putM (putM m.own sa _) oa _) w _) w) oa) sa } : Mem) = m
    rw [drop3 f.hw f.hs f.ho]
  rw [← e]
  exact r1
theorem wd_none {K : PySem.W.Frag} {F B : Hp} {m : Mem} {w : Option Str} {Q : QD} (q : Q (.s (.bl (decide (w = none)))) m) : WO K F B rIsN (wordD w) (.s .non) m Q := by
  refine wo_isN ?_
  cases w with
  | none => exact q
  | some x =>
    have e : decide (wordV (some x) = V.non) = decide (some x = none) := by
      rw [decide_eq_false (fun z => by cases z), decide_eq_false (fun z => by cases z)]
    rw [e]
    exact q
theorem out_look : ∀ {ods : List D} {os : List (Place × Option Place × Option Str)} (l : Place), OutL ods os → (∀ e, outAt os l = some e → ∃ d, ResD d e.1 ∧ lookT (os.map (·.1)) ods l = some (.tup [d, wordD e.2])) ∧ (outAt os l = none → lookT (os.map (·.1)) ods l = none)
  | _, _, l, .nil => ⟨(fun e h => nomatch (show (none : Option (Option Place × Option Str)) = some e from h)), fun _ => rfl⟩
  | _, _, l, .cons (d := d) (p := p) (e := e) (w := w) (ds := ds) (os := os) h t => by
    obtain ⟨i1, i2⟩ := out_look l t
    have e1 : outAt ((p, e, w) :: os) l = if p = l then some (e, w) else outAt os l := rfl
    have e2 : lookT (((p, e, w) :: os).map (·.1)) (.tup [d, wordD w] :: ds) l = if p = l then some (.tup [d, wordD w]) else lookT (os.map (·.1)) ds l := rfl
    rw [e1, e2]
    by_cases hp : p = l
    · rw [if_pos hp, if_pos hp]
      refine ⟨fun x hx => ?_, fun hx => by cases hx⟩
      cases hx
      exact ⟨d, h, rfl⟩
    · rw [if_neg hp, if_neg hp]
      exact ⟨i1, i2⟩
theorem OutL.snoc {ods : List D} {os : List (Place × Option Place × Option Str)} (h : OutL ods os) {d : D} {p : Place} {e : Option Place} {w : Option Str} (hd : ResD d e) : OutL (ods ++ [.tup [d, wordD w]]) (os ++ [(p, e, w)]) := by
  induction h with
  | nil => exact .cons hd .nil
  | cons h t ih => exact .cons h ih
section
variable {K : PySem.W.Frag} {mg : Str → Option Value} (T : Txt K mg) {F B : Hp} {ρ : DD.Env} {m0 : Mem} {t w sa oa : Addr} {sds ods : List D} {s : WSt} {E : DE}
theorem ws_word (v : Option Str) (h0 : ρ[0]? = some (some (.s (.ref w)))) (h : E.nx ρ (mW T.c_Walk m0 t w sa oa sds ods { s with word := v })) : WS K F B (sFld K (tVar 0) (tC (wordV v)) "word") ρ (mW T.c_Walk m0 t w sa oa sds ods s) E := by
  refine ws_fld (we_c (we_var h0 ⟨w, T.c_Walk, wN, _, rfl, T.y_Walk.cl, T.n_Walk_word, mW_w, by decide, ?_⟩))
  rw [← mW_set (s := s) (s' := { s with word := v }) rfl] at h
  exact h
theorem ws_done {i : Nat} (k : Nat) (h0 : ρ[0]? = some (some (.s (.ref w)))) (hi : ρ[i]? = some (some (intD k))) (h : E.nx ρ (mW T.c_Walk m0 t w sa oa sds ods { s with done := k })) : WS K F B (sFld K (tVar 0) (tVar i) "done") ρ (mW T.c_Walk m0 t w sa oa sds ods s) E := by
  refine ws_fld (we_var hi (we_var h0 ⟨w, T.c_Walk, wN, _, rfl, T.y_Walk.cl, T.n_Walk_done, mW_w, by decide, ?_⟩))
  rw [← mW_set (s := s) (s' := { s with done := k }) rfl] at h
  exact h
theorem kind_of {tr : Tr} {i : Nat} {d : D} {ns : Place} {Q : QD} (h0 : ρ[0]? = some (some (.s (.ref w)))) (hi : ρ[i]? = some (some d)) (fr : FreeW m0 w sa oa) (ht : TreeAt T.c_Tree T.c_Path m0 t tr) (hd : TxT d ns) (hl : ns.length ≤ 1000) (hn : ∀ n ∈ ns, DT.isName n = true) (h : Q (wordD (kindT tr ns)) (mW T.c_Walk m0 t w sa oa sds ods s)) :
    WE K F B (tMeth T.c_Tree "kind" (spOf K (φ_Tree_kind T)) [] E0 (tFld K (tVar 0) "tree") (tCons (tVar i) tNil)) ρ (mW T.c_Walk m0 t w sa oa sds ods s) Q :=
  we_meth okx0 (we_fld (we_var h0 ⟨T.c_Walk, .s (.ref t), T.y_Walk.cl, T.n_Walk_tree, ⟨wN, _, mW_w, rfl⟩, (ht.inW fr).recv (by decide), wa_cons (we_var hi (wa_nil ⟨t, tr, d, ns, rfl, ht.inW fr, hd, hl, hn, h⟩))⟩))
end
theorem mT_more {CT CP : Addr} {m : Mem} {t h : Addr} {tr tr' : Tr} (n : t ≠ h) : ({ mT CT CP m t h tr with own := putM (mT CT CP m t h tr).own h (.dT (keysT tr') (tr'.map fun e => thD CP e.2)) } : Mem) = mT CT CP m t h tr' := by
  unfold mT
  simp only
  rw [putM_comm n, putM_put]
theorem mT_t {CT CP : Addr} {m : Mem} {t h : Addr} {tr : Tr} : (mT CT CP m t h tr).own t = some (.ins CT ["held"] [.s (.ref h)]) := putM_same
theorem mT_h {CT CP : Addr} {m : Mem} {t h : Addr} {tr : Tr} (n : t ≠ h) : (mT CT CP m t h tr).own h = some (.dT (keysT tr) (tr.map fun e => thD CP e.2)) := (putM_ne (Ne.symm n)).trans putM_same
theorem mT_o {CT CP : Addr} {m : Mem} {t h a : Addr} {tr : Tr} {o : MO} (ht : m.own t = none) (hh : m.own h = none) (ha : m.own a = some o) : (mT CT CP m t h tr).own a = some o := by
  have n1 : a ≠ t := fun z => by rw [z, ht] at ha; cases ha
  have n2 : a ≠ h := fun z => by rw [z, hh] at ha; cases ha
  exact (putM_ne n1).trans ((putM_ne n2).trans ha)
theorem mT_at {CT CP : Addr} {m : Mem} {t h : Addr} {tr : Tr} (n : t ≠ h) : TreeAt CT CP (mT CT CP m t h tr) t tr := ⟨h, mT_t, mT_h n⟩
theorem new_tree {K : PySem.W.Frag} {mg : Str → Option Value} (T : Txt K mg) {F B : Hp} {ρ : DD.Env} {m : Mem} {Q : QD} (h : ∀ t h, m.own t = none → m.own h = none → t ≠ h → Q (.s (.ref t)) (mT T.c_Tree T.c_Path m t h [([], ⟨"folder", none⟩)])) :
    WE K F B (tMake T.c_Tree (spOf K (φ_Tree___init__ T)) [] E0 tNil) ρ m Q := by
  refine we_makeO okx0 RpL.nil (wa_nil fun t ht => ⟨t, rfl, putM_same, fun a ha => ⟨rfl, ?_⟩⟩)
  have n : t ≠ a := fun z => by
    rw [← z] at ha
    exact nomatch (putM_same.symm.trans ha)
  have h' := h t a ht ((putM_ne (Ne.symm n)).symm.trans ha) n
  unfold mT at h'
  simp only
  rw [putM_comm n, putM_put]
  exact h'
/-! ### the walk that keeps what it knows walks as the one that does not -/
theorem stream_put {m : Mem} {p l : Addr} {o : MO} (h : Stream m p) (hl : m.own l = none) (k : Nat) : Stream { cnt := k, own := putM m.own l o } p := by
  obtain ⟨c, h1, h2, h3⟩ := h
  have n1 : p ≠ l := fun z => by rw [z, hl] at h1; cases h1
  have n2 : c ≠ l := fun z => by rw [z, hl] at h2; cases h2
  exact ⟨c, (putM_ne n1).trans h1, (putM_ne n2).trans h2, h3⟩
theorem drop2 {own : Addr → Option MO} {t h : Addr} {a b : MO} (h1 : own t = none) (h2 : own h = none) : dropM (dropM (putM (putM own h a) t b) t) h = own := by
  funext x
  unfold dropM putM
  by_cases e1 : x = h
  · rw [if_pos e1, e1, h2]
  · rw [if_neg e1]
    by_cases e2 : x = t
    · rw [if_pos e2, e2, h1]
    · rw [if_neg e2, if_neg e2, if_neg e1]
theorem conv_mT {CT CP : Addr} {m : Mem} {t h : Addr} {tr : Tr} (h1 : m.own t = none) (h2 : m.own h = none) : Conv (mT CT CP m t h tr) m := fun K F Hb H r => by
  have r1 := (r.leave t).leave h
  have e : ({ mT CT CP m t h tr with own := dropM (dropM (mT CT CP m t h tr).own t) h } : Mem) = m := by
    show ({ cnt := m.cnt, own := dropM (dropM (putM (putM m.own h _) t _) t) h } : Mem) = m
    rw [drop2 h1 h2]
  rw [← e]
  exact r1
theorem mT_none {CT CP : Addr} {m : Mem} {t h a : Addr} {tr tr' : Tr} (x : (mT CT CP m t h tr).own a = none) : (mT CT CP m t h tr').own a = none := by
  have x' : putM (putM m.own h (.dT (keysT tr) (tr.map fun e => thD CP e.2))) t (.ins CT ["held"] [.s (.ref h)]) a = none := x
  show putM (putM m.own h (.dT (keysT tr') (tr'.map fun e => thD CP e.2))) t (.ins CT ["held"] [.s (.ref h)]) a = none
  unfold putM at x' ⊢
  by_cases e1 : a = t
  · rw [if_pos e1] at x'
    cases x'
  · rw [if_neg e1] at x' ⊢
    by_cases e2 : a = h
    · rw [if_pos e2] at x'
      cases x'
    · rw [if_neg e2] at x' ⊢
      exact x'
theorem we_varC {K : PySem.W.Frag} {F B : Hp} {ρ : DD.Env} {m : Mem} {i : Nat} {d y : D} {Q : QD} (h : ρ[i]? = some (some d)) (c : Coarse d y) (q : Q y m) : WE K F B (tVar i) ρ m Q :=
  we_coarse (Q' := fun x m' => x = d ∧ m = m') (we_var h ⟨rfl, rfl⟩) fun x m' ⟨e1, e2⟩ => by
    subst e1 e2
    exact ⟨y, c, q⟩
theorem same_pl (n : Nat) (ns : Place) (h : ns.length ≤ 1000) : SameOk (n + 1) (plD ns) := by
  unfold SameOk
  refine ⟨by rw [List.length_map, List.length_map]; omega, fun x hx => ?_⟩
  rw [List.map_map] at hx
  obtain ⟨z, _, rfl⟩ := List.mem_map.mp hx
  unfold SameOk
  trivial
theorem same_pair (n : Nat) (w : Option Str) (k : Int) : SameOk (n + 1) (.tup [wordD w, intD k]) := by
  unfold SameOk
  refine ⟨by show 2 ≤ 1000000; decide, fun x hx => ?_⟩
  rcases List.mem_cons.mp hx with z | z
  · subst z
    cases w <;> (unfold SameOk; trivial)
  · rw [List.mem_singleton.mp z]
    unfold SameOk
    trivial
theorem same_non (n : Nat) : SameOk n nonD := by
  unfold SameOk
  trivial
theorem same_3 {n : Nat} {a b c : D} (h1 : SameOk n a) (h2 : SameOk n b) (h3 : SameOk n c) : SameOk (n + 1) (.lst [a, b, c]) := by
  unfold SameOk
  refine ⟨by show 3 ≤ 1000000; decide, fun x hx => ?_⟩
  rcases List.mem_cons.mp hx with z | hx
  · rw [z]
    exact h1
  rcases List.mem_cons.mp hx with z | hx
  · rw [z]
    exact h2
  · rw [List.mem_singleton.mp hx]
    exact h3
def resC : Option Place → D
  | none => nonD
  | some p => plD p
theorem res_coarse {d : D} {r : Option Place} (h : ResD d r) : Coarse d (resC r) := by
  cases r with
  | none =>
    have e : d = nonD := h
    rw [e]
    exact Coarse.refl _
  | some p => exact Coarse.tx h
theorem same_res (n : Nat) {r : Option Place} (h : ∀ p, r = some p → p.length ≤ 1000) : SameOk (n + 1) (resC r) := by
  cases r with
  | none => exact same_non _
  | some p => exact same_pl _ _ (h p rfl)
theorem ws_conv {K : PySem.W.Frag} {F B : Hp} {ρ : DD.Env} {m : Mem} {t : TS} {E : DE} (h : WS K F B t ρ m { E with nx := fun ρ1 m1 => ∃ m2, Conv m1 m2 ∧ E.nx ρ1 m2 }) : WS K F B t ρ m E := fun Hb H σ R hB r hs k =>
  h Hb H σ R hB r hs ⟨fun σ' H' Hb' ρ' m' e r' hs' ⟨m2, c, q⟩ => k.nx _ _ _ _ _ e (c _ _ _ _ r') hs' q, k.rt, k.bk, k.ct⟩
theorem same_pls (n : Nat) (nss : List Place) (h : nss.length ≤ 100000) (h2 : ∀ q ∈ nss, q.length ≤ 1000) : SameOk (n + 2) (.lst (nss.map plD)) := by
  unfold SameOk
  refine ⟨by rw [List.length_map]; omega, fun x hx => ?_⟩
  obtain ⟨q, hq, rfl⟩ := List.mem_map.mp hx
  exact same_pl n q (h2 q hq)
def plOf : D → List Str
  | .pl ns => ns
  | .tup ds => ds.filterMap fun d => match d with | .s (.str x) => some x | _ => none
  | _ => []
theorem plOf_tx {d : D} {ns : List Str} (h : TxT d ns) : plOf d = ns := by
  rcases h with rfl | rfl
  · rfl
  · show ((ns.map V.str).map D.s).filterMap _ = ns
    induction ns with
    | nil => rfl
    | cons a l ih => exact congrArg (a :: ·) ih
theorem plL_filter {ds : List D} {nss : List Place} (h : PlL ds nss) (f : Place → Bool) : PlL (ds.filter fun d => f (plOf d)) (nss.filter f) := by
  induction h with
  | nil => exact .nil
  | cons h t ih =>
    rw [List.filter_cons, List.filter_cons, plOf_tx h]
    split
    · exact .cons h ih
    · exact ih
theorem plL_get {ds : List D} {nss : List Place} (h : PlL ds nss) {d : D} (hd : d ∈ ds) : ∃ ns ∈ nss, TxT d ns := by
  induction h with
  | nil => cases hd
  | cons h t ih =>
    rcases List.mem_cons.mp hd with z | z
    · exact ⟨_, List.mem_cons_self, z ▸ h⟩
    · obtain ⟨ns, h1, h2⟩ := ih z
      exact ⟨ns, List.mem_cons_of_mem _ h1, h2⟩
/-- a tree with folders in the place of links -/
def plTh (t : Th) : Th := if t.kind = ("link" : Str) then ⟨"folder", none⟩ else t
def plainTr (tr : Tr) : Tr := tr.map fun e => (e.1, plTh e.2)
theorem plain_keys (tr : Tr) : keysT (plainTr tr) = keysT tr := by
  show (tr.map fun e => (e.1, plTh e.2)).map (·.1) = tr.map (·.1)
  rw [List.map_map]
  rfl
theorem plain_look : ∀ (tr : Tr) (p : Place), look (plainTr tr) p = (look tr p).map plTh
  | [], p => rfl
  | e :: tr, p => by
    show (if e.1 = p then some (plTh e.2) else look (plainTr tr) p) = Option.map plTh (if e.1 = p then some e.2 else look tr p)
    split
    · rfl
    · exact plain_look tr p
theorem plTh_kind (t : Th) : (plTh t).kind ≠ ("link" : Str) := by
  unfold plTh
  split
  · exact fun z => absurd z (by decide +kernel)
  · assumption
theorem plTh_folder {t : Th} (h : t.kind = ("folder" : Str)) : (plTh t).kind = ("folder" : Str) := by
  unfold plTh
  rw [if_neg (by rw [h]; decide +kernel)]
  exact h
theorem plain_folder {tr : Tr} {p : Place} (h : kindT tr p = some "folder") : kindT (plainTr tr) p = some "folder" := by
  have h' : (look tr p).map (·.kind) = some ("folder" : Str) := h
  show (look (plainTr tr) p).map (·.kind) = some ("folder" : Str)
  rw [plain_look]
  cases e : look tr p with
  | none => rw [e] at h'; cases h'
  | some t =>
    rw [e] at h'
    show some (plTh t).kind = some ("folder" : Str)
    rw [plTh_folder (Option.some.inj h')]
theorem plain_links {tr : Tr} (p : Place) : kindT (plainTr tr) p ≠ some "link" := fun z => by
  have z' : (look (plainTr tr) p).map (·.kind) = some ("link" : Str) := z
  rw [plain_look] at z'
  cases e : look tr p with
  | none => rw [e] at z'; cases z'
  | some t =>
    rw [e] at z'
    exact plTh_kind t (Option.some.inj z')
theorem plain_ok {U : List Str} {tr : Tr} (ok : OkTr U tr) : OkTr U (plainTr tr) := by
  refine ⟨?_, by rw [plain_keys]; exact ok.nd, by rw [show (plainTr tr).length = tr.length from List.length_map _]; exact ok.few, fun e he => ?_, ok.ul, ok.un⟩
  · obtain ⟨r, e⟩ := ok.root
    refine ⟨plainTr r, ?_⟩
    rw [e]
    show (([], plTh ⟨"folder", none⟩) :: plainTr r) = _
    rw [show plTh ⟨"folder", none⟩ = ⟨"folder", none⟩ from if_neg (by decide +kernel)]
  · obtain ⟨x, hx, rfl⟩ := List.mem_map.mp he
    obtain ⟨a, b, c⟩ := ok.each x hx
    refine ⟨a, b, ?_⟩
    show ThOk U (plTh x.2)
    unfold plTh
    split
    · exact .inr ⟨.inl rfl, rfl⟩
    · rename_i hn
      exact c.elim (fun z => absurd z.1 hn) .inr
theorem plain_closed {tr : Tr} (cl : Closed tr) : Closed (plainTr tr) := fun e he h0 => by
  obtain ⟨x, hx, rfl⟩ := List.mem_map.mp he
  exact plain_folder (cl x hx h0)
theorem plain_pairs {tr : Tr} (nd : (keysT tr).Nodup) : ((keysT tr).filter fun _ => true).map (fun k => D.tup [.pl k, match look tr k with | some t => thL (plTh t) | none => nonD]) = ((keysT tr).zip ((plainTr tr).map fun e => thL e.2)).map fun z => .tup [.pl z.1, z.2] := by
  rw [List.filter_eq_self.mpr (fun _ _ => rfl)]
  have h1 : (keysT tr).zip ((plainTr tr).map fun e => thL e.2) = tr.map fun e => (e.1, thL (plTh e.2)) := by
    show (tr.map (·.1)).zip ((tr.map fun e => (e.1, plTh e.2)).map fun e => thL e.2) = _
    rw [List.map_map]
    clear nd
    induction tr with
    | nil => rfl
    | cons e tr ih =>
      show (e.1, thL (plTh e.2)) :: _ = (e.1, thL (plTh e.2)) :: _
      congr 1
  rw [h1]
  show (tr.map (·.1)).map _ = (tr.map _).map _
  rw [List.map_map, List.map_map]
  refine List.map_congr_left fun e he => ?_
  show D.tup [.pl e.1, match look tr e.1 with | some t => thL (plTh t) | none => nonD] = .tup [.pl e.1, thL (plTh e.2)]
  rw [look_of_mem nd he]
/-- a tree's objects over a memory -/
theorem tree_mem {CT CP : Addr} {O : Addr → Option MO} {t h : Addr} {tr' : Tr} (ht : O t = none) (hh : O h = none) (hth : t ≠ h) :
    ∃ OW, (∀ c0, mT CT CP ⟨c0, O⟩ t h tr' = ⟨c0, OW⟩) ∧ (∀ b o, O b = some o → OW b = some o) ∧ (∀ c0, TreeAt CT CP ⟨c0, OW⟩ t tr') ∧ ∀ c0, Conv ⟨c0, OW⟩ ⟨c0, O⟩ :=
  ⟨_, fun c0 => rfl, fun b o e => mT_o (m := ⟨0, O⟩) ht hh e, fun c0 => mT_at (m := ⟨c0, O⟩) hth, fun c0 => conv_mT (m := ⟨c0, O⟩) ht hh⟩
theorem tree_sub {CT CP : Addr} {O O2 : Addr → Option MO} {t : Addr} {tr : Tr} {c c2 : Nat} (h : TreeAt CT CP ⟨c, O⟩ t tr) (hs : ∀ b o, O b = some o → O2 b = some o) : TreeAt CT CP ⟨c2, O2⟩ t tr := by
  obtain ⟨hd, h1, h2⟩ := h
  exact ⟨hd, hs _ _ h1, hs _ _ h2⟩
theorem strm_sub {own OW : Addr → Option MO} {p : Addr} {c0 c1 : Nat} (h : Stream ⟨c0, own⟩ p) (hs : ∀ b o, own b = some o → OW b = some o) : Stream ⟨c1, OW⟩ p := by
  obtain ⟨c, h1, h2, h3⟩ := h
  exact ⟨c, hs _ _ h1, hs _ _ h2, h3⟩
theorem put_sub {O : Addr → Option MO} {l : Addr} {X : MO} (h : O l = none) : ∀ b o, O b = some o → putM O l X b = some o := fun b o e => (putM_ne fun z => by rw [← z, e] at h; cases h).trans e
/-- == of two ends that are told alike -/
theorem ne_res {K : PySem.W.Frag} {F B : Hp} {m : Mem} {x y : D} {r : Option Place} {Q : QD} (hx : ResD x r) (hy : ResD y r) (hn : ∀ p, r = some p → ∀ n ∈ p, DT.isName n = true) (q : Q (.s (.bl false)) m) : WO K F B (rNeA K) x y m Q := by
  cases r with
  | none =>
    have ex : x = nonD := hx
    have ey : y = nonD := hy
    subst ex ey
    exact wo_neS rfl q
  | some p =>
    have hs := names_ok (hn p rfl)
    refine ne_tup (ns := p) (ms := p) hx hy hs hs ?_
    rw [decide_eq_true rfl]
    exact q
theorem tid_path {U : List Str} {z : Str} {hs : List Str} (h : PathOk U z) (hl : z.length ≤ 400) : PathOk U (tidiedT hs z) := by
  have hst := DT.steps_isStep h.1
  refine ⟨DT.plain_path (DT.tidy_mem hst), ?_, fun s hs' => ?_⟩
  · refine Nat.le_trans DT.plain_short ?_
    omega
  · unfold tidiedT at hs'
    by_cases h0 : DT.tidyS (hasW "dot" hs) (hasW "up" hs) (hasW "root up" hs && DT.rooted z) (DT.steps z) = []
    · rw [h0] at hs'
      cases hrt : DT.rooted z with
      | true =>
        rw [hrt, show ∀ en, DT.plainT [] true en = "/" from fun en => by cases en <;> decide +kernel, show DT.steps ("/" : Str) = [] from by decide +kernel] at hs'
        cases hs'
      | false =>
        rw [hrt, show ∀ en, DT.plainT [] false en = "." from fun en => by cases en <;> decide +kernel, show DT.steps ("." : Str) = [(".": Str)] from by decide +kernel] at hs'
        exact .inl (List.mem_singleton.mp hs')
    · rw [DT.plain_steps (DT.tidy_mem hst) h0] at hs'
      exact DT.tidy_mem (P := fun s => s = "." ∨ s = ".." ∨ s ∈ U) h.2.2 s hs'
section
variable {tr : Tr} {n : Nat} {z : Str} {here : Place} {hs : List Str}
theorem start_kind {tr : Tr} {z : Str} {here : Place} (hr : kindT tr [] = some "folder") (hf : kindT tr here = some "folder") : kindT tr (if DT.rooted z = true then [] else here) = some "folder" := by
  split
  · exact hr
  · exact hf
theorem lead_t1 (hu : hasW "up" hs = false) (he : hasW "end bar" hs = false) (hz : DT.isPath z = true) (hr : kindT tr [] = some "folder") (hf : kindT tr here = some "folder") : leadP tr n (tidiedT hs z) here false = leadP tr n z here false := by
  unfold tidiedT
  rw [hu, he, show (DT.ended z && !false) = DT.ended z from by simp]
  exact lead_tidy hz (DT.steps_isStep hz) (start_kind hr hf) fun e => by simp only [Bool.and_eq_true] at e; exact e.2
theorem lead_t2 (hu : hasW "up" hs = false) (hz : DT.isPath z = true) (hr : kindT tr [] = some "folder") (hf : kindT tr here = some "folder") {y : Place} (h : leadP tr n z here false = some y) : leadP tr n (tidiedT hs z) here false = some y := by
  unfold tidiedT
  rw [hu]
  exact lead_bar hz (DT.steps_isStep hz) (start_kind hr hf) (fun e => by simp only [Bool.and_eq_true] at e; exact e.2) h _ fun e => by simp only [Bool.and_eq_true] at e; exact e.1
theorem lead_t3 (hl : ∀ p, kindT tr p ≠ some "link") (hz : DT.isPath z = true) (hr : kindT tr [] = some "folder") (hf : kindT tr here = some "folder") {y : Place} (h : leadP tr n z here false = some y) : leadP tr n (tidiedT hs z) here false = some y := by
  unfold tidiedT
  exact lead_ups hl hz (DT.steps_isStep hz) (start_kind hr hf) (fun e => by simp only [Bool.and_eq_true] at e; exact e.2) h _ fun e => by simp only [Bool.and_eq_true] at e; exact e.1
end
theorem words_cut {r1 r2 : Int} (a : 0 ≤ r1) (a' : r1 < 2) (b : 0 ≤ r2) (b' : r2 < 2) : ∃ ws : List Str, D.lst (cutD (cutD [strD "dot", strD "root up"] (some r1) none) none (some (1 + r2))) = strsD ws ∧ (ws = [("dot" : Str)] ∨ ws = [("dot" : Str), "root up"] ∨ ws = [("root up" : Str)]) := by
  have h1 : r1 = 0 ∨ r1 = 1 := by omega
  have h2 : r2 = 0 ∨ r2 = 1 := by omega
  rcases h1 with rfl | rfl <;> rcases h2 with rfl | rfl
  · exact ⟨["dot"], rfl, .inl rfl⟩
  · exact ⟨["dot", "root up"], rfl, .inr (.inl rfl)⟩
  · exact ⟨["root up"], rfl, .inr (.inr rfl)⟩
  · exact ⟨["root up"], rfl, .inr (.inr rfl)⟩
theorem bar_cut {r : Int} (a : 0 ≤ r) (a' : r < 2) : ∃ ws : List Str, D.lst (cutD [strD "end bar"] none (some r)) = strsD ws ∧ (ws = [] ∨ ws = [("end bar" : Str)]) := by
  have h1 : r = 0 ∨ r = 1 := by omega
  rcases h1 with rfl | rfl
  · exact ⟨[], rfl, .inl rfl⟩
  · exact ⟨["end bar"], rfl, .inr rfl⟩
theorem make_sk {K : PySem.W.Frag} {mg : Str → Option Value} (T : Txt K mg) {F B : Hp} {ρ : DD.Env} {m : Mem} {te : TE} {Q : QD} {ws : List Str} (hw : ∀ w ∈ ws, w ∈ wordsAll) (h : ∀ Q', Q' (strsD ws) m → WE K F B te ρ m Q') (q : Q (strkD T.c_Strikes (heldOf ws)) m) :
    WE K F B (tMake T.c_Strikes (spOf K (φ_Strikes___init__ T)) [] E0 (tCons te tNil)) ρ m Q :=
  we_make (dds := []) okx0 RpL.nil (wa_cons (h _ (wa_nil fun x hx => ⟨x, ws, _, rfl, .inl rfl, hw, putM_same, rfl, _, _, putM_same, by rw [putM_put, dropM_put hx]; exact q⟩)))
theorem rd_is_name {K : PySem.W.Frag} {mg : Str → Option Value} (T : Txt K mg) (E : XK) : BodyOk K (φ_is_name T) N_is_name E (t_is_name T E) := by
  intro ds m nx X F B h hE
  obtain ⟨d, rfl, h⟩ := h
  rw [st_is_name]
  unfold t_is_name
  refine ws_ret (we_andV ?_)
  refine we_cb (wa_cons (we_var rfl (wa_cons (we_c (wa_nil ?_)))))
  rcases h with ⟨z, rfl, hz, h⟩ | ⟨⟨t, ht, hk⟩, h⟩
  · refine wc_isi (.str z) rfl (kit_ty (by decide +kernel)) ⟨true, rfl, fun _ => ?_, (fun q => nomatch q)⟩
    refine we_andV ?_
    refine we_chain (we_c (we_cb (wa_cons (we_var rfl (wa_nil ?_)))))
    refine wc_len ⟨le_line hz, rfl⟩ (wo_I0 ⟨_, rfl, fun h1 => ?_, fun h1 => ?_⟩)
    · refine we_c (wo_I0 ⟨_, rfl, fun h2 => ?_, fun h2 => ?_⟩)
      · refine we_cb (wa_cons ?_)
        refine we_lcMap (wi_any (we_var rfl ⟨_, rfl, fun d => blD (match d with | .s (.str c) => decide ((c.cps.toList.headD 0) ∈ DT.letters) | _ => false), ?_, fun F' d hd => ?_, ?_⟩))
        · rw [chrs_length]
          exact le_line hz
        · obtain ⟨c, hc, rfl⟩ := List.mem_map.mp hd
          refine wgw_name List.mem_cons_self ⟨rfl, ?_⟩
          exact we_op (we_var rfl (we_c (wo_inC ⟨rfl, rfl⟩)))
        · refine wa_nil ?_
          have e : (chrs z).map (fun d => blD (match d with | .s (.str c) => decide ((c.cps.toList.headD 0) ∈ DT.letters) | _ => false)) = (((TL.tl z).map fun c => decide (c ∈ DT.letters))).map fun b => .s (.bl b) := by
            unfold chrs
            rw [List.map_map, List.map_map]
            rfl
          rw [e]
          refine wc_all ?_
          have e2 : DT.isName z = ((TL.tl z).map fun c => decide (c ∈ DT.letters)).all id := by
            unfold DT.isName
            have a1 : (1 : Int) ≤ (z.length : Nat) := of_decide_eq_true h1
            have a2 : ((z.length : Nat) : Int) ≤ 8 := of_decide_eq_true h2
            rw [decide_eq_true (show 1 ≤ z.length by omega), decide_eq_true (show z.length ≤ 8 by omega), List.all_map]
            rfl
          rw [← e2]
          exact h
      · have e2 : DT.isName z = false := by
          unfold DT.isName
          have a2 : ¬ ((z.length : Nat) : Int) ≤ 8 := of_decide_eq_false h2
          rw [decide_eq_false (show ¬ z.length ≤ 8 by omega)]
          simp
        rw [e2] at h
        exact h
    · have e2 : DT.isName z = false := by
        unfold DT.isName
        have a2 : ¬ (1 : Int) ≤ ((z.length : Nat) : Int) := of_decide_eq_false h1
        rw [decide_eq_false (show ¬ 1 ≤ z.length by omega)]
        rfl
      rw [e2] at h
      exact ⟨false, rfl, (fun q => nomatch q), fun _ => h⟩
  · exact wc_isi ht rfl hk ⟨false, rfl, (fun q => nomatch q), fun _ => h⟩
theorem rd_is_path_text {K : PySem.W.Frag} {mg : Str → Option Value} (T : Txt K mg) (E : XK) : BodyOk K (φ_is_path_text T) N_is_path_text E (t_is_path_text T E) := by
  intro ds m nx X F B h hE
  obtain ⟨d, rfl, h⟩ := h
  rw [st_is_path_text]
  unfold t_is_path_text
  refine ws_seq (ws_if (wt_or (wt_not (wt_B (we_cb (wa_cons (we_var rfl (wa_cons (we_c (wa_nil ?_))))))))))
  rcases h with ⟨z, rfl, hz, h⟩ | ⟨⟨t, ht, hk⟩, h⟩
  · refine wc_isi (.str z) rfl (kit_ty (by decide +kernel)) ⟨true, rfl, fun _ => ?_, (fun q => nomatch q)⟩
    refine wt_test (we_op (we_var rfl (we_c (wo_eqS rfl ⟨_, rfl, fun q => ?_, fun q => ?_⟩))))
    · refine ws_ret (we_c ?_)
      have e : z = "" := by simpa using of_decide_eq_true q
      have e2 : DT.isPath z = false := by
        unfold DT.isPath
        rw [decide_eq_true e]
        rfl
      rw [e2] at h
      exact h
    · have e : ¬ z = "" := by simpa using of_decide_eq_false q
      refine ws_next (ws_ret (we_cb (wa_cons ?_)))
      refine we_lcMap (wi_any (we_m1 (we_var rfl ⟨⟨_, rfl⟩, we_c (wm_split bar1 (split_line hz) ⟨_, rfl, fun d => blD (match d with | .s (.str p) => DT.dotty p || DT.isName p | _ => false), ?_, fun F' d hd => ?_, ?_⟩)⟩)))
      · rw [List.length_map, DT.split_eq]
        exact pieces_line hz
      · rw [DT.split_eq] at hd
        obtain ⟨p, hp, rfl⟩ := List.mem_map.mp hd
        refine wgw_name List.mem_cons_self ⟨rfl, ?_⟩
        refine we_orV (we_op (we_var rfl (we_tup (wa_cons (we_c (wa_cons (we_c (wa_cons (we_c (wa_nil ⟨by decide, ?_⟩))))))))))
        refine wo_inT (xs := [.str "", .str ".", .str ".."]) rfl rfl ⟨_, rfl, fun q => ?_, fun q => ?_⟩
        · rw [inDots] at q
          refine we_call okx0 (wa_cons (we_var rfl (wa_nil ⟨_, rfl, .inl ⟨p, rfl, Nat.le_trans (pieces_each hp) hz, ?_, rfl⟩⟩)))
          show blD (DT.isName p) = blD (DT.dotty p || DT.isName p)
          rw [q]
          rfl
        · rw [inDots] at q
          refine ⟨?_, rfl⟩
          show blD true = blD (DT.dotty p || DT.isName p)
          rw [q]
          rfl
      · refine wa_nil ?_
        rw [DT.split_eq, List.map_map]
        have e1 : (DT.pieces z).map ((fun d => blD (match d with | .s (.str p) => DT.dotty p || DT.isName p | _ => false)) ∘ fun y => D.s (.str y)) = ((DT.pieces z).map fun p => DT.dotty p || DT.isName p).map fun b => .s (.bl b) := by
          rw [List.map_map]
          rfl
        rw [e1]
        refine wc_all ?_
        have e2 : DT.isPath z = ((DT.pieces z).map fun p => DT.dotty p || DT.isName p).all id := by
          unfold DT.isPath
          rw [decide_eq_false e, List.all_map]
          rfl
        rw [← e2]
        exact h
  · exact wc_isi ht rfl hk ⟨false, rfl, (fun q => nomatch q), fun _ => ⟨fun _ => ws_ret (we_c h), fun q => nomatch q⟩⟩
theorem rd_Path___init__ {K : PySem.W.Frag} {mg : Str → Option Value} (T : Txt K mg) (E : XK) : BodyOk K (φ_Path___init__ T) N_Path___init__ E (t_Path___init__ T E) := by
  intro ds m nx X F B h hE
  obtain ⟨x, z, rfl, hp, hz, ho, h⟩ := h
  rw [st_Path___init__]
  unfold t_Path___init__
  refine ws_seq (ws_if (wt_not (wt_B (we_call okx0 (wa_cons (we_var rfl (wa_nil ⟨_, rfl, .inl ⟨z, rfl, hz, _, rfl, ?_⟩⟩)))))))
  rw [hp]
  refine ⟨(fun q => nomatch q), fun _ => ws_next (ws_seq (ws_fld (we_var rfl (we_var rfl ⟨x, T.c_Path, [], [], rfl, T.y_Path.cl, T.n_Path_text, ho, by decide, ?_⟩))))⟩
  obtain ⟨c, hc, hc2⟩ := first_of (path_ne hp)
  refine ws_seq (ws_fld (we_op (we_op (we_var rfl (we_c (wo_ixS (le_line hz) hc (we_c ?_)))))))
  refine wo_eqS rfl ?_
  rw [bar_eq]
  refine we_var rfl ⟨x, T.c_Path, _, _, rfl, T.y_Path.cl, T.n_Path_rooted, putM_same, by decide, ?_⟩
  refine ws_fld (we_op (we_op (we_m1 (we_var rfl ⟨⟨_, rfl⟩, we_c (wm_split bar1 (split_line hz) (we_un (we_c (wu_neg ?_))))⟩))))
  rw [DT.split_eq]
  refine wo_ixL (d := strD (DT.lastP z)) (atI_last ?_) (we_tup (wa_cons (we_c (wa_cons (we_c (wa_cons (we_c (wa_nil ⟨by decide, ?_⟩))))))))
  · rw [List.getLast?_map, pieces_last]
    rfl
  refine wo_inT (xs := [.str "", .str ".", .str ".."]) rfl rfl (we_var rfl ⟨x, T.c_Path, _, _, rfl, T.y_Path.cl, T.n_Path_ended, putM_same, by decide, ?_⟩)
  have e : DT.rooted z = decide (c = 47) := by
    unfold DT.rooted
    rw [hc2]
    rw [Bool.eq_iff_iff]
    simp
  have h' := h
  unfold pV at h'
  rw [e] at h'
  simp only [putM_put]
  exact h'
theorem steps_rd {K : PySem.W.Frag} {F B : Hp} {ρ : DD.Env} {m : Mem} {z : Str} {Q : QD} {te : TE} (hz : z.length ≤ sz) (ht : ∀ Q', Q' (strD z) m → WE K F B te ρ m Q') (h1 : 1 < ρ.length) (h : Q (strsD (DT.steps z)) m) :
    WE K F B (tLc (iAny K (tM1 rSplit te (tC (.str "/")))) (gName 1) (tTest (tOp (rNeA K) (tVar 1) (tC (.str "")))) (tVar 1) [1]) ρ m Q := by
  refine we_lcFilter (wi_any (we_m1 (ht _ ⟨⟨_, rfl⟩, we_c (wm_split bar1 (split_line hz) ⟨_, rfl, fun d => (match d with | .s (.str p) => !decide (p = "") | _ => false), id, ?_, fun F' d hd => ?_, ?_⟩)⟩)))
  · rw [List.length_map, DT.split_eq]
    exact pieces_line hz
  · rw [DT.split_eq] at hd
    obtain ⟨p, hp, rfl⟩ := List.mem_map.mp hd
    have hg : ((wipeD ρ [1]).set 1 (some (strD p)))[1]? = some (some (strD p)) := by
      rw [List.getElem?_set_self]
      show 1 < ((wipeD ρ []).set 1 none).length
      rw [List.length_set]
      exact h1
    refine wgw_name List.mem_cons_self ⟨rfl, ?_⟩
    refine wt_test (we_op (we_var hg (we_c (wo_neS rfl ⟨_, rfl, ?_, rfl, fun q => we_var hg ⟨rfl, rfl⟩⟩))))
    show (!decide (V.str p = V.str "")) = !decide (p = "")
    congr 1
    rw [Bool.eq_iff_iff]
    simp
  · rw [DT.split_eq, List.map_id]
    have e : ((DT.pieces z).map fun y => D.s (.str y)).filter (fun d => (match d with | .s (.str p) => !decide (p = "") | _ => false)) = (DT.steps z).map strD := by
      unfold DT.steps
      rw [List.filter_map]
      rfl
    rw [e]
    exact h
theorem rd_Path_steps {K : PySem.W.Frag} {mg : Str → Option Value} (T : Txt K mg) (E : XK) : BodyOk K (φ_Path_steps T) N_Path_steps E (t_Path_steps T E) := by
  intro ds m nx X F B h hE
  obtain ⟨z, rfl, hz, h⟩ := h
  rw [st_Path_steps]
  unfold t_Path_steps
  exact ws_ret (steps_rd hz (fun Q' q => we_fld (we_var rfl ⟨T.c_Path, strD z, T.y_Path.cl, T.n_Path_text, ⟨rfl, rfl⟩, q⟩)) (by show 1 < 2; decide) h)
theorem rd_path_of {K : PySem.W.Frag} {mg : Str → Option Value} (T : Txt K mg) (E : XK) : BodyOk K (φ_path_of T) N_path_of E (t_path_of T E) := by
  intro ds m nx X F B h hE
  obtain ⟨st, rt, en, rfl, hs, hl, h⟩ := h
  rw [st_path_of]
  unfold t_path_of
  have hpath := DT.plain_path (rt := rt) (en := en) hs
  have hlen := DT.plain_len (rt := rt) (en := en) hs
  have hsz : (DT.plainT st rt en).length ≤ sz := by
    show _ ≤ 1000000
    omega
  refine ws_seq (ws_asg (we_m1 (we_c ⟨⟨_, rfl⟩, we_var rfl (wm_join (join_ok hs hl) ?_)⟩)))
  rw [join_mk]
  have hj9 := jn_len9 hs hl
  refine ws_seqI (fun ρ1 m1 => ρ1 = [some (strsD st), some (blD rt), some (blD en), some (strD (DT.mk (DT.bodyL st rt)))] ∧ m1 = m) ?_ ?_
  · refine ws_if (wt_B (we_var rfl ⟨_, rfl, fun q => ?_, fun q => ?_⟩))
    · subst q
      refine ws_asg (we_op (we_c (we_var rfl (wo_addS ?_ ⟨?_, rfl⟩))))
      · have hb : ("/" : Str).length = 1 := by decide +kernel
        rw [hb]
        exact le_line (by omega)
      · rw [bar_mk, mk_app]
        rfl
    · subst q
      exact ws_next ⟨rfl, rfl⟩
  rintro ρ1 m1 ⟨rfl, rfl⟩
  refine ws_seq (ws_if (wt_test (we_op (we_var rfl (we_c (wo_eqS rfl ⟨_, rfl, fun q => ?_, fun q => ?_⟩))))))
  · rw [eq_emp] at q
    have hb := DT.mk_eq_nil.mp (of_decide_eq_true q)
    refine ws_ret (make_path T (we_c ⟨_, rfl, by decide +kernel, by decide +kernel, ?_⟩))
    have e : DT.plainT st rt en = "." := by
      unfold DT.plainT DT.plainL
      rw [if_pos hb]
      exact dot_mk.symm
    rw [e] at h
    exact h
  · rw [eq_emp] at q
    have hb : DT.bodyL st rt ≠ [] := fun z => of_decide_eq_false q (DT.mk_eq_nil.mpr z)
    have hbl : (DT.mk (DT.bodyL st rt)).length ≤ 90001 := by
      rw [TL.len_tl] at hj9 ⊢
      show (DT.bodyL st rt).length ≤ _
      have hj9' : (DT.jn (st.map TL.tl)).length ≤ 90000 := hj9
      unfold DT.bodyL
      rw [List.length_append]
      have e1 : (if rt = true then [47] else []).length ≤ 1 := by split <;> decide
      omega
    have yes : (en = true ∧ DT.lastN st = true) → WO K F B (rAddA K) (strD (DT.mk (DT.bodyL st rt))) (.s (.str "/")) m1 fun d m2 => ∃ z, d = strD z ∧ DT.isPath z = true ∧ z.length ≤ sz ∧ nx (pathD T.c_Path z) m2 := fun hc => by
      have e : DT.plainT st rt en = DT.mk (DT.bodyL st rt) ++ "/" := by
        unfold DT.plainT DT.plainL
        rw [if_neg hb, if_pos hc, bar_mk, mk_app]
      rw [e] at h hpath hsz
      have hb1 : ("/" : Str).length = 1 := by decide +kernel
      exact wo_addS (le_line (by rw [hb1]; omega)) ⟨_, rfl, hpath, hsz, h⟩
    have no : ¬ (en = true ∧ DT.lastN st = true) → WE K F B (tVar 3) [some (strsD st), some (blD rt), some (blD en), some (strD (DT.mk (DT.bodyL st rt)))] m1 fun d m2 => ∃ z, d = strD z ∧ DT.isPath z = true ∧ z.length ≤ sz ∧ nx (pathD T.c_Path z) m2 := fun hc => by
      have e : DT.plainT st rt en = DT.mk (DT.bodyL st rt) := by
        unfold DT.plainT DT.plainL
        rw [if_neg hb, if_neg hc, List.append_nil]
      rw [e] at h hpath hsz
      exact we_var rfl ⟨_, rfl, hpath, hsz, h⟩
    refine ws_next (ws_ret (make_path T (we_if (wt_and (wt_B (we_var rfl ⟨_, rfl, fun q1 => ?_, fun q1 => ?_⟩))))))
    · refine wt_and (wt_test (we_op (we_var rfl (we_lst (wa_nil ⟨by decide, wo_neNilS (stepsOk hs) ⟨_, rfl, fun q2 => ?_, fun q2 => ?_⟩⟩)))))
      · have hne : st ≠ [] := by simpa using q2
        obtain ⟨x, hx, hxm⟩ := st_last hne
        refine wt_B (we_call okx0 (wa_cons (we_op (we_var rfl (we_un (we_c (wu_neg (wo_ixL (atI_last (last_strs hx)) (wa_nil ⟨_, rfl, .inl ⟨x, rfl, ?_, _, rfl, fun q3 => ?_, fun q3 => ?_⟩⟩)))))))))
        · have := DT.isStep_len (hs x hxm)
          show _ ≤ 1000000
          omega
        · exact we_op (we_var rfl (we_c (yes ⟨q1, by rw [lastN_get hx]; exact q3⟩)))
        · exact no fun z => by rw [lastN_get hx, q3] at z; cases z.2
      · have hne : st = [] := by simpa using q2
        exact ⟨(fun z => nomatch z), fun _ => no fun z => by rw [hne] at z; cases z.2⟩
    · exact ⟨(fun z => nomatch z), fun _ => no fun z => by rw [q1] at z; cases z.1⟩
theorem rd_Strikes___init__ {K : PySem.W.Frag} {mg : Str → Option Value} (T : Txt K mg) (E : XK) : BodyOk K (φ_Strikes___init__ T) N_Strikes___init__ E (t_Strikes___init__ T E) := by
  intro ds m nx X F B h hE
  obtain ⟨x, ws, y, rfl, hy, hw, ho, h⟩ := h
  rw [st_Strikes___init__]
  unfold t_Strikes___init__
  have hsq : seqD y = some (ws.map strD) := by rcases hy with rfl | rfl <;> rfl
  refine ws_seq (ws_if (wt_not (wt_B (we_cb (wa_cons (we_var rfl (wa_cons (we_tup (wa_cons (we_c (wa_cons (we_c (wa_nil ⟨by decide, wa_nil ?_⟩)))))))))))))
  have next : WS K F B tNext [some (.s (.ref x)), some y, none] m { nx := fun ρ1 m1 => WS K F B (tSeq (tFor (iAny K (tVar 1)) (gName 2) (tIfS (tOr (tNot (tB (tCB (rIsiA K) (tCons (tVar 2) (tCons (tC (.ty "str")) tNil))))) (tTest (tOp (rNInA K) (tVar 2) (tC (.ref T.a_WORDS))))) tNever tNext)) (sFld K (tVar 0) (tLc (iAny K (tC (.ref T.a_WORDS))) (gName 2) (tTest (tOp (rInA K) (tVar 2) (tVar 1))) (tVar 2) [2]) "held")) ρ1 m1 { nx := fun _ m' => nx (.s .non) m', rt := nx }, rt := nx } := by
    refine ws_next (ws_seqI (fun ρ1 m1 => (∃ z, ρ1 = [some (.s (.ref x)), some y, z]) ∧ m1 = m) ?_ ?_)
    · refine ws_for (wi_any (we_var rfl ⟨_, hsq, fun _ ρ1 m1 => (∃ z, ρ1 = [some (.s (.ref x)), some y, z]) ∧ m1 = m, ⟨⟨_, rfl⟩, rfl⟩, ?_, fun _ _ q => q⟩))
      rintro i d ρ1 m1 hd ⟨⟨z, rfl⟩, rfl⟩
      obtain ⟨w, hwm, rfl⟩ := List.mem_map.mp (List.mem_of_getElem? hd)
      refine wg_name (ws_if (wt_or (wt_not (wt_B (we_cb (wa_cons (we_var rfl (wa_cons (we_c (wa_nil ?_))))))))))
      refine wc_isi (.str w) rfl (kit_ty (by decide +kernel)) ⟨true, rfl, fun _ => ?_, fun q => nomatch q⟩
      refine wt_test (we_op (we_var rfl (we_cT T.q_WORDS (wo_ninT rfl rfl ⟨_, rfl, ?_, fun _ => ws_next ⟨⟨_, rfl⟩, rfl⟩⟩))))
      have e : inV (.str w) (wordsAll.map V.str) = true := by
        rw [inV_strs]
        exact decide_eq_true (hw w hwm)
      have e2 : (!inV (.str w) (wordsAll.map V.str)) = false := by rw [e]; rfl
      intro q
      exact absurd (e2.symm.trans q) (by decide)
    · rintro ρ1 m1 ⟨⟨z, rfl⟩, rfl⟩
      have hfl : ∀ v ∈ wordsAll, PyData.strOk v = true := by
        have : (wordsAll.all fun v => PyData.strOk v) = true := by decide +kernel
        exact fun v hv => List.all_eq_true.mp this v hv
      refine ws_fld (we_lcFilter (wi_any (we_cT T.q_WORDS ⟨_, rfl, fun d => (match d with | .s (.str v) => decide (v ∈ ws) | _ => false), id, by decide, fun F' d hd => ?_, ?_⟩)))
      · have hd' : d ∈ wordsAll.map strD := hd
        obtain ⟨v, hv, rfl⟩ := List.mem_map.mp hd'
        refine wgw_name List.mem_cons_self ⟨rfl, wt_test (we_op (we_var rfl (we_var rfl ?_)))⟩
        rcases hy with rfl | rfl
        · show WO K F' B (rInA K) (.s (.str v)) (.lst (ws.map strD)) m1 _
          rw [strs_scal]
          refine wo_inL rfl (flat_strs ws) ⟨_, rfl, ?_, rfl, fun q => we_var rfl ⟨rfl, rfl⟩⟩
          rw [inV_strs]
        · rw [strs_scal]
          refine wo_inT rfl (flat_strs ws) ⟨_, rfl, ?_, rfl, fun q => we_var rfl ⟨rfl, rfl⟩⟩
          rw [inV_strs]
      · refine we_var rfl ⟨x, T.c_Strikes, [], [], rfl, T.y_Strikes.cl, T.n_Strikes_held, ho, by decide, ?_⟩
        rw [List.map_id]
        have e : (([.str "dot", .str "up", .str "root up", .str "end bar"] : List V).map D.s).filter (fun d => (match d with | .s (.str v) => decide (v ∈ ws) | _ => false)) = (heldOf ws).map strD := by
          show (wordsAll.map strD).filter _ = _
          rw [List.filter_map]
          rfl
        rw [e]
        exact h
  rcases hy with rfl | rfl
  · exact wc_isiT (us := ["list", "tuple"].map Value.type) (.lst _) rfl (kit_any (by decide +kernel)) ⟨true, rfl, (fun q => nomatch q), fun _ => next⟩
  · exact wc_isiT (us := ["list", "tuple"].map Value.type) (.tup _) rfl (kit_any (by decide +kernel)) ⟨true, rfl, (fun q => nomatch q), fun _ => next⟩
theorem rd_Strikes___contains__ {K : PySem.W.Frag} {mg : Str → Option Value} (T : Txt K mg) (E : XK) : BodyOk K (φ_Strikes___contains__ T) N_Strikes___contains__ E (t_Strikes___contains__ T E) := by
  intro ds m nx X F B h hE
  obtain ⟨hs, d, rfl, h⟩ := h
  rw [st_Strikes___contains__]
  unfold t_Strikes___contains__
  refine ws_ret (we_andV (we_cb (wa_cons (we_var rfl (wa_cons (we_c (wa_nil ?_)))))))
  rcases h with ⟨z, rfl, h⟩ | ⟨⟨t, ht, hk⟩, h⟩
  · refine wc_isi (.str z) rfl (kit_ty (by decide +kernel)) ⟨true, rfl, (fun _ => ?_), fun q => nomatch q⟩
    refine we_op (we_var rfl (we_fld (we_var rfl ⟨T.c_Strikes, strsD hs, T.y_Strikes.cl, T.n_Strikes_held, ⟨rfl, rfl⟩, ?_⟩)))
    show WO K F B (rInA K) (.s (.str z)) (.lst (hs.map strD)) m nx
    rw [strs_scal]
    refine wo_inL rfl (flat_strs hs) ?_
    rw [inV_strs]
    exact h
  · exact wc_isi ht rfl hk ⟨false, rfl, (fun q => nomatch q), fun _ => h⟩
theorem rd_Strikes_words {K : PySem.W.Frag} {mg : Str → Option Value} (T : Txt K mg) (E : XK) : BodyOk K (φ_Strikes_words T) N_Strikes_words E (t_Strikes_words T E) := by
  intro ds m nx X F B h hE
  obtain ⟨hs, rfl, h⟩ := h
  rw [st_Strikes_words]
  unfold t_Strikes_words
  exact ws_ret (we_cb (wa_cons (we_fld (we_var rfl ⟨T.c_Strikes, strsD hs, T.y_Strikes.cl, T.n_Strikes_held, ⟨rfl, rfl⟩, wa_nil (wc_listL h)⟩))))
theorem rd_tidied {K : PySem.W.Frag} {mg : Str → Option Value} (T : Txt K mg) (E : XK) : BodyOk K (φ_tidied T) N_tidied E (t_tidied T E) := by
  intro ds m nx X F B h hE
  obtain ⟨z, hs, rfl, hp, hz, h⟩ := h
  rw [st_tidied]
  unfold t_tidied
  have hsz : z.length ≤ sz := by
    show _ ≤ 1000000
    omega
  have hcount := steps_count hz
  have hst := DT.steps_isStep hp
  have inW : ∀ (w : Str) (ρ : DD.Env) (m1 : Mem) (Q : QD), ρ[1]? = some (some (strkD T.c_Strikes hs)) → Q (blD (hasW w hs)) m1 → WE K F B (tOp (HO1.rInO T.c_Strikes (spOf K (φ_Strikes___contains__ T)) E0 false) (tC (.str w)) (tVar 1)) ρ m1 Q := fun w ρ m1 Q hr q => we_op (we_c (we_var hr (wo_inO okx0 rfl ⟨hs, _, rfl, .inl ⟨w, rfl, _, rfl, q⟩⟩)))
  have ninW : ∀ (w : Str) (ρ : DD.Env) (m1 : Mem) (Q : QD), ρ[1]? = some (some (strkD T.c_Strikes hs)) → Q (blD (!(hasW w hs))) m1 → WE K F B (tOp (HO1.rInO T.c_Strikes (spOf K (φ_Strikes___contains__ T)) E0 true) (tC (.str w)) (tVar 1)) ρ m1 Q := fun w ρ m1 Q hr q => we_op (we_c (we_var hr (wo_inO okx0 rfl ⟨hs, _, rfl, .inl ⟨w, rfl, _, rfl, q⟩⟩)))
  refine ws_seq (ws_asg (we_lstO (wa_nil ⟨by decide, fun a ha => ?_⟩)))
  generalize hd : hasW "dot" hs = bd
  generalize hu : hasW "up" hs = bu
  generalize hr : hasW "root up" hs = br
  have hrt := T.n_Path_rooted
  refine ws_seq (ws_for (wi_any (we_meth okx0 (we_var rfl ⟨⟨rfl, by decide +kernel⟩, wa_nil ⟨z, rfl, hsz, _, rfl, fun i ρ1 m1 => (∃ y, ρ1 = [some (pathD T.c_Path z), some (strkD T.c_Strikes hs), some (.s (.ref a)), y]) ∧ m1 = { m with own := putM m.own a (.lst ((DT.tidyS bd bu (br && DT.rooted z) ((DT.steps z).take i)).map strD)) }, ?_, ?_, ?_⟩⟩))))
  · exact ⟨⟨none, rfl⟩, rfl⟩
  · rintro i d ρ1 m1 hdd ⟨⟨y, rfl⟩, rfl⟩
    rw [List.getElem?_map] at hdd
    cases hv : (DT.steps z)[i]? with
    | none =>
      rw [hv] at hdd
      cases hdd
    | some s =>
      rw [hv] at hdd
      cases hdd
      have hsm := hst s (List.mem_of_getElem? hv)
      have eT : DT.tidyS bd bu (br && DT.rooted z) ((DT.steps z).take (i + 1)) = DT.lay bd bu (br && DT.rooted z) (DT.tidyS bd bu (br && DT.rooted z) ((DT.steps z).take i)) s := by
        rw [List.take_add_one, hv]
        exact DT.tidy_snoc _ _
      simp only [eT]
      have hin : ∀ x ∈ DT.tidyS bd bu (br && DT.rooted z) ((DT.steps z).take i), DT.isStep x := DT.tidy_mem fun x hx => hst x (List.take_subset _ _ hx)
      have hln : (DT.tidyS bd bu (br && DT.rooted z) ((DT.steps z).take i)).length ≤ 9001 := by
        have := DT.tidy_len (d := bd) (u := bu) (r := br && DT.rooted z) ((DT.steps z).take i)
        rw [List.length_take] at this
        omega
      generalize DT.tidyS bd bu (br && DT.rooted z) ((DT.steps z).take i) = st at hin hln ⊢
      have emp : ∀ (m1 : Mem) (ρ : DD.Env) (Q : QD), ρ[2]? = some (some (.s (.ref a))) → m1.own a = some (.lst (st.map strD)) → Q (blD (!decide (st = []))) m1 → WE K F B (tOp (rNeA K) (tVar 2) (tLst tNil)) ρ m1 Q := fun m1 ρ Q h1 h2 q => we_op (we_var h1 (we_lst (wa_nil ⟨by decide, wo_neNilOS h2 (stepsOk hin) q⟩)))
      refine wg_name (ws_seqI (fun ρ1 m1 => ρ1 = [some (pathD T.c_Path z), some (strkD T.c_Strikes hs), some (.s (.ref a)), some (strD s)] ∧ m1 = { m with own := putM m.own a (.lst (st.map strD)) } ∧ ¬ (s = "." ∧ bd = true)) ?_ ?_)
      · refine ws_if (wt_and (wt_test (we_op (we_var rfl (we_c (wo_eqS rfl ⟨_, rfl, fun q => ?_, fun q => ?_⟩))))))
        · refine wt_test (inW "dot" _ _ _ rfl ⟨_, rfl, fun q2 => ?_, fun q2 => ?_⟩)
          · refine ws_cont ⟨⟨_, rfl⟩, ?_⟩
            have e : s = "." := by simpa using q
            unfold DT.lay
            rw [if_pos ⟨e, hd ▸ q2⟩]
          · exact ws_next ⟨rfl, rfl, fun w => by rw [← hd, q2] at w; cases w.2⟩
        · exact ⟨(fun w => nomatch w), fun _ => ws_next ⟨rfl, rfl, fun w => by rw [w.1] at q; exact absurd q (by decide)⟩⟩
      rintro ρ1 m1 ⟨rfl, rfl, n1⟩
      -- a step is laid down
      have last : ∀ {m1 : Mem} {E' : DE}, (∀ ρ1 m1, ((∃ y, ρ1 = [some (pathD T.c_Path z), some (strkD T.c_Strikes hs), some (.s (.ref a)), y]) ∧ m1 = { m with own := putM m.own a (.lst ((DT.lay bd bu (br && DT.rooted z) st s).map strD)) }) → E'.nx ρ1 m1) → m1 = { m with own := putM m.own a (.lst (st.map strD)) } → ¬ (s = ".." ∧ bu = true ∧ DT.lastN st = true) → WS K F B (tIfS (tOr (tTest (tOp (rNeA K) (tVar 3) (tC (.str "..")))) (tOr (tTest (tOp (HO1.rInO T.c_Strikes (spOf K (φ_Strikes___contains__ T)) E0 true) (tC (.str "root up")) (tVar 1))) (tOr (tNot (tB (tFld K (tVar 0) "rooted"))) (tTest (tOp (rNeA K) (tVar 2) (tLst tNil)))))) (tDrop (tBM K "list" rAppend (tVar 2) (tCons (tVar 3) tNil))) tNext) [some (pathD T.c_Path z), some (strkD T.c_Strikes hs), some (.s (.ref a)), some (strD s)] m1 E' := fun {m1 E'} hE' em n2 => by
        subst em
        have app : ¬ (s = ".." ∧ (br && DT.rooted z) = true ∧ st = []) → WS K F B (tDrop (tBM K "list" rAppend (tVar 2) (tCons (tVar 3) tNil))) [some (pathD T.c_Path z), some (strkD T.c_Strikes hs), some (.s (.ref a)), some (strD s)] { m with own := putM m.own a (.lst (st.map strD)) } E' := fun n3 => by
          refine ws_drop (we_append (we_var rfl ⟨a, rfl, ⟨_, putM_same⟩, we_var rfl ⟨_, putM_same, by rw [List.length_map]; exact lt_line (by omega), hE' _ _ ⟨⟨_, rfl⟩, ?_⟩⟩⟩))
          unfold DT.lay
          rw [if_neg n1, if_neg n2, if_neg n3, List.map_append]
          show (⟨m.cnt, putM (putM m.own a (.lst (st.map strD))) a (.lst (st.map strD ++ [strD s]))⟩ : Mem) = _
          rw [putM_put]
          rfl
        refine ws_if (wt_or (wt_test (we_op (we_var rfl (we_c (wo_neS rfl ⟨_, rfl, fun q => ?_, fun q => ?_⟩))))))
        · have es : s = ".." := by simpa using q
          refine wt_or (wt_test (ninW "root up" _ _ _ rfl ⟨_, rfl, fun q2 => ?_, fun q2 => ?_⟩))
          · have eb : br = true := by rw [← hr]; simpa using q2
            refine wt_or (wt_not (wt_B (we_fld (we_var rfl ⟨T.c_Path, blD (DT.rooted z), T.y_Path.cl, T.n_Path_rooted, ⟨rfl, rfl⟩, _, rfl, fun q3 => ?_, fun q3 => ?_⟩))))
            · have er : DT.rooted z = true := by simpa using q3
              refine wt_test (emp _ _ _ rfl putM_same ⟨_, rfl, fun q4 => ?_, fun q4 => ?_⟩)
              · exact app fun w => by rw [w.2.2] at q4; cases q4
              · have e0 : st = [] := by simpa using q4
                refine ws_next (hE' _ _ ⟨⟨_, rfl⟩, ?_⟩)
                unfold DT.lay
                rw [if_neg n1, if_neg n2, if_pos ⟨es, by rw [eb, er]; rfl, e0⟩]
            · have er : DT.rooted z = false := by simpa using q3
              exact ⟨fun _ => app fun w => (by rw [er, Bool.and_false] at w; cases w.2.1), fun w => nomatch w⟩
          · have eb : br = false := by rw [← hr]; simpa using q2
            exact ⟨fun _ => app fun w => (by rw [eb] at w; cases w.2.1), fun w => nomatch w⟩
        · have es : s ≠ ".." := by simpa using q
          exact ⟨fun _ => app fun w => es w.1, fun w => nomatch w⟩
      refine ws_if (wt_and (wt_test (we_op (we_var rfl (we_c (wo_eqS rfl ⟨_, rfl, fun q => ?_, fun q => ?_⟩))))))
      · have es : s = ".." := by simpa using q
        refine wt_and (wt_test (inW "up" _ _ _ rfl ⟨_, rfl, fun q2 => ?_, fun q2 => ?_⟩))
        · refine wt_and (wt_test (emp _ _ _ rfl putM_same ⟨_, rfl, fun q3 => ?_, fun q3 => ?_⟩))
          · have hne : st ≠ [] := by simpa using q3
            obtain ⟨x, hx, hxm⟩ := st_last hne
            refine wt_B (we_call okx0 (wa_cons (we_op (we_var rfl (we_un (we_c (wu_neg (wo_ixO putM_same (atI_last (last_strs hx)) (wa_nil ⟨_, rfl, .inl ⟨x, rfl, ?_, _, rfl, fun q4 => ?_, fun q4 => ?_⟩⟩)))))))))
            · have := DT.isStep_len (hin x hxm)
              show _ ≤ 1000000
              omega
            · have ed := List.dropLast_concat_getLast hne
              refine ws_drop (we_pop (we_var rfl ⟨a, st.dropLast.map strD, strD (st.getLast hne), rfl, ?_, ⟨_, rfl⟩, ?_⟩))
              · show putM m.own a (.lst (st.map strD)) a = _
                rw [putM_same]
                have : st.map strD = st.dropLast.map strD ++ [strD (st.getLast hne)] := by
                  conv => lhs; rw [← ed]
                  rw [List.map_append]
                  rfl
                rw [this]
              · show (⟨m.cnt, putM (putM m.own a (.lst (st.map strD))) a (.lst (st.dropLast.map strD))⟩ : Mem) = _
                unfold DT.lay
                rw [putM_put, if_neg n1, if_pos ⟨es, hu ▸ q2, by rw [lastN_get hx]; exact q4⟩]
            · refine last (fun _ _ q => q) rfl fun w => ?_
              exact absurd w.2.2 (by rw [lastN_get hx, q4]; decide)
          · have hne : st = [] := by simpa using q3
            refine ⟨(fun w => nomatch w), fun _ => last (fun _ _ q => q) rfl fun w => ?_⟩
            exact absurd w.2.2 (by rw [hne]; decide)
        · refine ⟨(fun w => nomatch w), fun _ => last (fun _ _ q => q) rfl fun w => ?_⟩
          rw [← hu, q2] at w
          cases w.2.1
      · have es : s ≠ ".." := by simpa using q
        exact ⟨(fun w => nomatch w), fun _ => last (fun _ _ q => q) rfl fun w => es w.1⟩
  · rintro ρ1 m1 ⟨⟨y, rfl⟩, rfl⟩
    rw [List.length_map, List.take_length]
    have hin := DT.tidy_mem (d := bd) (u := bu) (r := br && DT.rooted z) hst
    have hln := DT.tidy_len (d := bd) (u := bu) (r := br && DT.rooted z) (DT.steps z)
    refine ws_ret (we_callN okx0 (wa_cons (we_freeze (we_var rfl ⟨a, _, rfl, putM_same, wa_nil (wa_cons (we_fld (we_var rfl ⟨T.c_Path, blD (DT.rooted z), T.y_Path.cl, T.n_Path_rooted, ⟨rfl, rfl⟩, wa_cons (we_andV (we_fld (we_var rfl ⟨T.c_Path, blD (DT.ended z), T.y_Path.cl, T.n_Path_ended, ⟨rfl, rfl⟩, _, rfl, fun q => ?_, fun q => ?_⟩)))⟩)))⟩))))
    · refine ninW "end bar" _ _ _ rfl (wa_nil ⟨rfl, rfl, _, _, _, rfl, hin, by omega, ?_⟩)
      unfold tidiedT at h
      rw [hd, hu, hr, q, Bool.true_and] at h
      rw [dropM_put ha]
      exact h
    · refine wa_nil ⟨rfl, rfl, _, _, _, rfl, hin, by omega, ?_⟩
      unfold tidiedT at h
      rw [hd, hu, hr, q, Bool.false_and] at h
      rw [dropM_put ha]
      exact h
theorem rd_place_of {K : PySem.W.Frag} {mg : Str → Option Value} (T : Txt K mg) (E : XK) : BodyOk K (φ_place_of T) N_place_of E (t_place_of T E) := by
  intro ds m nx X F B h hE
  obtain ⟨d, ns, rfl, hd, hl, hn, h⟩ := h
  rw [st_place_of]
  unfold t_place_of
  refine ws_seq (ws_if (wt_or (wt_not (wt_B (we_cb (wa_cons (we_var rfl (wa_cons (we_tup (wa_cons (we_c (wa_cons (we_c (wa_nil ⟨len2 _ _, wa_nil ?_⟩))))))))))))))
  refine wc_isiT (us := ["list", "tuple"].map Value.type) (txt_ty hd) rfl k_lt ⟨true, rfl, fun _ => ?_, (fun q => nomatch q)⟩
  refine wt_not (wt_B (we_cb (wa_cons ?_)))
  refine we_lcMap (wi_any (we_var rfl ⟨_, hd.seq, fun _ => blD true, ?_, fun F' d hd => ?_, ?_⟩))
  · rw [List.length_map, List.length_map]
    exact le_line (Nat.le_trans hl (by decide))
  · rw [List.map_map] at hd
    obtain ⟨n, hn', rfl⟩ := List.mem_map.mp hd
    refine wgw_name List.mem_cons_self ⟨rfl, ?_⟩
    refine we_call okx0 (wa_cons (we_var rfl (wa_nil ⟨_, rfl, .inl ⟨n, rfl, name_sz (hn n hn'), ?_, rfl⟩⟩)))
    rw [hn n hn']
  · refine wa_nil ?_
    have e1 : ((ns.map V.str).map D.s).map (fun _ => blD true) = (ns.map fun _ => true).map fun b => .s (.bl b) := by
      rw [List.map_map, List.map_map, List.map_map]
      rfl
    rw [e1]
    refine wc_all ?_
    have e2 : (ns.map fun _ => true).all id = true := by simp
    rw [e2]
    exact ⟨_, rfl, (fun q => nomatch q), fun _ => ws_next (ws_ret (we_cb (wa_cons (we_var rfl (wa_nil (wc_tupTx hd h))))))⟩
theorem rd_Walk___init__ {K : PySem.W.Frag} {mg : Str → Option Value} (T : Txt K mg) (E : XK) : BodyOk K (φ_Walk___init__ T) N_Walk___init__ E (t_Walk___init__ T E) := by
  intro ds m nx X F B h hE
  obtain ⟨w, t, rfl, hw, h⟩ := h
  rw [st_Walk___init__]
  unfold t_Walk___init__
  refine ws_seq (ws_fld (we_var rfl (we_var rfl ⟨w, T.c_Walk, [], [], rfl, T.y_Walk.cl, T.n_Walk_tree, hw, by decide, ?_⟩)))
  refine ws_seq (ws_fld (we_lstO (wa_nil ⟨le_line (by show 0 ≤ 1000000; decide), fun sa hsa => ?_⟩)))
  have n1 : w ≠ sa := fun z => by
    rw [← z, show ({ m with own := putM m.own w _ } : Mem).own w = _ from putM_same] at hsa
    cases hsa
  have s0 : m.own sa = none := by
    rw [show ({ m with own := putM m.own w _ } : Mem).own sa = _ from putM_ne (Ne.symm n1)] at hsa
    exact hsa
  refine we_var rfl ⟨w, T.c_Walk, _, _, rfl, T.y_Walk.cl, T.n_Walk_sought, (putM_ne n1).trans putM_same, by decide, ?_⟩
  refine ws_seq (ws_fld (we_dnewTO fun oa hoa => ?_))
  have n2 : w ≠ oa := fun z => by
    rw [← z] at hoa
    exact nomatch (putM_same.symm.trans hoa)
  have o1 : putM (putM m.own w (.ins T.c_Walk (putN "tree" []) (putE "tree" (.s (.ref t)) [] []))) sa (.lst []) oa = none := (putM_ne (Ne.symm n2)).symm.trans hoa
  have n3 : sa ≠ oa := fun z => by
    rw [← z] at o1
    exact nomatch (putM_same.symm.trans o1)
  have o0 : m.own oa = none := (putM_ne (Ne.symm n2)).symm.trans ((putM_ne (Ne.symm n3)).symm.trans o1)
  refine we_var rfl ⟨w, T.c_Walk, _, _, rfl, T.y_Walk.cl, T.n_Walk_outcomes, (putM_ne n2).trans putM_same, by decide, ?_⟩
  refine ws_seq (ws_fld (we_c (we_var rfl ⟨w, T.c_Walk, _, _, rfl, T.y_Walk.cl, T.n_Walk_word, putM_same, by decide, ?_⟩)))
  refine ws_fld (we_c (we_var rfl ⟨w, T.c_Walk, _, _, rfl, T.y_Walk.cl, T.n_Walk_done, putM_same, by decide, ?_⟩))
  have fr : FreeW { m with own := dropM m.own w } w sa oa := ⟨dropM_same, (dropM_ne (Ne.symm n1)).trans s0, (dropM_ne (Ne.symm n2)).trans o0, n1, n2, n3⟩
  have h' := h sa oa fr
  have e : mW T.c_Walk { m with own := dropM m.own w } t w sa oa [] [] ⟨[], [], none, 0⟩ = { m with own := putM (putM (putM (putM (putM (putM (putM m.own w (.ins T.c_Walk ["tree"] [.s (.ref t)])) sa (.lst [])) w (.ins T.c_Walk ["tree", "sought"] [.s (.ref t), .s (.ref sa)])) oa (.dT [] [])) w (.ins T.c_Walk ["tree", "sought", "outcomes"] [.s (.ref t), .s (.ref sa), .s (.ref oa)])) w (.ins T.c_Walk ["tree", "sought", "outcomes", "word"] [.s (.ref t), .s (.ref sa), .s (.ref oa), .s .non])) w (wI T.c_Walk t sa oa ⟨[], [], none, 0⟩) } := by
    unfold mW
    congr 1
    funext b
    simp only [putM_put]
    unfold putM dropM
    by_cases b1 : b = w
    · simp [b1]
    · by_cases b2 : b = oa
      · simp [b1, b2, Ne.symm n2]
      · by_cases b3 : b = sa
        · simp [b1, b2, b3, Ne.symm n1, n3]
        · simp [b1, b2, b3]
  rw [e] at h'
  exact h'
theorem keeps_rd {K : PySem.W.Frag} {mg : Str → Option Value} (T : Txt K mg) {F B : Hp} {ρ : DD.Env} {m : Mem} {p : Str} {kp : Bool} {i : Nat} {Q : QD} (h1 : ρ[1]? = some (some (pathD T.c_Path p))) (h3 : ρ[3]? = some (some (blD kp))) (h6 : ρ[6]? = some (some (strsD (DT.steps p)))) (h7 : ρ[7]? = some (some (intD i))) (h : Q (blD (keepAt p kp i)) m) :
    WE K F B (tAndV (tVar 3) (tAndV (tNotV (tFld K (tVar 1) "ended")) (tOp (rEqA K) (tVar 7) (tOp rSubI (tCB (rLenA K) (tCons (tVar 6) tNil)) (tC (.int 1)))))) ρ m Q := by
  unfold keepAt at h
  refine we_andV (we_var h3 ⟨kp, rfl, fun e => ?_, fun e => ?_⟩)
  · rw [e, Bool.true_and] at h
    refine we_andV (we_notV (we_fld (we_var h1 ⟨T.c_Path, blD (DT.ended p), T.y_Path.cl, T.n_Path_ended, ⟨rfl, rfl⟩, DT.ended p, rfl, !DT.ended p, rfl, fun e2 => ?_, fun e2 => ?_⟩)))
    · rw [e2, Bool.true_and] at h
      refine we_op (we_var h7 (we_op (we_cb (wa_cons (we_var h6 (wa_nil (wc_len (n := (DT.steps p).length) (by show _ = _; exact (List.length_map _).symm) (we_c (wo_I0 (wo_eqS rfl ?_))))))))))
      have e3 : decide (V.int (i : Int) = V.int (((DT.steps p).length : Int) - 1)) = decide (i + 1 = (DT.steps p).length) := by
        rw [Bool.eq_iff_iff]
        simp only [decide_eq_true_eq]
        exact ⟨fun z => by injection z with z; omega, fun z => by congr 1; omega⟩
      rw [e3]
      exact h
    · rw [e2, Bool.false_and] at h
      exact h
  · rw [e, Bool.false_and, Bool.false_and] at h
    exact h
theorem rd_Walk_goes {K : PySem.W.Frag} {mg : Str → Option Value} (T : Txt K mg) (n : Nat) (E : XK) : BodyOk K (φ_Walk_goes T (n + 1)) N_Walk_goes E (t_Walk_goes T n E) := by
  intro ds m nx X F B h hE
  obtain ⟨U, m0, t, w, sa, oa, tr, sds, ods, od, opn, s, p, hd, here, kp, rfl, ⟨rfl, fr, ht, ok, oks, so, ou, op, opk, dis⟩, hpo, hh, ho, h⟩ := h
  rw [st_Walk_goes]
  unfold t_Walk_goes
  obtain ⟨hpp, hpl, hps⟩ := hpo
  have hsz : p.length ≤ sz := Nat.le_trans hpl (by decide)
  have hlen : (DT.steps p).length ≤ 1001 := by
    unfold DT.steps
    have a1 := List.length_filter_le (fun p : Str => !decide (p = "")) (DT.pieces p)
    have a2 := pieces_len p
    omega
  unfold goesM goesB at h
  obtain ⟨st0', hst0⟩ : ∃ x : Place, (if DT.rooted p = true then [] else here) = x := ⟨_, rfl⟩
  rw [hst0] at h
  have ho0 : HereOk tr st0' := by
    rw [← hst0]
    split
    · exact HereOk.root ok
    · exact ho
  obtain ⟨R, hR⟩ : ∃ R, goesL (fun h st kp s => stepM tr (folM tr n) h st kp opn s) (keepAt p kp) 0 (DT.steps p) st0' s = R := ⟨_, rfl⟩
  rw [hR] at h
  have hstart : WE K F B (tIf (tB (tFld K (tVar 1) "rooted")) (tTup tNil) (tVar 2)) [some (.s (.ref w)), some (pathD T.c_Path p), some hd, some (blD kp), some (.tup od), none, none, none, none, none] (mW T.c_Walk m0 t w sa oa sds ods s) fun d m' => m' = mW T.c_Walk m0 t w sa oa sds ods s ∧ TxT d st0' := by
    refine we_if (wt_B (we_fld (we_var rfl ⟨T.c_Path, blD (DT.rooted p), T.y_Path.cl, T.n_Path_rooted, ⟨rfl, rfl⟩, DT.rooted p, rfl, fun q => ?_, fun q => ?_⟩)))
    · rw [if_pos q] at hst0
      exact we_tupP (wa_nil ⟨[], rfl, len0, rfl, by rw [← hst0]; exact .inl rfl⟩)
    · rw [if_neg (by rw [q]; decide)] at hst0
      exact we_var rfl ⟨rfl, by rw [← hst0]; exact hh⟩
  refine ws_seq (ws_par (wa_cons (we_imp hstart fun d0 m' ⟨em, hd0⟩ => ?_)))
  subst em
  refine wa_cons (we_meth okx0 (we_var rfl ⟨⟨rfl, by decide⟩, wa_nil ⟨p, rfl, hsz, wa_nil ⟨d0, strsD (DT.steps p), rfl, ?_⟩⟩⟩))
  refine ws_seq (ws_for (wi_enum (wa_cons (we_var rfl (wa_nil ⟨_, rfl, fun i ρ2 m2 => ∃ (hd2 : D) (h2 : Place) (x7 x8 x9 : Option D) (sds2 ods2 : List D) (s2 : WSt), ρ2 = [some (.s (.ref w)), some (pathD T.c_Path p), some hd, some (blD kp), some (.tup od), some hd2, some (strsD (DT.steps p)), x7, x8, x9] ∧ m2 = mW T.c_Walk m0 t w sa oa sds2 ods2 s2 ∧ TxT hd2 h2 ∧ HereOk tr h2 ∧ PlL sds2 s2.sought ∧ OutL ods2 s2.outs ∧ OkS U tr s2 ∧ (∀ o ∈ s2.outs, o.1 ∉ opn) ∧ goesL (fun h st kp s => stepM tr (folM tr n) h st kp opn s) (keepAt p kp) i ((DT.steps p).drop i) h2 s2 = R, ?_, ?_, ?_⟩)))))
  · exact ⟨d0, st0', none, none, none, sds, ods, s, rfl, rfl, hd0, ho0, so, ou, oks, dis, hR⟩
  · rintro i d ρ2 m2 hdi ⟨hd2, h2, x7, x8, x9, sds2, ods2, s2, rfl, rfl, hh2, ho2, so2, ou2, oks2, dis2, hR2⟩
    obtain ⟨u, hu, rfl⟩ := enumD_get hdi
    rw [List.getElem?_map] at hu
    cases hv : (DT.steps p)[i]? with
    | none =>
      rw [hv] at hu
      cases hu
    | some st =>
      rw [hv] at hu
      cases hu
      have hst : st = "." ∨ st = ".." ∨ st ∈ U := hps st (List.mem_of_getElem? hv)
      have hdrop : (DT.steps p).drop i = st :: (DT.steps p).drop (i + 1) := by
        obtain ⟨hi, e⟩ := List.getElem?_eq_some_iff.mp hv
        rw [List.drop_eq_getElem_cons hi, e]
      rw [hdrop] at hR2
      refine wg_tup rfl (wgs_cons (wg_name (wgs_cons (wg_name (wgs_nil ?_)))))
      refine ws_seq (ws_asg (keeps_rd T (i := i) rfl rfl rfl (by show some (some (intD ((0 + i : Nat) : Int))) = _; rw [Nat.zero_add]) ?_))
      refine ws_seq (ws_asg (we_meth okx0 (we_var rfl ⟨⟨wN, _, mW_w, by decide⟩, wa_cons (we_var rfl (wa_cons (we_var rfl (wa_cons (we_var rfl (wa_cons (we_var rfl (wa_nil ⟨U, m0, t, w, sa, oa, tr, sds2, ods2, od, opn, s2, st, hd2, h2, keepAt p kp i, rfl, ⟨rfl, fr, ht, ok, oks2, so2, ou2, op, opk, dis2⟩, hst, hh2, ho2, fun d sds3 ods3 a1 a2 a3 a4 a5 a6 => ?_⟩))))))))⟩)))
      have hR3 : (match stepM tr (folM tr n) h2 st (keepAt p kp i) opn s2 with | (none, s') => (none, { s' with done := i }) | (some h, s') => goesL (fun h st kp s => stepM tr (folM tr n) h st kp opn s) (keepAt p kp) (i + 1) ((DT.steps p).drop (i + 1)) h s') = R := hR2
      generalize stepM tr (folM tr n) h2 st (keepAt p kp i) opn s2 = g at hR3 a1 a2 a3 a4 a5 a6 ⊢
      obtain ⟨ge, gs⟩ := g
      cases ge with
      | none =>
        have ed : d = nonD := a1
        subst ed
        have hR4 : ((none, { gs with done := i }) : Option Place × WSt) = R := hR3
        rw [← hR4] at h
        refine ws_if (wt_test (we_op (we_var rfl (we_c (wo_isN ⟨_, rfl, fun _ => ?_, fun q => nomatch q⟩)))))
        exact ws_seq (ws_done T i rfl (by show some (some (intD ((0 + i : Nat) : Int))) = _; rw [Nat.zero_add]) (ws_ret (we_c (h nonD sds3 ods3 rfl (fun p z => nomatch z) a3 a4 (a5.w _ _) a6))))
      | some pl =>
        have ed : TxT d pl := a1
        refine ws_if (wt_test (we_op (we_var rfl (we_c (wo_isTh ed.th ⟨_, rfl, (fun q => nomatch q), fun _ => ws_next ?_⟩)))))
        exact ⟨d, pl, _, _, _, sds3, ods3, gs, rfl, rfl, ed, a2 pl rfl, a3, a4, a5, a6, hR3⟩
  · rintro ρ2 m2 ⟨hd2, h2, x7, x8, x9, sds2, ods2, s2, rfl, rfl, hh2, ho2, so2, ou2, oks2, dis2, hR2⟩
    rw [enumD_length, List.length_map, List.drop_length] at hR2
    have hR3 : ((some h2, s2) : Option Place × WSt) = R := hR2
    rw [← hR3] at h
    obtain ⟨hl2, hn2⟩ := ho2.names ok
    have hgo : goesE tr p (some h2, s2) = if DT.ended p = true ∧ kindT tr h2 ≠ some "folder" then (none, { s2 with word := some "file", done := (DT.steps p).length }) else (some h2, s2) := rfl
    rw [hgo] at h
    have hplain : ∀ (hc : ¬ (DT.ended p = true ∧ kindT tr h2 ≠ some "folder")), WS K F B (tRet (tVar 5)) [some (.s (.ref w)), some (pathD T.c_Path p), some hd, some (blD kp), some (.tup od), some hd2, some (strsD (DT.steps p)), x7, x8, x9] (mW T.c_Walk m0 t w sa oa sds2 ods2 s2) { nx := fun _ m' => nx nonD m', rt := nx } := fun hc => by
      rw [if_neg hc] at h
      exact ws_ret (we_var rfl (h hd2 sds2 ods2 hh2 (fun p z => by cases z; exact ho2) so2 ou2 oks2 dis2))
    refine ws_seq (ws_if (wt_and (wt_B (we_fld (we_var rfl ⟨T.c_Path, blD (DT.ended p), T.y_Path.cl, T.n_Path_ended, ⟨rfl, rfl⟩, DT.ended p, rfl, fun q => ?_, fun q => ⟨fun z => (nomatch z), fun _ => ws_next (hplain fun z => by rw [q] at z; exact nomatch z.1)⟩⟩)))))
    refine wt_test (we_op (kind_of T rfl rfl fr ht hh2 (Nat.le_trans hl2 (by decide)) hn2 (we_c (wo_neS (word_scal _ _) ⟨_, rfl, fun q2 => ?_, fun q2 => ws_next (hplain fun z => ?_)⟩))))
    · rw [word_ne] at q2
      have hk : kindT tr h2 ≠ some "folder" := by simpa using q2
      rw [if_pos ⟨q, hk⟩] at h
      refine ws_seq (ws_asgG (we_tup (wa_cons (we_c (wa_cons (we_cb (wa_cons (we_var rfl (wa_nil (wc_len (n := (DT.steps p).length) (by show _ = _; exact (List.length_map _).symm) (wa_nil ⟨len2 _ _, ?_⟩)))))))))))
      refine wg_tup rfl (wgs_cons (wg_fld (we_var rfl ⟨w, T.c_Walk, wN, _, rfl, mW_w, T.y_Walk.cl, T.n_Walk_word, by decide, wgs_cons (wg_fld (we_var rfl ⟨w, T.c_Walk, _, _, rfl, putM_same, T.y_Walk.cl, T.n_Walk_done, by decide, wgs_nil ?_⟩))⟩)))
      have hh : nx nonD (mW T.c_Walk m0 t w sa oa sds2 ods2 { s2 with word := some "file", done := (DT.steps p).length }) := h nonD sds2 ods2 rfl (fun p z => nomatch z) so2 ou2 (oks2.w _ _) dis2
      rw [← mW_set (s := s2) (s' := { s2 with word := some "file", done := (DT.steps p).length }) rfl] at hh
      refine ws_ret (we_c ?_)
      simp only [putM_put]
      exact hh
    · rw [word_ne] at q2
      have hk : kindT tr h2 = some "folder" := by simpa using q2
      exact z.2 hk
theorem rd_Walk_stepped {K : PySem.W.Frag} {mg : Str → Option Value} (T : Txt K mg) (n : Nat) (E : XK) : BodyOk K (φ_Walk_stepped T n) N_Walk_stepped E (t_Walk_stepped T n E) := by
  intro ds m nx X F B h hE
  obtain ⟨U, m0, t, w, sa, oa, tr, sds, ods, od, opn, s, st, hd, here, kp, rfl, ⟨rfl, fr, ht, ok, oks, so, ou, op, opk, dis⟩, hst, hh, ho, h⟩ := h
  rw [st_Walk_stepped]
  unfold t_Walk_stepped
  obtain ⟨hl, hn⟩ := ho.names ok
  refine ws_seq (ws_if (wt_test (we_op (kind_of T rfl rfl fr ht hh (Nat.le_trans hl (by decide)) hn (we_c (wo_neS (word_scal _ _) ⟨_, rfl, fun q => ?_, fun q => ws_next ?_⟩))))))
  · rw [word_ne] at q
    have hk : kindT tr here ≠ some "folder" := by simpa using q
    unfold stepM at h
    rw [if_pos hk] at h
    exact ws_seq (ws_word T (some "file") rfl (ws_ret (we_c (h nonD sds ods rfl (fun p z => nomatch z) so ou (oks.w _ _) dis))))
  rw [word_ne] at q
  have hk : kindT tr here = some "folder" := by simpa using q
  unfold stepM at h
  rw [if_neg (fun z => z hk)] at h
  refine ws_seq (ws_if (wt_test (we_op (we_var rfl (we_tup (wa_cons (we_c (wa_cons (we_c (wa_nil ⟨len2 _ _, wo_inT (xs := [.str ".", .str ".."]) rfl rfl ⟨_, rfl, fun q => ?_, fun q => ws_next ?_⟩⟩))))))))))
  · refine ws_ret (we_if (wt_test (we_op (we_var rfl (we_c (wo_eqS rfl ⟨_, rfl, fun e => we_var rfl ?_, fun e => we_sl (we_var rfl (wpt_no (num1_neg (wsl_P hh fun d hd' _ => ?_))))⟩))))))
    · have e1 : st = "." := V.str.inj (of_decide_eq_true e)
      rw [if_pos e1] at h
      exact h hd sds ods hh (fun p z => by cases z; exact ho) so ou oks dis
    · have e1 : st ≠ "." := fun z => (of_decide_eq_false e) (by rw [z])
      rw [if_neg e1] at h
      rw [show ([V.str ".", V.str ".."] : List V) = ([".", ".."] : List Str).map V.str from rfl, inV_strs] at q
      have e2 : st = ".." := by
        rcases List.mem_cons.mp (of_decide_eq_true q) with z | z
        · exact absurd z e1
        · exact List.mem_singleton.mp z
      rw [if_pos e2] at h
      rw [cutT_last] at hd'
      exact h d sds ods hd' (fun p z => by cases z; exact ho.last) so ou oks dis
  rw [show ([V.str ".", V.str ".."] : List V) = ([".", ".."] : List Str).map V.str from rfl, inV_strs] at q
  have q' := of_decide_eq_false q
  have e1 : st ≠ "." := fun z => q' (by rw [z]; exact List.mem_cons_self)
  have e2 : st ≠ ".." := fun z => q' (by rw [z]; exact List.mem_cons_of_mem _ List.mem_cons_self)
  have hU : st ∈ U := hst.resolve_left e1 |>.resolve_left e2
  rw [if_neg e1, if_neg e2] at h
  have hnT : ∀ x ∈ here ++ [st], DT.isName x = true := fun x hx => by
    rcases List.mem_append.mp hx with z | z
    · exact hn x z
    · rw [List.mem_singleton.mp z]
      exact ok.un st hU
  have hlT : (here ++ [st]).length ≤ 1000 := by
    rw [List.length_append, List.length_singleton]
    omega
  refine ws_seq (ws_asg (we_op (we_var rfl (we_tupP (wa_cons (we_var rfl (wa_nil ⟨[st], rfl, le_line (by show 1 ≤ 1000000; decide), wo_catP hh (by simp) ?_ ?_⟩)))))))
  · rw [← List.length_append]
    exact le_line (Nat.le_trans hlT (by decide))
  refine ws_seqI (fun ρ1 m1 => ∃ sds1, ρ1 = [some (.s (.ref w)), some hd, some (strD st), some (blD kp), some (.tup od), some (.pl (here ++ [st])), none] ∧ m1 = mW T.c_Walk m0 t w sa oa sds1 ods (if here ++ [st] ∈ s.sought then s else { s with sought := s.sought ++ [here ++ [st]] }) ∧ PlL sds1 (if here ++ [st] ∈ s.sought then s else { s with sought := s.sought ++ [here ++ [st]] }).sought) ?_ ?_
  · refine ws_if (wt_test (we_op (we_var rfl (we_fld (we_var rfl ⟨T.c_Walk, _, T.y_Walk.cl, T.n_Walk_sought, ⟨wN, _, mW_w, rfl⟩, wo_inPb (neg := true) (.inl rfl) (.inr (.inr ⟨sa, rfl, mW_sa fr⟩)) so (names_ok hnT) (fun q hq => names_ok (oks.names ok q hq)) ⟨_, rfl, fun q => ?_, fun q => ws_next ?_⟩⟩)))))
    · have hnin : here ++ [st] ∉ s.sought := by simpa using q
      rw [if_neg hnin]
      refine ws_drop (we_append (we_fld (we_var rfl ⟨T.c_Walk, _, T.y_Walk.cl, T.n_Walk_sought, ⟨wN, _, mW_w, rfl⟩, sa, rfl, ⟨_, mW_sa fr⟩, we_var rfl ⟨sds, mW_sa fr, ?_, sds ++ [.pl (here ++ [st])], rfl, ?_, so.snoc (.inl rfl)⟩⟩)))
      · rw [so.length]
        exact lt_line (Nat.le_trans (oks.len ok) (by decide))
      · exact mW_sought fr rfl rfl rfl
    · have hin : here ++ [st] ∈ s.sought := by simpa using q
      rw [if_pos hin]
      exact ⟨sds, rfl, rfl, so⟩
  rintro ρ1 m1 ⟨sds1, rfl, rfl, so1⟩
  have oks1 : OkS U tr (if here ++ [st] ∈ s.sought then s else { s with sought := s.sought ++ [here ++ [st]] }) := by
    by_cases hin : here ++ [st] ∈ s.sought
    · rw [if_pos hin]
      exact oks
    · rw [if_neg hin]
      refine ⟨?_, fun q hq => ?_, oks.ond, oks.oin⟩
      · refine List.nodup_append.mpr ⟨oks.snd, by simp, fun a ha b hb e => hin ?_⟩
        rw [List.mem_singleton.mp hb] at e
        rw [← e]
        exact ha
      · rcases List.mem_append.mp hq with z | z
        · exact oks.sin q z
        · obtain ⟨th, _, _, hm⟩ := kind_mem hk
          exact ⟨here, List.mem_map_of_mem hm, st, hU, List.mem_singleton.mp z⟩
  have eo : (if here ++ [st] ∈ s.sought then s else { s with sought := s.sought ++ [here ++ [st]] }).outs = s.outs := by split <;> rfl
  have ou1 : OutL ods (if here ++ [st] ∈ s.sought then s else { s with sought := s.sought ++ [here ++ [st]] }).outs := by rw [eo]; exact ou
  have dis1 : ∀ o ∈ (if here ++ [st] ∈ s.sought then s else { s with sought := s.sought ++ [here ++ [st]] }).outs, o.1 ∉ opn := by rw [eo]; exact dis
  generalize (if here ++ [st] ∈ s.sought then s else { s with sought := s.sought ++ [here ++ [st]] }) = s1 at h so1 oks1 ou1 dis1 ⊢
  refine ws_seq (ws_asg (kind_of T rfl rfl fr ht (.inl rfl) hlT hnT ?_))
  refine ws_seq (ws_if (wt_test (we_op (we_var rfl (we_c (wd_none ⟨_, rfl, fun q => ?_, fun q => ws_next ?_⟩))))))
  · have e : kindT tr (here ++ [st]) = none := of_decide_eq_true q
    simp only [e] at h
    exact ws_seq (ws_word T (some "lacking") rfl (ws_ret (we_c (h nonD sds1 ods rfl (fun p z => nomatch z) so1 ou1 (oks1.w _ _) dis1))))
  have hne : kindT tr (here ++ [st]) ≠ none := of_decide_eq_false q
  obtain ⟨k, ek⟩ := Option.ne_none_iff_exists'.mp hne
  simp only [ek] at h
  have hoT : HereOk tr (here ++ [st]) := hereOk_of ek
  refine ws_ret (we_if (wt_or (wt_test (we_op (we_var rfl (we_c (wo_neS (word_scal _ _) ⟨_, rfl, fun q => ?_, fun q => ?_⟩)))))))
  · rw [ek, word_ne] at q
    have hk2 : k = "link" := by simpa using q
    refine wt_B (we_var rfl ⟨kp, rfl, fun e => we_var rfl ?_, fun e => ?_⟩)
    · rw [if_pos (.inr e)] at h
      exact h _ sds1 ods (.inl rfl) (fun p z => by cases z; exact hoT) so1 ou1 oks1 dis1
    · rw [if_neg (fun z => z.elim (fun y => y hk2) fun y => by rw [e] at y; cases y)] at h
      exact we_meth okx0 (we_var rfl ⟨⟨wN, _, mW_w, by decide⟩, wa_cons (we_var rfl (wa_cons (we_var rfl (wa_nil ⟨U, m0, t, w, sa, oa, tr, sds1, ods, od, opn, s1, here ++ [st], rfl, ⟨rfl, fr, ht, ok, oks1, so1, ou1, op, opk, dis1⟩, kind_link (ek.trans (congrArg some hk2)), h⟩))))⟩)
  · rw [ek, word_ne] at q
    have hk2 : k ≠ "link" := by simpa using q
    rw [if_pos (.inl hk2)] at h
    exact ⟨fun _ => we_var rfl (h _ sds1 ods (.inl rfl) (fun p z => by cases z; exact hoT) so1 ou1 oks1 dis1), fun z => nomatch z⟩
theorem rd_Walk_followed {K : PySem.W.Frag} {mg : Str → Option Value} (T : Txt K mg) (n : Nat) (E : XK) : BodyOk K (φ_Walk_followed T n) N_Walk_followed E (t_Walk_followed T n E) := by
  intro ds m nx X F B h hE
  obtain ⟨U, m0, t, w, sa, oa, tr, sds, ods, od, opn, s, link, rfl, ⟨rfl, fr, ht, ok, oks, so, ou, op, opk, dis⟩, hlk, h⟩ := h
  rw [st_Walk_followed]
  unfold t_Walk_followed
  obtain ⟨p, hp, hpo⟩ := link_th ok hlk
  obtain ⟨hl, hn⟩ := key_names ok (links_key hlk)
  have hno : ∀ q ∈ opn, ∀ z ∈ q, PyData.strOk z = true := fun q hq => names_ok (key_names ok (links_key (opk.sub q hq))).2
  obtain ⟨r, hr⟩ : ∃ r, folM tr n link opn s = r := ⟨_, rfl⟩
  rw [hr] at h
  unfold folM at hr
  refine ws_seq (ws_if (wt_test (we_op (we_var rfl (we_var rfl (wo_inPb (neg := false) (.inl rfl) (.inr (.inl rfl)) op (names_ok hn) hno ⟨_, rfl, fun q => ?_, fun q => ws_next ?_⟩))))))
  · have hin : link ∈ opn := by simpa using q
    rw [if_pos hin] at hr
    subst hr
    exact ws_seq (ws_word T (some "ring") rfl (ws_ret (we_c (h nonD sds ods rfl (fun p z => nomatch z) so ou (oks.w _ _) dis))))
  have hin : link ∉ opn := by simpa using q
  rw [if_neg hin] at hr
  refine ws_seqI (fun ρ1 m1 => ∃ (d3 : Option D) (d : D) (e : Option Place × Option Str) (sds1 ods1 : List D) (s1 : WSt), ρ1 = [some (.s (.ref w)), some (.pl link), some (.tup od), d3] ∧ m1 = mW T.c_Walk m0 t w sa oa sds1 ods1 s1 ∧ ResD d e.1 ∧ lookT (s1.outs.map (·.1)) ods1 link = some (.tup [d, wordD e.2]) ∧ (∀ p, e.1 = some p → HereOk tr p) ∧ PlL sds1 s1.sought ∧ OutL ods1 s1.outs ∧ OkS U tr s1 ∧ (∀ o ∈ s1.outs, o.1 ∉ opn) ∧ r = (e.1, { s1 with word := e.2 })) ?_ ?_
  · refine ws_if (wt_test (we_op (we_var rfl (we_fld (we_var rfl ⟨T.c_Walk, .s (.ref oa), T.y_Walk.cl, T.n_Walk_outcomes, ⟨wN, _, mW_w, rfl⟩, wo_inQb (neg := true) (.inl rfl) (mW_oa fr) ⟨_, rfl, fun q => ?_, fun q => ws_next ?_⟩⟩)))))
    · obtain ⟨i1, i2⟩ := out_look link ou
      have e0 : outAt s.outs link = none := by
        cases e : outAt s.outs link with
        | none => rfl
        | some x =>
          obtain ⟨d, _, hx⟩ := i1 x e
          rw [hx] at q
          cases q
      rw [e0] at hr
      cases n with
      | zero => exact (opn_zero opk hlk hin).elim
      | succ n =>
        rw [hp] at hr
        have hr : ((goesM tr n p link.dropLast false (opn ++ [link]) s).1, { (goesM tr n p link.dropLast false (opn ++ [link]) s).2 with outs := (goesM tr n p link.dropLast false (opn ++ [link]) s).2.outs ++ [(link, (goesM tr n p link.dropLast false (opn ++ [link]) s).1, (goesM tr n p link.dropLast false (opn ++ [link]) s).2.word)] }) = r := hr
        refine ws_seq (ws_asg (we_methN (gd := fun ds es => ds ++ ([blD false] ++ es)) okx0 (fun e h1 h2 => h1.app ((RpL.cons rp_s RpL.nil).app h2)) (we_var rfl ⟨⟨wN, _, mW_w, by decide⟩, ?_⟩)))
        refine wa_cons (we_meth okx0 (we_fld (we_var rfl ⟨T.c_Walk, .s (.ref t), T.y_Walk.cl, T.n_Walk_tree, ⟨wN, _, mW_w, rfl⟩, (ht.inW fr).recv (by decide), wa_cons (we_var rfl (wa_nil ⟨t, tr, .pl link, link, ⟨"link", some p⟩, p, rfl, ht.inW fr, .inl rfl, Nat.le_trans hl (by decide), hn, hp, rfl, ?_⟩))⟩)))
        refine wa_cons (we_sl (we_var rfl (wpt_no (num1_neg (wsl_P (.inl rfl) fun d hd _ => wa_nil (wa_cons (we_tup (wa_star (we_var rfl ⟨od, .inr (.inl rfl), wa_cons (we_var rfl (wa_nil ⟨?_, wa_nil ⟨rfl, rfl, ?_⟩⟩))⟩)))))))))
        · rw [List.length_append, op.length]
          have h1 := len_le_of_sub opk.nd opk.sub
          have h2 := links_few ok
          exact le_line (by show opn.length + 1 ≤ 1000000; omega)
        rw [cutT_last] at hd
        refine ⟨U, m0, t, w, sa, oa, tr, sds, ods, od ++ [.pl link], opn ++ [link], s, p, d, link.dropLast, false, rfl, ⟨rfl, fr, ht, ok, oks, so, ou, op.snoc (.inl rfl), opn_more opk hlk hin, fun o ho z => ?_⟩, hpo, hd, HereOk.last ⟨link, links_key hlk, List.prefix_refl _⟩, fun d' sds' ods' h1 h2 h3 h4 h5 h6 => ?_⟩
        · rcases List.mem_append.mp z with z | z
          · exact dis o ho z
          · exact outAt_none.mp e0 (by rw [← List.mem_singleton.mp z]; exact List.mem_map_of_mem ho)
        generalize goesM tr n p link.dropLast false (opn ++ [link]) s = g at hr h1 h2 h3 h4 h5 h6 ⊢
        obtain ⟨ge, gs⟩ := g
        have hnk : link ∉ gs.outs.map (·.1) := fun z => by
          obtain ⟨o, ho, e⟩ := List.mem_map.mp z
          exact h6 o ho (by rw [e]; exact List.mem_append_right _ List.mem_cons_self)
        refine ws_asgG (we_tup (wa_cons (we_var rfl (wa_cons (we_fld (we_var rfl ⟨T.c_Walk, wordD gs.word, T.y_Walk.cl, T.n_Walk_word, ⟨wN, _, mW_w, rfl⟩, wa_nil ⟨len2 _ _, ?_⟩⟩))))))
        refine wg_subT (we_fld (we_var rfl ⟨T.c_Walk, .s (.ref oa), T.y_Walk.cl, T.n_Walk_outcomes, ⟨wN, _, mW_w, rfl⟩, we_var rfl ⟨oa, _, _, link, rfl, rfl, mW_oa fr, ?_, (out_look link h4).2 (outAt_none.mpr hnk), ?_⟩⟩))
        · have h7 := len_le_of_sub (ys := linksT tr) h5.ond fun x hx => by
            obtain ⟨o, ho, e⟩ := List.mem_map.mp hx
            rw [← e]
            exact (h5.oin o ho).1
          have h8 := links_few ok
          exact lt_line (by omega)
        · obtain ⟨d2, k1, k2⟩ := (out_look link (h4.snoc (p := link) (w := gs.word) h1)).1 _ (outAt_snoc hnk)
          refine ⟨some d', d2, (ge, gs.word), sds', _, { gs with outs := gs.outs ++ [(link, ge, gs.word)] }, rfl, mW_outs fr (by simp) rfl rfl, k1, k2, h2, h3, h4.snoc h1, ⟨h5.snd, h5.sin, ?_, fun o ho => ?_⟩, fun o ho => ?_, hr.symm⟩
          · show ((gs.outs ++ [(link, ge, gs.word)]).map (·.1)).Nodup
            rw [List.map_append]
            refine List.nodup_append.mpr ⟨h5.ond, by simp, fun a ha b hb e => hnk ?_⟩
            have : b = link := by simpa using hb
            rw [← this, ← e]
            exact ha
          · rcases List.mem_append.mp ho with z | z
            · exact h5.oin o z
            · rw [List.mem_singleton.mp z]
              exact ⟨hlk, h2⟩
          · rcases List.mem_append.mp ho with z | z
            · exact fun y => h6 o z (List.mem_append_left _ y)
            · rw [List.mem_singleton.mp z]
              exact hin
    · obtain ⟨i1, i2⟩ := out_look link ou
      cases e : outAt s.outs link with
      | none =>
        rw [i2 e] at q
        cases q
      | some x =>
        obtain ⟨d, k1, k2⟩ := i1 x e
        rw [e] at hr
        exact ⟨none, d, x, sds, ods, s, rfl, rfl, k1, k2, (oks.oin _ (outAt_mem e)).2, so, ou, oks, dis, hr.symm⟩
  rintro ρ1 m1 ⟨d3, d, e, sds1, ods1, s1, rfl, rfl, k1, k2, k3, so1, ou1, oks1, dis1, rfl⟩
  refine ws_seq (ws_asgG (we_op (we_fld (we_var rfl ⟨T.c_Walk, .s (.ref oa), T.y_Walk.cl, T.n_Walk_outcomes, ⟨wN, _, mW_w, rfl⟩, we_var rfl (wo_ixQ (.inl rfl) (mW_oa fr) k2 ?_)⟩))))
  refine wg_tup rfl (wgs_cons (wg_name (wgs_cons (wg_fld (we_var rfl ⟨w, T.c_Walk, wN, _, rfl, mW_w, T.y_Walk.cl, T.n_Walk_word, by decide, wgs_nil ?_⟩)))))
  have hh : nx d (mW T.c_Walk m0 t w sa oa sds1 ods1 { s1 with word := e.2 }) := h d sds1 ods1 k1 k3 so1 ou1 (oks1.w _ _) dis1
  rw [← mW_set (s := s1) (s' := { s1 with word := e.2 }) rfl] at hh
  exact ws_ret (we_var rfl hh)
theorem rd_Tree___init__ {K : PySem.W.Frag} {mg : Str → Option Value} (T : Txt K mg) (E : XK) : BodyOk K (φ_Tree___init__ T) N_Tree___init__ E (t_Tree___init__ T E) := by
  intro ds m nx X F B h hE
  obtain ⟨t, rfl, ht, h⟩ := h
  rw [st_Tree___init__]
  unfold t_Tree___init__
  refine ws_fld (we_dispT fun p hp => ?_)
  have ne : t ≠ p := fun z => by
    rw [z, hp] at ht
    cases ht
  refine wps_cons (we_tupP (wa_nil ⟨[], rfl, len0, we_tup (wa_cons (we_c (wa_cons (we_c (wa_nil ⟨len2 _ _, wps_nil ⟨putM_same, [[]], [thD T.c_Path ⟨"folder", none⟩], rfl, rfl, by decide, by decide, ?_⟩⟩)))))⟩))
  refine we_var rfl ⟨t, T.c_Tree, [], [], rfl, T.y_Tree.cl, T.n_Tree_held, ?_, by decide, ?_⟩
  · show putM (putM m.own p _) p _ t = _
    rw [putM_ne ne, putM_ne ne]
    exact ht
  · have := h p hp
    simp only [putM_put]
    exact this
theorem kind_rd {K : PySem.W.Frag} {mg : Str → Option Value} (T : Txt K mg) {F B : Hp} {ρ : DD.Env} {m : Mem} {t : Addr} {tr : Tr} {d : D} {ns : List Str} {Q : QD} (h0 : ρ[0]? = some (some (.s (.ref t)))) (h1 : ρ[1]? = some (some d)) (ht : TreeAt T.c_Tree T.c_Path m t tr) (hd : TxT d ns) (hl : ns.length ≤ 1000) (hn : ∀ n ∈ ns, DT.isName n = true)
    (h : Q (match look tr ns with | some th => thD T.c_Path th | none => .tup [nonD, nonD]) m) :
    WE K F B (HP1.tGetQ K (tFld K (tVar 0) "held") (tCall (spOf K (φ_place_of T)) [] E0 (tCons (tVar 1) tNil)) (tTup (tCons (tC .non) (tCons (tC .non) tNil)))) ρ m Q := by
  obtain ⟨a, ha, hh⟩ := ht
  refine we_getQ (we_fld (we_var h0 ⟨T.c_Tree, _, T.y_Tree.cl, T.n_Tree_held, ⟨_, _, ha, rfl⟩, a, rfl, ⟨_, _, hh⟩, ?_⟩))
  refine we_call okx0 (wa_cons (we_var h1 (wa_nil ⟨d, ns, rfl, hd, hl, hn, ?_⟩)))
  refine we_tup (wa_cons (we_c (wa_cons (we_c (wa_nil ⟨len2 _ _, _, _, ns, hh, hd, fun x hx => ?_, fun hx => ?_⟩)))))
  · rw [look_map (thD T.c_Path)] at hx
    cases e : look tr ns with
    | none =>
      rw [e] at hx
      cases hx
    | some th =>
      rw [e] at hx h
      cases hx
      exact h
  · rw [look_map (thD T.c_Path)] at hx
    cases e : look tr ns with
    | none =>
      rw [e] at h
      exact h
    | some th =>
      rw [e] at hx
      cases hx
theorem rd_Tree_kind {K : PySem.W.Frag} {mg : Str → Option Value} (T : Txt K mg) (E : XK) : BodyOk K (φ_Tree_kind T) N_Tree_kind E (t_Tree_kind T E) := by
  intro ds m nx X F B h hE
  obtain ⟨t, tr, d, ns, rfl, ht, hd, hl, hn, h⟩ := h
  rw [st_Tree_kind]
  unfold t_Tree_kind
  refine ws_ret (we_op (kind_rd T rfl rfl ht hd hl hn (we_c ?_)))
  cases e : look tr ns with
  | none =>
    have h' : nx (wordD ((look tr ns).map (·.kind))) m := h
    rw [e] at h'
    exact wo_ixT rfl h'
  | some th =>
    have h' : nx (wordD ((look tr ns).map (·.kind))) m := h
    rw [e] at h'
    exact wo_ixT rfl h'
theorem rd_Tree_target {K : PySem.W.Frag} {mg : Str → Option Value} (T : Txt K mg) (E : XK) : BodyOk K (φ_Tree_target T) N_Tree_target E (t_Tree_target T E) := by
  intro ds m nx X F B h hE
  obtain ⟨t, tr, d, ns, th, p, rfl, ht, hd, hl, hn, e, ep, h⟩ := h
  rw [st_Tree_target]
  unfold t_Tree_target
  refine ws_ret (we_op (kind_rd T rfl rfl ht hd hl hn (we_c ?_)))
  rw [e]
  refine wo_ixT (d := pathD T.c_Path p) ?_ h
  rw [ep]
  rfl
theorem rd_Tree_folder {K : PySem.W.Frag} {mg : Str → Option Value} (T : Txt K mg) (E : XK) : BodyOk K (φ_Tree_folder T) N_Tree_folder E (t_Tree_folder T E) := by
  intro ds m nx X F B h hE
  obtain ⟨U, t, tr, ns, rfl, hd, h⟩ := h
  have h' := h
  obtain ⟨a, ha, hh, _⟩ := h'
  rw [st_Tree_folder]
  unfold t_Tree_folder
  exact ws_drop (we_meth okx0 (we_var rfl ⟨⟨_, _, ha, by decide⟩, wa_cons (we_cb (wa_cons (we_var rfl (wa_nil (wc_tupP (wa_cons (we_c (wa_cons (we_c (wa_nil ⟨U, t, tr, ns, ⟨"folder", none⟩, nonD, rfl, hd, rfl, h⟩))))))))))⟩))
theorem rd_Tree_file {K : PySem.W.Frag} {mg : Str → Option Value} (T : Txt K mg) (E : XK) : BodyOk K (φ_Tree_file T) N_Tree_file E (t_Tree_file T E) := by
  intro ds m nx X F B h hE
  obtain ⟨U, t, tr, ns, rfl, hd, h⟩ := h
  have h' := h
  obtain ⟨a, ha, hh, _⟩ := h'
  rw [st_Tree_file]
  unfold t_Tree_file
  exact ws_drop (we_meth okx0 (we_var rfl ⟨⟨_, _, ha, by decide⟩, wa_cons (we_cb (wa_cons (we_var rfl (wa_nil (wc_tupP (wa_cons (we_c (wa_cons (we_c (wa_nil ⟨U, t, tr, ns, ⟨"file", none⟩, nonD, rfl, hd, rfl, h⟩))))))))))⟩))
theorem rd_Tree_link {K : PySem.W.Frag} {mg : Str → Option Value} (T : Txt K mg) (E : XK) : BodyOk K (φ_Tree_link T) N_Tree_link E (t_Tree_link T E) := by
  intro ds m nx X F B h hE
  obtain ⟨U, t, tr, ns, p, rfl, hd, h⟩ := h
  have h' := h
  obtain ⟨a, ha, hh, _⟩ := h'
  rw [st_Tree_link]
  unfold t_Tree_link
  exact ws_drop (we_meth okx0 (we_var rfl ⟨⟨_, _, ha, by decide⟩, wa_cons (we_cb (wa_cons (we_var rfl (wa_nil (wc_tupP (wa_cons (we_c (wa_cons (we_var rfl (wa_nil ⟨U, t, tr, ns, ⟨"link", some p⟩, _, rfl, hd, rfl, h⟩))))))))))⟩))
theorem rd_Tree_put {K : PySem.W.Frag} {mg : Str → Option Value} (T : Txt K mg) (E : XK) : BodyOk K (φ_Tree_put T) N_Tree_put E (t_Tree_put T E) := by
  intro ds m nx X F B h hE
  obtain ⟨U, t, tr, ns, th, pd, rfl, hd, ep, a, ha, hh, h⟩ := h
  have hd' := hd
  obtain ⟨hok, hlt, h0, hl, hn, hk, hno⟩ := hd
  rw [st_Tree_put]
  unfold t_Tree_put
  refine ws_seq (ws_if (wt_test (we_op (we_var rfl (we_tupP (wa_nil ⟨[], rfl, len0, eq_tup (.inl rfl) (.inl rfl) (names_ok hn) (fun z hz => nomatch hz) ⟨_, rfl, fun q => ?_, fun _ => ws_next ?_⟩⟩))))))
  · exact absurd (of_decide_eq_true q) h0
  refine ws_seq (ws_drop (we_meth okx0 (we_var rfl ⟨⟨_, _, ha, by decide⟩, wa_cons (we_var rfl (wa_nil ⟨U, t, tr, ns, rfl, ⟨a, ha, hh⟩, hd', ?_⟩))⟩)))
  refine ws_asgG (we_tup (wa_cons (we_var rfl (wa_cons (we_var rfl (wa_nil ⟨len2 _ _, ?_⟩))))))
  refine wg_subT (we_fld (we_var rfl ⟨T.c_Tree, _, T.y_Tree.cl, T.n_Tree_held, ⟨_, _, ha, rfl⟩, we_var rfl ⟨a, _, _, ns, rfl, rfl, hh, ?_, ?_, ?_⟩⟩))
  · rw [List.length_map]
    exact lt_line (Nat.le_of_lt (Nat.lt_of_lt_of_le hlt (by decide : 100 ≤ 1000000)))
  · rw [look_map (thD T.c_Path), hno]
    rfl
  · rw [show keysT (tr ++ [(ns, th)]) = keysT tr ++ [ns] from by simp [keysT], List.map_append] at h
    rw [← ep]
    exact h
theorem rd_Tree_check_free {K : PySem.W.Frag} {mg : Str → Option Value} (T : Txt K mg) (E : XK) : BodyOk K (φ_Tree_check_free T) N_Tree_check_free E (t_Tree_check_free T E) := by
  intro ds m nx X F B h hE
  obtain ⟨U, t, tr, ns, rfl, ht, ⟨hok, hlt, h0, hl, hn, hk, hno⟩, h⟩ := h
  rw [st_Tree_check_free]
  unfold t_Tree_check_free
  refine ws_seq (ws_if (wt_test (we_op (we_meth okx0 (we_var rfl ⟨ht.recv (by decide), wa_cons (we_sl (we_var rfl (wpt_no (num1_neg (wsl_P (.inl rfl) fun d hd _ => wa_nil ?_))))) ⟩)))))
  rw [cutT_last] at hd
  refine ⟨t, tr, d, _, rfl, ht, hd, ?_, fun n hn' => hn n (List.dropLast_subset _ hn'), ?_⟩
  · rw [List.length_dropLast]
    omega
  rw [hk]
  refine we_c (wo_neS rfl ⟨_, rfl, fun q => by rw [word_ne] at q; simp at q, fun _ => ws_next ?_⟩)
  obtain ⟨a, ha, hh⟩ := ht
  refine ws_if (wt_test (we_op (we_var rfl (we_fld (we_var rfl ⟨T.c_Tree, _, T.y_Tree.cl, T.n_Tree_held, ⟨_, _, ha, rfl⟩, wo_inQb (.inl rfl) hh ⟨_, rfl, fun q => ?_, fun _ => ws_next h⟩⟩)))))
  rw [look_map (thD T.c_Path), hno] at q
  cases q
theorem rd_Tree_walked {K : PySem.W.Frag} {mg : Str → Option Value} (T : Txt K mg) (E : XK) : BodyOk K (φ_Tree_walked T) N_Tree_walked E (t_Tree_walked T E) := by
  intro ds m nx X F B h hE
  obtain ⟨U, t, tr, p, hd, here, kp, rfl, ⟨ht, ok, ln, hp, hh, hf⟩, h⟩ := h
  rw [st_Tree_walked]
  unfold t_Tree_walked
  have ho := hereOk_of hf
  obtain ⟨hl, hn⟩ := ho.names ok
  refine ws_seq (ws_asg (we_cb (wa_cons (we_var rfl (wa_nil (wc_tupTx hh ?_))))))
  refine ws_seq (ws_if (wt_test (we_op (we_meth okx0 (we_var rfl ⟨ht.recv (by decide), wa_cons (we_var rfl (wa_nil ⟨t, tr, hd, here, rfl, ht, hh, Nat.le_trans hl (by decide), hn, ?_⟩))⟩)))))
  rw [hf]
  refine we_c (wo_neS rfl ⟨_, rfl, fun q => by rw [word_ne] at q; simp at q, fun _ => ws_next ?_⟩)
  refine ws_seq (ws_asg (we_makeO okx0 RpL.nil (wa_cons (we_var rfl (wa_nil fun w hw => ⟨w, t, rfl, putM_same, fun sa oa fr => ⟨rfl, ?_⟩⟩)))))
  have em : ({ cnt := m.cnt, own := dropM (putM m.own w (.ins T.c_Walk [] [])) w } : Mem) = m := by rw [dropM_put hw]
  rw [show ({ ({ m with own := putM m.own w (.ins T.c_Walk [] []) } : Mem) with own := dropM (putM m.own w (.ins T.c_Walk [] [])) w } : Mem) = m from em] at fr ⊢
  have hq : ∀ {Hb : Hp}, Rp K Hb (.tup []) (.ref T.x1_Walk_goes) := fun {Hb} => by
    unfold Rp
    exact ⟨_, [], rfl, T.q1_Walk_goes Hb, RpL.nil⟩
  refine ws_ret (we_tup (wa_cons (we_methN (gd := fun ds es => ds ++ (es ++ [.tup []])) okx0 (fun e h1 h2 => h1.app (h2.app (RpL.cons hq RpL.nil))) (we_var rfl ⟨⟨_, _, mW_w, by decide⟩, wa_cons (we_var rfl (wa_cons (we_var rfl (wa_nil (wa_cons (we_var rfl (wa_nil ⟨rfl, rfl, ?_⟩)))))))⟩))))
  refine ⟨U, m, t, w, sa, oa, tr, [], [], [], [], st0, p, hd, here, kp, rfl, ⟨rfl, fr, ht, ok, ⟨List.nodup_nil, (fun q hq => nomatch hq), List.nodup_nil, (fun q hq => nomatch hq)⟩, .nil, .nil, .nil, ⟨List.nodup_nil, (fun q hq => nomatch hq), ln⟩, (fun q hq => nomatch hq)⟩, hp, hh, ho, fun d sds ods h1 h2 h3 h4 h5 _ => ?_⟩
  exact wa_cons (we_var rfl (wa_nil ⟨len2 _ _, h d w sa oa sds ods fr h1 h3 h5⟩))
theorem rd_Tree_lead {K : PySem.W.Frag} {mg : Str → Option Value} (T : Txt K mg) (E : XK) : BodyOk K (φ_Tree_lead T) N_Tree_lead E (t_Tree_lead T E) := by
  intro ds m nx X F B h hE
  obtain ⟨U, t, tr, p, hd, here, kp, rfl, hi, h⟩ := h
  rw [st_Tree_lead]
  unfold t_Tree_lead
  refine ws_ret (we_conv (Q := fun d m' => nx d m ∧ Conv m' m) ?_ fun d m' q => ⟨m, q.2, q.1⟩)
  exact we_op (we_meth okx0 (we_var rfl ⟨hi.tree.recv (by decide), wa_cons (we_var rfl (wa_cons (we_var rfl (wa_cons (we_var rfl (wa_nil ⟨U, t, tr, p, hd, here, kp, rfl, hi, fun d w sa oa sds ods fr h1 h2 _ => we_c (wo_ixT rfl ⟨h d h1, conv_mW fr⟩)⟩))))))⟩))
section
variable {K : PySem.W.Frag} {mg : Str → Option Value} (T : Txt K mg) {U : List Str} {F B : Hp} {ρ : DD.Env} {m : Mem} {t : Addr} {tr : Tr} {p : Str} {Q : QD} {i : Nat} {tp ts tk : TE} {kp : Bool} {hd : D} {here : Place}
theorem c_leadSK (h0 : ρ[i]? = some (some (.s (.ref t)))) (hp : ∀ Q', Q' (pathD T.c_Path p) m → WE K F B tp ρ m Q') (hs : ∀ Q', Q' hd m → WE K F B ts ρ m Q') (hk : ∀ Q', Q' (blD kp) m → WE K F B tk ρ m Q') (hl : LeadIn T.c_Tree T.c_Path U m t tr p hd here) (h : ∀ d, ResD d (leadP tr 13 p here kp) → Q d m) :
    WE K F B (HP1.tMethN T.c_Tree "lead" 1 2 (spOf K (φ_Tree_lead T)) (fun vs zs => vs ++ (zs ++ [])) E0 (tVar i) (tCons tp tNil) (tCons ts (tCons tk tNil))) ρ m Q := by
  have h' : ∀ d, ResD d (goesM tr 13 p here kp [] st0).1 → Q d m := by
    rw [← lead_eq hl.ok hl.ln p here kp] at h
    exact h
  exact we_methN (gd := fun ds es => ds ++ (es ++ [])) okx0 (fun e h1 h2 => h1.app (h2.app RpL.nil)) (we_var h0 ⟨hl.tree.recv (by decide), wa_cons (hp _ (wa_nil (wa_cons (hs _ (wa_cons (hk _ (wa_nil ⟨rfl, rfl, U, t, tr, p, hd, here, kp, rfl, hl, h'⟩)))))))⟩)
theorem c_leadS (h0 : ρ[i]? = some (some (.s (.ref t)))) (hp : ∀ Q', Q' (pathD T.c_Path p) m → WE K F B tp ρ m Q') (hs : ∀ Q', Q' hd m → WE K F B ts ρ m Q') (hl : LeadIn T.c_Tree T.c_Path U m t tr p hd here) (h : ∀ d, ResD d (leadP tr 13 p here false) → Q d m) :
    WE K F B (HP1.tMethN T.c_Tree "lead" 1 1 (spOf K (φ_Tree_lead T)) (fun vs zs => vs ++ (zs ++ [.bl false])) E0 (tVar i) (tCons tp tNil) (tCons ts tNil)) ρ m Q := by
  have h' : ∀ d, ResD d (goesM tr 13 p here false [] st0).1 → Q d m := by
    rw [← lead_eq hl.ok hl.ln p here false] at h
    exact h
  exact we_methN (gd := fun ds es => ds ++ (es ++ [blD false])) okx0 (fun e h1 h2 => h1.app (h2.app (RpL.cons rp_s RpL.nil))) (we_var h0 ⟨hl.tree.recv (by decide), wa_cons (hp _ (wa_nil (wa_cons (hs _ (wa_nil ⟨rfl, rfl, U, t, tr, p, hd, here, false, rfl, hl, h'⟩)))))⟩)
theorem c_leadK (h0 : ρ[i]? = some (some (.s (.ref t)))) (hp : ∀ Q', Q' (pathD T.c_Path p) m → WE K F B tp ρ m Q') (hk : ∀ Q', Q' (blD kp) m → WE K F B tk ρ m Q') (hl : LeadIn T.c_Tree T.c_Path U m t tr p (.tup []) []) (h : ∀ d, ResD d (leadP tr 13 p [] kp) → Q d m) :
    WE K F B (HP1.tMethN T.c_Tree "lead" 1 1 (spOf K (φ_Tree_lead T)) (fun vs zs => vs ++ ([.ref T.x0_Tree_lead] ++ zs)) E0 (tVar i) (tCons tp tNil) (tCons tk tNil)) ρ m Q := by
  have hq : ∀ {Hb : Hp}, Rp K Hb (.tup []) (.ref T.x0_Tree_lead) := fun {Hb} => by
    unfold Rp
    exact ⟨_, [], rfl, T.q0_Tree_lead Hb, RpL.nil⟩
  have h' : ∀ d, ResD d (goesM tr 13 p [] kp [] st0).1 → Q d m := by
    rw [← lead_eq hl.ok hl.ln p [] kp] at h
    exact h
  exact we_methN (gd := fun ds es => ds ++ ([.tup []] ++ es)) okx0 (fun e h1 h2 => h1.app ((RpL.cons hq RpL.nil).app h2)) (we_var h0 ⟨hl.tree.recv (by decide), wa_cons (hp _ (wa_nil (wa_cons (hk _ (wa_nil ⟨rfl, rfl, U, t, tr, p, .tup [], [], kp, rfl, hl, h'⟩)))))⟩)
theorem c_lead0 (h0 : ρ[i]? = some (some (.s (.ref t)))) (hp : ∀ Q', Q' (pathD T.c_Path p) m → WE K F B tp ρ m Q') (hl : LeadIn T.c_Tree T.c_Path U m t tr p (.tup []) []) (h : ∀ d, ResD d (leadP tr 13 p [] false) → Q d m) :
    WE K F B (tMeth T.c_Tree "lead" (spOf K (φ_Tree_lead T)) [.ref T.x0_Tree_lead, .bl false] E0 (tVar i) (tCons tp tNil)) ρ m Q := by
  have hq : ∀ {Hb : Hp}, Rp K Hb (.tup []) (.ref T.x0_Tree_lead) := fun {Hb} => by
    unfold Rp
    exact ⟨_, [], rfl, T.q0_Tree_lead Hb, RpL.nil⟩
  have h' : ∀ d, ResD d (goesM tr 13 p [] false [] st0).1 → Q d m := by
    rw [← lead_eq hl.ok hl.ln p [] false] at h
    exact h
  exact we_methD (dds := [.tup [], blD false]) okx0 (RpL.cons hq (RpL.cons rp_s RpL.nil)) (we_var h0 ⟨hl.tree.recv (by decide), wa_cons (hp _ (wa_nil ⟨U, t, tr, p, .tup [], [], false, rfl, hl, h'⟩))⟩)
end
def pieceOk (z : Str) : Prop := TL.tl z ≠ [] ∧ (DT.dotty z || DT.isName z) = true
theorem name_ne {z : Str} (h : DT.isName z = true) : TL.tl z ≠ [] := fun e => by
  unfold DT.isName at h
  simp only [Bool.and_eq_true, decide_eq_true_eq] at h
  rw [TL.len_tl, e] at h
  exact absurd h.1 (by decide)
theorem tl_rep (j : Nat) : TL.tl (repS "/" j) = List.replicate j 47 := by
  have e : TL.tl ("/" : Str) = [47] := by decide +kernel
  show (List.replicate j (TL.tl ("/" : Str))).flatten = _
  rw [e]
  induction j with
  | zero => rfl
  | succ j ih => rw [List.replicate_succ, List.flatten_cons, ih]; rfl
def InZ (zs : List Str) (x : Str) : Prop := x = "." ∨ x = ".." ∨ x ∈ zs
theorem good_piece {zs : List Str} {z : Str} (h : pieceOk z) (q : InZ zs z) : DT.GoodQ (InZ zs) (TL.tl z) := by
  have hb : 47 ∉ TL.tl z := by
    rcases (Bool.or_eq_true _ _).mp h.2 with q | q
    · intro c
      have := DT.dotty_lt q 47 c
      omega
    · exact DT.name_bar q
  exact DT.goodQ_one hb q
theorem inZ_good {zs : List Str} (hz : ∀ z ∈ zs, DT.isName z = true) (x : Str) (h : InZ zs x) : (DT.dotty x || DT.isName x) = true := by
  rcases h with rfl | rfl | h
  · decide +kernel
  · decide +kernel
  · rw [hz x h, Bool.or_true]
theorem piece_len {z : Str} (h : pieceOk z) : z.length ≤ 8 := by
  rcases (Bool.or_eq_true _ _).mp h.2 with q | q
  · rw [DT.dotty_iff] at q
    simp only [Bool.or_eq_true, decide_eq_true_eq] at q
    rcases q with rfl | rfl | rfl <;> decide +kernel
  · unfold DT.isName at q
    simp only [Bool.and_eq_true, decide_eq_true_eq] at q
    exact q.2.1
/-- what is told of the text that grows -/
def Grown (zs : List Str) (k i : Nat) (s : Str) : Prop := s.length ≤ 3 + 11 * i ∧ DT.GoodQ (InZ zs) (TL.tl s) ∧ ((∃ j, TL.tl s = List.replicate j 47 ∧ j ≤ 3 ∧ (k = 0 → 1 ≤ j)) ∨ 0 < i) ∧ (0 < i → TL.tl s ≠ [])
theorem enum_get {n i : Nat} {xs : List D} {d : D} (h : (enumD n xs)[i]? = some d) : ∃ x, xs[i]? = some x ∧ d = .tup [.s (.int ((n + i : Nat) : Int)), x] := by
  induction xs generalizing n i with
  | nil => cases h
  | cons y ys ih =>
    cases i with
    | zero =>
      have e : d = .tup [.s (.int (n : Int)), y] := by simpa [enumD] using h.symm
      exact ⟨y, rfl, e⟩
    | succ i =>
      have h' : (enumD (n + 1) ys)[i]? = some d := by simpa [enumD] using h
      obtain ⟨x, h1, h2⟩ := ih h'
      refine ⟨x, by simpa using h1, ?_⟩
      rw [h2, show n + 1 + i = n + (i + 1) by omega]
theorem rd__law_p_written {K : PySem.W.Frag} {mg : Str → Option Value} (T : Txt K mg) (E : XK) : BodyOk K (φ__law_p_written T) N__law_p_written E (t__law_p_written T E) := by
  intro ds m nx X F B h hE
  obtain ⟨p, zs, n, rfl, hS, hm, hl, hz, n0, n1, h⟩ := h
  rw [st__law_p_written]
  unfold t__law_p_written
  refine ws_seq (ws_asg (we_call okx0 (wa_cons (we_var rfl (wa_cons (we_op (we_var rfl (we_c (wo_addI (wa_nil ⟨p, _, rfl, hS, by omega, by omega, by omega, fun r r0 r1 => ?_⟩))))))))))
  obtain ⟨k, rfl⟩ : ∃ k : Nat, r = (k : Int) := ⟨r.toNat, by omega⟩
  have hk : k ≤ 20 := by omega
  refine ws_seq (ws_asg (lc_draws (m := more m 1) (N := k) (fun z => pieceOk z ∧ InZ zs z) (by omega) (fun Q' q => wi_rng1 (wa_cons (we_var rfl (wa_nil ⟨(k : Int), rfl, by omega, by omega, by rw [Int.toNat_natCast]; exact q⟩)))) (fun F' j d hj => ?_) fun ss h1 h2 => ?_))
  · refine we_call okx0 (wa_cons (we_var rfl (wa_cons (we_op (we_op (we_var rfl (we_c (wo_repL (by decide) (by decide) ?_ (we_lst (wa_cons (we_c (wa_cons (we_c (wa_cons (we_c (wa_nil ⟨by decide, wo_addL ?_ (wa_nil ⟨p, _, _, rfl, hS, ?_, rfl, by simp, ?_, fun d hd => ?_⟩)⟩))))))))))))))))
    · rw [List.length_map]
      refine le_line ?_
      show zs.length * 2 ≤ _
      omega
    · rw [len_twice, List.length_map]
      refine le_line ?_
      show 2 * zs.length + 3 ≤ _
      omega
    · show m.cnt + 1 + j < _
      omega
    · rw [List.length_append, len_twice, List.length_map]
      show 2 * zs.length + 3 ≤ 1000000
      omega
    · rcases List.mem_append.mp hd with q | q
      · obtain ⟨l, hl1, hl2⟩ := List.mem_flatten.mp q
        rw [(List.mem_replicate.mp hl1).2] at hl2
        obtain ⟨z, hz1, rfl⟩ := List.mem_map.mp hl2
        refine ⟨z, rfl, ⟨⟨name_ne (hz z hz1), ?_⟩, .inr (.inr hz1)⟩, rfl⟩
        rw [hz z hz1, Bool.or_true]
      · simp only [List.mem_cons, List.not_mem_nil, or_false] at q
        rcases q with rfl | rfl | rfl
        · exact ⟨_, rfl, ⟨⟨by decide +kernel, by decide +kernel⟩, .inl rfl⟩, rfl⟩
        · exact ⟨_, rfl, ⟨⟨by decide +kernel, by decide +kernel⟩, .inr (.inl rfl)⟩, rfl⟩
        · exact ⟨_, rfl, ⟨⟨by decide +kernel, by decide +kernel⟩, .inr (.inl rfl)⟩, rfl⟩
  refine ws_seq (ws_asg (lc_draws (m := more (more m 1) k) (N := k + 1) (fun z => ∃ j, 1 ≤ j ∧ j ≤ 3 ∧ z = repS "/" j) (by omega) (fun Q' q => wi_rng1 (wa_cons (we_op (we_var rfl (we_c (wo_addI (wa_nil ⟨(k : Int) + 1, rfl, by omega, by omega, by rw [show ((k : Int) + 1).toNat = k + 1 by omega]; exact q⟩))))))) (fun F' j d hj => ?_) fun bs b1 b2 => ?_))
  · refine we_op (we_c (we_call okx0 (wa_cons (we_var rfl (wa_cons (we_lst (wa_cons (we_c (wa_cons (we_c (wa_cons (we_c (wa_cons (we_c (wa_cons (we_c (wa_nil ⟨by decide, wa_nil ⟨p, _, _, rfl, hS, ?_, rfl, by simp, by show 5 ≤ 1000000; decide, fun d hd => ?_⟩⟩)))))))))))))))))
    · show m.cnt + 1 + k + j < _
      omega
    · simp only [List.mem_cons, List.not_mem_nil, or_false] at hd
      have hd' : ∃ j : Nat, d = intD j ∧ 1 ≤ j ∧ j ≤ 3 := by
        rcases hd with rfl | rfl | rfl | rfl | rfl
        · exact ⟨1, rfl, by decide, by decide⟩
        · exact ⟨1, rfl, by decide, by decide⟩
        · exact ⟨1, rfl, by decide, by decide⟩
        · exact ⟨2, rfl, by decide, by decide⟩
        · exact ⟨3, rfl, by decide, by decide⟩
      obtain ⟨i, rfl, i1, i3⟩ := hd'
      refine wo_repS (by omega) (by omega) (by decide +kernel) ⟨_, rfl, ⟨i, i1, i3, ?_⟩, rfl⟩
      rw [Int.toNat_natCast]
  have bar : ∀ i : Nat, i < k + 1 → ∃ j, bs[i]? = some (repS "/" j) ∧ 1 ≤ j ∧ j ≤ 3 := fun i hi => by
    have hi' : i < bs.length := by omega
    obtain ⟨j, j1, j3, e⟩ := b2 bs[i] (List.getElem_mem hi')
    exact ⟨j, by rw [List.getElem?_eq_getElem hi', e], j1, j3⟩
  have blen : ∀ j, (repS "/" j).length = j := fun j => by rw [TL.len_tl, tl_rep, List.length_replicate]
  show WS K F B _ _ (more (more (more m 1) k) (k + 1)) _
  rw [more_more, more_more]
  refine ws_seqI (fun ρ1 m1 => ∃ s q, ρ1 = [some (.s (.ref p)), some (strsD zs), some (intD n), some (intD k), some (strsD ss), none, some (strsD bs), some (strD s), none] ∧ m1 = more m q ∧ q ≤ 60 ∧ Grown zs k 0 s) ?_ ?_
  · have first : ∀ q, q ≤ 60 → WE K F B (tOp (rIx K) (tVar 6) (tC (.int 0))) [some (.s (.ref p)), some (strsD zs), some (intD n), some (intD k), some (strsD ss), none, some (strsD bs), none, none] (more m q) fun x m1 => ∃ s, x = strD s ∧ m1 = more m q ∧ Grown zs k 0 s := fun q hq => by
      obtain ⟨j, e, j1, j3⟩ := bar 0 (by omega)
      refine we_op (we_var rfl (we_c (wo_ixL (d := strD (repS "/" j)) (atI_zero ?_) ⟨_, rfl, rfl, ?_⟩)))
      · rw [List.head?_map, List.head?_eq_getElem?, e]
        rfl
      · refine ⟨by rw [blen]; omega, ?_, .inl ⟨j, tl_rep j, j3, fun _ => j1⟩, (fun z => nomatch z)⟩
        rw [tl_rep]
        have := DT.goodQ_add (Q := InZ zs) DT.goodQ_nil DT.goodQ_nil j1
        simpa using this
    have fin : ∀ {ρ0 : DD.Env} {x : D} {m1 : Mem} {q : Nat}, q ≤ 60 → ρ0 = [some (.s (.ref p)), some (strsD zs), some (intD n), some (intD k), some (strsD ss), none, some (strsD bs), none, none] → (∃ s, x = strD s ∧ m1 = more m q ∧ Grown zs k 0 s) → (∃ s q, ρ0.set 7 (some x) = [some (.s (.ref p)), some (strsD zs), some (intD n), some (intD k), some (strsD ss), none, some (strsD bs), some (strD s), none] ∧ m1 = more m q ∧ q ≤ 60 ∧ Grown zs k 0 s) := fun {ρ0 x m1 q} hq e ⟨s, e1, e2, e3⟩ => by
      subst e e1 e2
      exact ⟨s, q, rfl, rfl, hq, e3⟩
    refine ws_asg (we_if (wt_or (wt_test (we_op (we_var rfl (we_c (wo_eqS rfl ⟨_, rfl, fun q => ?_, fun q => ?_⟩)))))))
    · have k0 : k ≠ 0 := by
        have := of_decide_eq_false q
        simpa using this
      refine wt_test (we_op (we_call okx0 (wa_cons (we_var rfl (wa_cons (we_c (wa_nil ⟨p, 3, rfl, hS, by decide, by decide, ?_, fun r r0 r1 => we_c (wo_eqS rfl ⟨_, rfl, fun q2 => ?_, fun q2 => ?_⟩)⟩)))))))
      · show m.cnt + (1 + (k + (k + 1))) < _
        omega
      · exact we_imp (first (1 + (k + (k + 1)) + 1) (by omega)) fun d m' z => fin (q := 1 + (k + (k + 1)) + 1) (by omega) rfl z
      · refine we_c ⟨"", 1 + (k + (k + 1)) + 1, rfl, rfl, by omega, by decide +kernel, ?_, .inl ⟨0, by decide +kernel, by decide, fun z => absurd z k0⟩, (fun z => nomatch z)⟩
        have e0 : TL.tl ("" : Str) = [] := by decide +kernel
        rw [e0]
        exact DT.goodQ_nil
    · refine ⟨fun _ => ?_, fun z => nomatch z⟩
      exact we_imp (first (1 + (k + (k + 1))) (by omega)) fun d m' z => fin (q := 1 + (k + (k + 1))) (by omega) rfl z
  rintro ρ1 m1 ⟨s, q, rfl, rfl, hq, hg⟩
  refine ws_seq (ws_for (wi_enum (wa_cons (we_var rfl (wa_nil ⟨_, rfl, fun i ρ2 m2 => ∃ s x y, ρ2 = [some (.s (.ref p)), some (strsD zs), some (intD n), some (intD k), some (strsD ss), x, some (strsD bs), some (strD s), y] ∧ m2 = more m q ∧ Grown zs k i s, ?_, ?_, ?_⟩)))))
  · exact ⟨s, none, none, rfl, rfl, hg⟩
  · rintro i d ρ2 m2 hd ⟨s, x, y, rfl, rfl, g1, g2, g3, g4⟩
    obtain ⟨u, hu, rfl⟩ := enum_get hd
    rw [List.getElem?_map] at hu
    cases hv : ss[i]? with
    | none =>
      rw [hv] at hu
      cases hu
    | some v =>
      rw [hv] at hu
      cases hu
      have hik : i < k := by
        have := (List.getElem?_eq_some_iff.mp hv).1
        omega
      obtain ⟨hvp, hvq⟩ := h2 v (List.mem_of_getElem? hv)
      have hvl := piece_len hvp
      refine wg_tup rfl (wgs_cons (wg_name (wgs_cons (wg_name (wgs_nil ?_)))))
      rw [Nat.zero_add]
      have last : ∀ t : Str, t.length ≤ 3 → (∃ j, TL.tl t = List.replicate j 47 ∧ (0 < i → 1 ≤ j) ∧ (i = 0 → j = 0)) → WO K F B (rAddA K) (strD s) (strD t) (more m q) fun x m1 => WE K F B (tVar 8) [some (.s (.ref p)), some (strsD zs), some (intD n), some (intD k), some (strsD ss), some (intD i), some (strsD bs), some (strD s), some (strD v)] m1 fun y m2 => WO K F B (rAddA K) x y m2 fun x m1 => ∃ s' x' y', ([some (.s (.ref p)), some (strsD zs), some (intD n), some (intD k), some (strsD ss), some (intD i), some (strsD bs), some (strD s), some (strD v)] : DD.Env).set 7 (some x) = [some (.s (.ref p)), some (strsD zs), some (intD n), some (intD k), some (strsD ss), x', some (strsD bs), some (strD s'), y'] ∧ m1 = more m q ∧ Grown zs k (i + 1) s' := fun t tl3 ⟨j, e, j1, j0⟩ => by
        refine wo_addS (le_line (by omega)) (we_var rfl (wo_addS ?_ ⟨s ++ t ++ v, _, _, rfl, rfl, ?_, ?_, .inr (Nat.succ_pos _), fun _ => ?_⟩))
        · rw [Str.length_append]
          exact le_line (by omega)
        · rw [Str.length_append, Str.length_append]
          omega
        · rw [TL.tl_append, TL.tl_append, e]
          rcases Nat.eq_zero_or_pos i with i0 | i0
          · rw [j0 i0, List.replicate_zero, List.append_nil]
            rcases g3 with ⟨j', e', _⟩ | z
            · rw [e']
              rcases Nat.eq_zero_or_pos j' with z | z
              · rw [z]
                exact good_piece hvp hvq
              · have := DT.goodQ_add (Q := InZ zs) DT.goodQ_nil (good_piece hvp hvq) z
                simpa using this
            · omega
          · exact DT.goodQ_add g2 (good_piece hvp hvq) (j1 i0)
        · rw [TL.tl_append, TL.tl_append]
          rcases Nat.eq_zero_or_pos i with i0 | i0
          · intro z
            have z2 := (List.append_eq_nil_iff.mp z).2
            exact hvp.1 z2
          · intro z
            have z2 := (List.append_eq_nil_iff.mp (List.append_eq_nil_iff.mp z).1).1
            exact g4 i0 z2
      refine ws_asg (we_op (we_op (we_var rfl (we_if (wt_test (we_op (we_var rfl (we_c (wo_I0 ⟨_, rfl, fun q => ?_, fun q => ?_⟩)))))))))
      · obtain ⟨j, e, j1, j3⟩ := bar i (by omega)
        refine we_op (we_var rfl (we_var rfl (wo_ixL (d := strD (repS "/" j)) (L2.atI_nat ?_) (last _ (by rw [blen]; exact j3) ⟨j, tl_rep j, fun _ => j1, fun z => ?_⟩))))
        · rw [List.getElem?_map, e]
          rfl
        · have := of_decide_eq_true q
          omega
      · have i0 : ¬ (0 : Int) < (i : Int) := of_decide_eq_false q
        exact we_c (last _ (by decide +kernel) ⟨0, by decide +kernel, fun z => absurd z (by omega), fun _ => rfl⟩)
  · rintro ρ2 m2 ⟨s, x, y, rfl, rfl, g1, g2, g3, g4⟩
    rw [enumD_length, List.length_map, h1] at g1 g3 g4
    have hs0 : TL.tl s ≠ [] := by
      rcases Nat.eq_zero_or_pos k with k0 | k0
      · rcases g3 with ⟨j, e, _, e3⟩ | z
        · rw [e]
          have := e3 k0
          intro z
          have z2 := congrArg List.length z
          rw [List.length_replicate] at z2
          simp at z2
          omega
        · omega
      · exact g4 k0
    have fin : ∀ {t : Str} {q' : Nat}, q' ≤ 61 → t.length ≤ 3 → (TL.tl t = [] ∨ ∃ j, 1 ≤ j ∧ TL.tl t = List.replicate j 47) → WO K F B (rAddA K) (strD s) (strD t) (more m q') fun d m' => ∃ z, d = strD z ∧ DT.isPath z = true ∧ z.length ≤ 400 ∧ (∀ x ∈ DT.steps z, InZ zs x) ∧ ∃ q, q ≤ 100 ∧ m' = more m q := fun {t q'} hq' ht hh => by
      have hQ : DT.GoodQ (InZ zs) (TL.tl (s ++ t)) := by
        rw [TL.tl_append]
        rcases hh with e | ⟨j, j1, e⟩
        · rw [e, List.append_nil]
          exact g2
        · rw [e]
          have := DT.goodQ_add g2 DT.goodQ_nil j1
          simpa using this
      refine wo_addS (le_line (by omega)) ⟨s ++ t, rfl, ?_, ?_, DT.goodQ_steps hQ, q', by omega, rfl⟩
      · refine DT.isPath_iff.mpr ⟨fun z => ?_, ?_⟩
        · have z2 := congrArg TL.tl z
          rw [TL.tl_append] at z2
          exact hs0 (List.append_eq_nil_iff.mp (z2.trans (by decide +kernel))).1
        · exact DT.goodQ_good hQ (inZ_good hz)
      · rw [Str.length_append]
        omega
    refine ws_ret (we_conv (Q := fun d m' => ∃ z, d = strD z ∧ DT.isPath z = true ∧ z.length ≤ 400 ∧ (∀ x ∈ DT.steps z, InZ zs x) ∧ ∃ q, q ≤ 100 ∧ m' = more m q) ?_ fun d m' ⟨z, e, hz, hzl, hzs, q, hq, em⟩ => ?_)
    · have e0 : TL.tl ("" : Str) = [] := by decide +kernel
      refine we_op (we_var rfl (we_if (wt_and (wt_test (we_op (we_var rfl (we_c (wo_I0 ⟨_, rfl, fun q => ?_, fun q => ?_⟩))))))))
      · refine wt_test (we_op (we_call okx0 (wa_cons (we_var rfl (wa_cons (we_c (wa_nil ⟨p, 4, rfl, hS, by decide, by decide, ?_, fun r r0 r1 => we_c (wo_eqS rfl ⟨_, rfl, fun q2 => ?_, fun q2 => ?_⟩)⟩)))))))
        · show m.cnt + _ < _
          omega
        · obtain ⟨j, e, j1, j3⟩ := bar k (by omega)
          refine we_op (we_var rfl (we_un (we_c (wu_neg (wo_ixL (d := strD (repS "/" j)) (atI_last ?_) (fin (q' := _ + 1) (by omega) (by rw [blen]; exact j3) (.inr ⟨j, j1, tl_rep j⟩)))))))
          rw [List.getLast?_map, List.getLast?_eq_getElem?, b1]
          show (bs[k + 1 - 1]?).map strD = _
          rw [Nat.add_sub_cancel, e]
          rfl
        · exact we_c (fin (q' := _ + 1) (by omega) (by decide +kernel) (.inl e0))
      · exact ⟨(fun z => nomatch z), fun _ => we_c (fin (by omega) (by decide +kernel) (.inl e0))⟩
    · subst e em
      exact ⟨more m 100, Conv.count (m := more m q) (n := m.cnt + 100) (Nat.add_le_add_left hq _), h z hz hzl hzs⟩
theorem closed_more {tr : Tr} {ns : Place} {th : Th} (h : Closed tr) (hf : kindT tr ns.dropLast = some "folder") : Closed (tr ++ [(ns, th)]) := by
  have hold : ∀ p k, kindT tr p = some k → kindT (tr ++ [(ns, th)]) p = some k := fun p k hk => by
    obtain ⟨th', e1, e2, _⟩ := kind_mem hk
    show (look _ p).map _ = _
    rw [look_app1, e1]
    exact congrArg some e2
  intro e he h0
  rcases List.mem_append.mp he with z | z
  · exact hold _ _ (h e z h0)
  · rw [List.mem_singleton.mp z]
    exact hold _ _ hf
theorem root_ok {U : List Str} (hl : U.length ≤ 100) (hn : ∀ u ∈ U, DT.isName u = true) : OkTr U [([], ⟨"folder", none⟩)] := ⟨⟨_, rfl⟩, by decide, by decide, fun e he => by rw [List.mem_singleton.mp he]; exact ⟨Nat.zero_le _, fun n hn => (nomatch hn), .inr ⟨.inl rfl, rfl⟩⟩, hl, hn⟩
structure DrawnTr (zs : List Str) (i : Nat) (tr : Tr) : Prop where
  ok : OkTr zs tr
  cl : Closed tr
  few : tr.length ≤ i + 1
  four : ∀ e ∈ tr, e.1.length ≤ 4 ∧ ∀ x ∈ e.1, x ∈ zs
  wr : ∀ e ∈ tr, ∀ w, e.2.wr = some w → w.length ≤ 400
theorem drawn_more {zs : List Str} {i : Nat} {tr : Tr} {k : Place} {x : Str} {th : Th} (h : DrawnTr zs i tr) (hi : i < 20) (hk : kindT tr k = some "folder") (h4 : k.length < 4) (hx : x ∈ zs) (hno : look tr (k ++ [x]) = none) (ht : ThOk zs th) (hw : ∀ w, th.wr = some w → w.length ≤ 400) :
    DrawnTr zs (i + 1) (tr ++ [(k ++ [x], th)]) := by
  obtain ⟨th', e1, e2, hm⟩ := kind_mem hk
  have hd : DeedOk zs tr (k ++ [x]) := by
    refine ⟨h.ok, ?_, by simp, ?_, fun n hn => ?_, by rw [List.dropLast_concat]; exact hk, hno⟩
    · have := h.few
      omega
    · rw [List.length_append, List.length_singleton]
      omega
    · rcases List.mem_append.mp hn with z | z
      · exact (h.ok.each _ hm).2.1 n z
      · rw [List.mem_singleton.mp z]
        exact h.ok.un x hx
  refine ⟨hd.more ht, closed_more h.cl (by rw [List.dropLast_concat]; exact hk), ?_, fun e he => ?_, fun e he => ?_⟩
  · rw [List.length_append, List.length_singleton]
    have := h.few
    omega
  · rcases List.mem_append.mp he with z | z
    · exact h.four e z
    · rw [List.mem_singleton.mp z]
      refine ⟨by show (k ++ [x]).length ≤ 4; rw [List.length_append, List.length_singleton]; omega, fun y hy => ?_⟩
      rcases List.mem_append.mp hy with q | q
      · exact (h.four _ hm).2 y q
      · rw [List.mem_singleton.mp q]
        exact hx
  · rcases List.mem_append.mp he with z | z
    · exact h.wr e z
    · rw [List.mem_singleton.mp z]
      exact hw
theorem rd__law_t_drawn {K : PySem.W.Frag} {mg : Str → Option Value} (T : Txt K mg) (E : XK) : BodyOk K (φ__law_t_drawn T) N__law_t_drawn E (t__law_t_drawn T E) := by
  intro ds m nx X F B h hE
  obtain ⟨p, zs, n, rfl, hS, hcnt, hz0, hzl, hzn, hn, h⟩ := h
  rw [st__law_t_drawn]
  unfold t__law_t_drawn
  have l1 : ∀ k : Nat, k ≤ 100 → k ≤ sizeLine := fun k hk => le_line (Nat.le_trans hk (by decide))
  refine ws_seq (ws_asg (we_dispT fun l hl => ?_))
  refine wps_cons (we_tupP (wa_nil ⟨[], rfl, len0, we_tup (wa_cons (we_c (wa_cons (we_c (wa_nil ⟨len2 _ _, ?_⟩)))))⟩))
  refine wps_nil ⟨putM_same, [[]], [thL ⟨"folder", none⟩], rfl, rfl, by decide, by decide +kernel, ?_⟩
  rw [show ({ ({ m with own := putM m.own l (.dT [] []) } : Mem) with own := putM (putM m.own l (.dT [] [])) l (.dT [[]] [thL ⟨"folder", none⟩]) } : Mem) = { m with own := putM m.own l (.dT [[]] [thL ⟨"folder", none⟩]) } from by simp only [putM_put]]
  refine ws_seq (ws_for (wi_rng1 (wa_cons (we_call okx0 (wa_cons (we_var rfl (wa_cons (we_op (we_var rfl (we_c (wo_addI (wa_nil ⟨p, _, rfl, stream_put hS hl _, by omega, by omega, by show m.cnt < _; omega, fun r r0 r1 => ?_⟩))))))))))))
  obtain ⟨j, rfl⟩ := Int.eq_ofNat_of_zero_le r0
  have hj : j ≤ n := by omega
  refine wa_nil ⟨(j : Nat), rfl, by omega, by omega, fun i ρ2 m2 => ∃ (x4 x5 x6 x7 : Option D) (tr : Tr), ρ2 = [some (.s (.ref p)), some (strsD zs), some (intD (n : Nat)), some (.s (.ref l)), x4, x5, x6, x7] ∧ m2 = { cnt := m.cnt + 1 + 103 * i, own := putM m.own l (.dT (keysT tr) (tr.map fun e => thL e.2)) } ∧ DrawnTr zs i tr, ?_, ?_, ?_⟩
  · exact ⟨none, none, none, none, [([], ⟨"folder", none⟩)], rfl, rfl, root_ok (by omega) hzn, fun e he h0 => by rw [List.mem_singleton.mp he] at h0; exact absurd rfl h0, by decide, fun e he => by rw [List.mem_singleton.mp he]; exact ⟨Nat.zero_le _, fun x hx => (nomatch hx)⟩, fun e he w hw => by rw [List.mem_singleton.mp he] at hw; cases hw⟩
  · rintro i d ρ2 m2 hdi ⟨x4, x5, x6, x7, tr, rfl, rfl, hc⟩
    obtain ⟨hi, rfl⟩ := rngD_get hdi
    rw [Int.toNat_natCast] at hi
    have hi20 : i < 20 := by omega
    generalize hM : putM m.own l (.dT (keysT tr) (tr.map fun e => thL e.2)) = M
    have hMl : M l = some (.dT (keysT tr) (tr.map fun e => thL e.2)) := by rw [← hM]; exact putM_same
    have hSt : ∀ c, Stream { cnt := c, own := M } p := fun c => by rw [← hM]; exact stream_put hS hl c
    have hr : ∃ r, keysT tr = [] :: r := by
      obtain ⟨r, e⟩ := hc.ok.root
      exact ⟨r.map (·.1), by rw [e]; rfl⟩
    refine wg_name (ws_seq (ws_asg (we_lcFilter (wi_any (we_cb (wa_cons (we_var rfl (wa_nil (wc_sortedT (m := { cnt := m.cnt + 1 + 103 * i, own := M }) hMl hr ⟨_, rfl, (fun d => match d with | .pl k => decide (kindT tr k = some ("folder" : Str)) && decide (k.length < 4) | _ => false), id, ?_, fun F' d hd => ?_, ?_⟩)))))))))
    · rw [List.length_map, (sortT_perm _).length_eq, List.length_map]
      exact le_line (Nat.le_trans hc.ok.few (by decide))
    · obtain ⟨k, hk, rfl⟩ := List.mem_map.mp hd
      have hk' : k ∈ keysT tr := (sortT_perm _).mem_iff.mp hk
      cases e : look tr k with
      | none => exact absurd e (key_look hk')
      | some th =>
        have ek : kindT tr k = some th.kind := by
          show (look tr k).map _ = _
          rw [e]
          rfl
        have e1 : decide (V.str th.kind = V.str "folder") = decide (kindT tr k = some ("folder" : Str)) := by
          rw [ek, Bool.eq_iff_iff, decide_eq_true_eq, decide_eq_true_eq]
          exact ⟨fun z => congrArg some (V.str.inj z), fun z => congrArg V.str (Option.some.inj z)⟩
        refine wgw_name List.mem_cons_self ⟨rfl, wt_and (wt_test (we_op (we_op (we_op (we_var rfl (we_var rfl (wo_ixQ (.inl rfl) hMl (by rw [look_map thL, e]; rfl) (we_c (wo_ixT (d := strD th.kind) rfl (we_c (wo_eqS rfl ⟨_, rfl, fun z => ?_, fun z => ?_⟩)))))))))))⟩
        · rw [e1] at z
          refine wt_test (we_op (we_cb (wa_cons (we_var rfl (wa_nil (wc_len (n := k.length) (by show _ = _; simp) (we_c (wo_I0 ⟨_, rfl, ?_, rfl, fun _ => we_var rfl ⟨rfl, rfl⟩⟩))))))))
          show decide ((k.length : Int) < 4) = (decide (kindT tr k = some ("folder" : Str)) && decide (k.length < 4))
          rw [z, Bool.true_and, Bool.eq_iff_iff, decide_eq_true_eq, decide_eq_true_eq]
          omega
        · rw [e1] at z
          refine ⟨?_, rfl, fun y => nomatch y⟩
          show false = (decide (kindT tr k = some ("folder" : Str)) && decide (k.length < 4))
          rw [z]
          rfl
    rw [List.map_id, List.filter_map]
    have hhome : ∀ k, k ∈ (sortT (keysT tr)).filter ((fun d => match d with | .pl k => decide (kindT tr k = some ("folder" : Str)) && decide (k.length < 4) | _ => false) ∘ D.pl) → kindT tr k = some "folder" ∧ k.length < 4 := fun k hk => by
      have := (List.mem_filter.mp hk).2
      have h2 : (decide (kindT tr k = some ("folder" : Str)) && decide (k.length < 4)) = true := this
      rw [Bool.and_eq_true, decide_eq_true_eq, decide_eq_true_eq] at h2
      exact h2
    have hne : ((sortT (keysT tr)).filter ((fun d => match d with | .pl k => decide (kindT tr k = some ("folder" : Str)) && decide (k.length < 4) | _ => false) ∘ D.pl)) ≠ [] := by
      refine List.ne_nil_of_mem (a := ([] : Place)) (List.mem_filter.mpr ⟨(sortT_perm _).mem_iff.mpr ?_, ?_⟩)
      · obtain ⟨r, e⟩ := hr
        rw [e]
        exact List.mem_cons_self
      · show (decide (kindT tr [] = some ("folder" : Str)) && decide (([] : Place).length < 4)) = true
        rw [kind_root hc.ok]
        rfl
    have hlen : ((sortT (keysT tr)).filter ((fun d => match d with | .pl k => decide (kindT tr k = some ("folder" : Str)) && decide (k.length < 4) | _ => false) ∘ D.pl)).length ≤ 100 := by
      refine Nat.le_trans (List.length_filter_le _ _) ?_
      rw [(sortT_perm _).length_eq, List.length_map]
      exact hc.ok.few
    generalize (sortT (keysT tr)).filter ((fun d => match d with | .pl k => decide (kindT tr k = some ("folder" : Str)) && decide (k.length < 4) | _ => false) ∘ D.pl) = homes at hhome hne hlen
    refine ws_seq (ws_asg (we_op (we_call okx0 (wa_cons (we_var rfl (wa_cons (we_var rfl (wa_nil ⟨p, _, _, rfl, hSt _, by show m.cnt + 1 + 103 * i < _; omega, rfl, by simpa using hne, by rw [List.length_map]; exact Nat.le_trans hlen (by decide), fun d hd => ?_⟩))))))))
    obtain ⟨k, hk, rfl⟩ := List.mem_map.mp hd
    obtain ⟨hkf, hk4⟩ := hhome k hk
    refine we_tupP (wa_cons (we_call okx0 (wa_cons (we_var rfl (wa_cons (we_var rfl (wa_nil ⟨p, _, _, rfl, hSt _, by show m.cnt + 1 + 103 * i + 1 < _; omega, rfl, by simpa using hz0, by rw [List.length_map]; exact Nat.le_trans hzl (by decide), fun d hd => ?_⟩)))))))
    obtain ⟨x, hx, rfl⟩ := List.mem_map.mp hd
    refine wa_nil ⟨[x], rfl, l1 1 (by decide), wo_catP (.inl rfl) (by simp) (l1 _ (by show k.length + 1 ≤ 100; omega)) ?_⟩
    have hkinds : ∀ d ∈ ([strD "folder", strD "folder", strD "folder", strD "file", strD "link", strD "link"] : List D), ∃ c, d = strD c ∧ (c = "folder" ∨ c = "file" ∨ c = "link") := fun d hd => by
      simp only [List.mem_cons, List.not_mem_nil, or_false] at hd
      rcases hd with rfl | rfl | rfl | rfl | rfl | rfl
      · exact ⟨_, rfl, .inl rfl⟩
      · exact ⟨_, rfl, .inl rfl⟩
      · exact ⟨_, rfl, .inl rfl⟩
      · exact ⟨_, rfl, .inr (.inl rfl)⟩
      · exact ⟨_, rfl, .inr (.inr rfl)⟩
      · exact ⟨_, rfl, .inr (.inr rfl)⟩
    refine ws_seq (ws_asg (we_call okx0 (wa_cons (we_var rfl (wa_cons (we_lst (wa_cons (we_c (wa_cons (we_c (wa_cons (we_c (wa_cons (we_c (wa_cons (we_c (wa_cons (we_c (wa_nil ⟨l1 6 (by decide), wa_nil ⟨p, _, _, rfl, hSt _, by show m.cnt + 1 + 103 * i + 1 + 1 < _; omega, rfl, by simp, by show 6 ≤ 1000000; decide, fun d hd => ?_⟩⟩)))))))))))))))))))
    obtain ⟨c, rfl, hcc⟩ := hkinds d hd
    show WS K F B _ _ { cnt := m.cnt + 1 + 103 * i + 3, own := M } _
    refine ws_if (wt_test (we_op (we_var rfl (we_var rfl (wo_inQb (neg := true) (.inl rfl) hMl ⟨_, rfl, fun q => ?_, fun q => ?_⟩)))))
    · have hno : look tr (k ++ [x]) = none := by
        rw [look_map thL] at q
        cases e : look tr (k ++ [x]) with
        | none => rfl
        | some th =>
          rw [e] at q
          cases q
      have hsm : ∀ c' : Nat, c' ≤ m.cnt + 1 + 103 * (i + 1) → ∀ th : Th, ThOk zs th → (∀ w, th.wr = some w → w.length ≤ 400) → WG K F B (gSub (tVar 3) (tVar 6) rSetD) (thL th) [some (.s (.ref p)), some (strsD zs), some (intD (n : Nat)), some (.s (.ref l)), some (intD (i : Nat)), some (.lst (homes.map D.pl)), some (.pl (k ++ [x])), some (strD c)] { cnt := c', own := M } fun ρ1 m1 => ∃ m2, Conv m1 m2 ∧ ∃ (x4 x5 x6 x7 : Option D) (tr : Tr), ρ1 = [some (.s (.ref p)), some (strsD zs), some (intD (n : Nat)), some (.s (.ref l)), x4, x5, x6, x7] ∧ m2 = { cnt := m.cnt + 1 + 103 * (i + 1), own := putM m.own l (.dT (keysT tr) (tr.map fun e => thL e.2)) } ∧ DrawnTr zs (i + 1) tr := fun c' hc' th hth hw => by
        refine wg_subT (we_var rfl (we_var rfl ⟨l, _, _, k ++ [x], rfl, rfl, hMl, ?_, ?_, ?_⟩))
        · have := hc.few
          rw [List.length_map]
          exact lt_line (by omega)
        · rw [look_map thL, hno]
          rfl
        · refine ⟨{ cnt := m.cnt + 1 + 103 * (i + 1), own := putM m.own l (.dT (keysT (tr ++ [(k ++ [x], th)])) ((tr ++ [(k ++ [x], th)]).map fun e => thL e.2)) }, ?_, _, _, _, _, tr ++ [(k ++ [x], th)], rfl, rfl, drawn_more hc hi20 hkf hk4 hx hno hth hw⟩
          rw [show keysT (tr ++ [(k ++ [x], th)]) = keysT tr ++ [k ++ [x]] from by simp [keysT], List.map_append, ← hM, putM_put]
          exact Conv.count (m := { cnt := c', own := _ }) hc'
      rw [show (0 : Int) + (i : Int) = (i : Int) from by omega]
      refine ws_conv (ws_asgG (we_tup (wa_cons (we_var rfl (wa_cons (we_if (wt_test (we_op (we_var rfl (we_c (wo_eqS rfl ⟨_, rfl, fun z => ?_, fun z => ?_⟩)))))))))))
      · have ec : c = "link" := V.str.inj (of_decide_eq_true z)
        subst ec
        refine we_call okx0 (wa_cons (we_var rfl (wa_cons (we_var rfl (wa_cons (we_c (wa_nil ⟨p, zs, 3, rfl, hSt _, by show m.cnt + 1 + 103 * i + 3 < _; omega, hzl, hzn, by decide, by decide, fun w hw1 hw2 hw3 => wa_nil ⟨len2 _ _, ?_⟩⟩)))))))
        exact hsm (m.cnt + 1 + 103 * i + 3 + 100) (by omega) ⟨"link", some w⟩ (.inl ⟨rfl, w, rfl, hw1, Nat.le_trans hw2 (by decide), hw3⟩) (fun w' e => by cases e; exact hw2)
      · have ec : c = "folder" ∨ c = "file" := by
          rcases hcc with e | e | e
          · exact .inl e
          · exact .inr e
          · rw [e] at z
            exact absurd rfl (of_decide_eq_false z)
        refine we_c (wa_nil ⟨len2 _ _, ?_⟩)
        exact hsm (m.cnt + 1 + 103 * i + 3) (by omega) ⟨c, none⟩ (.inr ⟨ec, rfl⟩) (fun w' e => nomatch e)
    · exact ws_count (n := m.cnt + 1 + 103 * (i + 1)) (ws_next ⟨_, _, _, _, tr, rfl, by rw [← hM], hc.ok, hc.cl, Nat.le_succ_of_le hc.few, hc.four, hc.wr⟩) (by show m.cnt + 1 + 103 * i + 3 ≤ _; omega)
  · rintro ρ2 m2 ⟨x4, x5, x6, x7, tr, rfl, rfl, hc⟩
    rw [rngD_length, Int.toNat_natCast] at hc ⊢
    exact ws_count (n := m.cnt + 3000) (ws_ret (we_var rfl (h l tr hl hc.ok hc.cl (Nat.le_trans hc.few (by omega)) hc.four hc.wr))) (by show m.cnt + 1 + 103 * j ≤ m.cnt + 3000; omega)
theorem rd__law_t_up {K : PySem.W.Frag} {mg : Str → Option Value} (T : Txt K mg) (E : XK) : BodyOk K (φ__law_t_up T) N__law_t_up E (t__law_t_up T E) := by
  intro ds m nx X F B h hE
  obtain ⟨U, l, tr, rfl, ok, hm, h⟩ := h
  rw [st__law_t_up]
  unfold t__law_t_up
  have hr : ∃ r, keysT tr = [] :: r := by
    obtain ⟨r, e⟩ := ok.root
    exact ⟨r.map (·.1), by rw [e]; rfl⟩
  refine ws_ret (we_lcFilter (wi_any (we_cb (wa_cons (we_var rfl (wa_nil (wc_sortedT hm hr ⟨_, rfl, (fun d => match d with | .pl k => !decide (k = []) | _ => false), id, ?_, fun F' d hd => ?_, ?_⟩)))))))
  · rw [List.length_map, (sortT_perm _).length_eq, List.length_map]
    exact le_line (Nat.le_trans ok.few (by decide))
  · obtain ⟨k, hk, rfl⟩ := List.mem_map.mp hd
    have hk' : k ∈ keysT tr := (sortT_perm _).mem_iff.mp hk
    obtain ⟨e, he, rfl⟩ := List.mem_map.mp hk'
    obtain ⟨_, hn, _⟩ := ok.each e he
    refine wgw_name List.mem_cons_self ⟨rfl, wt_test (we_op (we_var rfl (we_tupP (wa_nil ⟨[], rfl, len0, ne_tup (.inl rfl) (.inl rfl) (names_ok hn) (fun z hz => nomatch hz) ⟨_, rfl, rfl, rfl, fun _ => we_var rfl ⟨rfl, rfl⟩⟩⟩))))⟩
  · rw [List.map_id, List.filter_map]
    exact h
theorem rd__law_t_built {K : PySem.W.Frag} {mg : Str → Option Value} (T : Txt K mg) (E : XK) : BodyOk K (φ__law_t_built T) N__law_t_built E (t__law_t_built T E) := by
  intro ds m nx X F B h hE
  obtain ⟨U, l, tr, rfl, hm, ok, cl, h⟩ := h
  rw [st__law_t_built]
  unfold t__law_t_built
  refine ws_seq (ws_asg (new_tree T fun t a ht ha hta => ?_))
  have hml : ∀ tr', (mT T.c_Tree T.c_Path m t a tr').own l = some (.dT (keysT tr) (tr.map fun e => thL e.2)) := fun tr' => mT_o ht ha hm
  refine ws_seq (ws_for (wi_any (we_call okx0 (wa_cons (we_var rfl (wa_nil ⟨U, l, tr, rfl, ok, hml _, _, rfl, fun i ρ2 m2 => ∃ (x2 x3 x4 : Option D), ρ2 = [some (.s (.ref l)), some (.s (.ref t)), x2, x3, x4] ∧ m2 = mT T.c_Tree T.c_Path m t a (upTr tr i), ?_, ?_, ?_⟩))))))
  · exact ⟨none, none, none, rfl, rfl⟩
  · rintro i d ρ2 m2 hdi ⟨x2, x3, x4, rfl, rfl⟩
    rw [List.getElem?_map] at hdi
    cases hv : (upK tr)[i]? with
    | none =>
      rw [hv] at hdi
      cases hdi
    | some k =>
      rw [hv] at hdi
      cases hdi
      have hd := up_deed ok cl hv
      have hk1 := (upK_mem.mp (List.mem_of_getElem? hv)).1
      obtain ⟨x, hx, ex⟩ := List.mem_map.mp hk1
      have hl := look_of_mem ok.nd hx
      rw [ex] at hl
      obtain ⟨_, _, hth⟩ := ok.each x hx
      generalize x.2 = th at hl hth
      have hmore : ∀ {nx' : Mem → Prop}, nx' (mT T.c_Tree T.c_Path m t a (upTr tr (i + 1))) → TreeMore T.c_Tree T.c_Path (mT T.c_Tree T.c_Path m t a (upTr tr i)) t (upTr tr i) k th nx' := fun {nx'} q => by
        refine ⟨a, mT_t, mT_h hta, ?_⟩
        rw [mT_more hta, ← upTr_more hv hl]
        exact q
      refine wg_name (ws_seq (ws_asgG (we_op (we_var rfl (we_var rfl (wo_ixQ (d := thL th) (.inl rfl) (hml _) (by rw [look_map thL, hl]; rfl) (wg_tup rfl (wgs_cons (wg_name (wgs_cons (wg_name (wgs_nil ?_))))))))))))
      rcases hth with ⟨hk, w, hw, hp, hpl, _⟩ | ⟨hk, hw⟩
      · obtain ⟨kd, wr⟩ := th
        have e1 : kd = "link" := hk
        have e2 : wr = some w := hw
        subst e1 e2
        refine ws_if (wt_test (we_op (we_var rfl (we_c (wo_eqS rfl ⟨_, rfl, fun z => absurd (show ("link" : Str) = "folder" from V.str.inj (of_decide_eq_true z)) (by decide), fun _ => ?_⟩)))))
        refine ws_if (wt_test (we_op (we_var rfl (we_c (wo_eqS rfl ⟨_, rfl, fun z => absurd (show ("link" : Str) = "file" from V.str.inj (of_decide_eq_true z)) (by decide), fun _ => ?_⟩)))))
        exact ws_drop (we_meth okx0 (we_var rfl ⟨⟨_, _, mT_t, by decide⟩, wa_cons (we_var rfl (wa_cons (make_path T (we_var rfl ⟨w, rfl, hp, Nat.le_trans hpl (by decide), wa_nil ⟨U, t, upTr tr i, k, w, rfl, hd, hmore ⟨_, _, _, rfl, rfl⟩⟩⟩))))⟩))
      · obtain ⟨kd, wr⟩ := th
        have e2 : wr = none := hw
        subst e2
        rcases hk with hk | hk
        · have e1 : kd = "folder" := hk
          subst e1
          refine ws_if (wt_test (we_op (we_var rfl (we_c (wo_eqS rfl ⟨_, rfl, fun _ => ?_, fun z => absurd rfl (of_decide_eq_false z)⟩)))))
          exact ws_drop (we_meth okx0 (we_var rfl ⟨⟨_, _, mT_t, by decide⟩, wa_cons (we_var rfl (wa_nil ⟨U, t, upTr tr i, k, rfl, hd, hmore ⟨_, _, _, rfl, rfl⟩⟩))⟩))
        · have e1 : kd = "file" := hk
          subst e1
          refine ws_if (wt_test (we_op (we_var rfl (we_c (wo_eqS rfl ⟨_, rfl, fun z => absurd (V.str.inj (of_decide_eq_true z)) (by decide), fun _ => ?_⟩)))))
          refine ws_if (wt_test (we_op (we_var rfl (we_c (wo_eqS rfl ⟨_, rfl, fun _ => ?_, fun z => absurd rfl (of_decide_eq_false z)⟩)))))
          exact ws_drop (we_meth okx0 (we_var rfl ⟨⟨_, _, mT_t, by decide⟩, wa_cons (we_var rfl (wa_nil ⟨U, t, upTr tr i, k, rfl, hd, hmore ⟨_, _, _, rfl, rfl⟩⟩))⟩))
  · rintro ρ2 m2 ⟨x2, x3, x4, rfl, rfl⟩
    rw [List.length_map]
    exact ws_ret (we_var rfl (h t a _ ht ha hta (upTr_ok ok _) (upTr_all ok) (links_of_look (upTr_ok ok _) (upTr_all ok))))
theorem rd__law_t_folders {K : PySem.W.Frag} {mg : Str → Option Value} (T : Txt K mg) (E : XK) : BodyOk K (φ__law_t_folders T) N__law_t_folders E (t__law_t_folders T E) := by
  intro ds m nx X F B h hE
  obtain ⟨U, l, tr, rfl, ok, hm, h⟩ := h
  rw [st__law_t_folders]
  unfold t__law_t_folders
  have hr : ∃ r, keysT tr = [] :: r := by
    obtain ⟨r, e⟩ := ok.root
    exact ⟨r.map (·.1), by rw [e]; rfl⟩
  refine ws_ret (we_lcFilter (wi_any (we_cb (wa_cons (we_var rfl (wa_nil (wc_sortedT hm hr ⟨_, rfl, (fun d => match d with | .pl k => decide (kindT tr k = some ("folder" : Str)) | _ => false), id, ?_, fun F' d hd => ?_, ?_⟩)))))))
  · rw [List.length_map, (sortT_perm _).length_eq, List.length_map]
    exact le_line (Nat.le_trans ok.few (by decide))
  · obtain ⟨k, hk, rfl⟩ := List.mem_map.mp hd
    have hk' : k ∈ keysT tr := (sortT_perm _).mem_iff.mp hk
    cases e : look tr k with
    | none => exact absurd e (key_look hk')
    | some th =>
      refine wgw_name List.mem_cons_self ⟨rfl, wt_test (we_op (we_op (we_op (we_var rfl (we_var rfl (wo_ixQ (.inl rfl) hm (by rw [look_map thL, e]; rfl) (we_c (wo_ixT (d := strD th.kind) rfl (we_c (wo_eqS rfl ⟨_, rfl, ?_, rfl, fun _ => we_var rfl ⟨rfl, rfl⟩⟩))))))))))⟩
      have ek : kindT tr k = some th.kind := by
        show (look tr k).map _ = _
        rw [e]
        rfl
      show decide (V.str th.kind = V.str "folder") = decide (kindT tr k = some ("folder" : Str))
      rw [ek, Bool.eq_iff_iff, decide_eq_true_eq, decide_eq_true_eq]
      exact ⟨fun z => congrArg some (V.str.inj z), fun z => congrArg V.str (Option.some.inj z)⟩
  · rw [List.map_id, List.filter_map]
    exact h
theorem rd__law_draw {K : PySem.W.Frag} {mg : Str → Option Value} (T : Txt K mg) (E : XK) : BodyOk K (φ__law_draw T) N__law_draw E (t__law_draw T E) := by
  intro ds m nx X F B h hE
  obtain ⟨p, n, rfl, ⟨c, hp, hc, hpc⟩, n0, n1, hm, h⟩ := h
  rw [st__law_draw]
  unfold t__law_draw
  refine ws_open hp hc hpc fun s1 s2 s3 ns hst hl => ?_
  obtain ⟨a1, ⟨a2, a3⟩, a4, a5⟩ := hst
  refine ws_seq (ws_setO (we_op (we_op (we_var rfl (we_c (wo_ixO (d := .s (.int s2)) opened_p rfl (we_c (wo_addI (we_var rfl (we_c ⟨p, _, 2, 2, rfl, rfl, opened_p, rfl, ?_⟩))))))))))
  show WS K F B _ _ ⟨m.cnt, putM (opened m.own p c s1 s2 s3 ns) p (.lst [.s (.ref c), .s (.int s1), .s (.int (s2 + 1)), .s (.int s3)])⟩ _
  rw [put4]
  have b2 : 0 ≤ s2 + 1 ∧ s2 + 1 ≤ ((m.cnt + 1 : Nat) : Int) := by omega
  generalize s2 + 1 = s2 at b2 ⊢
  refine ws_seqI (fun ρ1 m1 => ∃ s1 s3 ns x, ρ1 = [some (.s (.ref p)), some (intD n), x, none, none] ∧ m1 = ⟨m.cnt, opened m.own p c s1 s2 s3 ns⟩ ∧ 0 ≤ s1 ∧ (0 ≤ s3 ∧ s3 < 2147483647) ∧ ns.length ≤ 63) ?_ ?_
  · refine ws_if (wt_and (wt_test (we_op (we_op (we_var rfl (we_c (wo_ixO (d := .s (.int s1)) opened_p rfl (we_c (wo_eqS rfl ⟨_, rfl, fun q => ?_, fun q => ?_⟩)))))))))
    · refine wt_test (we_op (we_op (we_var rfl (we_c (wo_ixO (d := .s (.ref c)) opened_p rfl (we_lst (wa_nil ⟨by decide, wo_neNilO (opened_c hpc) ⟨_, rfl, fun q2 => ?_, fun q2 => ?_⟩⟩)))))))
      · cases ns with
        | nil => cases q2
        | cons z zs =>
          refine ws_seq (ws_asg (we_pop0 (we_op (we_var rfl (we_c (wo_ixO (d := .s (.ref c)) opened_p rfl ⟨c, rfl, ⟨_, opened_c hpc⟩, we_c ⟨rfl, .s (.int z), _, opened_c hpc, ?_⟩⟩))))))
          show WS K F B _ _ ⟨m.cnt, putM (opened m.own p c s1 s2 s3 (z :: zs)) c (.lst ((zs.map V.int).map D.s))⟩ _
          rw [putc hpc]
          have hzl : zs.length ≤ 63 := by
            simp only [List.length_cons] at hl
            omega
          refine ws_seq (ws_setO (we_op (we_cb (wa_cons (we_op (we_op (we_op (we_op (we_var rfl (we_c (wo_ixO (d := .s (.int s3)) opened_p rfl (we_c (wo_mulI (.inr ⟨by decide, by decide⟩) (we_var rfl (wo_addI (we_c (wo_addI (wa_nil (wc_int (we_c (wo_I (by decide) (we_var rfl (we_c ⟨p, _, 3, 3, rfl, rfl, opened_p, rfl, ?_⟩)))))))))))))))))))))))
          show WS K F B _ _ ⟨m.cnt, putM (opened m.own p c s1 s2 s3 zs) p (.lst [.s (.ref c), .s (.int s1), .s (.int s2), .s (.int ((s3 * 8191 + z + 3) % 2147483647))])⟩ _
          rw [put4]
          have b3 : 0 ≤ (s3 * 8191 + z + 3) % 2147483647 ∧ (s3 * 8191 + z + 3) % 2147483647 < 2147483647 := ⟨Int.emod_nonneg _ (by decide), Int.emod_lt_of_pos _ (by decide)⟩
          generalize (s3 * 8191 + z + 3) % 2147483647 = s3' at b3 ⊢
          refine ws_setO (we_if (wt_test (we_op (we_var rfl (we_op (we_c (we_c (wo_I ⟨by decide, by decide, by decide⟩ (wo_I0 ⟨_, rfl, fun q3 => ?_, fun q3 => ?_⟩)))))))))
          · refine we_var rfl (we_var rfl (we_c ⟨p, _, 1, 1, rfl, rfl, opened_p, rfl, z, s3', zs, _, rfl, ?_, ?_, b3, hzl⟩))
            · show (⟨m.cnt, putM (opened m.own p c s1 s2 s3' zs) p (.lst [.s (.ref c), .s (.int z), .s (.int s2), .s (.int s3')])⟩ : Mem) = _
              rw [put4]
            · have e : ((10 : Int) ^ (18 : Int).toNat) ≤ z := of_decide_eq_true q3
              have e2 : ((10 : Int) ^ (18 : Int).toNat) = 1000000000000000000 := by decide
              omega
          · refine we_c (we_var rfl (we_c ⟨p, _, 1, 1, rfl, rfl, opened_p, rfl, 0, s3', zs, _, rfl, ?_, Int.le_refl _, b3, hzl⟩))
            show (⟨m.cnt, putM (opened m.own p c s1 s2 s3' zs) p (.lst [.s (.ref c), .s (.int 0), .s (.int s2), .s (.int s3')])⟩ : Mem) = _
            rw [put4]
      · exact ws_next ⟨s1, s3, ns, _, rfl, rfl, a1, ⟨a4, a5⟩, hl⟩
    · exact ⟨(fun z => nomatch z), fun _ => ws_next ⟨s1, s3, ns, _, rfl, rfl, a1, ⟨a4, a5⟩, hl⟩⟩
  · rintro ρ1 m1 ⟨s1, s3, ns, x, rfl, rfl, a1, ⟨a4, a5⟩, hl⟩
    have close : ∀ {te : TE} {ρ : DD.Env} {s1' : Int}, 0 ≤ s1' → WE K F B te ρ ⟨m.cnt, opened m.own p c s1' s2 s3 ns⟩ (fun d m' => ∃ r, d = intD r ∧ 0 ≤ r ∧ r < n ∧ m' = ⟨m.cnt, opened m.own p c s1' s2 s3 ns⟩) → WE K F B te ρ ⟨m.cnt, opened m.own p c s1' s2 s3 ns⟩ nx := fun {te ρ s1'} h1 hw => we_conv hw fun d m' ⟨r, e, r0, r1, em⟩ => by
      subst e em
      exact ⟨more m 1, Conv.close hp hc hpc (Nat.le_succ _) ⟨h1, b2, a4, a5⟩ hl, h r r0 r1⟩
    have hmod : ∀ x : Int, 0 ≤ x % n ∧ x % n < n := fun x => ⟨Int.emod_nonneg _ (by omega), Int.emod_lt_of_pos _ n0⟩
    refine ws_seq (ws_if (wt_test (we_op (we_op (we_var rfl (we_c (wo_ixO (d := .s (.int s1)) opened_p rfl (we_c (wo_I0 ⟨_, rfl, fun q => ?_, fun q => ?_⟩)))))))))
    · refine ws_seq (ws_asg (we_op (we_cb (wa_cons (we_op (we_var rfl (we_c (wo_ixO (d := .s (.int s1)) opened_p rfl (wa_nil (wc_int (we_var rfl (wo_I n0 ?_))))))))))))
      refine ws_seq (ws_setO (we_op (we_op (we_var rfl (we_c (wo_ixO (d := .s (.int s1)) opened_p rfl (we_var rfl (wo_I ⟨n0, n1⟩ (we_var rfl (we_c ⟨p, _, 1, 1, rfl, rfl, opened_p, rfl, ?_⟩))))))))))
      show WS K F B _ _ ⟨m.cnt, putM (opened m.own p c s1 s2 s3 ns) p (.lst [.s (.ref c), .s (.int (s1 / n)), .s (.int s2), .s (.int s3)])⟩ _
      rw [put4]
      refine ws_ret (close (Int.ediv_nonneg a1 (by omega)) (we_var rfl ⟨_, rfl, (hmod s1).1, (hmod s1).2, rfl⟩))
    · refine ws_next (ws_seq (ws_asg (we_op (we_cb (wa_cons (we_op (we_op (we_op (we_op (we_var rfl (we_c (wo_ixO (d := .s (.int s3)) opened_p rfl (we_op (we_c (we_op (we_var rfl (we_c (wo_ixO (d := .s (.int s2)) opened_p rfl (wo_mulI (.inl ⟨by decide, by decide⟩) (wo_addI (we_c (wo_addI (we_c (wo_I ⟨by decide, by decide, ?_⟩ (wa_nil (wc_int (we_c (wo_I (by decide) ?_))))))))))))))))))))))))))))
      · omega
      have b6 := (⟨Int.emod_nonneg _ (by decide), Int.emod_lt_of_pos _ (by decide)⟩ : 0 ≤ ((s3 + 7919 * s2 + 104729) ^ (5 : Int).toNat) % 2147483629 ∧ ((s3 + 7919 * s2 + 104729) ^ (5 : Int).toNat) % 2147483629 < 2147483629)
      show WS K F B _ [_, _, _, _, some (D.s (V.int (((s3 + 7919 * s2 + 104729) ^ (5 : Int).toNat) % 2147483629)))] _ _
      generalize ((s3 + 7919 * s2 + 104729) ^ (5 : Int).toNat) % 2147483629 = s6 at b6 ⊢
      refine ws_ret (close a1 (we_op (we_op (we_cb (wa_cons (we_op (we_op (we_op (we_op (we_var rfl (we_c (wo_mulI (.inr ⟨by decide, by decide⟩) (we_op (we_c (we_op (we_var rfl (we_c (wo_ixO (d := .s (.int s2)) opened_p rfl (wo_mulI (.inl ⟨by decide, by decide⟩) (wo_addI (we_c (wo_addI (we_c (wo_I ⟨by decide, by decide, ?_⟩ (wa_nil (wc_int (we_c (wo_I (by decide) (we_var rfl (wo_I n0 ⟨_, rfl, (hmod _).1, (hmod _).2, rfl⟩))))))))))))))))))))))))))))))
      omega
theorem rd__law_pick {K : PySem.W.Frag} {mg : Str → Option Value} (T : Txt K mg) (E : XK) : BodyOk K (φ__law_pick T) N__law_pick E (t__law_pick T E) := by
  intro ds m nx X F B h hE
  obtain ⟨p, x, xs, rfl, hS, hm, hx, hne, hl, h⟩ := h
  rw [st__law_pick]
  unfold t__law_pick
  have hl' : xs.length ≤ 1000000 := hl
  have hpos : 0 < xs.length := List.length_pos_iff.mpr hne
  refine ws_ret (we_op (we_var rfl (we_call okx0 (wa_cons (we_var rfl (wa_cons (we_cb (wa_cons (we_var rfl (wa_nil (wc_len (lenD_seq hx hl) (wa_nil ⟨p, _, rfl, hS, by omega, by omega, hm, fun r r0 r1 => ?_⟩))))))))))))
  obtain ⟨d, hd, hd2⟩ := atI_int r0 r1
  exact wo_ixSeq hx hl hd (h d hd2)
theorem rd__law_name {K : PySem.W.Frag} {mg : Str → Option Value} (T : Txt K mg) (E : XK) : BodyOk K (φ__law_name T) N__law_name E (t__law_name T E) := by
  intro ds m nx X F B h hE
  obtain ⟨p, rfl, hS, hm, h⟩ := h
  rw [st__law_name]
  unfold t__law_name
  refine ws_seq (ws_asg (we_op (we_lst (wa_cons (we_c (wa_cons (we_c (wa_cons (we_c (wa_cons (we_c (wa_cons (we_c (wa_cons (we_c (wa_nil ⟨by decide, we_call okx0 (wa_cons (we_var rfl (wa_cons (we_c (wa_nil ⟨p, 6, rfl, hS, by decide, by decide, by omega, fun r r0 r1 => ?_⟩)))))⟩))))))))))))))))
  obtain ⟨d, hd, hd2⟩ := atI_int (xs := [intD 1, intD 1, intD 2, intD 3, intD 5, intD 8]) r0 r1
  have hk : ∃ k : Nat, d = intD k ∧ 1 ≤ k ∧ k ≤ 8 := by
    simp only [List.mem_cons, List.not_mem_nil, or_false] at hd2
    rcases hd2 with rfl | rfl | rfl | rfl | rfl | rfl
    · exact ⟨1, rfl, by decide, by decide⟩
    · exact ⟨1, rfl, by decide, by decide⟩
    · exact ⟨2, rfl, by decide, by decide⟩
    · exact ⟨3, rfl, by decide, by decide⟩
    · exact ⟨5, rfl, by decide, by decide⟩
    · exact ⟨8, rfl, by decide, by decide⟩
  obtain ⟨k, rfl, k1, k8⟩ := hk
  refine wo_ixL hd ?_
  refine ws_ret (we_conv (Q := fun d m' => ∃ z, d = strD z ∧ DT.isName z = true ∧ ∃ k, k ≤ 10 ∧ m' = more m k) ?_ fun d m' ⟨z, e, hz, k, hk, em⟩ => ?_)
  · refine we_m1 (we_c ⟨⟨_, rfl⟩, lc_draws (m := more m 1) (N := k) (fun z => ∃ c, c ∈ DT.letters ∧ z = ⟨#[c]⟩) (by omega) (fun Q' q => wi_rng1 (wa_cons (we_var rfl (wa_nil ⟨(k : Int), rfl, by omega, by omega, by rw [Int.toNat_natCast]; exact q⟩)))) (fun F' j d hj => ?_) fun zs h1 h2 => ?_⟩)
    · refine we_call okx0 (wa_cons (we_var rfl (wa_cons (we_c (wa_nil ⟨p, strD "abcdefghijklmnopqrstuvwxyz", _, rfl, hS, ?_, rfl, by decide +kernel, by decide +kernel, fun d hd => ?_⟩)))))
      · show m.cnt + 1 + j < _
        omega
      · obtain ⟨c, hc, rfl⟩ := chr_of hd
        exact ⟨_, rfl, ⟨c, hc, rfl⟩, rfl⟩
    · obtain ⟨n1, n2⟩ := name_of h2
      refine wm_join ?_ ⟨_, rfl, ?_, 1 + k, by omega, by unfold more; rw [Nat.add_assoc]⟩
      · have e0 : ("" : Str).length = 0 := by decide +kernel
        have := sum_le (b := 1) (zs := zs) fun z hz => by
          obtain ⟨c, _, rfl⟩ := h2 z hz
          exact Nat.le_refl _
        rw [e0]
        omega
      · unfold DT.isName
        rw [TL.len_tl, n1, h1, decide_eq_true (show 1 ≤ k by omega), decide_eq_true (show k ≤ 8 by omega)]
        simp only [Bool.true_and, List.all_eq_true, decide_eq_true_eq]
        exact n2
  · subst e em
    exact ⟨more m 10, Conv.count (m := more m k) (n := m.cnt + 10) (Nat.add_le_add_left hk _), h z hz⟩
def spares : List Str := (chrs "abcdefghijklmnop").map fun d => (match d with | .s (.str c) => c ++ "jq" | _ => "")
theorem spares_ok : (spares.all DT.isName && decide spares.Nodup && decide (spares.length = 16)) = true := by decide +kernel
theorem rd__law_names {K : PySem.W.Frag} {mg : Str → Option Value} (T : Txt K mg) (E : XK) : BodyOk K (φ__law_names T) N__law_names E (t__law_names T E) := by
  intro ds m nx X F B h hE
  obtain ⟨p, n, rfl, hS, hm, n0, n1, h⟩ := h
  rw [st__law_names]
  unfold t__law_names
  obtain ⟨c, hp, hc, hpc⟩ := hS
  refine ws_seq (ws_asg (we_lstO (wa_nil ⟨by decide, fun a ha => ?_⟩)))
  have hap : p ≠ a := fun z => by rw [z, ha] at hp; cases hp
  have hac : c ≠ a := fun z => by rw [z, ha] at hc; cases hc
  have strm : ∀ {k : Nat} {o : MO}, Stream ⟨m.cnt + k, putM m.own a o⟩ p := fun {k o} => ⟨c, (putM_ne hap).trans hp, (putM_ne hac).trans hc, hpc⟩
  refine ws_seq (ws_for (wi_rng1 (wa_cons (we_var rfl (wa_nil ⟨n, rfl, by omega, by omega, fun i ρ1 m1 => ∃ (zs : List Str) (x y : Option D), zs.length = i ∧ (∀ z ∈ zs, DT.isName z = true) ∧ zs.Nodup ∧ m1 = ⟨m.cnt + 10 * i, putM m.own a (.lst (zs.map strD))⟩ ∧ ρ1 = [some (.s (.ref p)), some (intD n), some (.s (.ref a)), x, y, none, none], ?_, ?_, ?_⟩)))))
  · exact ⟨[], none, none, rfl, (fun _ z => nomatch z), List.nodup_nil, rfl, rfl⟩
  · rintro i d ρ1 m1 hd ⟨zs, x, y, e1, e2, e3, rfl, rfl⟩
    obtain ⟨hi, _⟩ := rngD_get hd
    refine wg_name ?_
    have hsp := spares_ok
    simp only [Bool.and_eq_true, List.all_eq_true, decide_eq_true_eq] at hsp
    obtain ⟨⟨sp1, sp2⟩, sp3⟩ := hsp
    refine ws_seq (ws_asg (we_op (we_lst (wa_cons (we_call okx0 (wa_cons (we_var rfl (wa_nil ⟨p, rfl, strm, by show m.cnt + 10 * i < _; omega, fun z hz => wa_nil ⟨le_line (by show 1 ≤ 1000000; decide), we_lcMap (wi_any (we_c ⟨_, rfl, fun d => strD (match d with | .s (.str c) => c ++ "jq" | _ => ""), by decide +kernel, fun F' d hd => ?_, ?_⟩))⟩⟩))))))))
    · obtain ⟨w, hw, rfl⟩ := chr_of hd
      refine wgw_name List.mem_cons_self ⟨rfl, we_op (we_var rfl (we_c (wo_addS (le_line (by show 1 + 2 ≤ 1000000; decide)) ⟨rfl, rfl⟩)))⟩
    have esp : ((chrs "abcdefghijklmnop").map fun d => strD (match d with | .s (.str c) => c ++ "jq" | _ => "")) = spares.map strD := by
      unfold spares
      rw [List.map_map]
      rfl
    rw [esp]
    refine wo_addL (by rw [List.length_map, sp3]; exact le_line (by show 1 + 16 ≤ 1000000; decide)) ?_
    have hz17 : (z :: spares).length ≤ 20 := by simp [sp3]
    obtain ⟨w, hw1, hw2, hw3⟩ : ∃ w, ((z :: spares).filter fun x => !decide (x ∈ zs)).head? = some w ∧ w ∈ z :: spares ∧ w ∉ zs := by
      cases e : (z :: spares).filter fun x => !decide (x ∈ zs) with
      | nil =>
        exfalso
        rw [List.filter_eq_nil_iff] at e
        have := len_le_of_sub (xs := spares) (ys := zs) sp2 fun x hx => by
          have := e x (List.mem_cons_of_mem _ hx)
          simpa using this
        omega
      | cons w ws =>
        have hm := List.mem_filter.mp (show w ∈ (z :: spares).filter fun x => !decide (x ∈ zs) by rw [e]; exact List.mem_cons_self)
        exact ⟨w, rfl, hm.1, by simpa using hm.2⟩
    have hwn : DT.isName w = true := by
      rcases List.mem_cons.mp hw2 with q | q
      · rw [q]
        exact hz
      · exact sp1 w q
    refine ws_drop (we_append (we_var rfl ⟨a, rfl, ⟨_, putM_same⟩, we_op (we_lcFilter (wi_any (we_var rfl ⟨_, rfl, fun d => (match d with | .s (.str x) => !decide (x ∈ zs) | _ => false), id, ?_, fun F' d hd => ?_, ?_⟩)))⟩))
    · show ([strD z] ++ spares.map strD).length ≤ _
      rw [List.length_append, List.length_map, sp3]
      exact le_line (by show 1 + 16 ≤ 1000000; decide)
    · have hd' : d ∈ (z :: spares).map strD := hd
      obtain ⟨x, hx, rfl⟩ := List.mem_map.mp hd'
      refine wgw_name List.mem_cons_self ⟨rfl, wt_test (we_op (we_var rfl (we_var rfl (wo_ninO (xs := zs.map V.str) (putM_same.trans (by rw [strs_scal])) rfl (flat_strs zs) ⟨_, rfl, ?_, rfl, fun q => we_var rfl ⟨rfl, rfl⟩⟩))))⟩
      rw [inV_strs]
    · have ef : ([strD z] ++ spares.map strD).filter (fun d => (match d with | .s (.str x) => !decide (x ∈ zs) | _ => false)) = ((z :: spares).filter fun x => !decide (x ∈ zs)).map strD := by
        show ((z :: spares).map strD).filter _ = _
        rw [List.filter_map]
        rfl
      rw [List.map_id, ef]
      refine we_c (wo_ixL (d := strD w) (atI_zero ?_) ⟨zs.map strD, putM_same, ?_, zs ++ [w], _, _, ?_, ?_, ?_, ?_, rfl⟩)
      · rw [List.head?_map, hw1]
        rfl
      · rw [List.length_map]
        refine lt_line ?_
        omega
      · rw [List.length_append, e1]
        rfl
      · intro x hx
        rcases List.mem_append.mp hx with q | q
        · exact e2 x q
        · have e : x = w := by simpa using q
          rw [e]
          exact hwn
      · rw [List.nodup_append]
        refine ⟨e3, List.nodup_cons.mpr ⟨(fun q => nomatch q), List.nodup_nil⟩, fun x hx y hy => ?_⟩
        have e : y = w := by simpa using hy
        subst e
        intro q
        subst q
        exact hw3 hx
      · show (⟨m.cnt + 10 * i + 10, putM (putM m.own a (.lst (zs.map strD))) a (.lst (zs.map strD ++ [strD w]))⟩ : Mem) = _
        rw [putM_put, List.map_append]
        rfl
  · rintro ρ1 m1 ⟨zs, x, y, e1, e2, e3, rfl, rfl⟩
    rw [rngD_length] at e1
    refine ws_ret (we_conv (Q := fun d m' => d = strsD zs ∧ m' = ⟨m.cnt + 10 * (rngD 0 n.toNat).length, m.own⟩) (we_freeze (we_var rfl ⟨a, zs.map strD, rfl, putM_same, rfl, ?_⟩)) fun d m' ⟨e, em⟩ => ?_)
    · rw [dropM_put ha]
    · subst e em
      refine ⟨more m 100, Conv.count (m := ⟨m.cnt + 10 * (rngD 0 n.toNat).length, m.own⟩) (n := m.cnt + 100) ?_, h zs (by omega) e2 e3⟩
      rw [rngD_length]
      show m.cnt + 10 * n.toNat ≤ _
      omega
theorem rd_law {K : PySem.W.Frag} {mg : Str → Option Value} (T : Txt K mg) (E : XK) (a : Addr) (ns : List Int) (B : Hp) (hS : SqL K B a (ns.map V.int)) (hl : ns.length ≤ 63) : WS K (fun _ => none) B (t_law T E) (startD N_law [.s (.ref a)]) ⟨0, fun _ => none⟩ { nx := fun _ _ => False, rt := fun d _ => d = .s (.bl true) } := by
  rw [st_law]
  unfold t_law
  have l1 : ∀ k : Nat, k ≤ 100 → k ≤ sizeLine := fun k hk => le_line (Nat.le_trans hk (by decide))
  refine ws_seq (ws_asg (we_start (wa_cons (we_var rfl (wa_nil ⟨a, ns, rfl, hS, hl, fun c p hpc hc0 hp0 => ?_⟩)))))
  generalize hown : putM (putM (fun _ => none) c MO.cel) p (MO.stm c) = own
  have hst : ∀ n, Stream ⟨n, own⟩ p := fun n => by
    subst hown
    exact ⟨c, putM_same, (putM_ne (Ne.symm hpc)).trans putM_same, hpc⟩
  refine ws_seq (ws_for (wi_rng1 (wa_cons (we_c (wa_nil ⟨4, rfl, by decide, by decide, fun i ρ1 m1 => m1 = ⟨30000 * i, own⟩ ∧ ∃ x2 x3 x4 x5 x6 x7 x8 x9 x10 x11 x12 x13, ρ1 = [some (.s (.ref a)), some (.s (.ref p)), x2, x3, x4, x5, x6, x7, x8, x9, x10, x11, x12, x13], ?_, ?_, ?_⟩)))))
  · exact ⟨rfl, _, _, _, _, _, _, _, _, _, _, _, _, rfl⟩
  · rintro i d ρ1 m1 hd ⟨rfl, x2, x3, x4, x5, x6, x7, x8, x9, x10, x11, x12, x13, rfl⟩
    have hi : i < 4 := (rngD_get hd).1
    refine wg_name ?_
    refine ws_seq (ws_asg (we_call okx0 (wa_cons (we_var rfl (wa_cons (we_c (wa_nil ⟨p, 3, rfl, hst _, by show 30000 * i < _; omega, by decide, by decide, fun zs hz1 hz2 hz3 => ?_⟩)))))))
    have hz4 : zs.length = 3 := by omega
    have hz0 : zs ≠ [] := fun z => by rw [z] at hz4; cases hz4
    refine ws_seq (ws_asg (we_call okx0 (wa_cons (we_var rfl (wa_cons (we_var rfl (wa_cons (we_c (wa_nil ⟨p, zs, 12, rfl, hst _, by show 30000 * i + 100 < _; omega, hz0, by omega, hz2, by decide, fun l tr hl0 ok cl few four _ => ?_⟩)))))))))
    show WS K _ B _ _ ⟨30000 * i + 3100, putM own l (.dT (keysT tr) (tr.map fun e => thL e.2))⟩ _
    have hl0' : own l = none := hl0
    have ok2 := plain_ok ok
    have cl2 := plain_closed cl
    refine ws_seq (ws_asg (we_cb (wa_cons (we_lcK rfl putM_same (fun _ => true) (fun k => D.tup [.pl k, match look tr k with | some t => thL (plTh t) | none => nonD]) ?_ (fun F' B' k eB hL hk => ?_) ?_))))
    · rw [List.length_map]
      exact le_line (Nat.le_trans ok.few (by decide))
    · cases hlk : look tr k with
      | none => exact absurd hlk (key_look hk)
      | some th =>
        refine wgw_name List.mem_cons_self ⟨rfl, wt_yes ⟨rfl, rfl, fun _ => ?_⟩⟩
        refine we_tup (wa_cons (we_var rfl (wa_cons (we_if (wt_test (we_op (we_op (we_op (we_var rfl (we_var rfl (wo_ixQF (d := thL th) (.inl rfl) hL (by rw [look_map thL, hlk]; rfl) (we_c (wo_ixT (d := strD th.kind) rfl (we_c (wo_eqS rfl ⟨_, rfl, fun z => ?_, fun z => ?_⟩)))))))))))))))
        · have hk1 : th.kind = ("link" : Str) := by
            have := of_decide_eq_true z
            exact V.str.inj this
          have e1 : plTh th = ⟨"folder", none⟩ := if_pos hk1
          refine we_tup (wa_cons (we_c (wa_cons (we_c (wa_nil ⟨len2 _ _, wa_nil ⟨len2 _ _, ?_, rfl⟩⟩)))))
          show D.tup [.pl k, .tup [strD "folder", nonD]] = .tup [.pl k, thL (plTh th)]
          rw [e1]
          rfl
        · have hk1 : th.kind ≠ ("link" : Str) := fun y => absurd z (by rw [y]; simp)
          have e1 : plTh th = th := if_neg hk1
          refine we_op (we_var rfl (we_var rfl (wo_ixQF (d := thL th) (.inl rfl) hL (by rw [look_map thL, hlk]; rfl) (wa_nil ⟨len2 _ _, ?_, rfl⟩))))
          show D.tup [.pl k, thL th] = .tup [.pl k, thL (plTh th)]
          rw [e1]
    rw [plain_pairs ok.nd]
    refine wa_nil (wc_dictPT ok.nd (by show (tr.map (·.1)).length = ((plainTr tr).map fun e => thL e.2).length; rw [List.length_map, List.length_map]; exact (List.length_map _).symm) fun l2 hl2 => ?_)
    show WS K _ B _ _ ⟨30000 * i + 3100, putM (putM own l (.dT (keysT tr) (tr.map fun e => thL e.2))) l2 (.dT (keysT tr) ((plainTr tr).map fun e => thL e.2))⟩ _
    have hl2' : putM own l (.dT (keysT tr) (tr.map fun e => thL e.2)) l2 = none := hl2
    have s1 : ∀ b o, own b = some o → putM own l (.dT (keysT tr) (tr.map fun e => thL e.2)) b = some o := put_sub hl0'
    have s2 : ∀ b o, putM own l (.dT (keysT tr) (tr.map fun e => thL e.2)) b = some o → putM (putM own l (.dT (keysT tr) (tr.map fun e => thL e.2))) l2 (.dT (keysT tr) ((plainTr tr).map fun e => thL e.2)) b = some o := put_sub hl2'
    have lo1 := s2 l _ putM_same
    have cv1 : ∀ c0, Conv ⟨c0, putM (putM own l (.dT (keysT tr) (tr.map fun e => thL e.2))) l2 (.dT (keysT tr) ((plainTr tr).map fun e => thL e.2))⟩ ⟨c0, own⟩ := fun c0 K F Hb H r => by
      have r1 := r.leave l2
      have e1 : dropM (putM (putM own l (.dT (keysT tr) (tr.map fun e => thL e.2))) l2 (.dT (keysT tr) ((plainTr tr).map fun e => thL e.2))) l2 = putM own l (.dT (keysT tr) (tr.map fun e => thL e.2)) := dropM_put hl2'
      have r2 : Rel K F Hb H (⟨c0, putM own l (.dT (keysT tr) (tr.map fun e => thL e.2))⟩ : Mem) := e1 ▸ r1
      have r3 := r2.leave l
      have e2 : dropM (putM own l (.dT (keysT tr) (tr.map fun e => thL e.2))) l = own := dropM_put hl0'
      exact e2 ▸ r3
    have lo2 : putM (putM own l (.dT (keysT tr) (tr.map fun e => thL e.2))) l2 (.dT (keysT tr) ((plainTr tr).map fun e => thL e.2)) l2 = some (.dT (keysT (plainTr tr)) ((plainTr tr).map fun e => thL e.2)) := by
      rw [plain_keys]
      exact putM_same
    have hst0 : ∀ c0, Stream ⟨c0, putM (putM own l (.dT (keysT tr) (tr.map fun e => thL e.2))) l2 (.dT (keysT tr) ((plainTr tr).map fun e => thL e.2))⟩ p := fun c0 => strm_sub (hst c0) fun b o e => s2 b o (s1 b o e)
    generalize putM (putM own l (.dT (keysT tr) (tr.map fun e => thL e.2))) l2 (.dT (keysT tr) ((plainTr tr).map fun e => thL e.2)) = O1 at lo1 lo2 cv1 hst0 ⊢
    refine ws_seq (ws_par (wa_cons (we_call okx0 (wa_cons (we_var rfl (wa_nil ⟨zs, l, tr, rfl, lo1, ok, cl, fun t h tr' ht hh hth ok' hlook hlinks => ?_⟩))))))
    obtain ⟨O2, e2, sO2, tO2, cO2⟩ := tree_mem (CT := T.c_Tree) (CP := T.c_Path) (tr' := tr') (show O1 t = none from ht) (show O1 h = none from hh) hth
    rw [show mT T.c_Tree T.c_Path ⟨30000 * i + 3100, O1⟩ t h tr' = ⟨30000 * i + 3100, O2⟩ from e2 _]
    refine wa_cons (we_call okx0 (wa_cons (we_var rfl (wa_nil ⟨zs, l2, plainTr tr, rfl, sO2 _ _ lo2, ok2, cl2, fun t2 h2 tr2 ht2 hh2 hth2 ok2' hlook2 hlinks2 => wa_nil ⟨_, _, rfl, ?_⟩⟩))))
    obtain ⟨OW, eOW, sOW, tOW, cOW⟩ := tree_mem (CT := T.c_Tree) (CP := T.c_Path) (tr' := tr2) (show O2 t2 = none from ht2) (show O2 h2 = none from hh2) hth2
    rw [show mT T.c_Tree T.c_Path ⟨30000 * i + 3100, O2⟩ t2 h2 tr2 = ⟨30000 * i + 3100, OW⟩ from eOW _]
    have tO1 : ∀ c0, TreeAt T.c_Tree T.c_Path ⟨c0, OW⟩ t tr' := fun c0 => tree_sub (tO2 0) sOW
    have lOW := sOW _ _ (sO2 _ _ lo1)
    have hstM : ∀ c0, Stream ⟨c0, OW⟩ p := fun c0 => strm_sub (hst0 c0) fun b o e => sOW b o (sO2 b o e)
    have hlk2 : (linksT tr).length ≤ 13 := by
      rw [List.length_map]
      exact Nat.le_trans (List.length_filter_le _ _) few
    have hlk : (linksT tr').length ≤ 13 := Nat.le_trans hlinks hlk2
    have hlkp : (linksT (plainTr tr)).length ≤ 13 := by
      rw [List.length_map]
      refine Nat.le_trans (List.length_filter_le _ _) ?_
      rw [show (plainTr tr).length = tr.length from List.length_map _]
      exact few
    have hlk3 : (linksT tr2).length ≤ 13 := Nat.le_trans hlinks2 hlkp
    have hnol : ∀ q, kindT tr2 q ≠ some "link" := fun q => by
      rw [kind_look hlook2]
      exact plain_links q
    have hfew : (foldersT tr).length ≤ 13 := by
      refine Nat.le_trans (List.length_filter_le _ _) ?_
      rw [(sortT_perm _).length_eq, List.length_map]
      exact few
    have hkr := kind_root ok'
    have hkr2 := kind_root ok2'
    refine ws_conv (ws_for (wi_any (we_call okx0 (wa_cons (we_var rfl (wa_nil ⟨zs, l, tr, rfl, ok, lOW, _, rfl, fun j ρ2 m2 => m2 = ⟨30000 * i + 3100 + 103 * j, OW⟩ ∧ ∃ x9 x10 x11 x12 x13, ρ2 = [some (.s (.ref a)), some (.s (.ref p)), some d, some (strsD zs), some (.s (.ref l)), some (.s (.ref l2)), x6, some (.s (.ref t)), some (.s (.ref t2)), x9, x10, x11, x12, x13], ?_, ?_, ?_⟩))))))
    · exact ⟨rfl, _, _, _, _, _, rfl⟩
    · rintro j dj ρ2 m2 hdj ⟨rfl, x9, x10, x11, x12, x13, rfl⟩
      have hj : j < 13 := by
        have := (List.getElem?_eq_some_iff.mp hdj).1
        rw [List.length_map] at this
        omega
      obtain ⟨home, hhome, rfl⟩ := List.mem_map.mp (List.mem_of_getElem? hdj)
      have hhf0 : kindT tr home = some "folder" := of_decide_eq_true (List.mem_filter.mp hhome).2
      have hhf : kindT tr' home = some "folder" := by
        rw [kind_look hlook]
        exact hhf0
      have hhf2 : kindT tr2 home = some "folder" := by
        rw [kind_look hlook2]
        exact plain_folder hhf0
      have hho : HereOk tr' home := hereOk_of hhf
      have hho2 : HereOk tr2 home := hereOk_of hhf2
      refine wg_name ?_
      refine ws_seq (ws_asg (make_path T (we_call okx0 (wa_cons (we_var rfl (wa_cons (we_var rfl (wa_cons (we_c (wa_nil ⟨p, zs, 8, rfl, hstM _, by show 30000 * i + 3100 + 103 * j < _; omega, by omega, hz2, by decide, by decide, fun wt p1 q1 s1 => ⟨wt, rfl, p1, Nat.le_trans q1 (by decide), ?_⟩⟩))))))))))
      have P1 : PathOk zs wt := ⟨p1, Nat.le_trans q1 (by decide), s1⟩
      have lw : wt.length ≤ 9000 := Nat.le_trans q1 (by decide)
      refine ws_seq (ws_asg (we_sl (we_sl (we_lst (wa_cons (we_c (wa_cons (we_c (wa_nil ⟨len2 _ _, ?_⟩)))))))))
      refine wpt_some (we_call okx0 (wa_cons (we_var rfl (wa_cons (we_c (wa_nil ⟨p, 2, rfl, hstM (30000 * i + 3100 + 103 * j + 100), by decide, by decide, by show 30000 * i + 3100 + 103 * j + 100 < _; omega, fun r1 a1 a2 => ⟨r1, rfl, ?_⟩⟩))))))
      refine wpt_no (wsl_L (wpt_no (wpt_some (we_op (we_c (we_call okx0 (wa_cons (we_var rfl (wa_cons (we_c (wa_nil ⟨p, 2, rfl, hstM (30000 * i + 3100 + 103 * j + 101), by decide, by decide, by show 30000 * i + 3100 + 103 * j + 101 < _; omega, fun r2 b1 b2 => wo_addI ⟨_, rfl, wsl_L ?_⟩⟩)))))))))))
      obtain ⟨ws, ew, hw⟩ := words_cut a1 a2 b1 b2
      rw [ew]
      have hw1 : ∀ w ∈ ws, w ∈ wordsAll := by
        rcases hw with rfl | rfl | rfl <;> decide +kernel
      have hw2 : ∀ w ∈ ws ++ [("end bar" : Str)], w ∈ wordsAll := by
        rcases hw with rfl | rfl | rfl <;> decide +kernel
      have hu1 : hasW "up" (heldOf ws) = false := by
        rcases hw with rfl | rfl | rfl <;> decide +kernel
      have he1 : hasW "end bar" (heldOf ws) = false := by
        rcases hw with rfl | rfl | rfl <;> decide +kernel
      have hu2 : hasW "up" (heldOf (ws ++ [("end bar" : Str)])) = false := by
        rcases hw with rfl | rfl | rfl <;> decide +kernel
      have hwl : ws.length ≤ 2 := by
        rcases hw with rfl | rfl | rfl <;> decide
      clear ew
      show WS K _ B _ _ ⟨30000 * i + 3100 + 103 * j + 102, OW⟩ _
      have hq : ∀ {w : Str}, PathOk zs w → LeadIn T.c_Tree T.c_Path zs ⟨30000 * i + 3100 + 103 * j + 102, OW⟩ t tr' w (.pl home) home := fun {w} hw => ⟨tO1 _, ok', hlk, hw, .inl rfl, hhf⟩
      have hres : ∀ q, leadP tr' 13 wt home false = some q → ∀ n ∈ q, DT.isName n = true := fun q hq => (lead_short ok' hho hq).2
      refine ws_seq (ws_asg (c_leadS T rfl (fun Q' q => we_var rfl q) (fun Q' q => we_var rfl q) (hq P1) fun d5 g5 => ?_))
      refine ws_seq (ws_if (wt_test (we_op (c_leadS T (p := tidiedT (heldOf ws) wt) rfl (fun Q' q => we_call okx0 (wa_cons (we_var rfl (wa_cons (make_sk T hw1 (fun Q2 q2 => we_var rfl q2) (wa_nil ⟨wt, heldOf ws, rfl, p1, lw, q⟩)))))) (fun Q' q => we_var rfl q) (hq (tid_path P1 q1)) fun d6 g6 => ?_))))
      rw [lead_t1 hu1 he1 p1 hkr hhf] at g6
      refine we_var rfl (ne_res g6 g5 hres ⟨_, rfl, (fun z => nomatch z), fun _ => ws_next ?_⟩)
      refine ws_seq (ws_asg (we_call okx0 (wa_cons (we_var rfl (wa_cons (make_sk T (ws := ws ++ [("end bar" : Str)]) hw2 (fun Q2 q2 => ?_) (wa_nil ⟨wt, _, rfl, p1, lw, ?_⟩)))))))
      · refine we_op (we_var rfl (we_lst (wa_cons (we_c (wa_nil ⟨l1 1 (by decide), wo_addL (by rw [List.length_map]; exact l1 _ (by show ws.length + 1 ≤ 100; omega)) ?_⟩)))))
        have e : ws.map strD ++ [strD "end bar"] = (ws ++ [("end bar" : Str)]).map strD := by
          rw [List.map_append]
          rfl
        show Q2 (.lst (ws.map strD ++ [strD "end bar"])) _
        rw [e]
        exact q2
      have snd : ∀ {rt : D → Mem → Prop} {bk ct : DD.Env → Mem → Prop}, WS K (fun _ => none) B (tSeq (tAsg (HP1.tMethN T.c_Tree "lead" 1 1 (spOf K (φ_Tree_lead T)) (fun vs zs => vs ++ (zs ++ [.bl false])) E0 (tVar 8) (tCons (tVar 10) tNil) (tCons (tVar 9) tNil)) (gName 12)) (tSeq (tAsg (tOp (rAddA K) (tOp (rAddA K) (tVar 11) (tLst (tCons (tC (.str "up")) tNil))) (tSl (DD.rSlA K) (tLst (tCons (tC (.str "end bar")) tNil)) tNoPart (tPart (tCall (spOf K (φ__law_draw T)) [] E0 (tCons (tVar 1) (tCons (tC (.int 2)) tNil)))))) (gName 11))
          (tIfS (tAnd (tTest (tOp rNotN (tVar 12) (tC .non))) (tTest (tOp (rNeA K) (HP1.tMethN T.c_Tree "lead" 1 1 (spOf K (φ_Tree_lead T)) (fun vs zs => vs ++ (zs ++ [.bl false])) E0 (tVar 8) (tCons (tCall (spOf K (φ_tidied T)) [] E0 (tCons (tVar 10) (tCons (tMake T.c_Strikes (spOf K (φ_Strikes___init__ T)) [] E0 (tCons (tVar 11) tNil)) tNil))) tNil) (tCons (tVar 9) tNil)) (tVar 12)))) (tRet (tC (.bl false))) tNext)))
          [some (.s (.ref a)), some (.s (.ref p)), some d, some (strsD zs), some (.s (.ref l)), some (.s (.ref l2)), x6, some (.s (.ref t)), some (.s (.ref t2)), some (.pl home), some (pathD T.c_Path wt), some (strsD ws), some d5, some (pathD T.c_Path (tidiedT (heldOf (ws ++ [("end bar" : Str)])) wt))] ⟨30000 * i + 3100 + 103 * j + 102, OW⟩
          { nx := fun ρ2 m2 => m2 = ⟨30000 * i + 3100 + 103 * (j + 1), OW⟩ ∧ ∃ x9 x10 x11 x12 x13, ρ2 = [some (.s (.ref a)), some (.s (.ref p)), some d, some (strsD zs), some (.s (.ref l)), some (.s (.ref l2)), x6, some (.s (.ref t)), some (.s (.ref t2)), x9, x10, x11, x12, x13], rt := rt, bk := bk, ct := ct } := fun {rt bk ct} => by
        have hq2 : ∀ {c0 : Nat} {w : Str}, PathOk zs w → LeadIn T.c_Tree T.c_Path zs ⟨c0, OW⟩ t2 tr2 w (.pl home) home := fun {c0} {w} hw => ⟨tOW _, ok2', hlk3, hw, .inl rfl, hhf2⟩
        have hres2 : ∀ q, leadP tr2 13 wt home false = some q → ∀ n ∈ q, DT.isName n = true := fun q hq => (lead_short ok2' hho2 hq).2
        refine ws_seq (ws_asg (c_leadS T rfl (fun Q' q => we_var rfl q) (fun Q' q => we_var rfl q) (hq2 P1) fun d6 g6 => ?_))
        refine ws_seq (ws_asg (we_op (we_op (we_var rfl (we_lst (wa_cons (we_c (wa_nil ⟨l1 1 (by decide), wo_addL (by rw [List.length_map]; exact l1 _ (by show ws.length + 1 ≤ 100; omega)) ?_⟩))))))))
        refine we_sl (we_lst (wa_cons (we_c (wa_nil ⟨l1 1 (by decide), wpt_no (wpt_some (we_call okx0 (wa_cons (we_var rfl (wa_cons (we_c (wa_nil ⟨p, 2, rfl, hstM (30000 * i + 3100 + 103 * j + 102), by decide, by decide, by show 30000 * i + 3100 + 103 * j + 102 < _; omega, fun r3 a3 a4 => ⟨r3, rfl, wsl_L ?_⟩⟩)))))))⟩))))
        obtain ⟨ws3, ew3, hw3⟩ := bar_cut a3 a4
        rw [ew3]
        refine wo_addL (by rcases hw3 with rfl | rfl <;> (rw [List.length_append, List.length_map]; exact l1 _ (by simp; omega))) ?_
        have hall : ∀ w ∈ ws ++ [("up" : Str)] ++ ws3, w ∈ wordsAll := by
          intro w hw'
          rcases List.mem_append.mp hw' with z | z
          · rcases List.mem_append.mp z with z | z
            · exact hw1 w z
            · rw [List.mem_singleton.mp z]
              decide +kernel
          · rcases hw3 with rfl | rfl
            · cases z
            · rw [List.mem_singleton.mp z]
              decide +kernel
        have e3 : D.lst (ws.map strD ++ [strD "up"] ++ ws3.map strD) = strsD (ws ++ [("up" : Str)] ++ ws3) := by
          show _ = D.lst ((ws ++ [("up" : Str)] ++ ws3).map strD)
          rw [List.map_append, List.map_append]
          rfl
        show WS K _ B _ [some (.s (.ref a)), some (.s (.ref p)), some d, some (strsD zs), some (.s (.ref l)), some (.s (.ref l2)), x6, some (.s (.ref t)), some (.s (.ref t2)), some (.pl home), some (pathD T.c_Path wt), some (D.lst (ws.map strD ++ [strD "up"] ++ ws3.map strD)), some d6, some (pathD T.c_Path (tidiedT (heldOf (ws ++ [("end bar" : Str)])) wt))] ⟨30000 * i + 3100 + 103 * j + 103, OW⟩ _
        rw [e3]
        generalize ws ++ [("up" : Str)] ++ ws3 = wsu at hall
        have fin : ∀ {m' : Mem}, m' = ⟨30000 * i + 3100 + 103 * j + 103, OW⟩ → m' = ⟨30000 * i + 3100 + 103 * (j + 1), OW⟩ := fun e => e
        cases hr2 : leadP tr2 13 wt home false with
        | none =>
          rw [hr2] at g6
          have e6 : d6 = nonD := g6
          subst e6
          exact ws_if (wt_and (wt_test (we_op (we_var rfl (we_c (wo_notN ⟨_, rfl, (fun z => absurd z (by simp)), fun _ => ⟨(fun z => nomatch z), fun _ => ws_next ⟨fin rfl, _, _, _, _, _, rfl⟩⟩⟩))))))
        | some y =>
          rw [hr2] at g6 hres2
          have t6 : TxT d6 y := g6
          refine ws_if (wt_and (wt_test (we_op (we_var rfl (we_c (wo_notTh t6.th ⟨_, rfl, fun _ => ?_, fun z => nomatch z⟩))))))
          refine wt_test (we_op (c_leadS T (p := tidiedT (heldOf wsu) wt) rfl (fun Q' q => we_call okx0 (wa_cons (we_var rfl (wa_cons (make_sk T hall (fun Q2 q2 => we_var rfl q2) (wa_nil ⟨wt, heldOf wsu, rfl, p1, lw, q⟩)))))) (fun Q' q => we_var rfl q) (hq2 (tid_path P1 q1)) fun d7 g7 => ?_))
          rw [lead_t3 hnol p1 hkr2 hhf2 hr2] at g7
          exact we_var rfl (ne_res g7 g6 hres2 ⟨_, rfl, (fun z => nomatch z), fun _ => ws_next ⟨fin rfl, _, _, _, _, _, rfl⟩⟩)
      cases hr1 : leadP tr' 13 wt home false with
      | none =>
        rw [hr1] at g5
        have e5 : d5 = nonD := g5
        subst e5
        exact ws_seq (ws_if (wt_and (wt_test (we_op (we_var rfl (we_c (wo_notN ⟨_, rfl, (fun z => absurd z (by simp)), fun _ => ⟨(fun z => nomatch z), fun _ => ws_next snd⟩⟩)))))))
      | some y =>
        rw [hr1] at g5 hres
        have t5 : TxT d5 y := g5
        refine ws_seq (ws_if (wt_and (wt_test (we_op (we_var rfl (we_c (wo_notTh t5.th ⟨_, rfl, fun _ => ?_, fun z => nomatch z⟩)))))))
        refine wt_test (we_op (c_leadS T (p := tidiedT (heldOf (ws ++ [("end bar" : Str)])) wt) rfl (fun Q' q => we_var rfl q) (fun Q' q => we_var rfl q) (hq (tid_path P1 q1)) fun d7 g7 => ?_))
        rw [lead_t2 hu2 p1 hkr hhf hr1] at g7
        exact we_var rfl (ne_res g7 g5 hres ⟨_, rfl, (fun z => nomatch z), fun _ => ws_next snd⟩)
    · rintro ρ2 m2 ⟨rfl, x9, x10, x11, x12, x13, rfl⟩
      rw [List.length_map]
      refine ⟨⟨30000 * (i + 1), own⟩, fun K F Hb H r => ?_, rfl, _, _, _, _, _, _, _, _, _, _, _, _, rfl⟩
      have r3 := cv1 _ K F Hb H (cO2 _ K F Hb H (cOW _ K F Hb H r))
      exact r3.count (by show 30000 * i + 3100 + 103 * (foldersT tr).length ≤ 30000 * (i + 1); omega)
  · rintro ρ1 m1 ⟨rfl, x2, x3, x4, x5, x6, x7, x8, x9, x10, x11, x12, x13, rfl⟩
    exact ws_ret (we_c rfl)
end My

namespace My
open PySem L2 DD HP1
open PySem.Spec PyProof.Rows
theorem len_is_name {K : PySem.W.Frag} {mg : Str → Option Value} (T : Txt K mg) : ∀ ds m nx X, φ_is_name T ds m nx X → ds.length = (["thing"] : List Str).length := fun ds m nx X h => by
  unfold φ_is_name at h
  first | (rcases h with ⟨_, _, rfl, _⟩ | ⟨_, _, rfl, _⟩ <;> rfl) | (rcases h with ⟨_, _, _, rfl, _⟩ | ⟨_, _, _, rfl, _⟩ <;> rfl) | (obtain ⟨_, rfl, _⟩ := h; rfl) | (obtain ⟨_, _, rfl, _⟩ := h; rfl) | (obtain ⟨_, _, _, rfl, _⟩ := h; rfl) | (obtain ⟨_, _, _, _, rfl, _⟩ := h; rfl) | (obtain ⟨rfl, _⟩ := h; rfl) | (obtain ⟨_, _, _, _, _, rfl, _⟩ := h; rfl) | (obtain ⟨_, _, _, _, _, _, rfl, _⟩ := h; rfl) | (obtain ⟨_, _, _, _, _, _, _, rfl, _⟩ := h; rfl) | (obtain ⟨_, _, _, _, _, _, _, _, rfl, _⟩ := h; rfl) | (obtain ⟨_, _, _, _, _, _, _, _, _, rfl, _⟩ := h; rfl) | (obtain ⟨_, _, _, _, _, _, _, _, _, _, rfl, _⟩ := h; rfl)
theorem len_is_path_text {K : PySem.W.Frag} {mg : Str → Option Value} (T : Txt K mg) : ∀ ds m nx X, φ_is_path_text T ds m nx X → ds.length = (["thing"] : List Str).length := fun ds m nx X h => by
  unfold φ_is_path_text at h
  first | (rcases h with ⟨_, _, rfl, _⟩ | ⟨_, _, rfl, _⟩ <;> rfl) | (rcases h with ⟨_, _, _, rfl, _⟩ | ⟨_, _, _, rfl, _⟩ <;> rfl) | (obtain ⟨_, rfl, _⟩ := h; rfl) | (obtain ⟨_, _, rfl, _⟩ := h; rfl) | (obtain ⟨_, _, _, rfl, _⟩ := h; rfl) | (obtain ⟨_, _, _, _, rfl, _⟩ := h; rfl) | (obtain ⟨rfl, _⟩ := h; rfl) | (obtain ⟨_, _, _, _, _, rfl, _⟩ := h; rfl) | (obtain ⟨_, _, _, _, _, _, rfl, _⟩ := h; rfl) | (obtain ⟨_, _, _, _, _, _, _, rfl, _⟩ := h; rfl) | (obtain ⟨_, _, _, _, _, _, _, _, rfl, _⟩ := h; rfl) | (obtain ⟨_, _, _, _, _, _, _, _, _, rfl, _⟩ := h; rfl) | (obtain ⟨_, _, _, _, _, _, _, _, _, _, rfl, _⟩ := h; rfl)
theorem len_Path___init__ {K : PySem.W.Frag} {mg : Str → Option Value} (T : Txt K mg) : ∀ ds m nx X, φ_Path___init__ T ds m nx X → ds.length = (["self", "text"] : List Str).length := fun ds m nx X h => by
  unfold φ_Path___init__ at h
  first | (rcases h with ⟨_, _, rfl, _⟩ | ⟨_, _, rfl, _⟩ <;> rfl) | (rcases h with ⟨_, _, _, rfl, _⟩ | ⟨_, _, _, rfl, _⟩ <;> rfl) | (obtain ⟨_, rfl, _⟩ := h; rfl) | (obtain ⟨_, _, rfl, _⟩ := h; rfl) | (obtain ⟨_, _, _, rfl, _⟩ := h; rfl) | (obtain ⟨_, _, _, _, rfl, _⟩ := h; rfl) | (obtain ⟨rfl, _⟩ := h; rfl) | (obtain ⟨_, _, _, _, _, rfl, _⟩ := h; rfl) | (obtain ⟨_, _, _, _, _, _, rfl, _⟩ := h; rfl) | (obtain ⟨_, _, _, _, _, _, _, rfl, _⟩ := h; rfl) | (obtain ⟨_, _, _, _, _, _, _, _, rfl, _⟩ := h; rfl) | (obtain ⟨_, _, _, _, _, _, _, _, _, rfl, _⟩ := h; rfl) | (obtain ⟨_, _, _, _, _, _, _, _, _, _, rfl, _⟩ := h; rfl)
theorem len_Path_steps {K : PySem.W.Frag} {mg : Str → Option Value} (T : Txt K mg) : ∀ ds m nx X, φ_Path_steps T ds m nx X → ds.length = (["self"] : List Str).length := fun ds m nx X h => by
  unfold φ_Path_steps at h
  first | (rcases h with ⟨_, _, rfl, _⟩ | ⟨_, _, rfl, _⟩ <;> rfl) | (rcases h with ⟨_, _, _, rfl, _⟩ | ⟨_, _, _, rfl, _⟩ <;> rfl) | (obtain ⟨_, rfl, _⟩ := h; rfl) | (obtain ⟨_, _, rfl, _⟩ := h; rfl) | (obtain ⟨_, _, _, rfl, _⟩ := h; rfl) | (obtain ⟨_, _, _, _, rfl, _⟩ := h; rfl) | (obtain ⟨rfl, _⟩ := h; rfl) | (obtain ⟨_, _, _, _, _, rfl, _⟩ := h; rfl) | (obtain ⟨_, _, _, _, _, _, rfl, _⟩ := h; rfl) | (obtain ⟨_, _, _, _, _, _, _, rfl, _⟩ := h; rfl) | (obtain ⟨_, _, _, _, _, _, _, _, rfl, _⟩ := h; rfl) | (obtain ⟨_, _, _, _, _, _, _, _, _, rfl, _⟩ := h; rfl) | (obtain ⟨_, _, _, _, _, _, _, _, _, _, rfl, _⟩ := h; rfl)
theorem len_path_of {K : PySem.W.Frag} {mg : Str → Option Value} (T : Txt K mg) : ∀ ds m nx X, φ_path_of T ds m nx X → ds.length = (["steps", "rooted", "ended"] : List Str).length := fun ds m nx X h => by
  unfold φ_path_of at h
  first | (rcases h with ⟨_, _, rfl, _⟩ | ⟨_, _, rfl, _⟩ <;> rfl) | (rcases h with ⟨_, _, _, rfl, _⟩ | ⟨_, _, _, rfl, _⟩ <;> rfl) | (obtain ⟨_, rfl, _⟩ := h; rfl) | (obtain ⟨_, _, rfl, _⟩ := h; rfl) | (obtain ⟨_, _, _, rfl, _⟩ := h; rfl) | (obtain ⟨_, _, _, _, rfl, _⟩ := h; rfl) | (obtain ⟨rfl, _⟩ := h; rfl) | (obtain ⟨_, _, _, _, _, rfl, _⟩ := h; rfl) | (obtain ⟨_, _, _, _, _, _, rfl, _⟩ := h; rfl) | (obtain ⟨_, _, _, _, _, _, _, rfl, _⟩ := h; rfl) | (obtain ⟨_, _, _, _, _, _, _, _, rfl, _⟩ := h; rfl) | (obtain ⟨_, _, _, _, _, _, _, _, _, rfl, _⟩ := h; rfl) | (obtain ⟨_, _, _, _, _, _, _, _, _, _, rfl, _⟩ := h; rfl)
theorem len_Strikes___init__ {K : PySem.W.Frag} {mg : Str → Option Value} (T : Txt K mg) : ∀ ds m nx X, φ_Strikes___init__ T ds m nx X → ds.length = (["self", "words"] : List Str).length := fun ds m nx X h => by
  unfold φ_Strikes___init__ at h
  first | (rcases h with ⟨_, _, rfl, _⟩ | ⟨_, _, rfl, _⟩ <;> rfl) | (rcases h with ⟨_, _, _, rfl, _⟩ | ⟨_, _, _, rfl, _⟩ <;> rfl) | (obtain ⟨_, rfl, _⟩ := h; rfl) | (obtain ⟨_, _, rfl, _⟩ := h; rfl) | (obtain ⟨_, _, _, rfl, _⟩ := h; rfl) | (obtain ⟨_, _, _, _, rfl, _⟩ := h; rfl) | (obtain ⟨rfl, _⟩ := h; rfl) | (obtain ⟨_, _, _, _, _, rfl, _⟩ := h; rfl) | (obtain ⟨_, _, _, _, _, _, rfl, _⟩ := h; rfl) | (obtain ⟨_, _, _, _, _, _, _, rfl, _⟩ := h; rfl) | (obtain ⟨_, _, _, _, _, _, _, _, rfl, _⟩ := h; rfl) | (obtain ⟨_, _, _, _, _, _, _, _, _, rfl, _⟩ := h; rfl) | (obtain ⟨_, _, _, _, _, _, _, _, _, _, rfl, _⟩ := h; rfl)
theorem len_Strikes___contains__ {K : PySem.W.Frag} {mg : Str → Option Value} (T : Txt K mg) : ∀ ds m nx X, φ_Strikes___contains__ T ds m nx X → ds.length = (["self", "thing"] : List Str).length := fun ds m nx X h => by
  unfold φ_Strikes___contains__ at h
  first | (rcases h with ⟨_, _, rfl, _⟩ | ⟨_, _, rfl, _⟩ <;> rfl) | (rcases h with ⟨_, _, _, rfl, _⟩ | ⟨_, _, _, rfl, _⟩ <;> rfl) | (obtain ⟨_, rfl, _⟩ := h; rfl) | (obtain ⟨_, _, rfl, _⟩ := h; rfl) | (obtain ⟨_, _, _, rfl, _⟩ := h; rfl) | (obtain ⟨_, _, _, _, rfl, _⟩ := h; rfl) | (obtain ⟨rfl, _⟩ := h; rfl) | (obtain ⟨_, _, _, _, _, rfl, _⟩ := h; rfl) | (obtain ⟨_, _, _, _, _, _, rfl, _⟩ := h; rfl) | (obtain ⟨_, _, _, _, _, _, _, rfl, _⟩ := h; rfl) | (obtain ⟨_, _, _, _, _, _, _, _, rfl, _⟩ := h; rfl) | (obtain ⟨_, _, _, _, _, _, _, _, _, rfl, _⟩ := h; rfl) | (obtain ⟨_, _, _, _, _, _, _, _, _, _, rfl, _⟩ := h; rfl)
theorem len_Strikes_words {K : PySem.W.Frag} {mg : Str → Option Value} (T : Txt K mg) : ∀ ds m nx X, φ_Strikes_words T ds m nx X → ds.length = (["self"] : List Str).length := fun ds m nx X h => by
  unfold φ_Strikes_words at h
  first | (rcases h with ⟨_, _, rfl, _⟩ | ⟨_, _, rfl, _⟩ <;> rfl) | (rcases h with ⟨_, _, _, rfl, _⟩ | ⟨_, _, _, rfl, _⟩ <;> rfl) | (obtain ⟨_, rfl, _⟩ := h; rfl) | (obtain ⟨_, _, rfl, _⟩ := h; rfl) | (obtain ⟨_, _, _, rfl, _⟩ := h; rfl) | (obtain ⟨_, _, _, _, rfl, _⟩ := h; rfl) | (obtain ⟨rfl, _⟩ := h; rfl) | (obtain ⟨_, _, _, _, _, rfl, _⟩ := h; rfl) | (obtain ⟨_, _, _, _, _, _, rfl, _⟩ := h; rfl) | (obtain ⟨_, _, _, _, _, _, _, rfl, _⟩ := h; rfl) | (obtain ⟨_, _, _, _, _, _, _, _, rfl, _⟩ := h; rfl) | (obtain ⟨_, _, _, _, _, _, _, _, _, rfl, _⟩ := h; rfl) | (obtain ⟨_, _, _, _, _, _, _, _, _, _, rfl, _⟩ := h; rfl)
theorem len_tidied {K : PySem.W.Frag} {mg : Str → Option Value} (T : Txt K mg) : ∀ ds m nx X, φ_tidied T ds m nx X → ds.length = (["path", "strikes"] : List Str).length := fun ds m nx X h => by
  unfold φ_tidied at h
  first | (rcases h with ⟨_, _, rfl, _⟩ | ⟨_, _, rfl, _⟩ <;> rfl) | (rcases h with ⟨_, _, _, rfl, _⟩ | ⟨_, _, _, rfl, _⟩ <;> rfl) | (obtain ⟨_, rfl, _⟩ := h; rfl) | (obtain ⟨_, _, rfl, _⟩ := h; rfl) | (obtain ⟨_, _, _, rfl, _⟩ := h; rfl) | (obtain ⟨_, _, _, _, rfl, _⟩ := h; rfl) | (obtain ⟨rfl, _⟩ := h; rfl) | (obtain ⟨_, _, _, _, _, rfl, _⟩ := h; rfl) | (obtain ⟨_, _, _, _, _, _, rfl, _⟩ := h; rfl) | (obtain ⟨_, _, _, _, _, _, _, rfl, _⟩ := h; rfl) | (obtain ⟨_, _, _, _, _, _, _, _, rfl, _⟩ := h; rfl) | (obtain ⟨_, _, _, _, _, _, _, _, _, rfl, _⟩ := h; rfl) | (obtain ⟨_, _, _, _, _, _, _, _, _, _, rfl, _⟩ := h; rfl)
theorem len_place_of {K : PySem.W.Frag} {mg : Str → Option Value} (T : Txt K mg) : ∀ ds m nx X, φ_place_of T ds m nx X → ds.length = (["thing"] : List Str).length := fun ds m nx X h => by
  unfold φ_place_of at h
  first | (rcases h with ⟨_, _, rfl, _⟩ | ⟨_, _, rfl, _⟩ <;> rfl) | (rcases h with ⟨_, _, _, rfl, _⟩ | ⟨_, _, _, rfl, _⟩ <;> rfl) | (obtain ⟨_, rfl, _⟩ := h; rfl) | (obtain ⟨_, _, rfl, _⟩ := h; rfl) | (obtain ⟨_, _, _, rfl, _⟩ := h; rfl) | (obtain ⟨_, _, _, _, rfl, _⟩ := h; rfl) | (obtain ⟨rfl, _⟩ := h; rfl) | (obtain ⟨_, _, _, _, _, rfl, _⟩ := h; rfl) | (obtain ⟨_, _, _, _, _, _, rfl, _⟩ := h; rfl) | (obtain ⟨_, _, _, _, _, _, _, rfl, _⟩ := h; rfl) | (obtain ⟨_, _, _, _, _, _, _, _, rfl, _⟩ := h; rfl) | (obtain ⟨_, _, _, _, _, _, _, _, _, rfl, _⟩ := h; rfl) | (obtain ⟨_, _, _, _, _, _, _, _, _, _, rfl, _⟩ := h; rfl)
theorem len_Walk___init__ {K : PySem.W.Frag} {mg : Str → Option Value} (T : Txt K mg) : ∀ ds m nx X, φ_Walk___init__ T ds m nx X → ds.length = (["self", "tree"] : List Str).length := fun ds m nx X h => by
  unfold φ_Walk___init__ at h
  first | (rcases h with ⟨_, _, rfl, _⟩ | ⟨_, _, rfl, _⟩ <;> rfl) | (rcases h with ⟨_, _, _, rfl, _⟩ | ⟨_, _, _, rfl, _⟩ <;> rfl) | (obtain ⟨_, rfl, _⟩ := h; rfl) | (obtain ⟨_, _, rfl, _⟩ := h; rfl) | (obtain ⟨_, _, _, rfl, _⟩ := h; rfl) | (obtain ⟨_, _, _, _, rfl, _⟩ := h; rfl) | (obtain ⟨rfl, _⟩ := h; rfl) | (obtain ⟨_, _, _, _, _, rfl, _⟩ := h; rfl) | (obtain ⟨_, _, _, _, _, _, rfl, _⟩ := h; rfl) | (obtain ⟨_, _, _, _, _, _, _, rfl, _⟩ := h; rfl) | (obtain ⟨_, _, _, _, _, _, _, _, rfl, _⟩ := h; rfl) | (obtain ⟨_, _, _, _, _, _, _, _, _, rfl, _⟩ := h; rfl) | (obtain ⟨_, _, _, _, _, _, _, _, _, _, rfl, _⟩ := h; rfl)
theorem len_Walk_goes {K : PySem.W.Frag} {mg : Str → Option Value} (T : Txt K mg) : ∀ (n : Nat) ds m nx X, φ_Walk_goes T n ds m nx X → ds.length = (["self", "path", "place", "itself", "open_links"] : List Str).length
  | 0, _, _, _, _, h => h.elim
  | n + 1, ds, m, nx, X, h => by
    obtain ⟨_, _, _, _, _, _, _, _, _, _, _, _, _, _, _, _, rfl, _⟩ := h
    rfl
theorem len_Walk_stepped {K : PySem.W.Frag} {mg : Str → Option Value} (T : Txt K mg) (n : Nat) : ∀ ds m nx X, φ_Walk_stepped T n ds m nx X → ds.length = (["self", "here", "step", "keeps", "open_links"] : List Str).length := fun ds m nx X h => by
  obtain ⟨_, _, _, _, _, _, _, _, _, _, _, _, _, _, _, _, rfl, _⟩ := h
  rfl
theorem len_Walk_followed {K : PySem.W.Frag} {mg : Str → Option Value} (T : Txt K mg) (n : Nat) : ∀ ds m nx X, φ_Walk_followed T n ds m nx X → ds.length = (["self", "link", "open_links"] : List Str).length := fun ds m nx X h => by
  obtain ⟨_, _, _, _, _, _, _, _, _, _, _, _, _, rfl, _⟩ := h
  rfl

theorem len_Tree___init__ {K : PySem.W.Frag} {mg : Str → Option Value} (T : Txt K mg) : ∀ ds m nx X, φ_Tree___init__ T ds m nx X → ds.length = (["self"] : List Str).length := fun ds m nx X h => by
  unfold φ_Tree___init__ at h
  first | (rcases h with ⟨_, _, rfl, _⟩ | ⟨_, _, rfl, _⟩ <;> rfl) | (rcases h with ⟨_, _, _, rfl, _⟩ | ⟨_, _, _, rfl, _⟩ <;> rfl) | (obtain ⟨_, rfl, _⟩ := h; rfl) | (obtain ⟨_, _, rfl, _⟩ := h; rfl) | (obtain ⟨_, _, _, rfl, _⟩ := h; rfl) | (obtain ⟨_, _, _, _, rfl, _⟩ := h; rfl) | (obtain ⟨rfl, _⟩ := h; rfl) | (obtain ⟨_, _, _, _, _, rfl, _⟩ := h; rfl) | (obtain ⟨_, _, _, _, _, _, rfl, _⟩ := h; rfl) | (obtain ⟨_, _, _, _, _, _, _, rfl, _⟩ := h; rfl) | (obtain ⟨_, _, _, _, _, _, _, _, rfl, _⟩ := h; rfl) | (obtain ⟨_, _, _, _, _, _, _, _, _, rfl, _⟩ := h; rfl) | (obtain ⟨_, _, _, _, _, _, _, _, _, _, rfl, _⟩ := h; rfl)
theorem len_Tree_kind {K : PySem.W.Frag} {mg : Str → Option Value} (T : Txt K mg) : ∀ ds m nx X, φ_Tree_kind T ds m nx X → ds.length = (["self", "place"] : List Str).length := fun ds m nx X h => by
  unfold φ_Tree_kind at h
  first | (rcases h with ⟨_, _, rfl, _⟩ | ⟨_, _, rfl, _⟩ <;> rfl) | (rcases h with ⟨_, _, _, rfl, _⟩ | ⟨_, _, _, rfl, _⟩ <;> rfl) | (obtain ⟨_, rfl, _⟩ := h; rfl) | (obtain ⟨_, _, rfl, _⟩ := h; rfl) | (obtain ⟨_, _, _, rfl, _⟩ := h; rfl) | (obtain ⟨_, _, _, _, rfl, _⟩ := h; rfl) | (obtain ⟨rfl, _⟩ := h; rfl) | (obtain ⟨_, _, _, _, _, rfl, _⟩ := h; rfl) | (obtain ⟨_, _, _, _, _, _, rfl, _⟩ := h; rfl) | (obtain ⟨_, _, _, _, _, _, _, rfl, _⟩ := h; rfl) | (obtain ⟨_, _, _, _, _, _, _, _, rfl, _⟩ := h; rfl) | (obtain ⟨_, _, _, _, _, _, _, _, _, rfl, _⟩ := h; rfl) | (obtain ⟨_, _, _, _, _, _, _, _, _, _, rfl, _⟩ := h; rfl)
theorem len_Tree_target {K : PySem.W.Frag} {mg : Str → Option Value} (T : Txt K mg) : ∀ ds m nx X, φ_Tree_target T ds m nx X → ds.length = (["self", "place"] : List Str).length := fun ds m nx X h => by
  unfold φ_Tree_target at h
  first | (rcases h with ⟨_, _, rfl, _⟩ | ⟨_, _, rfl, _⟩ <;> rfl) | (rcases h with ⟨_, _, _, rfl, _⟩ | ⟨_, _, _, rfl, _⟩ <;> rfl) | (obtain ⟨_, rfl, _⟩ := h; rfl) | (obtain ⟨_, _, rfl, _⟩ := h; rfl) | (obtain ⟨_, _, _, rfl, _⟩ := h; rfl) | (obtain ⟨_, _, _, _, rfl, _⟩ := h; rfl) | (obtain ⟨rfl, _⟩ := h; rfl) | (obtain ⟨_, _, _, _, _, rfl, _⟩ := h; rfl) | (obtain ⟨_, _, _, _, _, _, rfl, _⟩ := h; rfl) | (obtain ⟨_, _, _, _, _, _, _, rfl, _⟩ := h; rfl) | (obtain ⟨_, _, _, _, _, _, _, _, rfl, _⟩ := h; rfl) | (obtain ⟨_, _, _, _, _, _, _, _, _, rfl, _⟩ := h; rfl) | (obtain ⟨_, _, _, _, _, _, _, _, _, _, rfl, _⟩ := h; rfl)
theorem len_Tree_folder {K : PySem.W.Frag} {mg : Str → Option Value} (T : Txt K mg) : ∀ ds m nx X, φ_Tree_folder T ds m nx X → ds.length = (["self", "place"] : List Str).length := fun ds m nx X h => by
  unfold φ_Tree_folder at h
  first | (rcases h with ⟨_, _, rfl, _⟩ | ⟨_, _, rfl, _⟩ <;> rfl) | (rcases h with ⟨_, _, _, rfl, _⟩ | ⟨_, _, _, rfl, _⟩ <;> rfl) | (obtain ⟨_, rfl, _⟩ := h; rfl) | (obtain ⟨_, _, rfl, _⟩ := h; rfl) | (obtain ⟨_, _, _, rfl, _⟩ := h; rfl) | (obtain ⟨_, _, _, _, rfl, _⟩ := h; rfl) | (obtain ⟨rfl, _⟩ := h; rfl) | (obtain ⟨_, _, _, _, _, rfl, _⟩ := h; rfl) | (obtain ⟨_, _, _, _, _, _, rfl, _⟩ := h; rfl) | (obtain ⟨_, _, _, _, _, _, _, rfl, _⟩ := h; rfl) | (obtain ⟨_, _, _, _, _, _, _, _, rfl, _⟩ := h; rfl) | (obtain ⟨_, _, _, _, _, _, _, _, _, rfl, _⟩ := h; rfl) | (obtain ⟨_, _, _, _, _, _, _, _, _, _, rfl, _⟩ := h; rfl)
theorem len_Tree_file {K : PySem.W.Frag} {mg : Str → Option Value} (T : Txt K mg) : ∀ ds m nx X, φ_Tree_file T ds m nx X → ds.length = (["self", "place"] : List Str).length := fun ds m nx X h => by
  unfold φ_Tree_file at h
  first | (rcases h with ⟨_, _, rfl, _⟩ | ⟨_, _, rfl, _⟩ <;> rfl) | (rcases h with ⟨_, _, _, rfl, _⟩ | ⟨_, _, _, rfl, _⟩ <;> rfl) | (obtain ⟨_, rfl, _⟩ := h; rfl) | (obtain ⟨_, _, rfl, _⟩ := h; rfl) | (obtain ⟨_, _, _, rfl, _⟩ := h; rfl) | (obtain ⟨_, _, _, _, rfl, _⟩ := h; rfl) | (obtain ⟨rfl, _⟩ := h; rfl) | (obtain ⟨_, _, _, _, _, rfl, _⟩ := h; rfl) | (obtain ⟨_, _, _, _, _, _, rfl, _⟩ := h; rfl) | (obtain ⟨_, _, _, _, _, _, _, rfl, _⟩ := h; rfl) | (obtain ⟨_, _, _, _, _, _, _, _, rfl, _⟩ := h; rfl) | (obtain ⟨_, _, _, _, _, _, _, _, _, rfl, _⟩ := h; rfl) | (obtain ⟨_, _, _, _, _, _, _, _, _, _, rfl, _⟩ := h; rfl)
theorem len_Tree_link {K : PySem.W.Frag} {mg : Str → Option Value} (T : Txt K mg) : ∀ ds m nx X, φ_Tree_link T ds m nx X → ds.length = (["self", "place", "path"] : List Str).length := fun ds m nx X h => by
  unfold φ_Tree_link at h
  first | (rcases h with ⟨_, _, rfl, _⟩ | ⟨_, _, rfl, _⟩ <;> rfl) | (rcases h with ⟨_, _, _, rfl, _⟩ | ⟨_, _, _, rfl, _⟩ <;> rfl) | (obtain ⟨_, rfl, _⟩ := h; rfl) | (obtain ⟨_, _, rfl, _⟩ := h; rfl) | (obtain ⟨_, _, _, rfl, _⟩ := h; rfl) | (obtain ⟨_, _, _, _, rfl, _⟩ := h; rfl) | (obtain ⟨rfl, _⟩ := h; rfl) | (obtain ⟨_, _, _, _, _, rfl, _⟩ := h; rfl) | (obtain ⟨_, _, _, _, _, _, rfl, _⟩ := h; rfl) | (obtain ⟨_, _, _, _, _, _, _, rfl, _⟩ := h; rfl) | (obtain ⟨_, _, _, _, _, _, _, _, rfl, _⟩ := h; rfl) | (obtain ⟨_, _, _, _, _, _, _, _, _, rfl, _⟩ := h; rfl) | (obtain ⟨_, _, _, _, _, _, _, _, _, _, rfl, _⟩ := h; rfl)
theorem len_Tree_put {K : PySem.W.Frag} {mg : Str → Option Value} (T : Txt K mg) : ∀ ds m nx X, φ_Tree_put T ds m nx X → ds.length = (["self", "place", "kind", "path"] : List Str).length := fun ds m nx X h => by
  unfold φ_Tree_put at h
  first | (rcases h with ⟨_, _, rfl, _⟩ | ⟨_, _, rfl, _⟩ <;> rfl) | (rcases h with ⟨_, _, _, rfl, _⟩ | ⟨_, _, _, rfl, _⟩ <;> rfl) | (obtain ⟨_, rfl, _⟩ := h; rfl) | (obtain ⟨_, _, rfl, _⟩ := h; rfl) | (obtain ⟨_, _, _, rfl, _⟩ := h; rfl) | (obtain ⟨_, _, _, _, rfl, _⟩ := h; rfl) | (obtain ⟨rfl, _⟩ := h; rfl) | (obtain ⟨_, _, _, _, _, rfl, _⟩ := h; rfl) | (obtain ⟨_, _, _, _, _, _, rfl, _⟩ := h; rfl) | (obtain ⟨_, _, _, _, _, _, _, rfl, _⟩ := h; rfl) | (obtain ⟨_, _, _, _, _, _, _, _, rfl, _⟩ := h; rfl) | (obtain ⟨_, _, _, _, _, _, _, _, _, rfl, _⟩ := h; rfl) | (obtain ⟨_, _, _, _, _, _, _, _, _, _, rfl, _⟩ := h; rfl)
theorem len_Tree_check_free {K : PySem.W.Frag} {mg : Str → Option Value} (T : Txt K mg) : ∀ ds m nx X, φ_Tree_check_free T ds m nx X → ds.length = (["self", "place"] : List Str).length := fun ds m nx X h => by
  unfold φ_Tree_check_free at h
  first | (rcases h with ⟨_, _, rfl, _⟩ | ⟨_, _, rfl, _⟩ <;> rfl) | (rcases h with ⟨_, _, _, rfl, _⟩ | ⟨_, _, _, rfl, _⟩ <;> rfl) | (obtain ⟨_, rfl, _⟩ := h; rfl) | (obtain ⟨_, _, rfl, _⟩ := h; rfl) | (obtain ⟨_, _, _, rfl, _⟩ := h; rfl) | (obtain ⟨_, _, _, _, rfl, _⟩ := h; rfl) | (obtain ⟨rfl, _⟩ := h; rfl) | (obtain ⟨_, _, _, _, _, rfl, _⟩ := h; rfl) | (obtain ⟨_, _, _, _, _, _, rfl, _⟩ := h; rfl) | (obtain ⟨_, _, _, _, _, _, _, rfl, _⟩ := h; rfl) | (obtain ⟨_, _, _, _, _, _, _, _, rfl, _⟩ := h; rfl) | (obtain ⟨_, _, _, _, _, _, _, _, _, rfl, _⟩ := h; rfl) | (obtain ⟨_, _, _, _, _, _, _, _, _, _, rfl, _⟩ := h; rfl)
theorem len_Tree_walked {K : PySem.W.Frag} {mg : Str → Option Value} (T : Txt K mg) : ∀ ds m nx X, φ_Tree_walked T ds m nx X → ds.length = (["self", "path", "start", "itself"] : List Str).length := fun ds m nx X h => by
  unfold φ_Tree_walked at h
  first | (rcases h with ⟨_, _, rfl, _⟩ | ⟨_, _, rfl, _⟩ <;> rfl) | (rcases h with ⟨_, _, _, rfl, _⟩ | ⟨_, _, _, rfl, _⟩ <;> rfl) | (obtain ⟨_, rfl, _⟩ := h; rfl) | (obtain ⟨_, _, rfl, _⟩ := h; rfl) | (obtain ⟨_, _, _, rfl, _⟩ := h; rfl) | (obtain ⟨_, _, _, _, rfl, _⟩ := h; rfl) | (obtain ⟨rfl, _⟩ := h; rfl) | (obtain ⟨_, _, _, _, _, rfl, _⟩ := h; rfl) | (obtain ⟨_, _, _, _, _, _, rfl, _⟩ := h; rfl) | (obtain ⟨_, _, _, _, _, _, _, rfl, _⟩ := h; rfl) | (obtain ⟨_, _, _, _, _, _, _, _, rfl, _⟩ := h; rfl) | (obtain ⟨_, _, _, _, _, _, _, _, _, rfl, _⟩ := h; rfl) | (obtain ⟨_, _, _, _, _, _, _, _, _, _, rfl, _⟩ := h; rfl)
theorem len_Tree_lead {K : PySem.W.Frag} {mg : Str → Option Value} (T : Txt K mg) : ∀ ds m nx X, φ_Tree_lead T ds m nx X → ds.length = (["self", "path", "start", "itself"] : List Str).length := fun ds m nx X h => by
  unfold φ_Tree_lead at h
  first | (rcases h with ⟨_, _, rfl, _⟩ | ⟨_, _, rfl, _⟩ <;> rfl) | (rcases h with ⟨_, _, _, rfl, _⟩ | ⟨_, _, _, rfl, _⟩ <;> rfl) | (obtain ⟨_, rfl, _⟩ := h; rfl) | (obtain ⟨_, _, rfl, _⟩ := h; rfl) | (obtain ⟨_, _, _, rfl, _⟩ := h; rfl) | (obtain ⟨_, _, _, _, rfl, _⟩ := h; rfl) | (obtain ⟨rfl, _⟩ := h; rfl) | (obtain ⟨_, _, _, _, _, rfl, _⟩ := h; rfl) | (obtain ⟨_, _, _, _, _, _, rfl, _⟩ := h; rfl) | (obtain ⟨_, _, _, _, _, _, _, rfl, _⟩ := h; rfl) | (obtain ⟨_, _, _, _, _, _, _, _, rfl, _⟩ := h; rfl) | (obtain ⟨_, _, _, _, _, _, _, _, _, rfl, _⟩ := h; rfl) | (obtain ⟨_, _, _, _, _, _, _, _, _, _, rfl, _⟩ := h; rfl)
theorem len__law_p_written {K : PySem.W.Frag} {mg : Str → Option Value} (T : Txt K mg) : ∀ ds m nx X, φ__law_p_written T ds m nx X → ds.length = (["_law_stream", "_law_names_here", "_law_most"] : List Str).length := fun ds m nx X h => by
  unfold φ__law_p_written at h
  first | (rcases h with ⟨_, _, rfl, _⟩ | ⟨_, _, rfl, _⟩ <;> rfl) | (rcases h with ⟨_, _, _, rfl, _⟩ | ⟨_, _, _, rfl, _⟩ <;> rfl) | (obtain ⟨_, rfl, _⟩ := h; rfl) | (obtain ⟨_, _, rfl, _⟩ := h; rfl) | (obtain ⟨_, _, _, rfl, _⟩ := h; rfl) | (obtain ⟨_, _, _, _, rfl, _⟩ := h; rfl) | (obtain ⟨rfl, _⟩ := h; rfl) | (obtain ⟨_, _, _, _, _, rfl, _⟩ := h; rfl) | (obtain ⟨_, _, _, _, _, _, rfl, _⟩ := h; rfl) | (obtain ⟨_, _, _, _, _, _, _, rfl, _⟩ := h; rfl) | (obtain ⟨_, _, _, _, _, _, _, _, rfl, _⟩ := h; rfl) | (obtain ⟨_, _, _, _, _, _, _, _, _, rfl, _⟩ := h; rfl) | (obtain ⟨_, _, _, _, _, _, _, _, _, _, rfl, _⟩ := h; rfl)
theorem len__law_t_drawn {K : PySem.W.Frag} {mg : Str → Option Value} (T : Txt K mg) : ∀ ds m nx X, φ__law_t_drawn T ds m nx X → ds.length = (["_law_stream", "_law_names_here", "_law_most"] : List Str).length := fun ds m nx X h => by
  unfold φ__law_t_drawn at h
  first | (rcases h with ⟨_, _, rfl, _⟩ | ⟨_, _, rfl, _⟩ <;> rfl) | (rcases h with ⟨_, _, _, rfl, _⟩ | ⟨_, _, _, rfl, _⟩ <;> rfl) | (obtain ⟨_, rfl, _⟩ := h; rfl) | (obtain ⟨_, _, rfl, _⟩ := h; rfl) | (obtain ⟨_, _, _, rfl, _⟩ := h; rfl) | (obtain ⟨_, _, _, _, rfl, _⟩ := h; rfl) | (obtain ⟨rfl, _⟩ := h; rfl) | (obtain ⟨_, _, _, _, _, rfl, _⟩ := h; rfl) | (obtain ⟨_, _, _, _, _, _, rfl, _⟩ := h; rfl) | (obtain ⟨_, _, _, _, _, _, _, rfl, _⟩ := h; rfl) | (obtain ⟨_, _, _, _, _, _, _, _, rfl, _⟩ := h; rfl) | (obtain ⟨_, _, _, _, _, _, _, _, _, rfl, _⟩ := h; rfl) | (obtain ⟨_, _, _, _, _, _, _, _, _, _, rfl, _⟩ := h; rfl)
theorem len__law_t_up {K : PySem.W.Frag} {mg : Str → Option Value} (T : Txt K mg) : ∀ ds m nx X, φ__law_t_up T ds m nx X → ds.length = (["_law_tree"] : List Str).length := fun ds m nx X h => by
  unfold φ__law_t_up at h
  first | (rcases h with ⟨_, _, rfl, _⟩ | ⟨_, _, rfl, _⟩ <;> rfl) | (rcases h with ⟨_, _, _, rfl, _⟩ | ⟨_, _, _, rfl, _⟩ <;> rfl) | (obtain ⟨_, rfl, _⟩ := h; rfl) | (obtain ⟨_, _, rfl, _⟩ := h; rfl) | (obtain ⟨_, _, _, rfl, _⟩ := h; rfl) | (obtain ⟨_, _, _, _, rfl, _⟩ := h; rfl) | (obtain ⟨rfl, _⟩ := h; rfl) | (obtain ⟨_, _, _, _, _, rfl, _⟩ := h; rfl) | (obtain ⟨_, _, _, _, _, _, rfl, _⟩ := h; rfl) | (obtain ⟨_, _, _, _, _, _, _, rfl, _⟩ := h; rfl) | (obtain ⟨_, _, _, _, _, _, _, _, rfl, _⟩ := h; rfl) | (obtain ⟨_, _, _, _, _, _, _, _, _, rfl, _⟩ := h; rfl) | (obtain ⟨_, _, _, _, _, _, _, _, _, _, rfl, _⟩ := h; rfl)
theorem len__law_t_built {K : PySem.W.Frag} {mg : Str → Option Value} (T : Txt K mg) : ∀ ds m nx X, φ__law_t_built T ds m nx X → ds.length = (["_law_tree"] : List Str).length := fun ds m nx X h => by
  unfold φ__law_t_built at h
  first | (rcases h with ⟨_, _, rfl, _⟩ | ⟨_, _, rfl, _⟩ <;> rfl) | (rcases h with ⟨_, _, _, rfl, _⟩ | ⟨_, _, _, rfl, _⟩ <;> rfl) | (obtain ⟨_, rfl, _⟩ := h; rfl) | (obtain ⟨_, _, rfl, _⟩ := h; rfl) | (obtain ⟨_, _, _, rfl, _⟩ := h; rfl) | (obtain ⟨_, _, _, _, rfl, _⟩ := h; rfl) | (obtain ⟨rfl, _⟩ := h; rfl) | (obtain ⟨_, _, _, _, _, rfl, _⟩ := h; rfl) | (obtain ⟨_, _, _, _, _, _, rfl, _⟩ := h; rfl) | (obtain ⟨_, _, _, _, _, _, _, rfl, _⟩ := h; rfl) | (obtain ⟨_, _, _, _, _, _, _, _, rfl, _⟩ := h; rfl) | (obtain ⟨_, _, _, _, _, _, _, _, _, rfl, _⟩ := h; rfl) | (obtain ⟨_, _, _, _, _, _, _, _, _, _, rfl, _⟩ := h; rfl)
theorem len__law_t_folders {K : PySem.W.Frag} {mg : Str → Option Value} (T : Txt K mg) : ∀ ds m nx X, φ__law_t_folders T ds m nx X → ds.length = (["_law_tree"] : List Str).length := fun ds m nx X h => by
  unfold φ__law_t_folders at h
  first | (rcases h with ⟨_, _, rfl, _⟩ | ⟨_, _, rfl, _⟩ <;> rfl) | (rcases h with ⟨_, _, _, rfl, _⟩ | ⟨_, _, _, rfl, _⟩ <;> rfl) | (obtain ⟨_, rfl, _⟩ := h; rfl) | (obtain ⟨_, _, rfl, _⟩ := h; rfl) | (obtain ⟨_, _, _, rfl, _⟩ := h; rfl) | (obtain ⟨_, _, _, _, rfl, _⟩ := h; rfl) | (obtain ⟨rfl, _⟩ := h; rfl) | (obtain ⟨_, _, _, _, _, rfl, _⟩ := h; rfl) | (obtain ⟨_, _, _, _, _, _, rfl, _⟩ := h; rfl) | (obtain ⟨_, _, _, _, _, _, _, rfl, _⟩ := h; rfl) | (obtain ⟨_, _, _, _, _, _, _, _, rfl, _⟩ := h; rfl) | (obtain ⟨_, _, _, _, _, _, _, _, _, rfl, _⟩ := h; rfl) | (obtain ⟨_, _, _, _, _, _, _, _, _, _, rfl, _⟩ := h; rfl)
theorem len__law_draw {K : PySem.W.Frag} {mg : Str → Option Value} (T : Txt K mg) : ∀ ds m nx X, φ__law_draw T ds m nx X → ds.length = (["_law_stream", "_law_many"] : List Str).length := fun ds m nx X h => by
  unfold φ__law_draw at h
  first | (rcases h with ⟨_, _, rfl, _⟩ | ⟨_, _, rfl, _⟩ <;> rfl) | (rcases h with ⟨_, _, _, rfl, _⟩ | ⟨_, _, _, rfl, _⟩ <;> rfl) | (obtain ⟨_, rfl, _⟩ := h; rfl) | (obtain ⟨_, _, rfl, _⟩ := h; rfl) | (obtain ⟨_, _, _, rfl, _⟩ := h; rfl) | (obtain ⟨_, _, _, _, rfl, _⟩ := h; rfl) | (obtain ⟨rfl, _⟩ := h; rfl) | (obtain ⟨_, _, _, _, _, rfl, _⟩ := h; rfl) | (obtain ⟨_, _, _, _, _, _, rfl, _⟩ := h; rfl) | (obtain ⟨_, _, _, _, _, _, _, rfl, _⟩ := h; rfl) | (obtain ⟨_, _, _, _, _, _, _, _, rfl, _⟩ := h; rfl) | (obtain ⟨_, _, _, _, _, _, _, _, _, rfl, _⟩ := h; rfl) | (obtain ⟨_, _, _, _, _, _, _, _, _, _, rfl, _⟩ := h; rfl)
theorem len__law_pick {K : PySem.W.Frag} {mg : Str → Option Value} (T : Txt K mg) : ∀ ds m nx X, φ__law_pick T ds m nx X → ds.length = (["_law_stream", "_law_some"] : List Str).length := fun ds m nx X h => by
  unfold φ__law_pick at h
  first | (rcases h with ⟨_, _, rfl, _⟩ | ⟨_, _, rfl, _⟩ <;> rfl) | (rcases h with ⟨_, _, _, rfl, _⟩ | ⟨_, _, _, rfl, _⟩ <;> rfl) | (obtain ⟨_, rfl, _⟩ := h; rfl) | (obtain ⟨_, _, rfl, _⟩ := h; rfl) | (obtain ⟨_, _, _, rfl, _⟩ := h; rfl) | (obtain ⟨_, _, _, _, rfl, _⟩ := h; rfl) | (obtain ⟨rfl, _⟩ := h; rfl) | (obtain ⟨_, _, _, _, _, rfl, _⟩ := h; rfl) | (obtain ⟨_, _, _, _, _, _, rfl, _⟩ := h; rfl) | (obtain ⟨_, _, _, _, _, _, _, rfl, _⟩ := h; rfl) | (obtain ⟨_, _, _, _, _, _, _, _, rfl, _⟩ := h; rfl) | (obtain ⟨_, _, _, _, _, _, _, _, _, rfl, _⟩ := h; rfl) | (obtain ⟨_, _, _, _, _, _, _, _, _, _, rfl, _⟩ := h; rfl)
theorem len__law_name {K : PySem.W.Frag} {mg : Str → Option Value} (T : Txt K mg) : ∀ ds m nx X, φ__law_name T ds m nx X → ds.length = (["_law_stream"] : List Str).length := fun ds m nx X h => by
  unfold φ__law_name at h
  first | (rcases h with ⟨_, _, rfl, _⟩ | ⟨_, _, rfl, _⟩ <;> rfl) | (rcases h with ⟨_, _, _, rfl, _⟩ | ⟨_, _, _, rfl, _⟩ <;> rfl) | (obtain ⟨_, rfl, _⟩ := h; rfl) | (obtain ⟨_, _, rfl, _⟩ := h; rfl) | (obtain ⟨_, _, _, rfl, _⟩ := h; rfl) | (obtain ⟨_, _, _, _, rfl, _⟩ := h; rfl) | (obtain ⟨rfl, _⟩ := h; rfl) | (obtain ⟨_, _, _, _, _, rfl, _⟩ := h; rfl) | (obtain ⟨_, _, _, _, _, _, rfl, _⟩ := h; rfl) | (obtain ⟨_, _, _, _, _, _, _, rfl, _⟩ := h; rfl) | (obtain ⟨_, _, _, _, _, _, _, _, rfl, _⟩ := h; rfl) | (obtain ⟨_, _, _, _, _, _, _, _, _, rfl, _⟩ := h; rfl) | (obtain ⟨_, _, _, _, _, _, _, _, _, _, rfl, _⟩ := h; rfl)
theorem len__law_names {K : PySem.W.Frag} {mg : Str → Option Value} (T : Txt K mg) : ∀ ds m nx X, φ__law_names T ds m nx X → ds.length = (["_law_stream", "_law_many"] : List Str).length := fun ds m nx X h => by
  unfold φ__law_names at h
  first | (rcases h with ⟨_, _, rfl, _⟩ | ⟨_, _, rfl, _⟩ <;> rfl) | (rcases h with ⟨_, _, _, rfl, _⟩ | ⟨_, _, _, rfl, _⟩ <;> rfl) | (obtain ⟨_, rfl, _⟩ := h; rfl) | (obtain ⟨_, _, rfl, _⟩ := h; rfl) | (obtain ⟨_, _, _, rfl, _⟩ := h; rfl) | (obtain ⟨_, _, _, _, rfl, _⟩ := h; rfl) | (obtain ⟨rfl, _⟩ := h; rfl) | (obtain ⟨_, _, _, _, _, rfl, _⟩ := h; rfl) | (obtain ⟨_, _, _, _, _, _, rfl, _⟩ := h; rfl) | (obtain ⟨_, _, _, _, _, _, _, rfl, _⟩ := h; rfl) | (obtain ⟨_, _, _, _, _, _, _, _, rfl, _⟩ := h; rfl) | (obtain ⟨_, _, _, _, _, _, _, _, _, rfl, _⟩ := h; rfl) | (obtain ⟨_, _, _, _, _, _, _, _, _, _, rfl, _⟩ := h; rfl)
theorem ok_is_name {P : Program} {w : World} {K : PySem.W.Frag} {mg : Str → Option Value} {base : Heap} (T : Txt K mg)  : FnOk P w K mg base (L2.CX P w) 1 T.a_is_name T.d_is_name ["thing"] (spOf K (φ_is_name T)) :=
  ok_D (k := 0) T.F_is_name sc_is_name (len_is_name T) fun cdv A outer s H E hr => ⟨t_is_name T E,
    (pss_one (ps_ret (pe_and (pe_callB call_isiA (by rfl) T.z_isinstance (by decide +kernel) (pa_cons (pv 0) (pa_cons (pe_bltn (v := .ty "str") (by rfl) T.z_str (by decide +kernel) rfl) pa_nil))) (pe_and (pe_chain op_le op_le pe_int (pe_callB call_lenA (by rfl) T.z_len (by decide +kernel) (pa_cons (pv 0) pa_nil)) (pe_glob rfl T.g_LONGEST T.r_LONGEST)) (pe_one (pe_callB (cr_all rfl) (by rfl) T.z_all (by decide +kernel) (pa_cons (pe_lc (own := [("sign", 1)]) rfl sc_is_name.nd (pi_any (pv 0)) (blkOk_by (own := [("sign", 1)]) (N := N_is_name) (sc := defScope s_is_name) (by decide +kernel)) (fun _ _ _ _ _ => (pg_name (i := 1) sc_is_name.nd rfl (Or.inl rfl))) (fun _ _ _ _ _ => pts_nil) (fun _ _ _ _ _ => (pe_cmpR op_inA (pv 1) (pe_glob rfl T.g_LETTERS T.r_LETTERS) (by rfl)))) pa_nil))))))),
    rd_is_name T E⟩
theorem ok_is_path_text {P : Program} {w : World} {K : PySem.W.Frag} {mg : Str → Option Value} {base : Heap} (T : Txt K mg) (G_is_name : FnOk P w K mg base (L2.CX P w) 1 T.a_is_name T.d_is_name ["thing"] (spOf K (φ_is_name T))) : FnOk P w K mg base (L2.CX P w) 2 T.a_is_path_text T.d_is_path_text ["thing"] (spOf K (φ_is_path_text T)) :=
  ok_D (k := 1) T.F_is_path_text sc_is_path_text (len_is_path_text T) fun cdv A outer s H E hr => ⟨t_is_path_text T E,
    (pss_cons (ps_if (PW.pt (pw_or (pt_not (pt_val (pe_callB call_isiA (by rfl) T.z_isinstance (by decide +kernel) (pa_cons (pv 0) (pa_cons (pe_bltn (v := .ty "str") (by rfl) T.z_str (by decide +kernel) rfl) pa_nil))))) (pw_or1 (pt_cmpR (op_eqA hr.units) (pv 0) pe_str (nomark _))))) (pss_one (ps_ret pe_bl)) pss_nil)
    (pss_one (ps_ret (pe_callB (cr_all rfl) (by rfl) T.z_all (by decide +kernel) (pa_cons (pe_lc (own := [("piece", 1)]) rfl sc_is_path_text.nd (pi_any (pe_m1 PySem.F.slot_str_split PySem.F.type_str_split mt_splitA (pv 0) pe_str)) (blkOk_by (own := [("piece", 1)]) (N := N_is_path_text) (sc := defScope s_is_path_text) (by decide +kernel)) (fun _ _ _ _ _ => (pg_name (i := 1) sc_is_path_text.nd rfl (Or.inl rfl))) (fun _ _ _ _ _ => pts_nil) (fun _ _ _ _ _ => (pe_or (pe_cmpR op_inA (pv 1) (pe_tup (pa_cons pe_str (pa_cons pe_str (pa_cons pe_str pa_nil)))) (by rfl)) (pe_one (pe_call G_is_name (hr.mono (by decide)) rfl T.g_is_name T.F_is_name.kp T.b_is_name .nil passL (pa_cons (pv 1) pa_nil)))))) pa_nil))))),
    rd_is_path_text T E⟩
theorem ok_Path___init__ {P : Program} {w : World} {K : PySem.W.Frag} {mg : Str → Option Value} {base : Heap} (T : Txt K mg) (G_is_path_text : FnOk P w K mg base (L2.CX P w) 2 T.a_is_path_text T.d_is_path_text ["thing"] (spOf K (φ_is_path_text T))) : FnOk P w K mg base (L2.CX P w) 3 T.a_Path___init__ T.d_Path___init__ ["self", "text"] (spOf K (φ_Path___init__ T)) :=
  ok_D (k := 2) T.F_Path___init__ sc_Path___init__ (len_Path___init__ T) fun cdv A outer s H E hr => ⟨t_Path___init__ T E,
    (pss_cons (ps_if (pt_not (pt_val (pe_call G_is_path_text (hr.mono (by decide)) rfl T.g_is_path_text T.F_is_path_text.kp T.b_is_path_text .nil passL (pa_cons (pv 1) pa_nil)))) pss_never pss_nil)
    (pss_cons (ps_fld (pv 0) (pv 1) rfl)
    (pss_cons (ps_fld (pv 0) (pe_cmpR (op_eqA hr.units) (pe_ix ix_seq (pv 1) pe_int (fun _ _ => rfl)) pe_str (nomark _)) rfl)
    (pss_one (ps_fld (pv 0) (pe_cmpR op_inA (pe_ix ix_seq (pe_m1 PySem.F.slot_str_split PySem.F.type_str_split mt_splitA (pv 1) pe_str) (pe_un un_neg pe_int) (fun _ _ => rfl)) (pe_tup (pa_cons pe_str (pa_cons pe_str (pa_cons pe_str pa_nil)))) (by rfl)) rfl))))),
    rd_Path___init__ T E⟩
theorem ok_Path_steps {P : Program} {w : World} {K : PySem.W.Frag} {mg : Str → Option Value} {base : Heap} (T : Txt K mg)  : FnOk P w K mg base (L2.CX P w) 1 T.a_Path_steps T.d_Path_steps ["self"] (spOf K (φ_Path_steps T)) :=
  ok_D (k := 0) T.F_Path_steps sc_Path_steps (len_Path_steps T) fun cdv A outer s H E hr => ⟨t_Path_steps T E,
    (pss_one (ps_ret (pe_lc (own := [("piece", 1)]) rfl sc_Path_steps.nd (pi_any (pe_m1 PySem.F.slot_str_split PySem.F.type_str_split mt_splitA (pe_fld (pv 0) rfl) pe_str)) (blkOk_by (own := [("piece", 1)]) (N := N_Path_steps) (sc := defScope s_Path_steps) (by decide +kernel)) (fun _ _ _ _ _ => (pg_name (i := 1) sc_Path_steps.nd rfl (Or.inl rfl))) (fun _ _ _ _ _ => (pts_one (pt_cmpR (op_neA hr.units) (pv 1) pe_str (nomark _)))) (fun _ _ _ _ _ => (pv 1))))),
    rd_Path_steps T E⟩
theorem ok_path_of {P : Program} {w : World} {K : PySem.W.Frag} {mg : Str → Option Value} {base : Heap} (T : Txt K mg) (G_Path___init__ : FnOk P w K mg base (L2.CX P w) 3 T.a_Path___init__ T.d_Path___init__ ["self", "text"] (spOf K (φ_Path___init__ T))) (G_is_name : FnOk P w K mg base (L2.CX P w) 1 T.a_is_name T.d_is_name ["thing"] (spOf K (φ_is_name T))) : FnOk P w K mg base (L2.CX P w) 5 T.a_path_of T.d_path_of ["steps", "rooted", "ended"] (spOf K (φ_path_of T)) :=
  ok_DK (k := 4) T.F_path_of sc_path_of (len_path_of T) fun cdv A outer s H E hr => ⟨t_path_of T E,
    (pss_cons (ps_set (i := 3) sc_path_of.nd rfl (Or.inl rfl) (pe_m1 PySem.F.slot_str_join PySem.F.type_str_join mt_joinA pe_str (pv 0)))
    (pss_cons (ps_if (pt_val (pv 1)) (pss_one (ps_set (i := 3) sc_path_of.nd rfl (Or.inl rfl) (pe_op op_addA pe_str (pv 3)))) pss_nil)
    (pss_cons (ps_if (pt_cmpR (op_eqA hr.units) (pv 3) pe_str (nomark _)) (pss_one (ps_ret (pe_make T.mk_Path G_Path___init__ (hr.mono (by decide)) rfl T.g_Path T.b_Path___init__ .nil passL (pa_cons pe_str pa_nil)))) pss_nil)
    (pss_one (ps_ret (pe_make T.mk_Path G_Path___init__ (hr.mono (by decide)) rfl T.g_Path T.b_Path___init__ .nil passL (pa_cons (pe_ifExp (PW.pt (pw_and (pt_val (pv 2)) (pw_and (pt_cmpR (op_neA hr.units) (pv 0) (pe_lst pa_nil) (nomark _)) (pw_and1 (pt_val (pe_call G_is_name (hr.mono (by decide)) rfl T.g_is_name T.F_is_name.kp T.b_is_name .nil passL (pa_cons (pe_ix ix_seq (pv 0) (pe_un un_neg pe_int) (fun _ _ => rfl)) pa_nil))))))) (pe_op op_addA (pv 3) pe_str) (pv 3)) pa_nil))))))),
    rd_path_of T E⟩
theorem ok_Strikes___init__ {P : Program} {w : World} {K : PySem.W.Frag} {mg : Str → Option Value} {base : Heap} (T : Txt K mg)  : FnOk P w K mg base (L2.CX P w) 1 T.a_Strikes___init__ T.d_Strikes___init__ ["self", "words"] (spOf K (φ_Strikes___init__ T)) :=
  ok_DD (k := 0) T.F_Strikes___init__ sc_Strikes___init__ (len_Strikes___init__ T) fun cdv A outer s H E hr => ⟨t_Strikes___init__ T E,
    (pss_cons (ps_if (pt_not (pt_val (pe_callB call_isiA (by rfl) T.z_isinstance (by decide +kernel) (pa_cons (pv 1) (pa_cons (pe_tup (pa_cons (pe_bltn (v := .ty "list") (by rfl) T.z_list (by decide +kernel) rfl) (pa_cons (pe_bltn (v := .ty "tuple") (by rfl) T.z_tuple (by decide +kernel) rfl) pa_nil))) pa_nil))))) pss_never pss_nil)
    (pss_cons (ps_for (passes_of rfl) rfl (pi_any (pv 1)) (pg_name (i := 2) sc_Strikes___init__.nd rfl (Or.inl rfl)) (pss_one (ps_if (PW.pt (pw_or (pt_not (pt_val (pe_callB call_isiA (by rfl) T.z_isinstance (by decide +kernel) (pa_cons (pv 2) (pa_cons (pe_bltn (v := .ty "str") (by rfl) T.z_str (by decide +kernel) rfl) pa_nil))))) (pw_or1 (pt_cmpR op_ninA (pv 2) (pe_glob rfl T.g_WORDS (RelV_ref _)) (by rfl))))) pss_never pss_nil)))
    (pss_one (ps_fld (pv 0) (pe_lc (own := [("word", 2)]) rfl sc_Strikes___init__.nd (pi_any (pe_glob rfl T.g_WORDS (RelV_ref _))) (blkOk_by (own := [("word", 2)]) (N := N_Strikes___init__) (sc := defScope s_Strikes___init__) (by decide +kernel)) (fun _ _ _ _ _ => (pg_name (i := 2) sc_Strikes___init__.nd rfl (Or.inl rfl))) (fun _ _ _ _ _ => (pts_one (pt_cmpR op_inA (pv 2) (pv 1) (by rfl)))) (fun _ _ _ _ _ => (pv 2))) rfl)))),
    rd_Strikes___init__ T E⟩
theorem ok_Strikes___contains__ {P : Program} {w : World} {K : PySem.W.Frag} {mg : Str → Option Value} {base : Heap} (T : Txt K mg)  : FnOk P w K mg base (L2.CX P w) 1 T.a_Strikes___contains__ T.d_Strikes___contains__ ["self", "thing"] (spOf K (φ_Strikes___contains__ T)) :=
  ok_D (k := 0) T.F_Strikes___contains__ sc_Strikes___contains__ (len_Strikes___contains__ T) fun cdv A outer s H E hr => ⟨t_Strikes___contains__ T E,
    (pss_one (ps_ret (pe_and (pe_callB call_isiA (by rfl) T.z_isinstance (by decide +kernel) (pa_cons (pv 1) (pa_cons (pe_bltn (v := .ty "str") (by rfl) T.z_str (by decide +kernel) rfl) pa_nil))) (pe_one (pe_cmpR op_inA (pv 1) (pe_fld (pv 0) rfl) (by rfl)))))),
    rd_Strikes___contains__ T E⟩
theorem ok_Strikes_words {P : Program} {w : World} {K : PySem.W.Frag} {mg : Str → Option Value} {base : Heap} (T : Txt K mg)  : FnOk P w K mg base (L2.CX P w) 1 T.a_Strikes_words T.d_Strikes_words ["self"] (spOf K (φ_Strikes_words T)) :=
  ok_D (k := 0) T.F_Strikes_words sc_Strikes_words (len_Strikes_words T) fun cdv A outer s H E hr => ⟨t_Strikes_words T E,
    (pss_one (ps_ret (pe_callTy call_listA (by rfl) T.z_list (by decide +kernel) (pa_cons (pe_fld (pv 0) rfl) pa_nil)))),
    rd_Strikes_words T E⟩
theorem ok_tidied {P : Program} {w : World} {K : PySem.W.Frag} {mg : Str → Option Value} {base : Heap} (T : Txt K mg) (G_Path_steps : FnOk P w K mg base (L2.CX P w) 1 T.a_Path_steps T.d_Path_steps ["self"] (spOf K (φ_Path_steps T))) (G_Strikes___contains__ : FnOk P w K mg base (L2.CX P w) 1 T.a_Strikes___contains__ T.d_Strikes___contains__ ["self", "thing"] (spOf K (φ_Strikes___contains__ T))) (G_is_name : FnOk P w K mg base (L2.CX P w) 1 T.a_is_name T.d_is_name ["thing"] (spOf K (φ_is_name T))) (G_path_of : FnOk P w K mg base (L2.CX P w) 5 T.a_path_of T.d_path_of ["steps", "rooted", "ended"] (spOf K (φ_path_of T))) : FnOk P w K mg base (L2.CX P w) 6 T.a_tidied T.d_tidied ["path", "strikes"] (spOf K (φ_tidied T)) :=
  ok_D (k := 5) T.F_tidied sc_tidied (len_tidied T) fun cdv A outer s H E hr => ⟨t_tidied T E,
    (pss_cons (ps_set (i := 2) sc_tidied.nd rfl (Or.inl rfl) (pe_lst pa_nil))
    (pss_cons (ps_for (passes_of rfl) rfl (pi_any (pe_meth0 (pv 0) T.y_Path.cl T.m_Path_steps G_Path_steps (hr.mono (by decide)) T.b_Path_steps .nil passL)) (pg_name (i := 3) sc_tidied.nd rfl (Or.inl rfl)) (pss_cons (ps_if (PW.pt (pw_and (pt_cmpR (op_eqA hr.units) (pv 3) pe_str (nomark _)) (pw_and1 (pt_cmpR (HO1.op_inO (F := G_Strikes___contains__) (hr := hr.mono (by decide)) (hb := T.b_Strikes___contains__) (hx := passL) (hs := T.op_Strikes___contains__) (hf := T.m_Strikes___contains__.fn)) pe_str (pv 1) (by rfl))))) (pss_one ps_continue) pss_nil)
    (pss_one (ps_if (PW.pt (pw_and (pt_cmpR (op_eqA hr.units) (pv 3) pe_str (nomark _)) (pw_and (pt_cmpR (HO1.op_inO (F := G_Strikes___contains__) (hr := hr.mono (by decide)) (hb := T.b_Strikes___contains__) (hx := passL) (hs := T.op_Strikes___contains__) (hf := T.m_Strikes___contains__.fn)) pe_str (pv 1) (by rfl)) (pw_and (pt_cmpR (op_neA hr.units) (pv 2) (pe_lst pa_nil) (nomark _)) (pw_and1 (pt_val (pe_call G_is_name (hr.mono (by decide)) rfl T.g_is_name T.F_is_name.kp T.b_is_name .nil passL (pa_cons (pe_ix ix_seq (pv 2) (pe_un un_neg pe_int) (fun _ _ => rfl)) pa_nil)))))))) (pss_one (ps_expr (pe_bm0 PySem.F.plainAttrs_list PySem.F.slot_list_pop PySem.F.type_list_pop mt_pop (pv 2)))) (pss_one (ps_if (PW.pt (pw_or (pt_cmpR (op_neA hr.units) (pv 3) pe_str (nomark _)) (pw_or (pt_cmpR (HO1.op_notInO (F := G_Strikes___contains__) (hr := hr.mono (by decide)) (hb := T.b_Strikes___contains__) (hx := passL) (hs := T.op_Strikes___contains__) (hf := T.m_Strikes___contains__.fn)) pe_str (pv 1) (by rfl)) (pw_or (pt_not (pt_val (pe_fld (pv 0) rfl))) (pw_or1 (pt_cmpR (op_neA hr.units) (pv 2) (pe_lst pa_nil) (nomark _))))))) (pss_one (ps_expr (pe_bm PySem.F.plainAttrs_list PySem.F.slot_list_append PySem.F.type_list_append mt_append (pv 2) (pa_cons (pv 3) pa_nil)))) pss_nil))))))
    (pss_one (ps_ret (pe_callN (n := 1) (ks := ["rooted", "ended"]) G_path_of (hr.mono (by decide)) rfl T.g_path_of T.F_path_of.kp T.kb_path_of_rooted_ended passL (pa_cons (pv 2) pa_nil) (pk_cons (pe_fld (pv 0) rfl) (pk_cons (pe_and (pe_fld (pv 0) rfl) (pe_one (pe_cmpR (HO1.op_notInO (F := G_Strikes___contains__) (hr := hr.mono (by decide)) (hb := T.b_Strikes___contains__) (hx := passL) (hs := T.op_Strikes___contains__) (hf := T.m_Strikes___contains__.fn)) pe_str (pv 1) (by rfl)))) pk_nil))))))),
    rd_tidied T E⟩
theorem ok_place_of {P : Program} {w : World} {K : PySem.W.Frag} {mg : Str → Option Value} {base : Heap} (T : Txt K mg) (G_is_name : FnOk P w K mg base (L2.CX P w) 1 T.a_is_name T.d_is_name ["thing"] (spOf K (φ_is_name T))) : FnOk P w K mg base (L2.CX P w) 2 T.a_place_of T.d_place_of ["thing"] (spOf K (φ_place_of T)) :=
  ok_D (k := 1) T.F_place_of sc_place_of (len_place_of T) fun cdv A outer s H E hr => ⟨t_place_of T E,
    (pss_cons (ps_if (PW.pt (pw_or (pt_not (pt_val (pe_callB call_isiA (by rfl) T.z_isinstance (by decide +kernel) (pa_cons (pv 0) (pa_cons (pe_tup (pa_cons (pe_bltn (v := .ty "list") (by rfl) T.z_list (by decide +kernel) rfl) (pa_cons (pe_bltn (v := .ty "tuple") (by rfl) T.z_tuple (by decide +kernel) rfl) pa_nil))) pa_nil))))) (pw_or1 (pt_not (pt_val (pe_callB (cr_all rfl) (by rfl) T.z_all (by decide +kernel) (pa_cons (pe_lc (own := [("name", 1)]) rfl sc_place_of.nd (pi_any (pv 0)) (blkOk_by (own := [("name", 1)]) (N := N_place_of) (sc := defScope s_place_of) (by decide +kernel)) (fun _ _ _ _ _ => (pg_name (i := 1) sc_place_of.nd rfl (Or.inl rfl))) (fun _ _ _ _ _ => pts_nil) (fun _ _ _ _ _ => (pe_call G_is_name (hr.mono (by decide)) rfl T.g_is_name T.F_is_name.kp T.b_is_name .nil passL (pa_cons (pv 1) pa_nil)))) pa_nil))))))) (pss_one (ps_ret pe_non)) pss_nil)
    (pss_one (ps_ret (pe_callTy call_tupA (by rfl) T.z_tuple (by decide +kernel) (pa_cons (pv 0) pa_nil))))),
    rd_place_of T E⟩
theorem ok_Walk___init__ {P : Program} {w : World} {K : PySem.W.Frag} {mg : Str → Option Value} {base : Heap} (T : Txt K mg)  : FnOk P w K mg base (L2.CX P w) 1 T.a_Walk___init__ T.d_Walk___init__ ["self", "tree"] (spOf K (φ_Walk___init__ T)) :=
  ok_D (k := 0) T.F_Walk___init__ sc_Walk___init__ (len_Walk___init__ T) fun cdv A outer s H E hr => ⟨t_Walk___init__ T E,
    (pss_cons (ps_fld (pv 0) (pv 1) rfl)
    (pss_cons (ps_fld (pv 0) (pe_lst pa_nil) rfl)
    (pss_cons (ps_fld (pv 0) pe_dnewT rfl)
    (pss_cons (ps_fld (pv 0) pe_non rfl)
    (pss_one (ps_fld (pv 0) pe_int rfl)))))),
    rd_Walk___init__ T E⟩
theorem okA_Walk_followed {P : Program} {w : World} {K : PySem.W.Frag} {mg : Str → Option Value} {base : Heap} (T : Txt K mg) (G_Path_steps : FnOk P w K mg base (L2.CX P w) 1 T.a_Path_steps T.d_Path_steps ["self"] (spOf K (φ_Path_steps T))) (G_Tree_kind : FnOk P w K mg base (L2.CX P w) 3 T.a_Tree_kind T.d_Tree_kind ["self", "place"] (spOf K (φ_Tree_kind T))) (G_Tree_target : FnOk P w K mg base (L2.CX P w) 3 T.a_Tree_target T.d_Tree_target ["self", "place"] (spOf K (φ_Tree_target T))) (k n : Nat) (hk : 5 ≤ k) (G_Walk_goes : FnOk P w K mg base (L2.CX P w) k T.a_Walk_goes T.d_Walk_goes ["self", "path", "place", "itself", "open_links"] (spOf K (φ_Walk_goes T n))) :
    FnOk P w K mg base (L2.CX P w) (k + 1) T.a_Walk_followed T.d_Walk_followed ["self", "link", "open_links"] (spOf K (φ_Walk_followed T n)) :=
  ok_D (k := k) T.F_Walk_followed sc_Walk_followed (len_Walk_followed T n) fun cdv A outer s H E hr => ⟨t_Walk_followed T n E,
    (pss_cons (ps_if (pt_cmpR (HP1.op_inP (HP1.room65 hr)) (pv 1) (pv 2) (by rfl)) (pss_cons (ps_fld (pv 0) pe_str rfl)
    (pss_one (ps_ret pe_non))) pss_nil)
    (pss_cons (ps_if (pt_cmpR (HP1.op_ninQ (HP1.room1 hr)) (pv 1) (pe_fld (pv 0) rfl) (by rfl)) (pss_cons (ps_set (i := 3) sc_Walk_followed.nd rfl (Or.inl rfl) (HP1.pe_methN (n := 2) (ks := ["open_links"]) (pv 0) T.y_Walk.cl T.m_Walk_goes G_Walk_goes (hr.mono (by omega)) T.kb_Walk_goes_3_open_links.choose_spec passL (pa_cons (pe_meth (pe_fld (pv 0) rfl) T.y_Tree.cl T.m_Tree_target G_Tree_target (hr.mono (by omega)) T.b_Tree_target .nil passL (pa_cons (pv 1) pa_nil)) (pa_cons (pe_slice L2.sl_tupA (pv 1) po_none (po_some (pe_un un_neg pe_int))) pa_nil)) (pk_cons (pe_tup (StX.pa_star (pv 2) (pa_cons (pv 1) pa_nil))) pk_nil)))
    (pss_one (ps_asg (pe_tup (pa_cons (pv 3) (pa_cons (pe_fld (pv 0) rfl) pa_nil))) (pg_sub (pe_fld (pv 0) rfl) (pv 1) (set_dict (HP1.room1 hr)))))) pss_nil)
    (pss_cons (ps_asg (HP1.pe_ixQ (HP1.room1 hr) (pe_fld (pv 0) rfl) (pv 1) (fun _ _ => rfl)) (pg_tup rfl (pgs_cons (pg_name (i := 3) sc_Walk_followed.nd rfl (Or.inl rfl)) (pgs_cons (HP1.pg_fld (pv 0)) pgs_nil))))
    (pss_one (ps_ret (pv 3)))))),
    rd_Walk_followed T n E⟩
theorem okA_Walk_stepped {P : Program} {w : World} {K : PySem.W.Frag} {mg : Str → Option Value} {base : Heap} (T : Txt K mg) (G_Path_steps : FnOk P w K mg base (L2.CX P w) 1 T.a_Path_steps T.d_Path_steps ["self"] (spOf K (φ_Path_steps T))) (G_Tree_kind : FnOk P w K mg base (L2.CX P w) 3 T.a_Tree_kind T.d_Tree_kind ["self", "place"] (spOf K (φ_Tree_kind T))) (G_Tree_target : FnOk P w K mg base (L2.CX P w) 3 T.a_Tree_target T.d_Tree_target ["self", "place"] (spOf K (φ_Tree_target T))) (k n : Nat) (hk : 5 ≤ k) (G_Walk_followed : FnOk P w K mg base (L2.CX P w) k T.a_Walk_followed T.d_Walk_followed ["self", "link", "open_links"] (spOf K (φ_Walk_followed T n))) :
    FnOk P w K mg base (L2.CX P w) (k + 1) T.a_Walk_stepped T.d_Walk_stepped ["self", "here", "step", "keeps", "open_links"] (spOf K (φ_Walk_stepped T n)) :=
  ok_D (k := k) T.F_Walk_stepped sc_Walk_stepped (len_Walk_stepped T n) fun cdv A outer s H E hr => ⟨t_Walk_stepped T n E,
    (pss_cons (ps_if (pt_cmpR (op_neA hr.units) (pe_meth (pe_fld (pv 0) rfl) T.y_Tree.cl T.m_Tree_kind G_Tree_kind (hr.mono (by omega)) T.b_Tree_kind .nil passL (pa_cons (pv 1) pa_nil)) pe_str (nomark _)) (pss_cons (ps_fld (pv 0) pe_str rfl)
    (pss_one (ps_ret pe_non))) pss_nil)
    (pss_cons (ps_if (pt_cmpR op_inA (pv 2) (pe_tup (pa_cons pe_str (pa_cons pe_str pa_nil))) (by rfl)) (pss_one (ps_ret (pe_ifExp (pt_cmpR (op_eqA hr.units) (pv 2) pe_str (nomark _)) (pv 1) (pe_slice L2.sl_tupA (pv 1) po_none (po_some (pe_un un_neg pe_int)))))) pss_nil)
    (pss_cons (ps_set (i := 5) sc_Walk_stepped.nd rfl (Or.inl rfl) (pe_op L2.op_catA (pv 1) (pe_tup (pa_cons (pv 2) pa_nil))))
    (pss_cons (ps_if (pt_cmpR (HP1.op_ninP (HP1.room65 hr)) (pv 5) (pe_fld (pv 0) rfl) (by rfl)) (pss_one (ps_expr (pe_bm PySem.F.plainAttrs_list PySem.F.slot_list_append PySem.F.type_list_append mt_append (pe_fld (pv 0) rfl) (pa_cons (pv 5) pa_nil)))) pss_nil)
    (pss_cons (ps_set (i := 6) sc_Walk_stepped.nd rfl (Or.inl rfl) (pe_meth (pe_fld (pv 0) rfl) T.y_Tree.cl T.m_Tree_kind G_Tree_kind (hr.mono (by omega)) T.b_Tree_kind .nil passL (pa_cons (pv 5) pa_nil)))
    (pss_cons (ps_if (pt_cmpR op_isN1 (pv 6) pe_non (nomark _)) (pss_cons (ps_fld (pv 0) pe_str rfl)
    (pss_one (ps_ret pe_non))) pss_nil)
    (pss_one (ps_ret (pe_ifExp (PW.pt (pw_or (pt_cmpR (op_neA hr.units) (pv 6) pe_str (nomark _)) (pw_or1 (pt_val (pv 3))))) (pv 5) (pe_meth (pv 0) T.y_Walk.cl T.m_Walk_followed G_Walk_followed (hr.mono (by omega)) T.b_Walk_followed .nil passL (pa_cons (pv 5) (pa_cons (pv 4) pa_nil)))))))))))),
    rd_Walk_stepped T n E⟩
theorem okA_Walk_goes {P : Program} {w : World} {K : PySem.W.Frag} {mg : Str → Option Value} {base : Heap} (T : Txt K mg) (G_Path_steps : FnOk P w K mg base (L2.CX P w) 1 T.a_Path_steps T.d_Path_steps ["self"] (spOf K (φ_Path_steps T))) (G_Tree_kind : FnOk P w K mg base (L2.CX P w) 3 T.a_Tree_kind T.d_Tree_kind ["self", "place"] (spOf K (φ_Tree_kind T))) (G_Tree_target : FnOk P w K mg base (L2.CX P w) 3 T.a_Tree_target T.d_Tree_target ["self", "place"] (spOf K (φ_Tree_target T))) (k n : Nat) (hk : 5 ≤ k) (G_Walk_stepped : FnOk P w K mg base (L2.CX P w) k T.a_Walk_stepped T.d_Walk_stepped ["self", "here", "step", "keeps", "open_links"] (spOf K (φ_Walk_stepped T n))) :
    FnOk P w K mg base (L2.CX P w) (k + 1) T.a_Walk_goes T.d_Walk_goes ["self", "path", "place", "itself", "open_links"] (spOf K (φ_Walk_goes T (n + 1))) :=
  ok_DK (k := k) T.F_Walk_goes sc_Walk_goes (len_Walk_goes T (n + 1)) fun cdv A outer s H E hr => ⟨t_Walk_goes T n E,
    (pss_cons (ps_par (i := 5) (j := 6) rfl sc_Walk_goes.nd rfl rfl (by decide) rfl rfl (pa_cons (pe_ifExp (pt_val (pe_fld (pv 1) rfl)) (pe_tup pa_nil) (pv 2)) (pa_cons (pe_meth0 (pv 1) T.y_Path.cl T.m_Path_steps G_Path_steps (hr.mono (by omega)) T.b_Path_steps .nil passL) pa_nil)) (by rfl))
    (pss_cons (ps_for (passes_of rfl) rfl (pi_enum (by rfl) T.z_enumerate (pa_cons (pv 6) pa_nil)) (pg_tup rfl (pgs_cons (pg_name (i := 7) sc_Walk_goes.nd rfl (Or.inl rfl)) (pgs_cons (pg_name (i := 8) sc_Walk_goes.nd rfl (Or.inl rfl)) pgs_nil))) (pss_cons (ps_set (i := 9) sc_Walk_goes.nd rfl (Or.inl rfl) (pe_and (pv 3) (pe_and (pe_not (pe_fld (pv 1) rfl)) (pe_one (pe_cmpR (op_eqA hr.units) (pv 7) (pe_op op_sub (pe_callB call_lenA (by rfl) T.z_len (by decide +kernel) (pa_cons (pv 6) pa_nil)) pe_int) (nomark _))))))
    (pss_cons (ps_set (i := 5) sc_Walk_goes.nd rfl (Or.inl rfl) (pe_meth (pv 0) T.y_Walk.cl T.m_Walk_stepped G_Walk_stepped (hr.mono (by omega)) T.b_Walk_stepped .nil passL (pa_cons (pv 5) (pa_cons (pv 8) (pa_cons (pv 9) (pa_cons (pv 4) pa_nil))))))
    (pss_one (ps_if (pt_cmpR op_isN1 (pv 5) pe_non (nomark _)) (pss_cons (ps_fld (pv 0) (pv 7) rfl)
    (pss_one (ps_ret pe_non))) pss_nil)))))
    (pss_cons (ps_if (PW.pt (pw_and (pt_val (pe_fld (pv 1) rfl)) (pw_and1 (pt_cmpR (op_neA hr.units) (pe_meth (pe_fld (pv 0) rfl) T.y_Tree.cl T.m_Tree_kind G_Tree_kind (hr.mono (by omega)) T.b_Tree_kind .nil passL (pa_cons (pv 5) pa_nil)) pe_str (nomark _))))) (pss_cons (ps_asg (pe_tup (pa_cons pe_str (pa_cons (pe_callB call_lenA (by rfl) T.z_len (by decide +kernel) (pa_cons (pv 6) pa_nil)) pa_nil))) (pg_tup rfl (pgs_cons (HP1.pg_fld (pv 0)) (pgs_cons (HP1.pg_fld (pv 0)) pgs_nil))))
    (pss_one (ps_ret pe_non))) pss_nil)
    (pss_one (ps_ret (pv 5)))))),
    rd_Walk_goes T n E⟩
theorem ok_Walk_goes {P : Program} {w : World} {K : PySem.W.Frag} {mg : Str → Option Value} {base : Heap} (T : Txt K mg) (G_Path_steps : FnOk P w K mg base (L2.CX P w) 1 T.a_Path_steps T.d_Path_steps ["self"] (spOf K (φ_Path_steps T))) (G_Tree_kind : FnOk P w K mg base (L2.CX P w) 3 T.a_Tree_kind T.d_Tree_kind ["self", "place"] (spOf K (φ_Tree_kind T))) (G_Tree_target : FnOk P w K mg base (L2.CX P w) 3 T.a_Tree_target T.d_Tree_target ["self", "place"] (spOf K (φ_Tree_target T))) : ∀ n : Nat, FnOk P w K mg base (L2.CX P w) (3 * n + 5) T.a_Walk_goes T.d_Walk_goes ["self", "path", "place", "itself", "open_links"] (spOf K (φ_Walk_goes T n))
  | 0 => ⟨fun vs H Q E h => by obtain ⟨_, _, _, _, _, _, _, _, z, _⟩ := h; exact z.elim, fun A outer s H args us vs Q E hr e0 hb r h => by obtain ⟨_, _, _, _, _, _, _, _, z, _⟩ := h; exact z.elim⟩
  | n + 1 => okA_Walk_goes T G_Path_steps G_Tree_kind G_Tree_target (3 * n + 7) n (by omega) (okA_Walk_stepped T G_Path_steps G_Tree_kind G_Tree_target (3 * n + 6) n (by omega) (okA_Walk_followed T G_Path_steps G_Tree_kind G_Tree_target (3 * n + 5) n (by omega) (ok_Walk_goes T G_Path_steps G_Tree_kind G_Tree_target n)))

theorem ok_Tree___init__ {P : Program} {w : World} {K : PySem.W.Frag} {mg : Str → Option Value} {base : Heap} (T : Txt K mg)  : FnOk P w K mg base (L2.CX P w) 1 T.a_Tree___init__ T.d_Tree___init__ ["self"] (spOf K (φ_Tree___init__ T)) :=
  ok_D (k := 0) T.F_Tree___init__ sc_Tree___init__ (len_Tree___init__ T) fun cdv A outer s H E hr => ⟨t_Tree___init__ T E,
    (pss_one (ps_fld (pv 0) (HP1.pe_dispT (HP1.room2 hr) (pps_cons (pe_tup pa_nil) (pe_tup (pa_cons pe_str (pa_cons pe_non pa_nil))) pps_nil)) rfl)),
    rd_Tree___init__ T E⟩
theorem ok_Tree_kind {P : Program} {w : World} {K : PySem.W.Frag} {mg : Str → Option Value} {base : Heap} (T : Txt K mg) (G_place_of : FnOk P w K mg base (L2.CX P w) 2 T.a_place_of T.d_place_of ["thing"] (spOf K (φ_place_of T))) : FnOk P w K mg base (L2.CX P w) 3 T.a_Tree_kind T.d_Tree_kind ["self", "place"] (spOf K (φ_Tree_kind T)) :=
  ok_D (k := 2) T.F_Tree_kind sc_Tree_kind (len_Tree_kind T) fun cdv A outer s H E hr => ⟨t_Tree_kind T E,
    (pss_one (ps_ret (pe_ix ix_seq (HP1.pe_getQ (HP1.room1 hr) (pe_fld (pv 0) rfl) (pe_call G_place_of (hr.mono (by decide)) rfl T.g_place_of T.F_place_of.kp T.b_place_of .nil passL (pa_cons (pv 1) pa_nil)) (pe_tup (pa_cons pe_non (pa_cons pe_non pa_nil))) ⟨rfl, rfl, rfl, rfl⟩) pe_int (fun _ _ => rfl)))),
    rd_Tree_kind T E⟩
theorem ok_Tree_target {P : Program} {w : World} {K : PySem.W.Frag} {mg : Str → Option Value} {base : Heap} (T : Txt K mg) (G_place_of : FnOk P w K mg base (L2.CX P w) 2 T.a_place_of T.d_place_of ["thing"] (spOf K (φ_place_of T))) : FnOk P w K mg base (L2.CX P w) 3 T.a_Tree_target T.d_Tree_target ["self", "place"] (spOf K (φ_Tree_target T)) :=
  ok_D (k := 2) T.F_Tree_target sc_Tree_target (len_Tree_target T) fun cdv A outer s H E hr => ⟨t_Tree_target T E,
    (pss_one (ps_ret (pe_ix ix_seq (HP1.pe_getQ (HP1.room1 hr) (pe_fld (pv 0) rfl) (pe_call G_place_of (hr.mono (by decide)) rfl T.g_place_of T.F_place_of.kp T.b_place_of .nil passL (pa_cons (pv 1) pa_nil)) (pe_tup (pa_cons pe_non (pa_cons pe_non pa_nil))) ⟨rfl, rfl, rfl, rfl⟩) pe_int (fun _ _ => rfl)))),
    rd_Tree_target T E⟩
theorem ok_Tree_folder {P : Program} {w : World} {K : PySem.W.Frag} {mg : Str → Option Value} {base : Heap} (T : Txt K mg) (G_Tree_put : FnOk P w K mg base (L2.CX P w) 5 T.a_Tree_put T.d_Tree_put ["self", "place", "kind", "path"] (spOf K (φ_Tree_put T))) : FnOk P w K mg base (L2.CX P w) 6 T.a_Tree_folder T.d_Tree_folder ["self", "place"] (spOf K (φ_Tree_folder T)) :=
  ok_D (k := 5) T.F_Tree_folder sc_Tree_folder (len_Tree_folder T) fun cdv A outer s H E hr => ⟨t_Tree_folder T E,
    (pss_one (ps_expr (pe_meth (pv 0) T.y_Tree.cl T.m_Tree_put G_Tree_put (hr.mono (by decide)) T.b_Tree_put .nil passL (pa_cons (pe_callTy call_tupA (by rfl) T.z_tuple (by decide +kernel) (pa_cons (pv 1) pa_nil)) (pa_cons pe_str (pa_cons pe_non pa_nil)))))),
    rd_Tree_folder T E⟩
theorem ok_Tree_file {P : Program} {w : World} {K : PySem.W.Frag} {mg : Str → Option Value} {base : Heap} (T : Txt K mg) (G_Tree_put : FnOk P w K mg base (L2.CX P w) 5 T.a_Tree_put T.d_Tree_put ["self", "place", "kind", "path"] (spOf K (φ_Tree_put T))) : FnOk P w K mg base (L2.CX P w) 6 T.a_Tree_file T.d_Tree_file ["self", "place"] (spOf K (φ_Tree_file T)) :=
  ok_D (k := 5) T.F_Tree_file sc_Tree_file (len_Tree_file T) fun cdv A outer s H E hr => ⟨t_Tree_file T E,
    (pss_one (ps_expr (pe_meth (pv 0) T.y_Tree.cl T.m_Tree_put G_Tree_put (hr.mono (by decide)) T.b_Tree_put .nil passL (pa_cons (pe_callTy call_tupA (by rfl) T.z_tuple (by decide +kernel) (pa_cons (pv 1) pa_nil)) (pa_cons pe_str (pa_cons pe_non pa_nil)))))),
    rd_Tree_file T E⟩
theorem ok_Tree_link {P : Program} {w : World} {K : PySem.W.Frag} {mg : Str → Option Value} {base : Heap} (T : Txt K mg) (G_Tree_put : FnOk P w K mg base (L2.CX P w) 5 T.a_Tree_put T.d_Tree_put ["self", "place", "kind", "path"] (spOf K (φ_Tree_put T))) : FnOk P w K mg base (L2.CX P w) 6 T.a_Tree_link T.d_Tree_link ["self", "place", "path"] (spOf K (φ_Tree_link T)) :=
  ok_D (k := 5) T.F_Tree_link sc_Tree_link (len_Tree_link T) fun cdv A outer s H E hr => ⟨t_Tree_link T E,
    (pss_one (ps_expr (pe_meth (pv 0) T.y_Tree.cl T.m_Tree_put G_Tree_put (hr.mono (by decide)) T.b_Tree_put .nil passL (pa_cons (pe_callTy call_tupA (by rfl) T.z_tuple (by decide +kernel) (pa_cons (pv 1) pa_nil)) (pa_cons pe_str (pa_cons (pv 2) pa_nil)))))),
    rd_Tree_link T E⟩
theorem ok_Tree_put {P : Program} {w : World} {K : PySem.W.Frag} {mg : Str → Option Value} {base : Heap} (T : Txt K mg) (G_Tree_check_free : FnOk P w K mg base (L2.CX P w) 4 T.a_Tree_check_free T.d_Tree_check_free ["self", "place"] (spOf K (φ_Tree_check_free T))) : FnOk P w K mg base (L2.CX P w) 5 T.a_Tree_put T.d_Tree_put ["self", "place", "kind", "path"] (spOf K (φ_Tree_put T)) :=
  ok_D (k := 4) T.F_Tree_put sc_Tree_put (len_Tree_put T) fun cdv A outer s H E hr => ⟨t_Tree_put T E,
    (pss_cons (ps_if (pt_cmpR (op_eqA hr.units) (pv 1) (pe_tup pa_nil) (nomark _)) pss_never pss_nil)
    (pss_cons (ps_expr (pe_meth (pv 0) T.y_Tree.cl T.m_Tree_check_free G_Tree_check_free (hr.mono (by decide)) T.b_Tree_check_free .nil passL (pa_cons (pv 1) pa_nil)))
    (pss_one (ps_asg (pe_tup (pa_cons (pv 2) (pa_cons (pv 3) pa_nil))) (pg_sub (pe_fld (pv 0) rfl) (pv 1) (set_dict (HP1.room1 hr))))))),
    rd_Tree_put T E⟩
theorem ok_Tree_check_free {P : Program} {w : World} {K : PySem.W.Frag} {mg : Str → Option Value} {base : Heap} (T : Txt K mg) (G_Tree_kind : FnOk P w K mg base (L2.CX P w) 3 T.a_Tree_kind T.d_Tree_kind ["self", "place"] (spOf K (φ_Tree_kind T))) : FnOk P w K mg base (L2.CX P w) 4 T.a_Tree_check_free T.d_Tree_check_free ["self", "place"] (spOf K (φ_Tree_check_free T)) :=
  ok_D (k := 3) T.F_Tree_check_free sc_Tree_check_free (len_Tree_check_free T) fun cdv A outer s H E hr => ⟨t_Tree_check_free T E,
    (pss_cons (ps_if (pt_cmpR (op_neA hr.units) (pe_meth (pv 0) T.y_Tree.cl T.m_Tree_kind G_Tree_kind (hr.mono (by decide)) T.b_Tree_kind .nil passL (pa_cons (pe_slice L2.sl_tupA (pv 1) po_none (po_some (pe_un un_neg pe_int))) pa_nil)) pe_str (nomark _)) pss_never pss_nil)
    (pss_one (ps_if (pt_cmpR (HP1.op_inQ (HP1.room1 hr)) (pv 1) (pe_fld (pv 0) rfl) (by rfl)) pss_never pss_nil))),
    rd_Tree_check_free T E⟩
theorem ok_Tree_walked {P : Program} {w : World} {K : PySem.W.Frag} {mg : Str → Option Value} {base : Heap} (T : Txt K mg) (G_Tree_kind : FnOk P w K mg base (L2.CX P w) 3 T.a_Tree_kind T.d_Tree_kind ["self", "place"] (spOf K (φ_Tree_kind T))) (G_Walk___init__ : FnOk P w K mg base (L2.CX P w) 1 T.a_Walk___init__ T.d_Walk___init__ ["self", "tree"] (spOf K (φ_Walk___init__ T))) (G_Walk_goes : FnOk P w K mg base (L2.CX P w) 47 T.a_Walk_goes T.d_Walk_goes ["self", "path", "place", "itself", "open_links"] (spOf K (φ_Walk_goes T 14))) : FnOk P w K mg base (L2.CX P w) 48 T.a_Tree_walked T.d_Tree_walked ["self", "path", "start", "itself"] (spOf K (φ_Tree_walked T)) :=
  ok_D (k := 47) T.F_Tree_walked sc_Tree_walked (len_Tree_walked T) fun cdv A outer s H E hr => ⟨t_Tree_walked T E,
    (pss_cons (ps_set (i := 4) sc_Tree_walked.nd rfl (Or.inl rfl) (pe_callTy call_tupA (by rfl) T.z_tuple (by decide +kernel) (pa_cons (pv 2) pa_nil)))
    (pss_cons (ps_if (pt_cmpR (op_neA hr.units) (pe_meth (pv 0) T.y_Tree.cl T.m_Tree_kind G_Tree_kind (hr.mono (by decide)) T.b_Tree_kind .nil passL (pa_cons (pv 4) pa_nil)) pe_str (nomark _)) pss_never pss_nil)
    (pss_cons (ps_set (i := 5) sc_Tree_walked.nd rfl (Or.inl rfl) (pe_make T.mk_Walk G_Walk___init__ (hr.mono (by decide)) rfl T.g_Walk T.b_Walk___init__ .nil passL (pa_cons (pv 0) pa_nil)))
    (pss_one (ps_ret (pe_tup (pa_cons (HP1.pe_methN (n := 2) (ks := ["itself"]) (pv 5) T.y_Walk.cl T.m_Walk_goes G_Walk_goes (hr.mono (by decide)) T.kb_Walk_goes_3_itself.choose_spec passL (pa_cons (pv 1) (pa_cons (pv 4) pa_nil)) (pk_cons (pv 3) pk_nil)) (pa_cons (pv 5) pa_nil)))))))),
    rd_Tree_walked T E⟩
theorem ok_Tree_lead {P : Program} {w : World} {K : PySem.W.Frag} {mg : Str → Option Value} {base : Heap} (T : Txt K mg) (G_Tree_walked : FnOk P w K mg base (L2.CX P w) 48 T.a_Tree_walked T.d_Tree_walked ["self", "path", "start", "itself"] (spOf K (φ_Tree_walked T))) : FnOk P w K mg base (L2.CX P w) 49 T.a_Tree_lead T.d_Tree_lead ["self", "path", "start", "itself"] (spOf K (φ_Tree_lead T)) :=
  ok_DK (k := 48) T.F_Tree_lead sc_Tree_lead (len_Tree_lead T) fun cdv A outer s H E hr => ⟨t_Tree_lead T E,
    (pss_one (ps_ret (pe_ix ix_seq (pe_meth (pv 0) T.y_Tree.cl T.m_Tree_walked G_Tree_walked (hr.mono (by decide)) T.b_Tree_walked .nil passL (pa_cons (pv 1) (pa_cons (pv 2) (pa_cons (pv 3) pa_nil)))) pe_int (fun _ _ => rfl)))),
    rd_Tree_lead T E⟩
theorem ok__law_p_written {P : Program} {w : World} {K : PySem.W.Frag} {mg : Str → Option Value} {base : Heap} (T : Txt K mg) (G__law_draw : FnOk P w K mg base (L2.CX P w) 1 T.a__law_draw T.d__law_draw ["_law_stream", "_law_many"] (spOf K (φ__law_draw T))) (G__law_pick : FnOk P w K mg base (L2.CX P w) 2 T.a__law_pick T.d__law_pick ["_law_stream", "_law_some"] (spOf K (φ__law_pick T))) : FnOk P w K mg base (L2.CX P w) 3 T.a__law_p_written T.d__law_p_written ["_law_stream", "_law_names_here", "_law_most"] (spOf K (φ__law_p_written T)) :=
  ok_D (k := 2) T.F__law_p_written sc__law_p_written (len__law_p_written T) fun cdv A outer s H E hr => ⟨t__law_p_written T E,
    (pss_cons (ps_set (i := 3) sc__law_p_written.nd rfl (Or.inl rfl) (pe_call G__law_draw (hr.mono (by decide)) rfl T.g__law_draw T.F__law_draw.kp T.b__law_draw .nil passL (pa_cons (pv 0) (pa_cons (pe_op op_addA (pv 2) pe_int) pa_nil))))
    (pss_cons (ps_setLc (own := [("_law_k", 5)]) (i := 4) rfl sc__law_p_written.nd rfl rfl (sw_true rfl rfl rfl (by decide +kernel)) (pi_range1 rfl T.z_range (pa_cons (pv 3) pa_nil)) (blkOk_by (own := [("_law_k", 5)]) (N := N__law_p_written) (sc := defScope s__law_p_written) (by decide +kernel)) (fun _ _ _ _ _ => (pg_name (i := 5) sc__law_p_written.nd rfl (Or.inl rfl))) (fun _ _ _ _ _ => pts_nil) (fun _ _ _ _ _ => (pe_call G__law_pick (hr.mono (by decide)) rfl T.g__law_pick T.F__law_pick.kp T.b__law_pick .nil passL (pa_cons (pv 0) (pa_cons (pe_op op_addA (pe_op op_mulA (pv 1) pe_int) (pe_lst (pa_cons pe_str (pa_cons pe_str (pa_cons pe_str pa_nil))))) pa_nil)))))
    (pss_cons (ps_setLc (own := [("_law_k", 5)]) (i := 6) rfl sc__law_p_written.nd rfl rfl (sw_true rfl rfl rfl (by decide +kernel)) (pi_range1 rfl T.z_range (pa_cons (pe_op op_addA (pv 3) pe_int) pa_nil)) (blkOk_by (own := [("_law_k", 5)]) (N := N__law_p_written) (sc := defScope s__law_p_written) (by decide +kernel)) (fun _ _ _ _ _ => (pg_name (i := 5) sc__law_p_written.nd rfl (Or.inl rfl))) (fun _ _ _ _ _ => pts_nil) (fun _ _ _ _ _ => (pe_op op_mulA pe_str (pe_call G__law_pick (hr.mono (by decide)) rfl T.g__law_pick T.F__law_pick.kp T.b__law_pick .nil passL (pa_cons (pv 0) (pa_cons (pe_lst (pa_cons pe_int (pa_cons pe_int (pa_cons pe_int (pa_cons pe_int (pa_cons pe_int pa_nil)))))) pa_nil))))))
    (pss_cons (ps_set (i := 7) sc__law_p_written.nd rfl (Or.inl rfl) (pe_ifExp (PW.pt (pw_or (pt_cmpR (op_eqA hr.units) (pv 3) pe_int (nomark _)) (pw_or1 (pt_cmpR (op_eqA hr.units) (pe_call G__law_draw (hr.mono (by decide)) rfl T.g__law_draw T.F__law_draw.kp T.b__law_draw .nil passL (pa_cons (pv 0) (pa_cons pe_int pa_nil))) pe_int (nomark _))))) (pe_ix ix_seq (pv 6) pe_int (fun _ _ => rfl)) pe_str))
    (pss_cons (ps_for (passes_of rfl) rfl (pi_enum (by rfl) T.z_enumerate (pa_cons (pv 4) pa_nil)) (pg_tup rfl (pgs_cons (pg_name (i := 5) sc__law_p_written.nd rfl (Or.inl rfl)) (pgs_cons (pg_name (i := 8) sc__law_p_written.nd rfl (Or.inl rfl)) pgs_nil))) (pss_one (ps_set (i := 7) sc__law_p_written.nd rfl (Or.inl rfl) (pe_op op_addA (pe_op op_addA (pv 7) (pe_ifExp (pt_cmpR op_gt (pv 5) pe_int (nomark _)) (pe_ix ix_seq (pv 6) (pv 5) (fun _ _ => rfl)) pe_str)) (pv 8)))))
    (pss_one (ps_ret (pe_op op_addA (pv 7) (pe_ifExp (PW.pt (pw_and (pt_cmpR op_gt (pv 3) pe_int (nomark _)) (pw_and1 (pt_cmpR (op_eqA hr.units) (pe_call G__law_draw (hr.mono (by decide)) rfl T.g__law_draw T.F__law_draw.kp T.b__law_draw .nil passL (pa_cons (pv 0) (pa_cons pe_int pa_nil))) pe_int (nomark _))))) (pe_ix ix_seq (pv 6) (pe_un un_neg pe_int) (fun _ _ => rfl)) pe_str))))))))),
    rd__law_p_written T E⟩
theorem ok__law_t_drawn {P : Program} {w : World} {K : PySem.W.Frag} {mg : Str → Option Value} {base : Heap} (T : Txt K mg) (G__law_draw : FnOk P w K mg base (L2.CX P w) 1 T.a__law_draw T.d__law_draw ["_law_stream", "_law_many"] (spOf K (φ__law_draw T))) (G__law_p_written : FnOk P w K mg base (L2.CX P w) 3 T.a__law_p_written T.d__law_p_written ["_law_stream", "_law_names_here", "_law_most"] (spOf K (φ__law_p_written T))) (G__law_pick : FnOk P w K mg base (L2.CX P w) 2 T.a__law_pick T.d__law_pick ["_law_stream", "_law_some"] (spOf K (φ__law_pick T))) : FnOk P w K mg base (L2.CX P w) 4 T.a__law_t_drawn T.d__law_t_drawn ["_law_stream", "_law_names_here", "_law_most"] (spOf K (φ__law_t_drawn T)) :=
  ok_D (k := 3) T.F__law_t_drawn sc__law_t_drawn (len__law_t_drawn T) fun cdv A outer s H E hr => ⟨t__law_t_drawn T E,
    (pss_cons (ps_set (i := 3) sc__law_t_drawn.nd rfl (Or.inr rfl) (HP1.pe_dispT (HP1.room2 hr) (pps_cons (pe_tup pa_nil) (pe_tup (pa_cons pe_str (pa_cons pe_non pa_nil))) pps_nil)))
    (pss_cons (ps_for (passes_of rfl) rfl (pi_range1 rfl T.z_range (pa_cons (pe_call G__law_draw (hr.mono (by decide)) rfl T.g__law_draw T.F__law_draw.kp T.b__law_draw .nil passL (pa_cons (pv 0) (pa_cons (pe_op op_addA (pv 2) pe_int) pa_nil))) pa_nil)) (pg_name (i := 4) sc__law_t_drawn.nd rfl (Or.inl rfl)) (pss_cons (ps_setLc (own := [("_law_place", 6)]) (i := 5) rfl sc__law_t_drawn.nd rfl rfl (sw_true rfl rfl rfl (by decide +kernel)) (pi_any (pe_callB (HP1.call_sortedT rfl hr.units) (by rfl) T.z_sorted (by decide +kernel) (pa_cons (pv 3) pa_nil))) (blkOk_by (own := [("_law_place", 6)]) (N := N__law_t_drawn) (sc := defScope s__law_t_drawn) (by decide +kernel)) (fun _ _ _ _ _ => (pg_name (i := 6) sc__law_t_drawn.nd rfl (Or.inl rfl))) (fun _ _ _ _ _ => (pts_one (PW.pt (pw_and (pt_cmpR (op_eqA hr.units) (pe_ix ix_seq (HP1.pe_ixQ (HP1.room1 hr) (pv 3) (pv 6) (fun _ _ => rfl)) pe_int (fun _ _ => rfl)) pe_str (nomark _)) (pw_and1 (pt_cmpR op_lt (pe_callB call_lenA (by rfl) T.z_len (by decide +kernel) (pa_cons (pv 6) pa_nil)) pe_int (nomark _))))))) (fun _ _ _ _ _ => (pv 6)))
    (pss_cons (ps_set (i := 6) sc__law_t_drawn.nd rfl (Or.inl rfl) (pe_op L2.op_catA (pe_call G__law_pick (hr.mono (by decide)) rfl T.g__law_pick T.F__law_pick.kp T.b__law_pick .nil passL (pa_cons (pv 0) (pa_cons (pv 5) pa_nil))) (pe_tup (pa_cons (pe_call G__law_pick (hr.mono (by decide)) rfl T.g__law_pick T.F__law_pick.kp T.b__law_pick .nil passL (pa_cons (pv 0) (pa_cons (pv 1) pa_nil))) pa_nil))))
    (pss_cons (ps_set (i := 7) sc__law_t_drawn.nd rfl (Or.inl rfl) (pe_call G__law_pick (hr.mono (by decide)) rfl T.g__law_pick T.F__law_pick.kp T.b__law_pick .nil passL (pa_cons (pv 0) (pa_cons (pe_lst (pa_cons pe_str (pa_cons pe_str (pa_cons pe_str (pa_cons pe_str (pa_cons pe_str (pa_cons pe_str pa_nil))))))) pa_nil))))
    (pss_one (ps_if (pt_cmpR (HP1.op_ninQ (HP1.room1 hr)) (pv 6) (pv 3) (by rfl)) (pss_one (ps_asg (pe_tup (pa_cons (pv 7) (pa_cons (pe_ifExp (pt_cmpR (op_eqA hr.units) (pv 7) pe_str (nomark _)) (pe_call G__law_p_written (hr.mono (by decide)) rfl T.g__law_p_written T.F__law_p_written.kp T.b__law_p_written .nil passL (pa_cons (pv 0) (pa_cons (pv 1) (pa_cons pe_int pa_nil)))) pe_non) pa_nil))) (pg_sub (pv 3) (pv 6) (set_dict (HP1.room1 hr))))) pss_nil))))))
    (pss_one (ps_ret (pv 3))))),
    rd__law_t_drawn T E⟩
theorem ok__law_t_up {P : Program} {w : World} {K : PySem.W.Frag} {mg : Str → Option Value} {base : Heap} (T : Txt K mg)  : FnOk P w K mg base (L2.CX P w) 1 T.a__law_t_up T.d__law_t_up ["_law_tree"] (spOf K (φ__law_t_up T)) :=
  ok_D (k := 0) T.F__law_t_up sc__law_t_up (len__law_t_up T) fun cdv A outer s H E hr => ⟨t__law_t_up T E,
    (pss_one (ps_ret (pe_lc (own := [("_law_place", 1)]) rfl sc__law_t_up.nd (pi_any (pe_callB (HP1.call_sortedT rfl hr.units) (by rfl) T.z_sorted (by decide +kernel) (pa_cons (pv 0) pa_nil))) (blkOk_by (own := [("_law_place", 1)]) (N := N__law_t_up) (sc := defScope s__law_t_up) (by decide +kernel)) (fun _ _ _ _ _ => (pg_name (i := 1) sc__law_t_up.nd rfl (Or.inl rfl))) (fun _ _ _ _ _ => (pts_one (pt_cmpR (op_neA hr.units) (pv 1) (pe_tup pa_nil) (nomark _)))) (fun _ _ _ _ _ => (pv 1))))),
    rd__law_t_up T E⟩
theorem ok__law_t_built {P : Program} {w : World} {K : PySem.W.Frag} {mg : Str → Option Value} {base : Heap} (T : Txt K mg) (G_Path___init__ : FnOk P w K mg base (L2.CX P w) 3 T.a_Path___init__ T.d_Path___init__ ["self", "text"] (spOf K (φ_Path___init__ T))) (G_Tree___init__ : FnOk P w K mg base (L2.CX P w) 1 T.a_Tree___init__ T.d_Tree___init__ ["self"] (spOf K (φ_Tree___init__ T))) (G_Tree_file : FnOk P w K mg base (L2.CX P w) 6 T.a_Tree_file T.d_Tree_file ["self", "place"] (spOf K (φ_Tree_file T))) (G_Tree_folder : FnOk P w K mg base (L2.CX P w) 6 T.a_Tree_folder T.d_Tree_folder ["self", "place"] (spOf K (φ_Tree_folder T))) (G_Tree_link : FnOk P w K mg base (L2.CX P w) 6 T.a_Tree_link T.d_Tree_link ["self", "place", "path"] (spOf K (φ_Tree_link T))) (G__law_t_up : FnOk P w K mg base (L2.CX P w) 1 T.a__law_t_up T.d__law_t_up ["_law_tree"] (spOf K (φ__law_t_up T))) : FnOk P w K mg base (L2.CX P w) 7 T.a__law_t_built T.d__law_t_built ["_law_tree"] (spOf K (φ__law_t_built T)) :=
  ok_D (k := 6) T.F__law_t_built sc__law_t_built (len__law_t_built T) fun cdv A outer s H E hr => ⟨t__law_t_built T E,
    (pss_cons (ps_set (i := 1) sc__law_t_built.nd rfl (Or.inl rfl) (pe_make0 T.mk_Tree G_Tree___init__ (hr.mono (by decide)) rfl T.g_Tree T.b_Tree___init__ .nil passL))
    (pss_cons (ps_for (passes_of rfl) rfl (pi_any (pe_call G__law_t_up (hr.mono (by decide)) rfl T.g__law_t_up T.F__law_t_up.kp T.b__law_t_up .nil passL (pa_cons (pv 0) pa_nil))) (pg_name (i := 2) sc__law_t_built.nd rfl (Or.inl rfl)) (pss_cons (ps_asg (HP1.pe_ixQ (HP1.room1 hr) (pv 0) (pv 2) (fun _ _ => rfl)) (pg_tup rfl (pgs_cons (pg_name (i := 3) sc__law_t_built.nd rfl (Or.inl rfl)) (pgs_cons (pg_name (i := 4) sc__law_t_built.nd rfl (Or.inl rfl)) pgs_nil))))
    (pss_one (ps_if (pt_cmpR (op_eqA hr.units) (pv 3) pe_str (nomark _)) (pss_one (ps_expr (pe_meth (pv 1) T.y_Tree.cl T.m_Tree_folder G_Tree_folder (hr.mono (by decide)) T.b_Tree_folder .nil passL (pa_cons (pv 2) pa_nil)))) (pss_one (ps_if (pt_cmpR (op_eqA hr.units) (pv 3) pe_str (nomark _)) (pss_one (ps_expr (pe_meth (pv 1) T.y_Tree.cl T.m_Tree_file G_Tree_file (hr.mono (by decide)) T.b_Tree_file .nil passL (pa_cons (pv 2) pa_nil)))) (pss_one (ps_expr (pe_meth (pv 1) T.y_Tree.cl T.m_Tree_link G_Tree_link (hr.mono (by decide)) T.b_Tree_link .nil passL (pa_cons (pv 2) (pa_cons (pe_make T.mk_Path G_Path___init__ (hr.mono (by decide)) rfl T.g_Path T.b_Path___init__ .nil passL (pa_cons (pv 4) pa_nil)) pa_nil)))))))))))
    (pss_one (ps_ret (pv 1))))),
    rd__law_t_built T E⟩
theorem ok__law_t_folders {P : Program} {w : World} {K : PySem.W.Frag} {mg : Str → Option Value} {base : Heap} (T : Txt K mg)  : FnOk P w K mg base (L2.CX P w) 1 T.a__law_t_folders T.d__law_t_folders ["_law_tree"] (spOf K (φ__law_t_folders T)) :=
  ok_D (k := 0) T.F__law_t_folders sc__law_t_folders (len__law_t_folders T) fun cdv A outer s H E hr => ⟨t__law_t_folders T E,
    (pss_one (ps_ret (pe_lc (own := [("_law_place", 1)]) rfl sc__law_t_folders.nd (pi_any (pe_callB (HP1.call_sortedT rfl hr.units) (by rfl) T.z_sorted (by decide +kernel) (pa_cons (pv 0) pa_nil))) (blkOk_by (own := [("_law_place", 1)]) (N := N__law_t_folders) (sc := defScope s__law_t_folders) (by decide +kernel)) (fun _ _ _ _ _ => (pg_name (i := 1) sc__law_t_folders.nd rfl (Or.inl rfl))) (fun _ _ _ _ _ => (pts_one (pt_cmpR (op_eqA hr.units) (pe_ix ix_seq (HP1.pe_ixQ (HP1.room1 hr) (pv 0) (pv 1) (fun _ _ => rfl)) pe_int (fun _ _ => rfl)) pe_str (nomark _)))) (fun _ _ _ _ _ => (pv 1))))),
    rd__law_t_folders T E⟩
theorem ok__law_start {P : Program} {w : World} {K : PySem.W.Frag} {mg : Str → Option Value} {base : Heap} (T : Txt K mg)  : FnOk P w K mg base (L2.CX P w) 1 T.a__law_start T.d__law_start ["_law_script"] (spStart K) := by
  refine okC T.F__law_start sc__law_start (fun vs H Q E h => by obtain ⟨a, ns, rfl, _⟩ := h; rfl) fun cdv A outer s H vs Q E hr h => ⟨t__law_start T E,
    (pss_one (ps_ret (pe_lst (pa_cons (pe_callTy call_listA (by rfl) T.z_list (by decide +kernel) (pa_cons (pv 0) pa_nil)) (pa_cons pe_int (pa_cons pe_int (pa_cons pe_int pa_nil))))))), ?_⟩
  obtain ⟨a, ns, rfl, hS, hl, q⟩ := h
  exact ⟨_, rfl, a, _, rfl, .inl hS, fun c hc => ⟨(by show 4 ≤ sizeLine; decide), fun p hp => q c p hc hp⟩⟩

theorem ok__law_draw {P : Program} {w : World} {K : PySem.W.Frag} {mg : Str → Option Value} {base : Heap} (T : Txt K mg)  : FnOk P w K mg base (L2.CX P w) 1 T.a__law_draw T.d__law_draw ["_law_stream", "_law_many"] (spOf K (φ__law_draw T)) :=
  ok_D (k := 0) T.F__law_draw sc__law_draw (len__law_draw T) fun cdv A outer s H E hr => ⟨t__law_draw T E,
    (pss_cons (ps_asg (pe_op op_addA (pe_ix ix_seq (pv 0) pe_int (fun _ _ => rfl)) pe_int) (pg_sub (pv 0) pe_int set_list))
    (pss_cons (ps_if (PW.pt (pw_and (pt_cmpR (op_eqA hr.units) (pe_ix ix_seq (pv 0) pe_int (fun _ _ => rfl)) pe_int (nomark _)) (pw_and1 (pt_cmpR (op_neA hr.units) (pe_ix ix_seq (pv 0) pe_int (fun _ _ => rfl)) (pe_lst pa_nil) (nomark _))))) (pss_cons (ps_set (i := 2) sc__law_draw.nd rfl (Or.inl rfl) (pe_bm PySem.F.plainAttrs_list PySem.F.slot_list_pop PySem.F.type_list_pop mt_popAt (pe_ix ix_seq (pv 0) pe_int (fun _ _ => rfl)) (pa_cons pe_int pa_nil)))
    (pss_cons (ps_asg (pe_op op_mod (pe_callTy call_intA (by rfl) T.z_int (by decide +kernel) (pa_cons (pe_op op_addA (pe_op op_addA (pe_op op_mulA (pe_ix ix_seq (pv 0) pe_int (fun _ _ => rfl)) pe_int) (pv 2)) pe_int) pa_nil)) pe_int) (pg_sub (pv 0) pe_int set_list))
    (pss_one (ps_asg (pe_ifExp (pt_cmpR op_ge (pv 2) (pe_op op_pow pe_int pe_int) (nomark _)) (pv 2) pe_int) (pg_sub (pv 0) pe_int set_list))))) pss_nil)
    (pss_cons (ps_if (pt_cmpR op_gt (pe_ix ix_seq (pv 0) pe_int (fun _ _ => rfl)) pe_int (nomark _)) (pss_cons (ps_set (i := 3) sc__law_draw.nd rfl (Or.inl rfl) (pe_op op_mod (pe_callTy call_intA (by rfl) T.z_int (by decide +kernel) (pa_cons (pe_ix ix_seq (pv 0) pe_int (fun _ _ => rfl)) pa_nil)) (pv 1)))
    (pss_cons (ps_asg (pe_op op_fdiv (pe_ix ix_seq (pv 0) pe_int (fun _ _ => rfl)) (pv 1)) (pg_sub (pv 0) pe_int set_list))
    (pss_one (ps_ret (pv 3))))) pss_nil)
    (pss_cons (ps_set (i := 4) sc__law_draw.nd rfl (Or.inl rfl) (pe_op op_mod (pe_callTy call_intA (by rfl) T.z_int (by decide +kernel) (pa_cons (pe_op op_pow (pe_op op_addA (pe_op op_addA (pe_ix ix_seq (pv 0) pe_int (fun _ _ => rfl)) (pe_op op_mulA pe_int (pe_ix ix_seq (pv 0) pe_int (fun _ _ => rfl)))) pe_int) pe_int) pa_nil)) pe_int))
    (pss_one (ps_ret (pe_op op_mod (pe_op op_mod (pe_callTy call_intA (by rfl) T.z_int (by decide +kernel) (pa_cons (pe_op op_pow (pe_op op_addA (pe_op op_addA (pe_op op_mulA (pv 4) pe_int) (pe_op op_mulA pe_int (pe_ix ix_seq (pv 0) pe_int (fun _ _ => rfl)))) pe_int) pe_int) pa_nil)) pe_int) (pv 1)))))))),
    rd__law_draw T E⟩
theorem ok__law_pick {P : Program} {w : World} {K : PySem.W.Frag} {mg : Str → Option Value} {base : Heap} (T : Txt K mg) (G__law_draw : FnOk P w K mg base (L2.CX P w) 1 T.a__law_draw T.d__law_draw ["_law_stream", "_law_many"] (spOf K (φ__law_draw T))) : FnOk P w K mg base (L2.CX P w) 2 T.a__law_pick T.d__law_pick ["_law_stream", "_law_some"] (spOf K (φ__law_pick T)) :=
  ok_D (k := 1) T.F__law_pick sc__law_pick (len__law_pick T) fun cdv A outer s H E hr => ⟨t__law_pick T E,
    (pss_one (ps_ret (pe_ix ix_seq (pv 1) (pe_call G__law_draw (hr.mono (by decide)) rfl T.g__law_draw T.F__law_draw.kp T.b__law_draw .nil passL (pa_cons (pv 0) (pa_cons (pe_callB call_lenA (by rfl) T.z_len (by decide +kernel) (pa_cons (pv 1) pa_nil)) pa_nil))) (fun _ _ => rfl)))),
    rd__law_pick T E⟩
theorem ok__law_name {P : Program} {w : World} {K : PySem.W.Frag} {mg : Str → Option Value} {base : Heap} (T : Txt K mg) (G__law_draw : FnOk P w K mg base (L2.CX P w) 1 T.a__law_draw T.d__law_draw ["_law_stream", "_law_many"] (spOf K (φ__law_draw T))) (G__law_pick : FnOk P w K mg base (L2.CX P w) 2 T.a__law_pick T.d__law_pick ["_law_stream", "_law_some"] (spOf K (φ__law_pick T))) : FnOk P w K mg base (L2.CX P w) 3 T.a__law_name T.d__law_name ["_law_stream"] (spOf K (φ__law_name T)) :=
  ok_D (k := 2) T.F__law_name sc__law_name (len__law_name T) fun cdv A outer s H E hr => ⟨t__law_name T E,
    (pss_cons (ps_set (i := 1) sc__law_name.nd rfl (Or.inl rfl) (pe_ix ix_seq (pe_lst (pa_cons pe_int (pa_cons pe_int (pa_cons pe_int (pa_cons pe_int (pa_cons pe_int (pa_cons pe_int pa_nil))))))) (pe_call G__law_draw (hr.mono (by decide)) rfl T.g__law_draw T.F__law_draw.kp T.b__law_draw .nil passL (pa_cons (pv 0) (pa_cons pe_int pa_nil))) (fun _ _ => rfl)))
    (pss_one (ps_ret (pe_m1 PySem.F.slot_str_join PySem.F.type_str_join mt_joinA pe_str (pe_lc (own := [("_law_k", 2)]) rfl sc__law_name.nd (pi_range1 rfl T.z_range (pa_cons (pv 1) pa_nil)) (blkOk_by (own := [("_law_k", 2)]) (N := N__law_name) (sc := defScope s__law_name) (by decide +kernel)) (fun _ _ _ _ _ => (pg_name (i := 2) sc__law_name.nd rfl (Or.inl rfl))) (fun _ _ _ _ _ => pts_nil) (fun _ _ _ _ _ => (pe_call G__law_pick (hr.mono (by decide)) rfl T.g__law_pick T.F__law_pick.kp T.b__law_pick .nil passL (pa_cons (pv 0) (pa_cons pe_str pa_nil))))))))),
    rd__law_name T E⟩
theorem ok__law_names {P : Program} {w : World} {K : PySem.W.Frag} {mg : Str → Option Value} {base : Heap} (T : Txt K mg) (G__law_name : FnOk P w K mg base (L2.CX P w) 3 T.a__law_name T.d__law_name ["_law_stream"] (spOf K (φ__law_name T))) : FnOk P w K mg base (L2.CX P w) 4 T.a__law_names T.d__law_names ["_law_stream", "_law_many"] (spOf K (φ__law_names T)) :=
  ok_D (k := 3) T.F__law_names sc__law_names (len__law_names T) fun cdv A outer s H E hr => ⟨t__law_names T E,
    (pss_cons (ps_set (i := 2) sc__law_names.nd rfl (Or.inr rfl) (pe_lst pa_nil))
    (pss_cons (ps_for (passes_of rfl) rfl (pi_range1 rfl T.z_range (pa_cons (pv 1) pa_nil)) (pg_name (i := 3) sc__law_names.nd rfl (Or.inl rfl)) (pss_cons (ps_set (i := 4) sc__law_names.nd rfl (Or.inl rfl) (pe_op op_addA (pe_lst (pa_cons (pe_call G__law_name (hr.mono (by decide)) rfl T.g__law_name T.F__law_name.kp T.b__law_name .nil passL (pa_cons (pv 0) pa_nil)) pa_nil)) (pe_lc (own := [("_law_letter", 5)]) rfl sc__law_names.nd (pi_any pe_str) (blkOk_by (own := [("_law_letter", 5)]) (N := N__law_names) (sc := defScope s__law_names) (by decide +kernel)) (fun _ _ _ _ _ => (pg_name (i := 5) sc__law_names.nd rfl (Or.inl rfl))) (fun _ _ _ _ _ => pts_nil) (fun _ _ _ _ _ => (pe_op op_addA (pv 5) pe_str)))))
    (pss_one (ps_expr (pe_bm PySem.F.plainAttrs_list PySem.F.slot_list_append PySem.F.type_list_append mt_append (pv 2) (pa_cons (pe_ix ix_seq (pe_lc (own := [("_law_x", 6)]) rfl sc__law_names.nd (pi_any (pv 4)) (blkOk_by (own := [("_law_x", 6)]) (N := N__law_names) (sc := defScope s__law_names) (by decide +kernel)) (fun _ _ _ _ _ => (pg_name (i := 6) sc__law_names.nd rfl (Or.inl rfl))) (fun _ _ _ _ _ => (pts_one (pt_cmpR op_ninA (pv 6) (pv 2) (by rfl)))) (fun _ _ _ _ _ => (pv 6))) pe_int (fun _ _ => rfl)) pa_nil))))))
    (pss_one (ps_ret (pv 2))))),
    rd__law_names T E⟩
theorem ok_law {P : Program} {w : World} {K : PySem.W.Frag} {mg : Str → Option Value} {base : Heap} (T : Txt K mg) (G_Path___init__ : FnOk P w K mg base (L2.CX P w) 3 T.a_Path___init__ T.d_Path___init__ ["self", "text"] (spOf K (φ_Path___init__ T))) (G_Strikes___init__ : FnOk P w K mg base (L2.CX P w) 1 T.a_Strikes___init__ T.d_Strikes___init__ ["self", "words"] (spOf K (φ_Strikes___init__ T))) (G_Tree_lead : FnOk P w K mg base (L2.CX P w) 49 T.a_Tree_lead T.d_Tree_lead ["self", "path", "start", "itself"] (spOf K (φ_Tree_lead T))) (G__law_draw : FnOk P w K mg base (L2.CX P w) 1 T.a__law_draw T.d__law_draw ["_law_stream", "_law_many"] (spOf K (φ__law_draw T))) (G__law_names : FnOk P w K mg base (L2.CX P w) 4 T.a__law_names T.d__law_names ["_law_stream", "_law_many"] (spOf K (φ__law_names T))) (G__law_p_written : FnOk P w K mg base (L2.CX P w) 3 T.a__law_p_written T.d__law_p_written ["_law_stream", "_law_names_here", "_law_most"] (spOf K (φ__law_p_written T))) (G__law_start : FnOk P w K mg base (L2.CX P w) 1 T.a__law_start T.d__law_start ["_law_script"] (spStart K)) (G__law_t_built : FnOk P w K mg base (L2.CX P w) 7 T.a__law_t_built T.d__law_t_built ["_law_tree"] (spOf K (φ__law_t_built T))) (G__law_t_drawn : FnOk P w K mg base (L2.CX P w) 4 T.a__law_t_drawn T.d__law_t_drawn ["_law_stream", "_law_names_here", "_law_most"] (spOf K (φ__law_t_drawn T))) (G__law_t_folders : FnOk P w K mg base (L2.CX P w) 1 T.a__law_t_folders T.d__law_t_folders ["_law_tree"] (spOf K (φ__law_t_folders T))) (G_tidied : FnOk P w K mg base (L2.CX P w) 6 T.a_tidied T.d_tidied ["path", "strikes"] (spOf K (φ_tidied T))) : FnOk P w K mg base (L2.CX P w) 50 T.a_law T.d_law ["_law_script"] (spLaw K) :=
  ok_lawD (k := 49) T.F_law sc_law fun cdv A outer s H E hr => ⟨t_law T E,
    (pss_cons (ps_set (i := 1) sc_law.nd rfl (Or.inl rfl) (pe_call G__law_start (hr.mono (by decide)) rfl T.g__law_start T.F__law_start.kp T.b__law_start .nil passL (pa_cons (pv 0) pa_nil)))
    (pss_cons (ps_for (passes_of rfl) rfl (pi_range1 rfl T.z_range (pa_cons pe_int pa_nil)) (pg_name (i := 2) sc_law.nd rfl (Or.inl rfl)) (pss_cons (ps_set (i := 3) sc_law.nd rfl (Or.inl rfl) (pe_call G__law_names (hr.mono (by decide)) rfl T.g__law_names T.F__law_names.kp T.b__law_names .nil passL (pa_cons (pv 1) (pa_cons pe_int pa_nil))))
    (pss_cons (ps_set (i := 4) sc_law.nd rfl (Or.inr rfl) (pe_call G__law_t_drawn (hr.mono (by decide)) rfl T.g__law_t_drawn T.F__law_t_drawn.kp T.b__law_t_drawn .nil passL (pa_cons (pv 1) (pa_cons (pv 3) (pa_cons pe_int pa_nil)))))
    (pss_cons (ps_set (i := 5) sc_law.nd rfl (Or.inl rfl) (pe_callTy (HD1.call_dictPT rfl hr.units) (by rfl) T.z_dict (by decide +kernel) (pa_cons (pe_lock (pe_lc (own := [("_law_place", 6)]) rfl sc_law.nd (pi_keys (pv 4)) (blkOk_by (own := [("_law_place", 6)]) (N := N_law) (sc := defScope s_law) (by decide +kernel)) (fun _ _ _ _ _ => (pg_name (i := 6) sc_law.nd rfl (Or.inl rfl))) (fun _ _ _ _ _ => pts_nil) (fun _ _ _ _ _ => (pe_tup (pa_cons (pv 6) (pa_cons (pe_ifExp (pt_cmpR (op_eqA hr.units) (pe_ix ix_seq (HP1.pe_ixQ (HP1.room1 hr) (pv 4) (pv 6) (fun _ _ => rfl)) pe_int (fun _ _ => rfl)) pe_str (nomark _)) (pe_tup (pa_cons pe_str (pa_cons pe_non pa_nil))) (HP1.pe_ixQ (HP1.room1 hr) (pv 4) (pv 6) (fun _ _ => rfl))) pa_nil)))))) pa_nil)))
    (pss_cons (ps_par (i := 7) (j := 8) rfl sc_law.nd rfl rfl (by decide) rfl rfl (pa_cons (pe_call G__law_t_built (hr.mono (by decide)) rfl T.g__law_t_built T.F__law_t_built.kp T.b__law_t_built .nil passL (pa_cons (pv 4) pa_nil)) (pa_cons (pe_call G__law_t_built (hr.mono (by decide)) rfl T.g__law_t_built T.F__law_t_built.kp T.b__law_t_built .nil passL (pa_cons (pv 5) pa_nil)) pa_nil)) (by rfl))
    (pss_one (ps_for (passes_of rfl) rfl (pi_any (pe_call G__law_t_folders (hr.mono (by decide)) rfl T.g__law_t_folders T.F__law_t_folders.kp T.b__law_t_folders .nil passL (pa_cons (pv 4) pa_nil))) (pg_name (i := 9) sc_law.nd rfl (Or.inl rfl)) (pss_cons (ps_set (i := 10) sc_law.nd rfl (Or.inl rfl) (pe_make T.mk_Path G_Path___init__ (hr.mono (by decide)) rfl T.g_Path T.b_Path___init__ .nil passL (pa_cons (pe_call G__law_p_written (hr.mono (by decide)) rfl T.g__law_p_written T.F__law_p_written.kp T.b__law_p_written .nil passL (pa_cons (pv 1) (pa_cons (pv 3) (pa_cons pe_int pa_nil)))) pa_nil)))
    (pss_cons (ps_set (i := 11) sc_law.nd rfl (Or.inl rfl) (pe_slice DD.sl_A (pe_slice DD.sl_A (pe_lst (pa_cons pe_str (pa_cons pe_str pa_nil))) (po_some (pe_call G__law_draw (hr.mono (by decide)) rfl T.g__law_draw T.F__law_draw.kp T.b__law_draw .nil passL (pa_cons (pv 1) (pa_cons pe_int pa_nil)))) po_none) po_none (po_some (pe_op op_addA pe_int (pe_call G__law_draw (hr.mono (by decide)) rfl T.g__law_draw T.F__law_draw.kp T.b__law_draw .nil passL (pa_cons (pv 1) (pa_cons pe_int pa_nil)))))))
    (pss_cons (ps_set (i := 12) sc_law.nd rfl (Or.inl rfl) (HP1.pe_methN (n := 1) (ks := ["start"]) (pv 7) T.y_Tree.cl T.m_Tree_lead G_Tree_lead (hr.mono (by decide)) T.kb_Tree_lead_2_start.choose_spec passL (pa_cons (pv 10) pa_nil) (pk_cons (pv 9) pk_nil)))
    (pss_cons (ps_if (pt_cmpR (op_neA hr.units) (HP1.pe_methN (n := 1) (ks := ["start"]) (pv 7) T.y_Tree.cl T.m_Tree_lead G_Tree_lead (hr.mono (by decide)) T.kb_Tree_lead_2_start.choose_spec passL (pa_cons (pe_call G_tidied (hr.mono (by decide)) rfl T.g_tidied T.F_tidied.kp T.b_tidied .nil passL (pa_cons (pv 10) (pa_cons (pe_make T.mk_Strikes G_Strikes___init__ (hr.mono (by decide)) rfl T.g_Strikes T.b_Strikes___init__ .nil passL (pa_cons (pv 11) pa_nil)) pa_nil))) pa_nil) (pk_cons (pv 9) pk_nil)) (pv 12) (nomark _)) (pss_one (ps_ret pe_bl)) pss_nil)
    (pss_cons (ps_set (i := 13) sc_law.nd rfl (Or.inl rfl) (pe_call G_tidied (hr.mono (by decide)) rfl T.g_tidied T.F_tidied.kp T.b_tidied .nil passL (pa_cons (pv 10) (pa_cons (pe_make T.mk_Strikes G_Strikes___init__ (hr.mono (by decide)) rfl T.g_Strikes T.b_Strikes___init__ .nil passL (pa_cons (pe_op op_addA (pv 11) (pe_lst (pa_cons pe_str pa_nil))) pa_nil)) pa_nil))))
    (pss_cons (ps_if (PW.pt (pw_and (pt_cmpR op_notN1 (pv 12) pe_non (nomark _)) (pw_and1 (pt_cmpR (op_neA hr.units) (HP1.pe_methN (n := 1) (ks := ["start"]) (pv 7) T.y_Tree.cl T.m_Tree_lead G_Tree_lead (hr.mono (by decide)) T.kb_Tree_lead_2_start.choose_spec passL (pa_cons (pv 13) pa_nil) (pk_cons (pv 9) pk_nil)) (pv 12) (nomark _))))) (pss_one (ps_ret pe_bl)) pss_nil)
    (pss_cons (ps_set (i := 12) sc_law.nd rfl (Or.inl rfl) (HP1.pe_methN (n := 1) (ks := ["start"]) (pv 8) T.y_Tree.cl T.m_Tree_lead G_Tree_lead (hr.mono (by decide)) T.kb_Tree_lead_2_start.choose_spec passL (pa_cons (pv 10) pa_nil) (pk_cons (pv 9) pk_nil)))
    (pss_cons (ps_set (i := 11) sc_law.nd rfl (Or.inl rfl) (pe_op op_addA (pe_op op_addA (pv 11) (pe_lst (pa_cons pe_str pa_nil))) (pe_slice DD.sl_A (pe_lst (pa_cons pe_str pa_nil)) po_none (po_some (pe_call G__law_draw (hr.mono (by decide)) rfl T.g__law_draw T.F__law_draw.kp T.b__law_draw .nil passL (pa_cons (pv 1) (pa_cons pe_int pa_nil)))))))
    (pss_one (ps_if (PW.pt (pw_and (pt_cmpR op_notN1 (pv 12) pe_non (nomark _)) (pw_and1 (pt_cmpR (op_neA hr.units) (HP1.pe_methN (n := 1) (ks := ["start"]) (pv 8) T.y_Tree.cl T.m_Tree_lead G_Tree_lead (hr.mono (by decide)) T.kb_Tree_lead_2_start.choose_spec passL (pa_cons (pe_call G_tidied (hr.mono (by decide)) rfl T.g_tidied T.F_tidied.kp T.b_tidied .nil passL (pa_cons (pv 10) (pa_cons (pe_make T.mk_Strikes G_Strikes___init__ (hr.mono (by decide)) rfl T.g_Strikes T.b_Strikes___init__ .nil passL (pa_cons (pv 11) pa_nil)) pa_nil))) pa_nil) (pk_cons (pv 9) pk_nil)) (pv 12) (nomark _))))) (pss_one (ps_ret pe_bl)) pss_nil)))))))))))))))))
    (pss_one (ps_ret pe_bl)))),
    rd_law T E⟩

end My

namespace My
open PySem L2 DD HP1
open PySem.Spec PyProof.Rows

theorem all_mk {l : PySem.W.OpenLaw} {w : World} {K : PySem.W.Frag} {h : Heap} {mg : Str → Option Value} {fa : Addr} (X : K.In h) (G : h.Ns mainGlobals mg) (hfa : mg "law" = some (.ref fa))
    {f_is_name : Addr} {od_is_name an_is_name : Option Addr} {sl_is_name : Array (Option Value)} {oc_is_name kV_is_name dc_is_name pm_is_name cd_is_name ct_is_name : Value}
    {f_is_path_text : Addr} {od_is_path_text an_is_path_text : Option Addr} {sl_is_path_text : Array (Option Value)} {oc_is_path_text kV_is_path_text dc_is_path_text pm_is_path_text cd_is_path_text ct_is_path_text : Value}
    {f_Path___init__ : Addr} {od_Path___init__ an_Path___init__ : Option Addr} {sl_Path___init__ : Array (Option Value)} {oc_Path___init__ kV_Path___init__ dc_Path___init__ pm_Path___init__ cd_Path___init__ ct_Path___init__ : Value}
    {f_Path_steps : Addr} {od_Path_steps an_Path_steps : Option Addr} {sl_Path_steps : Array (Option Value)} {oc_Path_steps kV_Path_steps dc_Path_steps pm_Path_steps cd_Path_steps ct_Path_steps : Value}
    {f_path_of : Addr} {od_path_of an_path_of : Option Addr} {sl_path_of : Array (Option Value)} {oc_path_of dc_path_of pm_path_of cd_path_of ct_path_of : Value}
    {D_path_of : Addr}
    {x0_Strikes___init__ : Addr}
    {T_Strikes___init__ : Addr} {To_Strikes___init__ : Value} {Td_Strikes___init__ : Option Addr} {Tn_Strikes___init__ : Nat} {Ts_Strikes___init__ : Array (Option Value)}
    {f_Strikes___init__ : Addr} {od_Strikes___init__ an_Strikes___init__ : Option Addr} {sl_Strikes___init__ : Array (Option Value)} {oc_Strikes___init__ kV_Strikes___init__ dc_Strikes___init__ pm_Strikes___init__ cd_Strikes___init__ ct_Strikes___init__ : Value}
    {f_Strikes___contains__ : Addr} {od_Strikes___contains__ an_Strikes___contains__ : Option Addr} {sl_Strikes___contains__ : Array (Option Value)} {oc_Strikes___contains__ kV_Strikes___contains__ dc_Strikes___contains__ pm_Strikes___contains__ cd_Strikes___contains__ ct_Strikes___contains__ : Value}
    {f_Strikes_words : Addr} {od_Strikes_words an_Strikes_words : Option Addr} {sl_Strikes_words : Array (Option Value)} {oc_Strikes_words kV_Strikes_words dc_Strikes_words pm_Strikes_words cd_Strikes_words ct_Strikes_words : Value}
    {f_tidied : Addr} {od_tidied an_tidied : Option Addr} {sl_tidied : Array (Option Value)} {oc_tidied kV_tidied dc_tidied pm_tidied cd_tidied ct_tidied : Value}
    {f_place_of : Addr} {od_place_of an_place_of : Option Addr} {sl_place_of : Array (Option Value)} {oc_place_of kV_place_of dc_place_of pm_place_of cd_place_of ct_place_of : Value}
    {f_Walk___init__ : Addr} {od_Walk___init__ an_Walk___init__ : Option Addr} {sl_Walk___init__ : Array (Option Value)} {oc_Walk___init__ kV_Walk___init__ dc_Walk___init__ pm_Walk___init__ cd_Walk___init__ ct_Walk___init__ : Value}
    {f_Walk_goes : Addr} {od_Walk_goes an_Walk_goes : Option Addr} {sl_Walk_goes : Array (Option Value)} {oc_Walk_goes dc_Walk_goes pm_Walk_goes cd_Walk_goes ct_Walk_goes : Value}
    {D_Walk_goes : Addr}
    {x1_Walk_goes : Addr}
    {dy1_Walk_goes : Option Addr} {ny1_Walk_goes : Nat} {sy1_Walk_goes : Array (Option Value)}
    {f_Walk_stepped : Addr} {od_Walk_stepped an_Walk_stepped : Option Addr} {sl_Walk_stepped : Array (Option Value)} {oc_Walk_stepped kV_Walk_stepped dc_Walk_stepped pm_Walk_stepped cd_Walk_stepped ct_Walk_stepped : Value}
    {f_Walk_followed : Addr} {od_Walk_followed an_Walk_followed : Option Addr} {sl_Walk_followed : Array (Option Value)} {oc_Walk_followed kV_Walk_followed dc_Walk_followed pm_Walk_followed cd_Walk_followed ct_Walk_followed : Value}
    {f_Tree___init__ : Addr} {od_Tree___init__ an_Tree___init__ : Option Addr} {sl_Tree___init__ : Array (Option Value)} {oc_Tree___init__ kV_Tree___init__ dc_Tree___init__ pm_Tree___init__ cd_Tree___init__ ct_Tree___init__ : Value}
    {f_Tree_kind : Addr} {od_Tree_kind an_Tree_kind : Option Addr} {sl_Tree_kind : Array (Option Value)} {oc_Tree_kind kV_Tree_kind dc_Tree_kind pm_Tree_kind cd_Tree_kind ct_Tree_kind : Value}
    {f_Tree_target : Addr} {od_Tree_target an_Tree_target : Option Addr} {sl_Tree_target : Array (Option Value)} {oc_Tree_target kV_Tree_target dc_Tree_target pm_Tree_target cd_Tree_target ct_Tree_target : Value}
    {f_Tree_folder : Addr} {od_Tree_folder an_Tree_folder : Option Addr} {sl_Tree_folder : Array (Option Value)} {oc_Tree_folder kV_Tree_folder dc_Tree_folder pm_Tree_folder cd_Tree_folder ct_Tree_folder : Value}
    {f_Tree_file : Addr} {od_Tree_file an_Tree_file : Option Addr} {sl_Tree_file : Array (Option Value)} {oc_Tree_file kV_Tree_file dc_Tree_file pm_Tree_file cd_Tree_file ct_Tree_file : Value}
    {f_Tree_link : Addr} {od_Tree_link an_Tree_link : Option Addr} {sl_Tree_link : Array (Option Value)} {oc_Tree_link kV_Tree_link dc_Tree_link pm_Tree_link cd_Tree_link ct_Tree_link : Value}
    {f_Tree_put : Addr} {od_Tree_put an_Tree_put : Option Addr} {sl_Tree_put : Array (Option Value)} {oc_Tree_put kV_Tree_put dc_Tree_put pm_Tree_put cd_Tree_put ct_Tree_put : Value}
    {f_Tree_check_free : Addr} {od_Tree_check_free an_Tree_check_free : Option Addr} {sl_Tree_check_free : Array (Option Value)} {oc_Tree_check_free kV_Tree_check_free dc_Tree_check_free pm_Tree_check_free cd_Tree_check_free ct_Tree_check_free : Value}
    {f_Tree_walked : Addr} {od_Tree_walked an_Tree_walked : Option Addr} {sl_Tree_walked : Array (Option Value)} {oc_Tree_walked kV_Tree_walked dc_Tree_walked pm_Tree_walked cd_Tree_walked ct_Tree_walked : Value}
    {f_Tree_lead : Addr} {od_Tree_lead an_Tree_lead : Option Addr} {sl_Tree_lead : Array (Option Value)} {oc_Tree_lead dc_Tree_lead pm_Tree_lead cd_Tree_lead ct_Tree_lead : Value}
    {D_Tree_lead : Addr}
    {x0_Tree_lead : Addr}
    {dy0_Tree_lead : Option Addr} {ny0_Tree_lead : Nat} {sy0_Tree_lead : Array (Option Value)}
    {f__law_p_written : Addr} {od__law_p_written an__law_p_written : Option Addr} {sl__law_p_written : Array (Option Value)} {oc__law_p_written kV__law_p_written dc__law_p_written pm__law_p_written cd__law_p_written ct__law_p_written : Value}
    {f__law_t_drawn : Addr} {od__law_t_drawn an__law_t_drawn : Option Addr} {sl__law_t_drawn : Array (Option Value)} {oc__law_t_drawn kV__law_t_drawn dc__law_t_drawn pm__law_t_drawn cd__law_t_drawn ct__law_t_drawn : Value}
    {f__law_t_up : Addr} {od__law_t_up an__law_t_up : Option Addr} {sl__law_t_up : Array (Option Value)} {oc__law_t_up kV__law_t_up dc__law_t_up pm__law_t_up cd__law_t_up ct__law_t_up : Value}
    {f__law_t_built : Addr} {od__law_t_built an__law_t_built : Option Addr} {sl__law_t_built : Array (Option Value)} {oc__law_t_built kV__law_t_built dc__law_t_built pm__law_t_built cd__law_t_built ct__law_t_built : Value}
    {f__law_t_folders : Addr} {od__law_t_folders an__law_t_folders : Option Addr} {sl__law_t_folders : Array (Option Value)} {oc__law_t_folders kV__law_t_folders dc__law_t_folders pm__law_t_folders cd__law_t_folders ct__law_t_folders : Value}
    {f__law_start : Addr} {od__law_start an__law_start : Option Addr} {sl__law_start : Array (Option Value)} {oc__law_start kV__law_start dc__law_start pm__law_start cd__law_start ct__law_start : Value}
    {f__law_draw : Addr} {od__law_draw an__law_draw : Option Addr} {sl__law_draw : Array (Option Value)} {oc__law_draw kV__law_draw dc__law_draw pm__law_draw cd__law_draw ct__law_draw : Value}
    {f__law_pick : Addr} {od__law_pick an__law_pick : Option Addr} {sl__law_pick : Array (Option Value)} {oc__law_pick kV__law_pick dc__law_pick pm__law_pick cd__law_pick ct__law_pick : Value}
    {f__law_name : Addr} {od__law_name an__law_name : Option Addr} {sl__law_name : Array (Option Value)} {oc__law_name kV__law_name dc__law_name pm__law_name cd__law_name ct__law_name : Value}
    {f__law_names : Addr} {od__law_names an__law_names : Option Addr} {sl__law_names : Array (Option Value)} {oc__law_names kV__law_names dc__law_names pm__law_names cd__law_names ct__law_names : Value}
    {f_law : Addr} {od_law an_law : Option Addr} {sl_law : Array (Option Value)} {oc_law kV_law dc_law pm_law cd_law ct_law : Value}
    {C_Path : Addr}
    {C_Strikes : Addr}
    {C_Walk : Addr}
    {C_Tree : Addr}
    {t_LETTERS : Tok}
    {t_LONGEST : Tok}
    {f_WORDS : Addr} {dd_WORDS : Option Addr} {n_WORDS : Nat} {sl_WORDS : Array (Option Value)} {t0_WORDS : Tok} {t1_WORDS : Tok} {t2_WORDS : Tok} {t3_WORDS : Tok}
    (a_is_name : PySem.W.nsIn K mainGlobals "is_name" = some (some (.ref f_is_name)))
    (l_is_name : K.lookup f_is_name = some ⟨oc_is_name, od_is_name, .func (PySem.W.fnOf "is_name" "is_name" (defArgs s_is_name) (defBody s_is_name) (defScope s_is_name) .none kV_is_name dc_is_name pm_is_name an_is_name cd_is_name ct_is_name), sl_is_name⟩)
    (c_is_name : PySem.W.codeIn K cd_is_name "is_name" = true)
    (k_is_name : PySem.W.keepIn K (.ref f_is_name) = true)
    (a_is_path_text : PySem.W.nsIn K mainGlobals "is_path_text" = some (some (.ref f_is_path_text)))
    (l_is_path_text : K.lookup f_is_path_text = some ⟨oc_is_path_text, od_is_path_text, .func (PySem.W.fnOf "is_path_text" "is_path_text" (defArgs s_is_path_text) (defBody s_is_path_text) (defScope s_is_path_text) .none kV_is_path_text dc_is_path_text pm_is_path_text an_is_path_text cd_is_path_text ct_is_path_text), sl_is_path_text⟩)
    (c_is_path_text : PySem.W.codeIn K cd_is_path_text "is_path_text" = true)
    (k_is_path_text : PySem.W.keepIn K (.ref f_is_path_text) = true)
    (a_Path___init__ : PySem.W.findIn K (.ref C_Path) "__init__" = some (some (.ref f_Path___init__)))
    (i_Path___init__ : PySem.W.isFn K (.ref f_Path___init__) = true)
    (l_Path___init__ : K.lookup f_Path___init__ = some ⟨oc_Path___init__, od_Path___init__, .func (PySem.W.fnOf "__init__" "Path.__init__" (defArgs s_Path___init__) (defBody s_Path___init__) (defScope s_Path___init__) .none kV_Path___init__ dc_Path___init__ pm_Path___init__ an_Path___init__ cd_Path___init__ ct_Path___init__), sl_Path___init__⟩)
    (c_Path___init__ : PySem.W.codeIn K cd_Path___init__ "Path.__init__" = true)
    (k_Path___init__ : PySem.W.keepIn K (.ref f_Path___init__) = true)
    (a_Path_steps : PySem.W.findIn K (.ref C_Path) "steps" = some (some (.ref f_Path_steps)))
    (i_Path_steps : PySem.W.isFn K (.ref f_Path_steps) = true)
    (l_Path_steps : K.lookup f_Path_steps = some ⟨oc_Path_steps, od_Path_steps, .func (PySem.W.fnOf "steps" "Path.steps" (defArgs s_Path_steps) (defBody s_Path_steps) (defScope s_Path_steps) .none kV_Path_steps dc_Path_steps pm_Path_steps an_Path_steps cd_Path_steps ct_Path_steps), sl_Path_steps⟩)
    (c_Path_steps : PySem.W.codeIn K cd_Path_steps "Path.steps" = true)
    (k_Path_steps : PySem.W.keepIn K (.ref f_Path_steps) = true)
    (kd0_path_of : PySem.W.nsIn K D_path_of "rooted" = some (some (.bool false)))
    (kd1_path_of : PySem.W.nsIn K D_path_of "ended" = some (some (.bool false)))
    (a_path_of : PySem.W.nsIn K mainGlobals "path_of" = some (some (.ref f_path_of)))
    (l_path_of : K.lookup f_path_of = some ⟨oc_path_of, od_path_of, .func (PySem.W.fnOf "path_of" "path_of" (defArgs s_path_of) (defBody s_path_of) (defScope s_path_of) .none (.ref D_path_of) dc_path_of pm_path_of an_path_of cd_path_of ct_path_of), sl_path_of⟩)
    (c_path_of : PySem.W.codeIn K cd_path_of "path_of" = true)
    (k_path_of : PySem.W.keepIn K (.ref f_path_of) = true)
    (dt_Strikes___init__ : K.lookup T_Strikes___init__ = some ⟨To_Strikes___init__, Td_Strikes___init__, .seq #[.ref x0_Strikes___init__] Tn_Strikes___init__, Ts_Strikes___init__⟩)
    (a_Strikes___init__ : PySem.W.findIn K (.ref C_Strikes) "__init__" = some (some (.ref f_Strikes___init__)))
    (i_Strikes___init__ : PySem.W.isFn K (.ref f_Strikes___init__) = true)
    (l_Strikes___init__ : K.lookup f_Strikes___init__ = some ⟨oc_Strikes___init__, od_Strikes___init__, .func (PySem.W.fnOf "__init__" "Strikes.__init__" (defArgs s_Strikes___init__) (defBody s_Strikes___init__) (defScope s_Strikes___init__) (.ref T_Strikes___init__) kV_Strikes___init__ dc_Strikes___init__ pm_Strikes___init__ an_Strikes___init__ cd_Strikes___init__ ct_Strikes___init__), sl_Strikes___init__⟩)
    (c_Strikes___init__ : PySem.W.codeIn K cd_Strikes___init__ "Strikes.__init__" = true)
    (k_Strikes___init__ : PySem.W.keepIn K (.ref f_Strikes___init__) = true)
    (a_Strikes___contains__ : PySem.W.findIn K (.ref C_Strikes) "__contains__" = some (some (.ref f_Strikes___contains__)))
    (i_Strikes___contains__ : PySem.W.isFn K (.ref f_Strikes___contains__) = true)
    (l_Strikes___contains__ : K.lookup f_Strikes___contains__ = some ⟨oc_Strikes___contains__, od_Strikes___contains__, .func (PySem.W.fnOf "__contains__" "Strikes.__contains__" (defArgs s_Strikes___contains__) (defBody s_Strikes___contains__) (defScope s_Strikes___contains__) .none kV_Strikes___contains__ dc_Strikes___contains__ pm_Strikes___contains__ an_Strikes___contains__ cd_Strikes___contains__ ct_Strikes___contains__), sl_Strikes___contains__⟩)
    (c_Strikes___contains__ : PySem.W.codeIn K cd_Strikes___contains__ "Strikes.__contains__" = true)
    (k_Strikes___contains__ : PySem.W.keepIn K (.ref f_Strikes___contains__) = true)
    (a_Strikes_words : PySem.W.findIn K (.ref C_Strikes) "words" = some (some (.ref f_Strikes_words)))
    (i_Strikes_words : PySem.W.isFn K (.ref f_Strikes_words) = true)
    (l_Strikes_words : K.lookup f_Strikes_words = some ⟨oc_Strikes_words, od_Strikes_words, .func (PySem.W.fnOf "words" "Strikes.words" (defArgs s_Strikes_words) (defBody s_Strikes_words) (defScope s_Strikes_words) .none kV_Strikes_words dc_Strikes_words pm_Strikes_words an_Strikes_words cd_Strikes_words ct_Strikes_words), sl_Strikes_words⟩)
    (c_Strikes_words : PySem.W.codeIn K cd_Strikes_words "Strikes.words" = true)
    (k_Strikes_words : PySem.W.keepIn K (.ref f_Strikes_words) = true)
    (a_tidied : PySem.W.nsIn K mainGlobals "tidied" = some (some (.ref f_tidied)))
    (l_tidied : K.lookup f_tidied = some ⟨oc_tidied, od_tidied, .func (PySem.W.fnOf "tidied" "tidied" (defArgs s_tidied) (defBody s_tidied) (defScope s_tidied) .none kV_tidied dc_tidied pm_tidied an_tidied cd_tidied ct_tidied), sl_tidied⟩)
    (c_tidied : PySem.W.codeIn K cd_tidied "tidied" = true)
    (k_tidied : PySem.W.keepIn K (.ref f_tidied) = true)
    (a_place_of : PySem.W.nsIn K mainGlobals "place_of" = some (some (.ref f_place_of)))
    (l_place_of : K.lookup f_place_of = some ⟨oc_place_of, od_place_of, .func (PySem.W.fnOf "place_of" "place_of" (defArgs s_place_of) (defBody s_place_of) (defScope s_place_of) .none kV_place_of dc_place_of pm_place_of an_place_of cd_place_of ct_place_of), sl_place_of⟩)
    (c_place_of : PySem.W.codeIn K cd_place_of "place_of" = true)
    (k_place_of : PySem.W.keepIn K (.ref f_place_of) = true)
    (a_Walk___init__ : PySem.W.findIn K (.ref C_Walk) "__init__" = some (some (.ref f_Walk___init__)))
    (i_Walk___init__ : PySem.W.isFn K (.ref f_Walk___init__) = true)
    (l_Walk___init__ : K.lookup f_Walk___init__ = some ⟨oc_Walk___init__, od_Walk___init__, .func (PySem.W.fnOf "__init__" "Walk.__init__" (defArgs s_Walk___init__) (defBody s_Walk___init__) (defScope s_Walk___init__) .none kV_Walk___init__ dc_Walk___init__ pm_Walk___init__ an_Walk___init__ cd_Walk___init__ ct_Walk___init__), sl_Walk___init__⟩)
    (c_Walk___init__ : PySem.W.codeIn K cd_Walk___init__ "Walk.__init__" = true)
    (k_Walk___init__ : PySem.W.keepIn K (.ref f_Walk___init__) = true)
    (kd0_Walk_goes : PySem.W.nsIn K D_Walk_goes "itself" = some (some (.bool false)))
    (xt1_Walk_goes : K.lookup x1_Walk_goes = some ⟨.type "tuple", dy1_Walk_goes, .seq #[] ny1_Walk_goes, sy1_Walk_goes⟩)
    (kd1_Walk_goes : PySem.W.nsIn K D_Walk_goes "open_links" = some (some (.ref x1_Walk_goes)))
    (a_Walk_goes : PySem.W.findIn K (.ref C_Walk) "goes" = some (some (.ref f_Walk_goes)))
    (i_Walk_goes : PySem.W.isFn K (.ref f_Walk_goes) = true)
    (l_Walk_goes : K.lookup f_Walk_goes = some ⟨oc_Walk_goes, od_Walk_goes, .func (PySem.W.fnOf "goes" "Walk.goes" (defArgs s_Walk_goes) (defBody s_Walk_goes) (defScope s_Walk_goes) .none (.ref D_Walk_goes) dc_Walk_goes pm_Walk_goes an_Walk_goes cd_Walk_goes ct_Walk_goes), sl_Walk_goes⟩)
    (c_Walk_goes : PySem.W.codeIn K cd_Walk_goes "Walk.goes" = true)
    (k_Walk_goes : PySem.W.keepIn K (.ref f_Walk_goes) = true)
    (a_Walk_stepped : PySem.W.findIn K (.ref C_Walk) "stepped" = some (some (.ref f_Walk_stepped)))
    (i_Walk_stepped : PySem.W.isFn K (.ref f_Walk_stepped) = true)
    (l_Walk_stepped : K.lookup f_Walk_stepped = some ⟨oc_Walk_stepped, od_Walk_stepped, .func (PySem.W.fnOf "stepped" "Walk.stepped" (defArgs s_Walk_stepped) (defBody s_Walk_stepped) (defScope s_Walk_stepped) .none kV_Walk_stepped dc_Walk_stepped pm_Walk_stepped an_Walk_stepped cd_Walk_stepped ct_Walk_stepped), sl_Walk_stepped⟩)
    (c_Walk_stepped : PySem.W.codeIn K cd_Walk_stepped "Walk.stepped" = true)
    (k_Walk_stepped : PySem.W.keepIn K (.ref f_Walk_stepped) = true)
    (a_Walk_followed : PySem.W.findIn K (.ref C_Walk) "followed" = some (some (.ref f_Walk_followed)))
    (i_Walk_followed : PySem.W.isFn K (.ref f_Walk_followed) = true)
    (l_Walk_followed : K.lookup f_Walk_followed = some ⟨oc_Walk_followed, od_Walk_followed, .func (PySem.W.fnOf "followed" "Walk.followed" (defArgs s_Walk_followed) (defBody s_Walk_followed) (defScope s_Walk_followed) .none kV_Walk_followed dc_Walk_followed pm_Walk_followed an_Walk_followed cd_Walk_followed ct_Walk_followed), sl_Walk_followed⟩)
    (c_Walk_followed : PySem.W.codeIn K cd_Walk_followed "Walk.followed" = true)
    (k_Walk_followed : PySem.W.keepIn K (.ref f_Walk_followed) = true)
    (a_Tree___init__ : PySem.W.findIn K (.ref C_Tree) "__init__" = some (some (.ref f_Tree___init__)))
    (i_Tree___init__ : PySem.W.isFn K (.ref f_Tree___init__) = true)
    (l_Tree___init__ : K.lookup f_Tree___init__ = some ⟨oc_Tree___init__, od_Tree___init__, .func (PySem.W.fnOf "__init__" "Tree.__init__" (defArgs s_Tree___init__) (defBody s_Tree___init__) (defScope s_Tree___init__) .none kV_Tree___init__ dc_Tree___init__ pm_Tree___init__ an_Tree___init__ cd_Tree___init__ ct_Tree___init__), sl_Tree___init__⟩)
    (c_Tree___init__ : PySem.W.codeIn K cd_Tree___init__ "Tree.__init__" = true)
    (k_Tree___init__ : PySem.W.keepIn K (.ref f_Tree___init__) = true)
    (a_Tree_kind : PySem.W.findIn K (.ref C_Tree) "kind" = some (some (.ref f_Tree_kind)))
    (i_Tree_kind : PySem.W.isFn K (.ref f_Tree_kind) = true)
    (l_Tree_kind : K.lookup f_Tree_kind = some ⟨oc_Tree_kind, od_Tree_kind, .func (PySem.W.fnOf "kind" "Tree.kind" (defArgs s_Tree_kind) (defBody s_Tree_kind) (defScope s_Tree_kind) .none kV_Tree_kind dc_Tree_kind pm_Tree_kind an_Tree_kind cd_Tree_kind ct_Tree_kind), sl_Tree_kind⟩)
    (c_Tree_kind : PySem.W.codeIn K cd_Tree_kind "Tree.kind" = true)
    (k_Tree_kind : PySem.W.keepIn K (.ref f_Tree_kind) = true)
    (a_Tree_target : PySem.W.findIn K (.ref C_Tree) "target" = some (some (.ref f_Tree_target)))
    (i_Tree_target : PySem.W.isFn K (.ref f_Tree_target) = true)
    (l_Tree_target : K.lookup f_Tree_target = some ⟨oc_Tree_target, od_Tree_target, .func (PySem.W.fnOf "target" "Tree.target" (defArgs s_Tree_target) (defBody s_Tree_target) (defScope s_Tree_target) .none kV_Tree_target dc_Tree_target pm_Tree_target an_Tree_target cd_Tree_target ct_Tree_target), sl_Tree_target⟩)
    (c_Tree_target : PySem.W.codeIn K cd_Tree_target "Tree.target" = true)
    (k_Tree_target : PySem.W.keepIn K (.ref f_Tree_target) = true)
    (a_Tree_folder : PySem.W.findIn K (.ref C_Tree) "folder" = some (some (.ref f_Tree_folder)))
    (i_Tree_folder : PySem.W.isFn K (.ref f_Tree_folder) = true)
    (l_Tree_folder : K.lookup f_Tree_folder = some ⟨oc_Tree_folder, od_Tree_folder, .func (PySem.W.fnOf "folder" "Tree.folder" (defArgs s_Tree_folder) (defBody s_Tree_folder) (defScope s_Tree_folder) .none kV_Tree_folder dc_Tree_folder pm_Tree_folder an_Tree_folder cd_Tree_folder ct_Tree_folder), sl_Tree_folder⟩)
    (c_Tree_folder : PySem.W.codeIn K cd_Tree_folder "Tree.folder" = true)
    (k_Tree_folder : PySem.W.keepIn K (.ref f_Tree_folder) = true)
    (a_Tree_file : PySem.W.findIn K (.ref C_Tree) "file" = some (some (.ref f_Tree_file)))
    (i_Tree_file : PySem.W.isFn K (.ref f_Tree_file) = true)
    (l_Tree_file : K.lookup f_Tree_file = some ⟨oc_Tree_file, od_Tree_file, .func (PySem.W.fnOf "file" "Tree.file" (defArgs s_Tree_file) (defBody s_Tree_file) (defScope s_Tree_file) .none kV_Tree_file dc_Tree_file pm_Tree_file an_Tree_file cd_Tree_file ct_Tree_file), sl_Tree_file⟩)
    (c_Tree_file : PySem.W.codeIn K cd_Tree_file "Tree.file" = true)
    (k_Tree_file : PySem.W.keepIn K (.ref f_Tree_file) = true)
    (a_Tree_link : PySem.W.findIn K (.ref C_Tree) "link" = some (some (.ref f_Tree_link)))
    (i_Tree_link : PySem.W.isFn K (.ref f_Tree_link) = true)
    (l_Tree_link : K.lookup f_Tree_link = some ⟨oc_Tree_link, od_Tree_link, .func (PySem.W.fnOf "link" "Tree.link" (defArgs s_Tree_link) (defBody s_Tree_link) (defScope s_Tree_link) .none kV_Tree_link dc_Tree_link pm_Tree_link an_Tree_link cd_Tree_link ct_Tree_link), sl_Tree_link⟩)
    (c_Tree_link : PySem.W.codeIn K cd_Tree_link "Tree.link" = true)
    (k_Tree_link : PySem.W.keepIn K (.ref f_Tree_link) = true)
    (a_Tree_put : PySem.W.findIn K (.ref C_Tree) "put" = some (some (.ref f_Tree_put)))
    (i_Tree_put : PySem.W.isFn K (.ref f_Tree_put) = true)
    (l_Tree_put : K.lookup f_Tree_put = some ⟨oc_Tree_put, od_Tree_put, .func (PySem.W.fnOf "put" "Tree.put" (defArgs s_Tree_put) (defBody s_Tree_put) (defScope s_Tree_put) .none kV_Tree_put dc_Tree_put pm_Tree_put an_Tree_put cd_Tree_put ct_Tree_put), sl_Tree_put⟩)
    (c_Tree_put : PySem.W.codeIn K cd_Tree_put "Tree.put" = true)
    (k_Tree_put : PySem.W.keepIn K (.ref f_Tree_put) = true)
    (a_Tree_check_free : PySem.W.findIn K (.ref C_Tree) "check_free" = some (some (.ref f_Tree_check_free)))
    (i_Tree_check_free : PySem.W.isFn K (.ref f_Tree_check_free) = true)
    (l_Tree_check_free : K.lookup f_Tree_check_free = some ⟨oc_Tree_check_free, od_Tree_check_free, .func (PySem.W.fnOf "check_free" "Tree.check_free" (defArgs s_Tree_check_free) (defBody s_Tree_check_free) (defScope s_Tree_check_free) .none kV_Tree_check_free dc_Tree_check_free pm_Tree_check_free an_Tree_check_free cd_Tree_check_free ct_Tree_check_free), sl_Tree_check_free⟩)
    (c_Tree_check_free : PySem.W.codeIn K cd_Tree_check_free "Tree.check_free" = true)
    (k_Tree_check_free : PySem.W.keepIn K (.ref f_Tree_check_free) = true)
    (a_Tree_walked : PySem.W.findIn K (.ref C_Tree) "walked" = some (some (.ref f_Tree_walked)))
    (i_Tree_walked : PySem.W.isFn K (.ref f_Tree_walked) = true)
    (l_Tree_walked : K.lookup f_Tree_walked = some ⟨oc_Tree_walked, od_Tree_walked, .func (PySem.W.fnOf "walked" "Tree.walked" (defArgs s_Tree_walked) (defBody s_Tree_walked) (defScope s_Tree_walked) .none kV_Tree_walked dc_Tree_walked pm_Tree_walked an_Tree_walked cd_Tree_walked ct_Tree_walked), sl_Tree_walked⟩)
    (c_Tree_walked : PySem.W.codeIn K cd_Tree_walked "Tree.walked" = true)
    (k_Tree_walked : PySem.W.keepIn K (.ref f_Tree_walked) = true)
    (xt0_Tree_lead : K.lookup x0_Tree_lead = some ⟨.type "tuple", dy0_Tree_lead, .seq #[] ny0_Tree_lead, sy0_Tree_lead⟩)
    (kd0_Tree_lead : PySem.W.nsIn K D_Tree_lead "start" = some (some (.ref x0_Tree_lead)))
    (kd1_Tree_lead : PySem.W.nsIn K D_Tree_lead "itself" = some (some (.bool false)))
    (a_Tree_lead : PySem.W.findIn K (.ref C_Tree) "lead" = some (some (.ref f_Tree_lead)))
    (i_Tree_lead : PySem.W.isFn K (.ref f_Tree_lead) = true)
    (l_Tree_lead : K.lookup f_Tree_lead = some ⟨oc_Tree_lead, od_Tree_lead, .func (PySem.W.fnOf "lead" "Tree.lead" (defArgs s_Tree_lead) (defBody s_Tree_lead) (defScope s_Tree_lead) .none (.ref D_Tree_lead) dc_Tree_lead pm_Tree_lead an_Tree_lead cd_Tree_lead ct_Tree_lead), sl_Tree_lead⟩)
    (c_Tree_lead : PySem.W.codeIn K cd_Tree_lead "Tree.lead" = true)
    (k_Tree_lead : PySem.W.keepIn K (.ref f_Tree_lead) = true)
    (a__law_p_written : PySem.W.nsIn K mainGlobals "_law_p_written" = some (some (.ref f__law_p_written)))
    (l__law_p_written : K.lookup f__law_p_written = some ⟨oc__law_p_written, od__law_p_written, .func (PySem.W.fnOf "_law_p_written" "_law_p_written" (defArgs s__law_p_written) (defBody s__law_p_written) (defScope s__law_p_written) .none kV__law_p_written dc__law_p_written pm__law_p_written an__law_p_written cd__law_p_written ct__law_p_written), sl__law_p_written⟩)
    (c__law_p_written : PySem.W.codeIn K cd__law_p_written "_law_p_written" = true)
    (k__law_p_written : PySem.W.keepIn K (.ref f__law_p_written) = true)
    (a__law_t_drawn : PySem.W.nsIn K mainGlobals "_law_t_drawn" = some (some (.ref f__law_t_drawn)))
    (l__law_t_drawn : K.lookup f__law_t_drawn = some ⟨oc__law_t_drawn, od__law_t_drawn, .func (PySem.W.fnOf "_law_t_drawn" "_law_t_drawn" (defArgs s__law_t_drawn) (defBody s__law_t_drawn) (defScope s__law_t_drawn) .none kV__law_t_drawn dc__law_t_drawn pm__law_t_drawn an__law_t_drawn cd__law_t_drawn ct__law_t_drawn), sl__law_t_drawn⟩)
    (c__law_t_drawn : PySem.W.codeIn K cd__law_t_drawn "_law_t_drawn" = true)
    (k__law_t_drawn : PySem.W.keepIn K (.ref f__law_t_drawn) = true)
    (a__law_t_up : PySem.W.nsIn K mainGlobals "_law_t_up" = some (some (.ref f__law_t_up)))
    (l__law_t_up : K.lookup f__law_t_up = some ⟨oc__law_t_up, od__law_t_up, .func (PySem.W.fnOf "_law_t_up" "_law_t_up" (defArgs s__law_t_up) (defBody s__law_t_up) (defScope s__law_t_up) .none kV__law_t_up dc__law_t_up pm__law_t_up an__law_t_up cd__law_t_up ct__law_t_up), sl__law_t_up⟩)
    (c__law_t_up : PySem.W.codeIn K cd__law_t_up "_law_t_up" = true)
    (k__law_t_up : PySem.W.keepIn K (.ref f__law_t_up) = true)
    (a__law_t_built : PySem.W.nsIn K mainGlobals "_law_t_built" = some (some (.ref f__law_t_built)))
    (l__law_t_built : K.lookup f__law_t_built = some ⟨oc__law_t_built, od__law_t_built, .func (PySem.W.fnOf "_law_t_built" "_law_t_built" (defArgs s__law_t_built) (defBody s__law_t_built) (defScope s__law_t_built) .none kV__law_t_built dc__law_t_built pm__law_t_built an__law_t_built cd__law_t_built ct__law_t_built), sl__law_t_built⟩)
    (c__law_t_built : PySem.W.codeIn K cd__law_t_built "_law_t_built" = true)
    (k__law_t_built : PySem.W.keepIn K (.ref f__law_t_built) = true)
    (a__law_t_folders : PySem.W.nsIn K mainGlobals "_law_t_folders" = some (some (.ref f__law_t_folders)))
    (l__law_t_folders : K.lookup f__law_t_folders = some ⟨oc__law_t_folders, od__law_t_folders, .func (PySem.W.fnOf "_law_t_folders" "_law_t_folders" (defArgs s__law_t_folders) (defBody s__law_t_folders) (defScope s__law_t_folders) .none kV__law_t_folders dc__law_t_folders pm__law_t_folders an__law_t_folders cd__law_t_folders ct__law_t_folders), sl__law_t_folders⟩)
    (c__law_t_folders : PySem.W.codeIn K cd__law_t_folders "_law_t_folders" = true)
    (k__law_t_folders : PySem.W.keepIn K (.ref f__law_t_folders) = true)
    (a__law_start : PySem.W.nsIn K mainGlobals "_law_start" = some (some (.ref f__law_start)))
    (l__law_start : K.lookup f__law_start = some ⟨oc__law_start, od__law_start, .func (PySem.W.fnOf "_law_start" "_law_start" (defArgs s__law_start) (defBody s__law_start) (defScope s__law_start) .none kV__law_start dc__law_start pm__law_start an__law_start cd__law_start ct__law_start), sl__law_start⟩)
    (c__law_start : PySem.W.codeIn K cd__law_start "_law_start" = true)
    (k__law_start : PySem.W.keepIn K (.ref f__law_start) = true)
    (a__law_draw : PySem.W.nsIn K mainGlobals "_law_draw" = some (some (.ref f__law_draw)))
    (l__law_draw : K.lookup f__law_draw = some ⟨oc__law_draw, od__law_draw, .func (PySem.W.fnOf "_law_draw" "_law_draw" (defArgs s__law_draw) (defBody s__law_draw) (defScope s__law_draw) .none kV__law_draw dc__law_draw pm__law_draw an__law_draw cd__law_draw ct__law_draw), sl__law_draw⟩)
    (c__law_draw : PySem.W.codeIn K cd__law_draw "_law_draw" = true)
    (k__law_draw : PySem.W.keepIn K (.ref f__law_draw) = true)
    (a__law_pick : PySem.W.nsIn K mainGlobals "_law_pick" = some (some (.ref f__law_pick)))
    (l__law_pick : K.lookup f__law_pick = some ⟨oc__law_pick, od__law_pick, .func (PySem.W.fnOf "_law_pick" "_law_pick" (defArgs s__law_pick) (defBody s__law_pick) (defScope s__law_pick) .none kV__law_pick dc__law_pick pm__law_pick an__law_pick cd__law_pick ct__law_pick), sl__law_pick⟩)
    (c__law_pick : PySem.W.codeIn K cd__law_pick "_law_pick" = true)
    (k__law_pick : PySem.W.keepIn K (.ref f__law_pick) = true)
    (a__law_name : PySem.W.nsIn K mainGlobals "_law_name" = some (some (.ref f__law_name)))
    (l__law_name : K.lookup f__law_name = some ⟨oc__law_name, od__law_name, .func (PySem.W.fnOf "_law_name" "_law_name" (defArgs s__law_name) (defBody s__law_name) (defScope s__law_name) .none kV__law_name dc__law_name pm__law_name an__law_name cd__law_name ct__law_name), sl__law_name⟩)
    (c__law_name : PySem.W.codeIn K cd__law_name "_law_name" = true)
    (k__law_name : PySem.W.keepIn K (.ref f__law_name) = true)
    (a__law_names : PySem.W.nsIn K mainGlobals "_law_names" = some (some (.ref f__law_names)))
    (l__law_names : K.lookup f__law_names = some ⟨oc__law_names, od__law_names, .func (PySem.W.fnOf "_law_names" "_law_names" (defArgs s__law_names) (defBody s__law_names) (defScope s__law_names) .none kV__law_names dc__law_names pm__law_names an__law_names cd__law_names ct__law_names), sl__law_names⟩)
    (c__law_names : PySem.W.codeIn K cd__law_names "_law_names" = true)
    (k__law_names : PySem.W.keepIn K (.ref f__law_names) = true)
    (a_law : PySem.W.nsIn K mainGlobals "law" = some (some (.ref f_law)))
    (l_law : K.lookup f_law = some ⟨oc_law, od_law, .func (PySem.W.fnOf "law" "law" (defArgs s_law) (defBody s_law) (defScope s_law) .none kV_law dc_law pm_law an_law cd_law ct_law), sl_law⟩)
    (c_law : PySem.W.codeIn K cd_law "law" = true)
    (k_law : PySem.W.keepIn K (.ref f_law) = true)
    (aC_Path : PySem.W.nsIn K mainGlobals "Path" = some (some (.ref C_Path)))
    (pg_Path : PySem.W.plainGet K C_Path Str.empty = true)
    (hd_Path : PySem.W.hasDictIn K C_Path = true)
    (po_Path : PySem.W.plainOver K C_Path = true)
    (sa_Path : PySem.W.findIn K (.ref C_Path) "__setattr__" = some (some (.builtin "object.__setattr__")))
    (ha_Path : PySem.W.findIn K (.ref C_Path) "__class__" = some (some (.builtin "object.__class__")))
    (hn_Path : PySem.W.specialIn K (.builtin "object.__class__") "__get__" = some (some (.builtin "getset_descriptor.__get__")))
    (ht_Path : PySem.W.takesIn K (.builtin "object.__class__") = some true)
    (hm_Path : PySem.W.mroIn K C_Path (.type "object") = some true)
    (mi_Path : PySem.W.makesIn K C_Path = true)
    (kc_Path : PySem.W.keepIn K (.ref C_Path) = true)
    (n_Path_text : PySem.W.findIn K (.ref C_Path) "text" = some none)
    (n_Path_rooted : PySem.W.findIn K (.ref C_Path) "rooted" = some none)
    (n_Path_ended : PySem.W.findIn K (.ref C_Path) "ended" = some none)
    (kt_Path_Path : PySem.W.kitOne K (.ref C_Path) (.ref C_Path) = some true)
    (aC_Strikes : PySem.W.nsIn K mainGlobals "Strikes" = some (some (.ref C_Strikes)))
    (pg_Strikes : PySem.W.plainGet K C_Strikes Str.empty = true)
    (hd_Strikes : PySem.W.hasDictIn K C_Strikes = true)
    (po_Strikes : PySem.W.plainOver K C_Strikes = true)
    (sa_Strikes : PySem.W.findIn K (.ref C_Strikes) "__setattr__" = some (some (.builtin "object.__setattr__")))
    (ha_Strikes : PySem.W.findIn K (.ref C_Strikes) "__class__" = some (some (.builtin "object.__class__")))
    (hn_Strikes : PySem.W.specialIn K (.builtin "object.__class__") "__get__" = some (some (.builtin "getset_descriptor.__get__")))
    (ht_Strikes : PySem.W.takesIn K (.builtin "object.__class__") = some true)
    (hm_Strikes : PySem.W.mroIn K C_Strikes (.type "object") = some true)
    (mi_Strikes : PySem.W.makesIn K C_Strikes = true)
    (kc_Strikes : PySem.W.keepIn K (.ref C_Strikes) = true)
    (n_Strikes_held : PySem.W.findIn K (.ref C_Strikes) "held" = some none)
    (aC_Walk : PySem.W.nsIn K mainGlobals "Walk" = some (some (.ref C_Walk)))
    (pg_Walk : PySem.W.plainGet K C_Walk Str.empty = true)
    (hd_Walk : PySem.W.hasDictIn K C_Walk = true)
    (po_Walk : PySem.W.plainOver K C_Walk = true)
    (sa_Walk : PySem.W.findIn K (.ref C_Walk) "__setattr__" = some (some (.builtin "object.__setattr__")))
    (ha_Walk : PySem.W.findIn K (.ref C_Walk) "__class__" = some (some (.builtin "object.__class__")))
    (hn_Walk : PySem.W.specialIn K (.builtin "object.__class__") "__get__" = some (some (.builtin "getset_descriptor.__get__")))
    (ht_Walk : PySem.W.takesIn K (.builtin "object.__class__") = some true)
    (hm_Walk : PySem.W.mroIn K C_Walk (.type "object") = some true)
    (mi_Walk : PySem.W.makesIn K C_Walk = true)
    (kc_Walk : PySem.W.keepIn K (.ref C_Walk) = true)
    (n_Walk_tree : PySem.W.findIn K (.ref C_Walk) "tree" = some none)
    (n_Walk_sought : PySem.W.findIn K (.ref C_Walk) "sought" = some none)
    (n_Walk_outcomes : PySem.W.findIn K (.ref C_Walk) "outcomes" = some none)
    (n_Walk_word : PySem.W.findIn K (.ref C_Walk) "word" = some none)
    (n_Walk_done : PySem.W.findIn K (.ref C_Walk) "done" = some none)
    (aC_Tree : PySem.W.nsIn K mainGlobals "Tree" = some (some (.ref C_Tree)))
    (pg_Tree : PySem.W.plainGet K C_Tree Str.empty = true)
    (hd_Tree : PySem.W.hasDictIn K C_Tree = true)
    (po_Tree : PySem.W.plainOver K C_Tree = true)
    (sa_Tree : PySem.W.findIn K (.ref C_Tree) "__setattr__" = some (some (.builtin "object.__setattr__")))
    (ha_Tree : PySem.W.findIn K (.ref C_Tree) "__class__" = some (some (.builtin "object.__class__")))
    (hn_Tree : PySem.W.specialIn K (.builtin "object.__class__") "__get__" = some (some (.builtin "getset_descriptor.__get__")))
    (ht_Tree : PySem.W.takesIn K (.builtin "object.__class__") = some true)
    (hm_Tree : PySem.W.mroIn K C_Tree (.type "object") = some true)
    (mi_Tree : PySem.W.makesIn K C_Tree = true)
    (kc_Tree : PySem.W.keepIn K (.ref C_Tree) = true)
    (n_Tree_held : PySem.W.findIn K (.ref C_Tree) "held" = some none)
    (op_Strikes___contains__ : PySem.W.findIn K (.ref C_Strikes) ("__contains__") = some (some (.ref f_Strikes___contains__)))
    (z_all : PySem.W.nsIn K mainGlobals "all" = some none)
    (z_dict : PySem.W.nsIn K mainGlobals "dict" = some none)
    (z_enumerate : PySem.W.nsIn K mainGlobals "enumerate" = some none)
    (z_int : PySem.W.nsIn K mainGlobals "int" = some none)
    (z_isinstance : PySem.W.nsIn K mainGlobals "isinstance" = some none)
    (z_len : PySem.W.nsIn K mainGlobals "len" = some none)
    (z_list : PySem.W.nsIn K mainGlobals "list" = some none)
    (z_range : PySem.W.nsIn K mainGlobals "range" = some none)
    (z_sorted : PySem.W.nsIn K mainGlobals "sorted" = some none)
    (z_str : PySem.W.nsIn K mainGlobals "str" = some none)
    (z_tuple : PySem.W.nsIn K mainGlobals "tuple" = some none)
    (a_LETTERS : PySem.W.nsIn K mainGlobals "LETTERS" = some (some (.str "abcdefghijklmnopqrstuvwxyz" t_LETTERS)))
    (a_LONGEST : PySem.W.nsIn K mainGlobals "LONGEST" = some (some (.int 8 t_LONGEST)))
    (a_WORDS : PySem.W.nsIn K mainGlobals "WORDS" = some (some (.ref f_WORDS)))
    (l_WORDS : K.lookup f_WORDS = some ⟨.type "tuple", dd_WORDS, .seq #[.str "dot" t0_WORDS, .str "up" t1_WORDS, .str "root up" t2_WORDS, .str "end bar" t3_WORDS] n_WORDS, sl_WORDS⟩) :
    ∃ fd : FuncData, (∀ (s : Shared) (v : Value), BindsTo s fd ⟨[v], []⟩ [("_law_script", v)]) ∧ ∀ base : Heap, K.In base → base.Ns mainGlobals mg → FnOk l.prog w K mg base (L2.CX l.prog w) 50 fa fd ["_law_script"] (spLaw K) := by
  have e : f_law = fa := Value.ref.inj (Option.some.inj ((PySem.W.mg_of X G a_law).symm.trans hfa))
  subst e
  let T : Txt K mg := { g_is_name := PySem.W.mg_of X G a_is_name, a_is_name := f_is_name, d_is_name := PySem.W.fnOf "is_name" "is_name" (defArgs s_is_name) (defBody s_is_name) (defScope s_is_name) .none kV_is_name dc_is_name pm_is_name an_is_name cd_is_name ct_is_name, F_is_name := fun_mk (st := s_is_name) l_is_name c_is_name k_is_name, b_is_name := (fun_mk (st := s_is_name) l_is_name c_is_name k_is_name).binds (ps := ["thing"]) fun _ _ _ _ _ _ us hl => match us, hl with | [_], _ => rfl, g_is_path_text := PySem.W.mg_of X G a_is_path_text, a_is_path_text := f_is_path_text, d_is_path_text := PySem.W.fnOf "is_path_text" "is_path_text" (defArgs s_is_path_text) (defBody s_is_path_text) (defScope s_is_path_text) .none kV_is_path_text dc_is_path_text pm_is_path_text an_is_path_text cd_is_path_text ct_is_path_text, F_is_path_text := fun_mk (st := s_is_path_text) l_is_path_text c_is_path_text k_is_path_text, b_is_path_text := (fun_mk (st := s_is_path_text) l_is_path_text c_is_path_text k_is_path_text).binds (ps := ["thing"]) fun _ _ _ _ _ _ us hl => match us, hl with | [_], _ => rfl, m_Path___init__ := ⟨a_Path___init__, i_Path___init__, k_Path___init__⟩, a_Path___init__ := f_Path___init__, d_Path___init__ := PySem.W.fnOf "__init__" "Path.__init__" (defArgs s_Path___init__) (defBody s_Path___init__) (defScope s_Path___init__) .none kV_Path___init__ dc_Path___init__ pm_Path___init__ an_Path___init__ cd_Path___init__ ct_Path___init__, F_Path___init__ := fun_mk (st := s_Path___init__) l_Path___init__ c_Path___init__ k_Path___init__, b_Path___init__ := (fun_mk (st := s_Path___init__) l_Path___init__ c_Path___init__ k_Path___init__).binds (ps := ["self", "text"]) fun _ _ _ _ _ _ us hl => match us, hl with | [_, _], _ => rfl, m_Path_steps := ⟨a_Path_steps, i_Path_steps, k_Path_steps⟩, a_Path_steps := f_Path_steps, d_Path_steps := PySem.W.fnOf "steps" "Path.steps" (defArgs s_Path_steps) (defBody s_Path_steps) (defScope s_Path_steps) .none kV_Path_steps dc_Path_steps pm_Path_steps an_Path_steps cd_Path_steps ct_Path_steps, F_Path_steps := fun_mk (st := s_Path_steps) l_Path_steps c_Path_steps k_Path_steps, b_Path_steps := (fun_mk (st := s_Path_steps) l_Path_steps c_Path_steps k_Path_steps).binds (ps := ["self"]) fun _ _ _ _ _ _ us hl => match us, hl with | [_], _ => rfl, F_path_of := funK_mk (st := s_path_of) (kws := [("rooted", .bl false), ("ended", .bl false)]) l_path_of c_path_of k_path_of (kwL_cons kd0_path_of rfl (kwL_cons kd1_path_of rfl (kwL_nil))) (by simp), g_path_of := PySem.W.mg_of X G a_path_of, a_path_of := f_path_of, d_path_of := PySem.W.fnOf "path_of" "path_of" (defArgs s_path_of) (defBody s_path_of) (defScope s_path_of) .none (.ref D_path_of) dc_path_of pm_path_of an_path_of cd_path_of ct_path_of, kb_path_of_rooted_ended := kbn_mk (fun_mk (st := s_path_of) l_path_of c_path_of k_path_of) fun _ _ _ _ _ _ us ws h1 h2 => match us, ws, h1, h2 with | [_], [_, _], _, _ => rfl, x0_Strikes___init__ := x0_Strikes___init__, m_Strikes___init__ := ⟨a_Strikes___init__, i_Strikes___init__, k_Strikes___init__⟩, a_Strikes___init__ := f_Strikes___init__, d_Strikes___init__ := PySem.W.fnOf "__init__" "Strikes.__init__" (defArgs s_Strikes___init__) (defBody s_Strikes___init__) (defScope s_Strikes___init__) (.ref T_Strikes___init__) kV_Strikes___init__ dc_Strikes___init__ pm_Strikes___init__ an_Strikes___init__ cd_Strikes___init__ ct_Strikes___init__, F_Strikes___init__ := funD_mk (st := s_Strikes___init__) (its := [.ref x0_Strikes___init__]) (dvs := [.ref x0_Strikes___init__]) l_Strikes___init__ c_Strikes___init__ k_Strikes___init__ dt_Strikes___init__ (.cons rfl (.nil)) (by simp), b_Strikes___init__ := allB (funD_mk (st := s_Strikes___init__) (its := [.ref x0_Strikes___init__]) (dvs := [.ref x0_Strikes___init__]) l_Strikes___init__ c_Strikes___init__ k_Strikes___init__ dt_Strikes___init__ (.cons rfl (.nil)) (by simp)) (by simp) fun _ _ _ _ _ _ _ us its h1 h2 => match us, its, h1, h2 with | [_, _], [_], _, _ => ⟨_, rfl, rfl⟩, m_Strikes___contains__ := ⟨a_Strikes___contains__, i_Strikes___contains__, k_Strikes___contains__⟩, a_Strikes___contains__ := f_Strikes___contains__, d_Strikes___contains__ := PySem.W.fnOf "__contains__" "Strikes.__contains__" (defArgs s_Strikes___contains__) (defBody s_Strikes___contains__) (defScope s_Strikes___contains__) .none kV_Strikes___contains__ dc_Strikes___contains__ pm_Strikes___contains__ an_Strikes___contains__ cd_Strikes___contains__ ct_Strikes___contains__, F_Strikes___contains__ := fun_mk (st := s_Strikes___contains__) l_Strikes___contains__ c_Strikes___contains__ k_Strikes___contains__, b_Strikes___contains__ := (fun_mk (st := s_Strikes___contains__) l_Strikes___contains__ c_Strikes___contains__ k_Strikes___contains__).binds (ps := ["self", "thing"]) fun _ _ _ _ _ _ us hl => match us, hl with | [_, _], _ => rfl, m_Strikes_words := ⟨a_Strikes_words, i_Strikes_words, k_Strikes_words⟩, a_Strikes_words := f_Strikes_words, d_Strikes_words := PySem.W.fnOf "words" "Strikes.words" (defArgs s_Strikes_words) (defBody s_Strikes_words) (defScope s_Strikes_words) .none kV_Strikes_words dc_Strikes_words pm_Strikes_words an_Strikes_words cd_Strikes_words ct_Strikes_words, F_Strikes_words := fun_mk (st := s_Strikes_words) l_Strikes_words c_Strikes_words k_Strikes_words, b_Strikes_words := (fun_mk (st := s_Strikes_words) l_Strikes_words c_Strikes_words k_Strikes_words).binds (ps := ["self"]) fun _ _ _ _ _ _ us hl => match us, hl with | [_], _ => rfl, g_tidied := PySem.W.mg_of X G a_tidied, a_tidied := f_tidied, d_tidied := PySem.W.fnOf "tidied" "tidied" (defArgs s_tidied) (defBody s_tidied) (defScope s_tidied) .none kV_tidied dc_tidied pm_tidied an_tidied cd_tidied ct_tidied, F_tidied := fun_mk (st := s_tidied) l_tidied c_tidied k_tidied, b_tidied := (fun_mk (st := s_tidied) l_tidied c_tidied k_tidied).binds (ps := ["path", "strikes"]) fun _ _ _ _ _ _ us hl => match us, hl with | [_, _], _ => rfl, g_place_of := PySem.W.mg_of X G a_place_of, a_place_of := f_place_of, d_place_of := PySem.W.fnOf "place_of" "place_of" (defArgs s_place_of) (defBody s_place_of) (defScope s_place_of) .none kV_place_of dc_place_of pm_place_of an_place_of cd_place_of ct_place_of, F_place_of := fun_mk (st := s_place_of) l_place_of c_place_of k_place_of, b_place_of := (fun_mk (st := s_place_of) l_place_of c_place_of k_place_of).binds (ps := ["thing"]) fun _ _ _ _ _ _ us hl => match us, hl with | [_], _ => rfl, m_Walk___init__ := ⟨a_Walk___init__, i_Walk___init__, k_Walk___init__⟩, a_Walk___init__ := f_Walk___init__, d_Walk___init__ := PySem.W.fnOf "__init__" "Walk.__init__" (defArgs s_Walk___init__) (defBody s_Walk___init__) (defScope s_Walk___init__) .none kV_Walk___init__ dc_Walk___init__ pm_Walk___init__ an_Walk___init__ cd_Walk___init__ ct_Walk___init__, F_Walk___init__ := fun_mk (st := s_Walk___init__) l_Walk___init__ c_Walk___init__ k_Walk___init__, b_Walk___init__ := (fun_mk (st := s_Walk___init__) l_Walk___init__ c_Walk___init__ k_Walk___init__).binds (ps := ["self", "tree"]) fun _ _ _ _ _ _ us hl => match us, hl with | [_, _], _ => rfl, x1_Walk_goes := x1_Walk_goes, q1_Walk_goes := fun H => .inr ⟨_, _, _, xt1_Walk_goes, rfl, rfl, (by show 0 ≤ sizeLine; decide), .nil⟩, F_Walk_goes := funK_mk (st := s_Walk_goes) (kws := [("itself", .bl false), ("open_links", .ref x1_Walk_goes)]) l_Walk_goes c_Walk_goes k_Walk_goes (kwL_cons kd0_Walk_goes rfl (kwL_cons kd1_Walk_goes rfl (kwL_nil))) (by simp), kb_Walk_goes_3_itself := kbindK1 (funK_mk (st := s_Walk_goes) (kws := [("itself", .bl false), ("open_links", .ref x1_Walk_goes)]) l_Walk_goes c_Walk_goes k_Walk_goes (kwL_cons kd0_Walk_goes rfl (kwL_cons kd1_Walk_goes rfl (kwL_nil))) (by simp)) 3 ["itself"] [("open_links", .ref x1_Walk_goes)] (by simp) (by simp) fun _ _ _ _ _ _ us mv ws h1 h2 h3 => match us, mv, ws, h1, h2, h3 with | [_, _, _], [_], [_], _, _, _ => ⟨_, _, _, _, _, _, rfl, rfl, rfl⟩, kb_Walk_goes_3_open_links := kbindK2 (funK_mk (st := s_Walk_goes) (kws := [("itself", .bl false), ("open_links", .ref x1_Walk_goes)]) l_Walk_goes c_Walk_goes k_Walk_goes (kwL_cons kd0_Walk_goes rfl (kwL_cons kd1_Walk_goes rfl (kwL_nil))) (by simp)) 3 ["open_links"] [("itself", .bl false)] (by simp) (by simp) fun _ _ _ _ _ _ us mv ws h1 h2 h3 => match us, mv, ws, h1, h2, h3 with | [_, _, _], [_], [_], _, _, _ => ⟨_, _, _, _, _, _, rfl, rfl, rfl⟩, m_Walk_goes := ⟨a_Walk_goes, i_Walk_goes, k_Walk_goes⟩, a_Walk_goes := f_Walk_goes, d_Walk_goes := PySem.W.fnOf "goes" "Walk.goes" (defArgs s_Walk_goes) (defBody s_Walk_goes) (defScope s_Walk_goes) .none (.ref D_Walk_goes) dc_Walk_goes pm_Walk_goes an_Walk_goes cd_Walk_goes ct_Walk_goes, m_Walk_stepped := ⟨a_Walk_stepped, i_Walk_stepped, k_Walk_stepped⟩, a_Walk_stepped := f_Walk_stepped, d_Walk_stepped := PySem.W.fnOf "stepped" "Walk.stepped" (defArgs s_Walk_stepped) (defBody s_Walk_stepped) (defScope s_Walk_stepped) .none kV_Walk_stepped dc_Walk_stepped pm_Walk_stepped an_Walk_stepped cd_Walk_stepped ct_Walk_stepped, F_Walk_stepped := fun_mk (st := s_Walk_stepped) l_Walk_stepped c_Walk_stepped k_Walk_stepped, b_Walk_stepped := (fun_mk (st := s_Walk_stepped) l_Walk_stepped c_Walk_stepped k_Walk_stepped).binds (ps := ["self", "here", "step", "keeps", "open_links"]) fun _ _ _ _ _ _ us hl => match us, hl with | [_, _, _, _, _], _ => rfl, m_Walk_followed := ⟨a_Walk_followed, i_Walk_followed, k_Walk_followed⟩, a_Walk_followed := f_Walk_followed, d_Walk_followed := PySem.W.fnOf "followed" "Walk.followed" (defArgs s_Walk_followed) (defBody s_Walk_followed) (defScope s_Walk_followed) .none kV_Walk_followed dc_Walk_followed pm_Walk_followed an_Walk_followed cd_Walk_followed ct_Walk_followed, F_Walk_followed := fun_mk (st := s_Walk_followed) l_Walk_followed c_Walk_followed k_Walk_followed, b_Walk_followed := (fun_mk (st := s_Walk_followed) l_Walk_followed c_Walk_followed k_Walk_followed).binds (ps := ["self", "link", "open_links"]) fun _ _ _ _ _ _ us hl => match us, hl with | [_, _, _], _ => rfl, m_Tree___init__ := ⟨a_Tree___init__, i_Tree___init__, k_Tree___init__⟩, a_Tree___init__ := f_Tree___init__, d_Tree___init__ := PySem.W.fnOf "__init__" "Tree.__init__" (defArgs s_Tree___init__) (defBody s_Tree___init__) (defScope s_Tree___init__) .none kV_Tree___init__ dc_Tree___init__ pm_Tree___init__ an_Tree___init__ cd_Tree___init__ ct_Tree___init__, F_Tree___init__ := fun_mk (st := s_Tree___init__) l_Tree___init__ c_Tree___init__ k_Tree___init__, b_Tree___init__ := (fun_mk (st := s_Tree___init__) l_Tree___init__ c_Tree___init__ k_Tree___init__).binds (ps := ["self"]) fun _ _ _ _ _ _ us hl => match us, hl with | [_], _ => rfl, m_Tree_kind := ⟨a_Tree_kind, i_Tree_kind, k_Tree_kind⟩, a_Tree_kind := f_Tree_kind, d_Tree_kind := PySem.W.fnOf "kind" "Tree.kind" (defArgs s_Tree_kind) (defBody s_Tree_kind) (defScope s_Tree_kind) .none kV_Tree_kind dc_Tree_kind pm_Tree_kind an_Tree_kind cd_Tree_kind ct_Tree_kind, F_Tree_kind := fun_mk (st := s_Tree_kind) l_Tree_kind c_Tree_kind k_Tree_kind, b_Tree_kind := (fun_mk (st := s_Tree_kind) l_Tree_kind c_Tree_kind k_Tree_kind).binds (ps := ["self", "place"]) fun _ _ _ _ _ _ us hl => match us, hl with | [_, _], _ => rfl, m_Tree_target := ⟨a_Tree_target, i_Tree_target, k_Tree_target⟩, a_Tree_target := f_Tree_target, d_Tree_target := PySem.W.fnOf "target" "Tree.target" (defArgs s_Tree_target) (defBody s_Tree_target) (defScope s_Tree_target) .none kV_Tree_target dc_Tree_target pm_Tree_target an_Tree_target cd_Tree_target ct_Tree_target, F_Tree_target := fun_mk (st := s_Tree_target) l_Tree_target c_Tree_target k_Tree_target, b_Tree_target := (fun_mk (st := s_Tree_target) l_Tree_target c_Tree_target k_Tree_target).binds (ps := ["self", "place"]) fun _ _ _ _ _ _ us hl => match us, hl with | [_, _], _ => rfl, m_Tree_folder := ⟨a_Tree_folder, i_Tree_folder, k_Tree_folder⟩, a_Tree_folder := f_Tree_folder, d_Tree_folder := PySem.W.fnOf "folder" "Tree.folder" (defArgs s_Tree_folder) (defBody s_Tree_folder) (defScope s_Tree_folder) .none kV_Tree_folder dc_Tree_folder pm_Tree_folder an_Tree_folder cd_Tree_folder ct_Tree_folder, F_Tree_folder := fun_mk (st := s_Tree_folder) l_Tree_folder c_Tree_folder k_Tree_folder, b_Tree_folder := (fun_mk (st := s_Tree_folder) l_Tree_folder c_Tree_folder k_Tree_folder).binds (ps := ["self", "place"]) fun _ _ _ _ _ _ us hl => match us, hl with | [_, _], _ => rfl, m_Tree_file := ⟨a_Tree_file, i_Tree_file, k_Tree_file⟩, a_Tree_file := f_Tree_file, d_Tree_file := PySem.W.fnOf "file" "Tree.file" (defArgs s_Tree_file) (defBody s_Tree_file) (defScope s_Tree_file) .none kV_Tree_file dc_Tree_file pm_Tree_file an_Tree_file cd_Tree_file ct_Tree_file, F_Tree_file := fun_mk (st := s_Tree_file) l_Tree_file c_Tree_file k_Tree_file, b_Tree_file := (fun_mk (st := s_Tree_file) l_Tree_file c_Tree_file k_Tree_file).binds (ps := ["self", "place"]) fun _ _ _ _ _ _ us hl => match us, hl with | [_, _], _ => rfl, m_Tree_link := ⟨a_Tree_link, i_Tree_link, k_Tree_link⟩, a_Tree_link := f_Tree_link, d_Tree_link := PySem.W.fnOf "link" "Tree.link" (defArgs s_Tree_link) (defBody s_Tree_link) (defScope s_Tree_link) .none kV_Tree_link dc_Tree_link pm_Tree_link an_Tree_link cd_Tree_link ct_Tree_link, F_Tree_link := fun_mk (st := s_Tree_link) l_Tree_link c_Tree_link k_Tree_link, b_Tree_link := (fun_mk (st := s_Tree_link) l_Tree_link c_Tree_link k_Tree_link).binds (ps := ["self", "place", "path"]) fun _ _ _ _ _ _ us hl => match us, hl with | [_, _, _], _ => rfl, m_Tree_put := ⟨a_Tree_put, i_Tree_put, k_Tree_put⟩, a_Tree_put := f_Tree_put, d_Tree_put := PySem.W.fnOf "put" "Tree.put" (defArgs s_Tree_put) (defBody s_Tree_put) (defScope s_Tree_put) .none kV_Tree_put dc_Tree_put pm_Tree_put an_Tree_put cd_Tree_put ct_Tree_put, F_Tree_put := fun_mk (st := s_Tree_put) l_Tree_put c_Tree_put k_Tree_put, b_Tree_put := (fun_mk (st := s_Tree_put) l_Tree_put c_Tree_put k_Tree_put).binds (ps := ["self", "place", "kind", "path"]) fun _ _ _ _ _ _ us hl => match us, hl with | [_, _, _, _], _ => rfl, m_Tree_check_free := ⟨a_Tree_check_free, i_Tree_check_free, k_Tree_check_free⟩, a_Tree_check_free := f_Tree_check_free, d_Tree_check_free := PySem.W.fnOf "check_free" "Tree.check_free" (defArgs s_Tree_check_free) (defBody s_Tree_check_free) (defScope s_Tree_check_free) .none kV_Tree_check_free dc_Tree_check_free pm_Tree_check_free an_Tree_check_free cd_Tree_check_free ct_Tree_check_free, F_Tree_check_free := fun_mk (st := s_Tree_check_free) l_Tree_check_free c_Tree_check_free k_Tree_check_free, b_Tree_check_free := (fun_mk (st := s_Tree_check_free) l_Tree_check_free c_Tree_check_free k_Tree_check_free).binds (ps := ["self", "place"]) fun _ _ _ _ _ _ us hl => match us, hl with | [_, _], _ => rfl, m_Tree_walked := ⟨a_Tree_walked, i_Tree_walked, k_Tree_walked⟩, a_Tree_walked := f_Tree_walked, d_Tree_walked := PySem.W.fnOf "walked" "Tree.walked" (defArgs s_Tree_walked) (defBody s_Tree_walked) (defScope s_Tree_walked) .none kV_Tree_walked dc_Tree_walked pm_Tree_walked an_Tree_walked cd_Tree_walked ct_Tree_walked, F_Tree_walked := fun_mk (st := s_Tree_walked) l_Tree_walked c_Tree_walked k_Tree_walked, b_Tree_walked := (fun_mk (st := s_Tree_walked) l_Tree_walked c_Tree_walked k_Tree_walked).binds (ps := ["self", "path", "start", "itself"]) fun _ _ _ _ _ _ us hl => match us, hl with | [_, _, _, _], _ => rfl, x0_Tree_lead := x0_Tree_lead, q0_Tree_lead := fun H => .inr ⟨_, _, _, xt0_Tree_lead, rfl, rfl, (by show 0 ≤ sizeLine; decide), .nil⟩, F_Tree_lead := funK_mk (st := s_Tree_lead) (kws := [("start", .ref x0_Tree_lead), ("itself", .bl false)]) l_Tree_lead c_Tree_lead k_Tree_lead (kwL_cons kd0_Tree_lead rfl (kwL_cons kd1_Tree_lead rfl (kwL_nil))) (by simp), kb_Tree_lead_2_start := kbindK1 (funK_mk (st := s_Tree_lead) (kws := [("start", .ref x0_Tree_lead), ("itself", .bl false)]) l_Tree_lead c_Tree_lead k_Tree_lead (kwL_cons kd0_Tree_lead rfl (kwL_cons kd1_Tree_lead rfl (kwL_nil))) (by simp)) 2 ["start"] [("itself", .bl false)] (by simp) (by simp) fun _ _ _ _ _ _ us mv ws h1 h2 h3 => match us, mv, ws, h1, h2, h3 with | [_, _], [_], [_], _, _, _ => ⟨_, _, _, _, _, _, rfl, rfl, rfl⟩, m_Tree_lead := ⟨a_Tree_lead, i_Tree_lead, k_Tree_lead⟩, a_Tree_lead := f_Tree_lead, d_Tree_lead := PySem.W.fnOf "lead" "Tree.lead" (defArgs s_Tree_lead) (defBody s_Tree_lead) (defScope s_Tree_lead) .none (.ref D_Tree_lead) dc_Tree_lead pm_Tree_lead an_Tree_lead cd_Tree_lead ct_Tree_lead, g__law_p_written := PySem.W.mg_of X G a__law_p_written, a__law_p_written := f__law_p_written, d__law_p_written := PySem.W.fnOf "_law_p_written" "_law_p_written" (defArgs s__law_p_written) (defBody s__law_p_written) (defScope s__law_p_written) .none kV__law_p_written dc__law_p_written pm__law_p_written an__law_p_written cd__law_p_written ct__law_p_written, F__law_p_written := fun_mk (st := s__law_p_written) l__law_p_written c__law_p_written k__law_p_written, b__law_p_written := (fun_mk (st := s__law_p_written) l__law_p_written c__law_p_written k__law_p_written).binds (ps := ["_law_stream", "_law_names_here", "_law_most"]) fun _ _ _ _ _ _ us hl => match us, hl with | [_, _, _], _ => rfl, g__law_t_drawn := PySem.W.mg_of X G a__law_t_drawn, a__law_t_drawn := f__law_t_drawn, d__law_t_drawn := PySem.W.fnOf "_law_t_drawn" "_law_t_drawn" (defArgs s__law_t_drawn) (defBody s__law_t_drawn) (defScope s__law_t_drawn) .none kV__law_t_drawn dc__law_t_drawn pm__law_t_drawn an__law_t_drawn cd__law_t_drawn ct__law_t_drawn, F__law_t_drawn := fun_mk (st := s__law_t_drawn) l__law_t_drawn c__law_t_drawn k__law_t_drawn, b__law_t_drawn := (fun_mk (st := s__law_t_drawn) l__law_t_drawn c__law_t_drawn k__law_t_drawn).binds (ps := ["_law_stream", "_law_names_here", "_law_most"]) fun _ _ _ _ _ _ us hl => match us, hl with | [_, _, _], _ => rfl, g__law_t_up := PySem.W.mg_of X G a__law_t_up, a__law_t_up := f__law_t_up, d__law_t_up := PySem.W.fnOf "_law_t_up" "_law_t_up" (defArgs s__law_t_up) (defBody s__law_t_up) (defScope s__law_t_up) .none kV__law_t_up dc__law_t_up pm__law_t_up an__law_t_up cd__law_t_up ct__law_t_up, F__law_t_up := fun_mk (st := s__law_t_up) l__law_t_up c__law_t_up k__law_t_up, b__law_t_up := (fun_mk (st := s__law_t_up) l__law_t_up c__law_t_up k__law_t_up).binds (ps := ["_law_tree"]) fun _ _ _ _ _ _ us hl => match us, hl with | [_], _ => rfl, g__law_t_built := PySem.W.mg_of X G a__law_t_built, a__law_t_built := f__law_t_built, d__law_t_built := PySem.W.fnOf "_law_t_built" "_law_t_built" (defArgs s__law_t_built) (defBody s__law_t_built) (defScope s__law_t_built) .none kV__law_t_built dc__law_t_built pm__law_t_built an__law_t_built cd__law_t_built ct__law_t_built, F__law_t_built := fun_mk (st := s__law_t_built) l__law_t_built c__law_t_built k__law_t_built, b__law_t_built := (fun_mk (st := s__law_t_built) l__law_t_built c__law_t_built k__law_t_built).binds (ps := ["_law_tree"]) fun _ _ _ _ _ _ us hl => match us, hl with | [_], _ => rfl, g__law_t_folders := PySem.W.mg_of X G a__law_t_folders, a__law_t_folders := f__law_t_folders, d__law_t_folders := PySem.W.fnOf "_law_t_folders" "_law_t_folders" (defArgs s__law_t_folders) (defBody s__law_t_folders) (defScope s__law_t_folders) .none kV__law_t_folders dc__law_t_folders pm__law_t_folders an__law_t_folders cd__law_t_folders ct__law_t_folders, F__law_t_folders := fun_mk (st := s__law_t_folders) l__law_t_folders c__law_t_folders k__law_t_folders, b__law_t_folders := (fun_mk (st := s__law_t_folders) l__law_t_folders c__law_t_folders k__law_t_folders).binds (ps := ["_law_tree"]) fun _ _ _ _ _ _ us hl => match us, hl with | [_], _ => rfl, g__law_start := PySem.W.mg_of X G a__law_start, a__law_start := f__law_start, d__law_start := PySem.W.fnOf "_law_start" "_law_start" (defArgs s__law_start) (defBody s__law_start) (defScope s__law_start) .none kV__law_start dc__law_start pm__law_start an__law_start cd__law_start ct__law_start, F__law_start := fun_mk (st := s__law_start) l__law_start c__law_start k__law_start, b__law_start := (fun_mk (st := s__law_start) l__law_start c__law_start k__law_start).binds (ps := ["_law_script"]) fun _ _ _ _ _ _ us hl => match us, hl with | [_], _ => rfl, g__law_draw := PySem.W.mg_of X G a__law_draw, a__law_draw := f__law_draw, d__law_draw := PySem.W.fnOf "_law_draw" "_law_draw" (defArgs s__law_draw) (defBody s__law_draw) (defScope s__law_draw) .none kV__law_draw dc__law_draw pm__law_draw an__law_draw cd__law_draw ct__law_draw, F__law_draw := fun_mk (st := s__law_draw) l__law_draw c__law_draw k__law_draw, b__law_draw := (fun_mk (st := s__law_draw) l__law_draw c__law_draw k__law_draw).binds (ps := ["_law_stream", "_law_many"]) fun _ _ _ _ _ _ us hl => match us, hl with | [_, _], _ => rfl, g__law_pick := PySem.W.mg_of X G a__law_pick, a__law_pick := f__law_pick, d__law_pick := PySem.W.fnOf "_law_pick" "_law_pick" (defArgs s__law_pick) (defBody s__law_pick) (defScope s__law_pick) .none kV__law_pick dc__law_pick pm__law_pick an__law_pick cd__law_pick ct__law_pick, F__law_pick := fun_mk (st := s__law_pick) l__law_pick c__law_pick k__law_pick, b__law_pick := (fun_mk (st := s__law_pick) l__law_pick c__law_pick k__law_pick).binds (ps := ["_law_stream", "_law_some"]) fun _ _ _ _ _ _ us hl => match us, hl with | [_, _], _ => rfl, g__law_name := PySem.W.mg_of X G a__law_name, a__law_name := f__law_name, d__law_name := PySem.W.fnOf "_law_name" "_law_name" (defArgs s__law_name) (defBody s__law_name) (defScope s__law_name) .none kV__law_name dc__law_name pm__law_name an__law_name cd__law_name ct__law_name, F__law_name := fun_mk (st := s__law_name) l__law_name c__law_name k__law_name, b__law_name := (fun_mk (st := s__law_name) l__law_name c__law_name k__law_name).binds (ps := ["_law_stream"]) fun _ _ _ _ _ _ us hl => match us, hl with | [_], _ => rfl, g__law_names := PySem.W.mg_of X G a__law_names, a__law_names := f__law_names, d__law_names := PySem.W.fnOf "_law_names" "_law_names" (defArgs s__law_names) (defBody s__law_names) (defScope s__law_names) .none kV__law_names dc__law_names pm__law_names an__law_names cd__law_names ct__law_names, F__law_names := fun_mk (st := s__law_names) l__law_names c__law_names k__law_names, b__law_names := (fun_mk (st := s__law_names) l__law_names c__law_names k__law_names).binds (ps := ["_law_stream", "_law_many"]) fun _ _ _ _ _ _ us hl => match us, hl with | [_, _], _ => rfl, g_law := PySem.W.mg_of X G a_law, a_law := f_law, d_law := PySem.W.fnOf "law" "law" (defArgs s_law) (defBody s_law) (defScope s_law) .none kV_law dc_law pm_law an_law cd_law ct_law, F_law := fun_mk (st := s_law) l_law c_law k_law, b_law := (fun_mk (st := s_law) l_law c_law k_law).binds (ps := ["_law_script"]) fun _ _ _ _ _ _ us hl => match us, hl with | [_], _ => rfl, c_Path := C_Path, g_Path := PySem.W.mg_of X G aC_Path, y_Path := ⟨⟨pg_Path, hd_Path, po_Path, sa_Path⟩, ha_Path, hn_Path, ht_Path, hm_Path⟩, mk_Path := ⟨mi_Path, a_Path___init__, i_Path___init__, kc_Path⟩, n_Path_text := n_Path_text, n_Path_rooted := n_Path_rooted, n_Path_ended := n_Path_ended, kt_Path_Path := kt_Path_Path, c_Strikes := C_Strikes, g_Strikes := PySem.W.mg_of X G aC_Strikes, y_Strikes := ⟨⟨pg_Strikes, hd_Strikes, po_Strikes, sa_Strikes⟩, ha_Strikes, hn_Strikes, ht_Strikes, hm_Strikes⟩, mk_Strikes := ⟨mi_Strikes, a_Strikes___init__, i_Strikes___init__, kc_Strikes⟩, n_Strikes_held := n_Strikes_held, c_Walk := C_Walk, g_Walk := PySem.W.mg_of X G aC_Walk, y_Walk := ⟨⟨pg_Walk, hd_Walk, po_Walk, sa_Walk⟩, ha_Walk, hn_Walk, ht_Walk, hm_Walk⟩, mk_Walk := ⟨mi_Walk, a_Walk___init__, i_Walk___init__, kc_Walk⟩, n_Walk_tree := n_Walk_tree, n_Walk_sought := n_Walk_sought, n_Walk_outcomes := n_Walk_outcomes, n_Walk_word := n_Walk_word, n_Walk_done := n_Walk_done, c_Tree := C_Tree, g_Tree := PySem.W.mg_of X G aC_Tree, y_Tree := ⟨⟨pg_Tree, hd_Tree, po_Tree, sa_Tree⟩, ha_Tree, hn_Tree, ht_Tree, hm_Tree⟩, mk_Tree := ⟨mi_Tree, a_Tree___init__, i_Tree___init__, kc_Tree⟩, n_Tree_held := n_Tree_held, op_Strikes___contains__ := op_Strikes___contains__, z_all := PySem.W.mg_none_of X G z_all, z_dict := PySem.W.mg_none_of X G z_dict, z_enumerate := PySem.W.mg_none_of X G z_enumerate, z_int := PySem.W.mg_none_of X G z_int, z_isinstance := PySem.W.mg_none_of X G z_isinstance, z_len := PySem.W.mg_none_of X G z_len, z_list := PySem.W.mg_none_of X G z_list, z_range := PySem.W.mg_none_of X G z_range, z_sorted := PySem.W.mg_none_of X G z_sorted, z_str := PySem.W.mg_none_of X G z_str, z_tuple := PySem.W.mg_none_of X G z_tuple, u_LETTERS := .str "abcdefghijklmnopqrstuvwxyz" t_LETTERS, g_LETTERS := PySem.W.mg_of X G a_LETTERS, r_LETTERS := ⟨_, rfl⟩, u_LONGEST := .int 8 t_LONGEST, g_LONGEST := PySem.W.mg_of X G a_LONGEST, r_LONGEST := ⟨_, rfl⟩, a_WORDS := f_WORDS, g_WORDS := PySem.W.mg_of X G a_WORDS, q_WORDS := fun H => .inr ⟨_, _, _, l_WORDS, rfl, rfl, (by show 4 ≤ sizeLine; decide), .cons ⟨_, rfl⟩ (.cons ⟨_, rfl⟩ (.cons ⟨_, rfl⟩ (.cons ⟨_, rfl⟩ (.nil))))⟩ }
  exact ⟨T.d_law, fun s v => .of_eq rfl, fun base _ _ => by
    have G_is_name : FnOk l.prog w K mg base (L2.CX l.prog w) 1 T.a_is_name T.d_is_name ["thing"] (spOf K (φ_is_name T)) := ok_is_name T 
    have G_is_path_text : FnOk l.prog w K mg base (L2.CX l.prog w) 2 T.a_is_path_text T.d_is_path_text ["thing"] (spOf K (φ_is_path_text T)) := ok_is_path_text T G_is_name
    have G_Path___init__ : FnOk l.prog w K mg base (L2.CX l.prog w) 3 T.a_Path___init__ T.d_Path___init__ ["self", "text"] (spOf K (φ_Path___init__ T)) := ok_Path___init__ T G_is_path_text
    have G_Path_steps : FnOk l.prog w K mg base (L2.CX l.prog w) 1 T.a_Path_steps T.d_Path_steps ["self"] (spOf K (φ_Path_steps T)) := ok_Path_steps T 
    have G_path_of : FnOk l.prog w K mg base (L2.CX l.prog w) 5 T.a_path_of T.d_path_of ["steps", "rooted", "ended"] (spOf K (φ_path_of T)) := ok_path_of T G_Path___init__ G_is_name
    have G_Strikes___init__ : FnOk l.prog w K mg base (L2.CX l.prog w) 1 T.a_Strikes___init__ T.d_Strikes___init__ ["self", "words"] (spOf K (φ_Strikes___init__ T)) := ok_Strikes___init__ T 
    have G_Strikes___contains__ : FnOk l.prog w K mg base (L2.CX l.prog w) 1 T.a_Strikes___contains__ T.d_Strikes___contains__ ["self", "thing"] (spOf K (φ_Strikes___contains__ T)) := ok_Strikes___contains__ T 
    have G_Strikes_words : FnOk l.prog w K mg base (L2.CX l.prog w) 1 T.a_Strikes_words T.d_Strikes_words ["self"] (spOf K (φ_Strikes_words T)) := ok_Strikes_words T 
    have G_tidied : FnOk l.prog w K mg base (L2.CX l.prog w) 6 T.a_tidied T.d_tidied ["path", "strikes"] (spOf K (φ_tidied T)) := ok_tidied T G_Path_steps G_Strikes___contains__ G_is_name G_path_of
    have G_place_of : FnOk l.prog w K mg base (L2.CX l.prog w) 2 T.a_place_of T.d_place_of ["thing"] (spOf K (φ_place_of T)) := ok_place_of T G_is_name
    have G_Walk___init__ : FnOk l.prog w K mg base (L2.CX l.prog w) 1 T.a_Walk___init__ T.d_Walk___init__ ["self", "tree"] (spOf K (φ_Walk___init__ T)) := ok_Walk___init__ T 
    have G_Tree_kind : FnOk l.prog w K mg base (L2.CX l.prog w) 3 T.a_Tree_kind T.d_Tree_kind ["self", "place"] (spOf K (φ_Tree_kind T)) := ok_Tree_kind T G_place_of
    have G_Tree_target : FnOk l.prog w K mg base (L2.CX l.prog w) 3 T.a_Tree_target T.d_Tree_target ["self", "place"] (spOf K (φ_Tree_target T)) := ok_Tree_target T G_place_of
    have G_Walk_goes : FnOk l.prog w K mg base (L2.CX l.prog w) 47 T.a_Walk_goes T.d_Walk_goes ["self", "path", "place", "itself", "open_links"] (spOf K (φ_Walk_goes T 14)) := ok_Walk_goes T G_Path_steps G_Tree_kind G_Tree_target 14
    have G_Tree___init__ : FnOk l.prog w K mg base (L2.CX l.prog w) 1 T.a_Tree___init__ T.d_Tree___init__ ["self"] (spOf K (φ_Tree___init__ T)) := ok_Tree___init__ T 
    have G_Tree_check_free : FnOk l.prog w K mg base (L2.CX l.prog w) 4 T.a_Tree_check_free T.d_Tree_check_free ["self", "place"] (spOf K (φ_Tree_check_free T)) := ok_Tree_check_free T G_Tree_kind
    have G_Tree_put : FnOk l.prog w K mg base (L2.CX l.prog w) 5 T.a_Tree_put T.d_Tree_put ["self", "place", "kind", "path"] (spOf K (φ_Tree_put T)) := ok_Tree_put T G_Tree_check_free
    have G_Tree_folder : FnOk l.prog w K mg base (L2.CX l.prog w) 6 T.a_Tree_folder T.d_Tree_folder ["self", "place"] (spOf K (φ_Tree_folder T)) := ok_Tree_folder T G_Tree_put
    have G_Tree_file : FnOk l.prog w K mg base (L2.CX l.prog w) 6 T.a_Tree_file T.d_Tree_file ["self", "place"] (spOf K (φ_Tree_file T)) := ok_Tree_file T G_Tree_put
    have G_Tree_link : FnOk l.prog w K mg base (L2.CX l.prog w) 6 T.a_Tree_link T.d_Tree_link ["self", "place", "path"] (spOf K (φ_Tree_link T)) := ok_Tree_link T G_Tree_put
    have G_Tree_walked : FnOk l.prog w K mg base (L2.CX l.prog w) 48 T.a_Tree_walked T.d_Tree_walked ["self", "path", "start", "itself"] (spOf K (φ_Tree_walked T)) := ok_Tree_walked T G_Tree_kind G_Walk___init__ G_Walk_goes
    have G_Tree_lead : FnOk l.prog w K mg base (L2.CX l.prog w) 49 T.a_Tree_lead T.d_Tree_lead ["self", "path", "start", "itself"] (spOf K (φ_Tree_lead T)) := ok_Tree_lead T G_Tree_walked
    have G__law_draw : FnOk l.prog w K mg base (L2.CX l.prog w) 1 T.a__law_draw T.d__law_draw ["_law_stream", "_law_many"] (spOf K (φ__law_draw T)) := ok__law_draw T 
    have G__law_pick : FnOk l.prog w K mg base (L2.CX l.prog w) 2 T.a__law_pick T.d__law_pick ["_law_stream", "_law_some"] (spOf K (φ__law_pick T)) := ok__law_pick T G__law_draw
    have G__law_p_written : FnOk l.prog w K mg base (L2.CX l.prog w) 3 T.a__law_p_written T.d__law_p_written ["_law_stream", "_law_names_here", "_law_most"] (spOf K (φ__law_p_written T)) := ok__law_p_written T G__law_draw G__law_pick
    have G__law_t_drawn : FnOk l.prog w K mg base (L2.CX l.prog w) 4 T.a__law_t_drawn T.d__law_t_drawn ["_law_stream", "_law_names_here", "_law_most"] (spOf K (φ__law_t_drawn T)) := ok__law_t_drawn T G__law_draw G__law_p_written G__law_pick
    have G__law_t_up : FnOk l.prog w K mg base (L2.CX l.prog w) 1 T.a__law_t_up T.d__law_t_up ["_law_tree"] (spOf K (φ__law_t_up T)) := ok__law_t_up T 
    have G__law_t_built : FnOk l.prog w K mg base (L2.CX l.prog w) 7 T.a__law_t_built T.d__law_t_built ["_law_tree"] (spOf K (φ__law_t_built T)) := ok__law_t_built T G_Path___init__ G_Tree___init__ G_Tree_file G_Tree_folder G_Tree_link G__law_t_up
    have G__law_t_folders : FnOk l.prog w K mg base (L2.CX l.prog w) 1 T.a__law_t_folders T.d__law_t_folders ["_law_tree"] (spOf K (φ__law_t_folders T)) := ok__law_t_folders T 
    have G__law_start : FnOk l.prog w K mg base (L2.CX l.prog w) 1 T.a__law_start T.d__law_start ["_law_script"] (spStart K) := ok__law_start T 
    have G__law_name : FnOk l.prog w K mg base (L2.CX l.prog w) 3 T.a__law_name T.d__law_name ["_law_stream"] (spOf K (φ__law_name T)) := ok__law_name T G__law_draw G__law_pick
    have G__law_names : FnOk l.prog w K mg base (L2.CX l.prog w) 4 T.a__law_names T.d__law_names ["_law_stream", "_law_many"] (spOf K (φ__law_names T)) := ok__law_names T G__law_name
    have G_law : FnOk l.prog w K mg base (L2.CX l.prog w) 50 T.a_law T.d_law ["_law_script"] (spLaw K) := ok_law T G_Path___init__ G_Strikes___init__ G_Tree_lead G__law_draw G__law_names G__law_p_written G__law_start G__law_t_built G__law_t_drawn G__law_t_folders G_tidied
    exact G_law⟩
theorem cx_false {P : Program} {w : World} {outer : List PySem.Env} {H : Hp} {s : Shared} {u : Value} {s' : Shared} (h : L2.CX P w outer H s (fun _ _ _ => False) u s') : False := by
  obtain ⟨_, _, _, _, _, _, _, _, _, _, _, _, z⟩ := h
  exact z
theorem walk {l : PySem.W.OpenLaw} {q : Program} {loose : List Str} {XP : (Str → Option Value) → Heap → Prop} {YP : World → Heap → Prop} {d : DefRec} {K : Params → PySem.W.Frag} (hn : l.most = some 63) (hdf : d.params.defaults = [])
    (hY : ∀ (w : World) (h : Heap), YP w h → (K w.params).In h)
    (F : ∀ (w : World) (mg : Str → Option Value) (fa : Addr) (h : Heap), (K w.params).In h → h.Ns mainGlobals mg → mg d.name = some (.ref fa) →
      ∃ fd : FuncData, (∀ (s : Shared) (u : Value), BindsTo s fd ⟨[u], []⟩ [("_law_script", u)]) ∧ ∀ base : Heap, (K w.params).In base → base.Ns mainGlobals mg → FnOk l.prog w (K w.params) mg base (L2.CX l.prog w) 50 fa fd ["_law_script"] (spLaw (K w.params))) :
    PySem.W.WalkO q loose XP YP l.row.toRowW d [] (fun f vs => PySem.call f vs) :=
  L2.walk_of (n := 63) (k := 50) (x := "_law_script") (CX := fun w => L2.CX l.prog w) (sp := fun w => spLaw (K w.params)) hn (by decide) hdf ⟨rfl, by decide, by decide⟩ hY F (fun _ _ a ns hl _ hS => ⟨a, ns, rfl, hS, hl, fun _ => rfl⟩) fun _ _ _ _ _ z => cx_false z
end My
open PySem PySem.W PyProof.Rows in
set_option maxRecDepth 100000 in
set_option maxHeartbeats 0 in
theorem PySem.Challenge.cw_unwalked_k53_whole_tidied_in_trees_holds : PySem.Challenge.rw_unwalked_k53_whole_tidied_in_trees.Holds := by
  w_on; o_law; k_head; (case hw => w_witness2)
  k_fill
  refine My.walk (l := PySem.Challenge.rw_unwalked_k53_whole_tidied_in_trees) rfl rfl (fun w h Y => PySem.W.kIn_of Y) ?F
  case F =>
    intro w mg fa h KX G hmg
    refine' My.all_mk KX G hmg ?a_is_name ?l_is_name ?c_is_name ?k_is_name ?a_is_path_text ?l_is_path_text ?c_is_path_text ?k_is_path_text ?a_Path___init__ ?i_Path___init__ ?l_Path___init__ ?c_Path___init__ ?k_Path___init__ ?a_Path_steps ?i_Path_steps ?l_Path_steps ?c_Path_steps ?k_Path_steps ?kd0_path_of ?kd1_path_of ?a_path_of ?l_path_of ?c_path_of ?k_path_of ?dt_Strikes___init__ ?a_Strikes___init__ ?i_Strikes___init__ ?l_Strikes___init__ ?c_Strikes___init__ ?k_Strikes___init__ ?a_Strikes___contains__ ?i_Strikes___contains__ ?l_Strikes___contains__ ?c_Strikes___contains__ ?k_Strikes___contains__ ?a_Strikes_words ?i_Strikes_words ?l_Strikes_words ?c_Strikes_words ?k_Strikes_words ?a_tidied ?l_tidied ?c_tidied ?k_tidied ?a_place_of ?l_place_of ?c_place_of ?k_place_of ?a_Walk___init__ ?i_Walk___init__ ?l_Walk___init__ ?c_Walk___init__ ?k_Walk___init__ ?kd0_Walk_goes ?xt1_Walk_goes ?kd1_Walk_goes ?a_Walk_goes ?i_Walk_goes ?l_Walk_goes ?c_Walk_goes ?k_Walk_goes ?a_Walk_stepped ?i_Walk_stepped ?l_Walk_stepped ?c_Walk_stepped ?k_Walk_stepped ?a_Walk_followed ?i_Walk_followed ?l_Walk_followed ?c_Walk_followed ?k_Walk_followed ?a_Tree___init__ ?i_Tree___init__ ?l_Tree___init__ ?c_Tree___init__ ?k_Tree___init__ ?a_Tree_kind ?i_Tree_kind ?l_Tree_kind ?c_Tree_kind ?k_Tree_kind ?a_Tree_target ?i_Tree_target ?l_Tree_target ?c_Tree_target ?k_Tree_target ?a_Tree_folder ?i_Tree_folder ?l_Tree_folder ?c_Tree_folder ?k_Tree_folder ?a_Tree_file ?i_Tree_file ?l_Tree_file ?c_Tree_file ?k_Tree_file ?a_Tree_link ?i_Tree_link ?l_Tree_link ?c_Tree_link ?k_Tree_link ?a_Tree_put ?i_Tree_put ?l_Tree_put ?c_Tree_put ?k_Tree_put ?a_Tree_check_free ?i_Tree_check_free ?l_Tree_check_free ?c_Tree_check_free ?k_Tree_check_free ?a_Tree_walked ?i_Tree_walked ?l_Tree_walked ?c_Tree_walked ?k_Tree_walked ?xt0_Tree_lead ?kd0_Tree_lead ?kd1_Tree_lead ?a_Tree_lead ?i_Tree_lead ?l_Tree_lead ?c_Tree_lead ?k_Tree_lead ?a__law_p_written ?l__law_p_written ?c__law_p_written ?k__law_p_written ?a__law_t_drawn ?l__law_t_drawn ?c__law_t_drawn ?k__law_t_drawn ?a__law_t_up ?l__law_t_up ?c__law_t_up ?k__law_t_up ?a__law_t_built ?l__law_t_built ?c__law_t_built ?k__law_t_built ?a__law_t_folders ?l__law_t_folders ?c__law_t_folders ?k__law_t_folders ?a__law_start ?l__law_start ?c__law_start ?k__law_start ?a__law_draw ?l__law_draw ?c__law_draw ?k__law_draw ?a__law_pick ?l__law_pick ?c__law_pick ?k__law_pick ?a__law_name ?l__law_name ?c__law_name ?k__law_name ?a__law_names ?l__law_names ?c__law_names ?k__law_names ?a_law ?l_law ?c_law ?k_law ?aC_Path ?pg_Path ?hd_Path ?po_Path ?sa_Path ?ha_Path ?hn_Path ?ht_Path ?hm_Path ?mi_Path ?kc_Path ?n_Path_text ?n_Path_rooted ?n_Path_ended ?kt_Path_Path ?aC_Strikes ?pg_Strikes ?hd_Strikes ?po_Strikes ?sa_Strikes ?ha_Strikes ?hn_Strikes ?ht_Strikes ?hm_Strikes ?mi_Strikes ?kc_Strikes ?n_Strikes_held ?aC_Walk ?pg_Walk ?hd_Walk ?po_Walk ?sa_Walk ?ha_Walk ?hn_Walk ?ht_Walk ?hm_Walk ?mi_Walk ?kc_Walk ?n_Walk_tree ?n_Walk_sought ?n_Walk_outcomes ?n_Walk_word ?n_Walk_done ?aC_Tree ?pg_Tree ?hd_Tree ?po_Tree ?sa_Tree ?ha_Tree ?hn_Tree ?ht_Tree ?hm_Tree ?mi_Tree ?kc_Tree ?n_Tree_held ?op_Strikes___contains__ ?z_all ?z_dict ?z_enumerate ?z_int ?z_isinstance ?z_len ?z_list ?z_range ?z_sorted ?z_str ?z_tuple ?a_LETTERS ?a_LONGEST ?a_WORDS ?l_WORDS
    (case aC_Path => k_is)
    (case aC_Strikes => k_is)
    (case aC_Walk => k_is)
    (case aC_Tree => k_is)
    (case a_is_name => k_is)
    (case l_is_name => k_is)
    (case c_is_name => k_is)
    (case k_is_name => k_is)
    (case a_is_path_text => k_is)
    (case l_is_path_text => k_is)
    (case c_is_path_text => k_is)
    (case k_is_path_text => k_is)
    (case a_Path___init__ => k_is)
    (case i_Path___init__ => k_is)
    (case l_Path___init__ => k_is)
    (case c_Path___init__ => k_is)
    (case k_Path___init__ => k_is)
    (case a_Path_steps => k_is)
    (case i_Path_steps => k_is)
    (case l_Path_steps => k_is)
    (case c_Path_steps => k_is)
    (case k_Path_steps => k_is)
    (case a_path_of => k_is)
    (case l_path_of => k_is)
    (case c_path_of => k_is)
    (case k_path_of => k_is)
    (case a_Strikes___init__ => k_is)
    (case i_Strikes___init__ => k_is)
    (case l_Strikes___init__ => k_is)
    (case c_Strikes___init__ => k_is)
    (case k_Strikes___init__ => k_is)
    (case a_Strikes___contains__ => k_is)
    (case i_Strikes___contains__ => k_is)
    (case l_Strikes___contains__ => k_is)
    (case c_Strikes___contains__ => k_is)
    (case k_Strikes___contains__ => k_is)
    (case a_Strikes_words => k_is)
    (case i_Strikes_words => k_is)
    (case l_Strikes_words => k_is)
    (case c_Strikes_words => k_is)
    (case k_Strikes_words => k_is)
    (case a_tidied => k_is)
    (case l_tidied => k_is)
    (case c_tidied => k_is)
    (case k_tidied => k_is)
    (case a_place_of => k_is)
    (case l_place_of => k_is)
    (case c_place_of => k_is)
    (case k_place_of => k_is)
    (case a_Walk___init__ => k_is)
    (case i_Walk___init__ => k_is)
    (case l_Walk___init__ => k_is)
    (case c_Walk___init__ => k_is)
    (case k_Walk___init__ => k_is)
    (case a_Walk_goes => k_is)
    (case i_Walk_goes => k_is)
    (case l_Walk_goes => k_is)
    (case c_Walk_goes => k_is)
    (case k_Walk_goes => k_is)
    (case a_Walk_stepped => k_is)
    (case i_Walk_stepped => k_is)
    (case l_Walk_stepped => k_is)
    (case c_Walk_stepped => k_is)
    (case k_Walk_stepped => k_is)
    (case a_Walk_followed => k_is)
    (case i_Walk_followed => k_is)
    (case l_Walk_followed => k_is)
    (case c_Walk_followed => k_is)
    (case k_Walk_followed => k_is)
    (case a_Tree___init__ => k_is)
    (case i_Tree___init__ => k_is)
    (case l_Tree___init__ => k_is)
    (case c_Tree___init__ => k_is)
    (case k_Tree___init__ => k_is)
    (case a_Tree_kind => k_is)
    (case i_Tree_kind => k_is)
    (case l_Tree_kind => k_is)
    (case c_Tree_kind => k_is)
    (case k_Tree_kind => k_is)
    (case a_Tree_target => k_is)
    (case i_Tree_target => k_is)
    (case l_Tree_target => k_is)
    (case c_Tree_target => k_is)
    (case k_Tree_target => k_is)
    (case a_Tree_folder => k_is)
    (case i_Tree_folder => k_is)
    (case l_Tree_folder => k_is)
    (case c_Tree_folder => k_is)
    (case k_Tree_folder => k_is)
    (case a_Tree_file => k_is)
    (case i_Tree_file => k_is)
    (case l_Tree_file => k_is)
    (case c_Tree_file => k_is)
    (case k_Tree_file => k_is)
    (case a_Tree_link => k_is)
    (case i_Tree_link => k_is)
    (case l_Tree_link => k_is)
    (case c_Tree_link => k_is)
    (case k_Tree_link => k_is)
    (case a_Tree_put => k_is)
    (case i_Tree_put => k_is)
    (case l_Tree_put => k_is)
    (case c_Tree_put => k_is)
    (case k_Tree_put => k_is)
    (case a_Tree_check_free => k_is)
    (case i_Tree_check_free => k_is)
    (case l_Tree_check_free => k_is)
    (case c_Tree_check_free => k_is)
    (case k_Tree_check_free => k_is)
    (case a_Tree_walked => k_is)
    (case i_Tree_walked => k_is)
    (case l_Tree_walked => k_is)
    (case c_Tree_walked => k_is)
    (case k_Tree_walked => k_is)
    (case a_Tree_lead => k_is)
    (case i_Tree_lead => k_is)
    (case l_Tree_lead => k_is)
    (case c_Tree_lead => k_is)
    (case k_Tree_lead => k_is)
    (case a__law_p_written => k_is)
    (case l__law_p_written => k_is)
    (case c__law_p_written => k_is)
    (case k__law_p_written => k_is)
    (case a__law_t_drawn => k_is)
    (case l__law_t_drawn => k_is)
    (case c__law_t_drawn => k_is)
    (case k__law_t_drawn => k_is)
    (case a__law_t_up => k_is)
    (case l__law_t_up => k_is)
    (case c__law_t_up => k_is)
    (case k__law_t_up => k_is)
    (case a__law_t_built => k_is)
    (case l__law_t_built => k_is)
    (case c__law_t_built => k_is)
    (case k__law_t_built => k_is)
    (case a__law_t_folders => k_is)
    (case l__law_t_folders => k_is)
    (case c__law_t_folders => k_is)
    (case k__law_t_folders => k_is)
    (case a__law_start => k_is)
    (case l__law_start => k_is)
    (case c__law_start => k_is)
    (case k__law_start => k_is)
    (case a__law_draw => k_is)
    (case l__law_draw => k_is)
    (case c__law_draw => k_is)
    (case k__law_draw => k_is)
    (case a__law_pick => k_is)
    (case l__law_pick => k_is)
    (case c__law_pick => k_is)
    (case k__law_pick => k_is)
    (case a__law_name => k_is)
    (case l__law_name => k_is)
    (case c__law_name => k_is)
    (case k__law_name => k_is)
    (case a__law_names => k_is)
    (case l__law_names => k_is)
    (case c__law_names => k_is)
    (case k__law_names => k_is)
    (case a_law => k_is)
    (case l_law => k_is)
    (case c_law => k_is)
    (case k_law => k_is)
    (case pg_Path => k_is)
    (case hd_Path => k_is)
    (case po_Path => k_is)
    (case sa_Path => k_is)
    (case ha_Path => k_is)
    (case hn_Path => k_is)
    (case ht_Path => k_is)
    (case hm_Path => k_is)
    (case mi_Path => k_is)
    (case kc_Path => k_is)
    (case n_Path_text => k_is)
    (case n_Path_rooted => k_is)
    (case n_Path_ended => k_is)
    (case kt_Path_Path => kit_is)
    (case pg_Strikes => k_is)
    (case hd_Strikes => k_is)
    (case po_Strikes => k_is)
    (case sa_Strikes => k_is)
    (case ha_Strikes => k_is)
    (case hn_Strikes => k_is)
    (case ht_Strikes => k_is)
    (case hm_Strikes => k_is)
    (case mi_Strikes => k_is)
    (case kc_Strikes => k_is)
    (case n_Strikes_held => k_is)
    (case pg_Walk => k_is)
    (case hd_Walk => k_is)
    (case po_Walk => k_is)
    (case sa_Walk => k_is)
    (case ha_Walk => k_is)
    (case hn_Walk => k_is)
    (case ht_Walk => k_is)
    (case hm_Walk => k_is)
    (case mi_Walk => k_is)
    (case kc_Walk => k_is)
    (case n_Walk_tree => k_is)
    (case n_Walk_sought => k_is)
    (case n_Walk_outcomes => k_is)
    (case n_Walk_word => k_is)
    (case n_Walk_done => k_is)
    (case pg_Tree => k_is)
    (case hd_Tree => k_is)
    (case po_Tree => k_is)
    (case sa_Tree => k_is)
    (case ha_Tree => k_is)
    (case hn_Tree => k_is)
    (case ht_Tree => k_is)
    (case hm_Tree => k_is)
    (case mi_Tree => k_is)
    (case kc_Tree => k_is)
    (case n_Tree_held => k_is)
    (case op_Strikes___contains__ => k_is)
    (case z_all => k_is)
    (case z_dict => k_is)
    (case z_enumerate => k_is)
    (case z_int => k_is)
    (case z_isinstance => k_is)
    (case z_len => k_is)
    (case z_list => k_is)
    (case z_range => k_is)
    (case z_sorted => k_is)
    (case z_str => k_is)
    (case z_tuple => k_is)
    (case a_LETTERS => k_is)
    (case a_LONGEST => k_is)
    (case a_WORDS => k_is)
    (case l_WORDS => k_is)
    (case kd0_path_of => k_is)
    (case kd1_path_of => k_is)
    (case dt_Strikes___init__ => k_is)
    (case kd0_Walk_goes => k_is)
    (case kd1_Walk_goes => k_is)
    (case kd0_Tree_lead => k_is)
    (case kd1_Tree_lead => k_is)
    (case xt1_Walk_goes => k_is)
    (case xt0_Tree_lead => k_is)
#print axioms PySem.Challenge.cw_unwalked_k53_whole_tidied_in_trees_holds
