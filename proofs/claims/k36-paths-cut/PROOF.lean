import PyProof.Rows.All
import Wide.All
import OpenK.AllK
import Wide.FinOn
import HandS.ForMost
import HandS.Exc
import HandS.WordsExc
import HandS.IsInst
import HandS.StrMore
import HandS.Style
import HandS.Zip
import Wide.Txt
import HandS.Defaults
import HandS.ExcInit
import HandS.ExcField
import PyProof.EqKinds
import PyProof.FactsAll.dict_1
import HandS.Replace
import HandS.ReplaceLit
import HandS.ReplaceList
import HandS.HotCalls
import HandS.ExcInitHot
import HandS.TupAny
import HandS.TupLe
import HandS.SortOrd
import HandS.NamedTupSort
import HandS.Conv
import HandS.DictTup
import HandS.MakeKwOnly
import KE.KSortTupAny
import KE.KDictSum
import HandS.Star
import HandS.Deep
import HandS.Small
import HandS.Lambda
import HandS.EndTab
import HandS.TryMany
import HandS.TryOnly
import HandS.TupLen
import KE.KDictPairs
import KE.KDictCopyH
import PySem.Challenge.RW_unwalked_k36_paths_cut
set_option Elab.async false
set_option linter.all false
set_option maxRecDepth 100000
set_option maxHeartbeats 4000000
/-! DCore: data without addresses, and what a reading of the hand layer gives over such data. -/
namespace DD
open PySem L2

/-! ### 1. data -/
inductive D where
  | s (v : V)
  | lst (xs : List D)
  | tup (xs : List D)
  | dic (ks : List Key) (ds : List D)
  | ins (C : Addr) (ns : List Str) (ds : List D)
  /-- a tuple of texts that is tracked: it may be put as a key -/
  | pl (ns : List Str)
  /-- anything else that does not change, by what was true of it -/
  | gen (φ : Hp → V → Prop)

mutual
/-- the value v stands for the datum d in the heap H -/
def Rp (K : PySem.W.Frag) (H : Hp) : D → V → Prop
  | .s w, v => v = w
  | .lst xs, v => ∃ p vs, v = .ref p ∧ H p = some (.lst vs) ∧ RpL K H xs vs
  | .tup xs, v => ∃ p vs, v = .ref p ∧ SqT K H p vs ∧ RpL K H xs vs
  | .dic ks xs, v => ∃ p o vs, v = .ref p ∧ H p = some (.frz o (.dK (ks.zip vs))) ∧ RpL K H xs vs ∧ ks.length = xs.length
  | .ins C ns xs, v => ∃ p dx vs, v = .ref p ∧ H p = some (.ins C dx (ns.zip vs)) ∧ RpL K H xs vs ∧ ns.length = xs.length
  | .pl ns, v => ∃ p, v = .ref p ∧ H p = some (.tup (ns.map V.str))
  | .gen φ, v => ∃ Hc, Same Hc H ∧ φ Hc v
def RpL (K : PySem.W.Frag) (H : Hp) : List D → List V → Prop
  | [], vs => vs = []
  | d :: ds, vs => ∃ v r, vs = v :: r ∧ Rp K H d v ∧ RpL K H ds r
end

theorem sameT {K : PySem.W.Frag} {H H' : Hp} {a : Addr} {xs : List V} (e : Same H H') (h : SqT K H a xs) : SqT K H' a xs := by
  rcases h with (h | ⟨o, h⟩) | h
  · exact .inl (.inl (e _ _ h))
  · exact .inl (.inr ⟨o, e _ _ h⟩)
  · exact .inr h
theorem Same.new {H : Hp} {p : Addr} {o : HO} (h : H p = none) : Same H (upd H p o) := fun a u e => by
  rw [upd_ne (ne_of_none e h)]
  exact e

mutual
theorem Rp.mono {K : PySem.W.Frag} {H H' : Hp} (e : Same H H') : ∀ (d : D) (v : V), Rp K H d v → Rp K H' d v
  | .s w, v, h => by
    unfold Rp at h ⊢
    exact h
  | .lst xs, v, h => by
    unfold Rp at h ⊢
    obtain ⟨p, vs, h1, h2, h3⟩ := h
    exact ⟨p, vs, h1, e _ _ h2, RpL.mono e xs vs h3⟩
  | .tup xs, v, h => by
    unfold Rp at h ⊢
    obtain ⟨p, vs, h1, h2, h3⟩ := h
    exact ⟨p, vs, h1, sameT e h2, RpL.mono e xs vs h3⟩
  | .dic ks xs, v, h => by
    unfold Rp at h ⊢
    obtain ⟨p, o, vs, h1, h2, h3, h4⟩ := h
    exact ⟨p, o, vs, h1, e _ _ h2, RpL.mono e xs vs h3, h4⟩
  | .ins C ns xs, v, h => by
    unfold Rp at h ⊢
    obtain ⟨p, dx, vs, h1, h2, h3, h4⟩ := h
    exact ⟨p, dx, vs, h1, e _ _ h2, RpL.mono e xs vs h3, h4⟩
  | .pl ns, v, h => by
    unfold Rp at h ⊢
    obtain ⟨p, h1, h2⟩ := h
    exact ⟨p, h1, e _ _ h2⟩
  | .gen φ, v, h => by
    unfold Rp at h ⊢
    obtain ⟨Hc, h1, h2⟩ := h
    exact ⟨Hc, h1.trans e, h2⟩
theorem RpL.mono {K : PySem.W.Frag} {H H' : Hp} (e : Same H H') : ∀ (ds : List D) (vs : List V), RpL K H ds vs → RpL K H' ds vs
  | [], vs, h => by
    unfold RpL at h ⊢
    exact h
  | d :: ds, vs, h => by
    unfold RpL at h ⊢
    obtain ⟨v, r, h1, h2, h3⟩ := h
    exact ⟨v, r, h1, Rp.mono e d v h2, RpL.mono e ds r h3⟩
end
section
variable {K : PySem.W.Frag} {H H' : Hp}
theorem RpL.length : ∀ {ds : List D} {vs : List V}, RpL K H ds vs → vs.length = ds.length
  | [], vs, h => by
    unfold RpL at h
    rw [h]
    rfl
  | d :: ds, vs, h => by
    unfold RpL at h
    obtain ⟨v, r, rfl, h2, h3⟩ := h
    simp [RpL.length h3]
theorem RpL.get : ∀ {ds : List D} {vs : List V} {i : Nat} {d : D}, RpL K H ds vs → ds[i]? = some d → ∃ v, vs[i]? = some v ∧ Rp K H d v
  | [], _, _, _, _, e => by simp at e
  | d :: ds, vs, 0, d', h, e => by
    unfold RpL at h
    obtain ⟨v, r, rfl, h2, h3⟩ := h
    simp at e
    subst e
    exact ⟨v, rfl, h2⟩
  | d :: ds, vs, i + 1, d', h, e => by
    unfold RpL at h
    obtain ⟨v, r, rfl, h2, h3⟩ := h
    obtain ⟨u, q1, q2⟩ := RpL.get (i := i) h3 (by simpa using e)
    exact ⟨u, by simpa using q1, q2⟩
theorem RpL.get' : ∀ {ds : List D} {vs : List V} {i : Nat} {v : V}, RpL K H ds vs → vs[i]? = some v → ∃ d, ds[i]? = some d ∧ Rp K H d v
  | [], vs, i, v, h, e => by
    unfold RpL at h
    subst h
    simp at e
  | d :: ds, vs, 0, v, h, e => by
    unfold RpL at h
    obtain ⟨v', r, rfl, h2, h3⟩ := h
    simp at e
    subst e
    exact ⟨d, rfl, h2⟩
  | d :: ds, vs, i + 1, v, h, e => by
    unfold RpL at h
    obtain ⟨v', r, rfl, h2, h3⟩ := h
    obtain ⟨u, q1, q2⟩ := RpL.get' (i := i) h3 (by simpa using e)
    exact ⟨u, by simpa using q1, q2⟩
theorem RpL.nil : RpL K H [] [] := by
  unfold RpL
  rfl
theorem RpL.cons {d : D} {v : V} {ds : List D} {vs : List V} (h : Rp K H d v) (hs : RpL K H ds vs) : RpL K H (d :: ds) (v :: vs) := by
  unfold RpL
  exact ⟨v, vs, rfl, h, hs⟩
theorem RpL.app : ∀ {ds es : List D} {vs us : List V}, RpL K H ds vs → RpL K H es us → RpL K H (ds ++ es) (vs ++ us)
  | [], es, vs, us, h, h' => by
    unfold RpL at h
    subst h
    exact h'
  | d :: ds, es, vs, us, h, h' => by
    unfold RpL at h
    obtain ⟨v, r, rfl, h2, h3⟩ := h
    exact RpL.cons h2 (RpL.app h3 h')
theorem RpL.take : ∀ {ds : List D} {vs : List V} (n : Nat), RpL K H ds vs → RpL K H (ds.take n) (vs.take n)
  | _, _, 0, _ => by
    simp
    exact RpL.nil
  | [], vs, n + 1, h => by
    unfold RpL at h
    subst h
    exact RpL.nil
  | d :: ds, vs, n + 1, h => by
    unfold RpL at h
    obtain ⟨v, r, rfl, h2, h3⟩ := h
    exact RpL.cons h2 (RpL.take n h3)
theorem RpL.drop : ∀ {ds : List D} {vs : List V} (n : Nat), RpL K H ds vs → RpL K H (ds.drop n) (vs.drop n)
  | _, _, 0, h => h
  | [], vs, n + 1, h => by
    unfold RpL at h
    subst h
    exact RpL.nil
  | d :: ds, vs, n + 1, h => by
    unfold RpL at h
    obtain ⟨v, r, rfl, h2, h3⟩ := h
    exact RpL.drop n h3
theorem RpL.ofScal : ∀ (vs : List V), RpL K H (vs.map D.s) vs
  | [] => RpL.nil
  | v :: vs => RpL.cons (by unfold Rp; rfl) (RpL.ofScal vs)
theorem RpL.scal : ∀ {vs us : List V}, RpL K H (vs.map D.s) us → us = vs
  | [], us, h => by
    unfold RpL at h
    exact h
  | v :: vs, us, h => by
    unfold RpL at h
    obtain ⟨u, r, rfl, h2, h3⟩ := h
    unfold Rp at h2
    rw [h2, RpL.scal h3]
theorem RpL.set : ∀ {ds : List D} {vs : List V} {d : D} {v : V} (i : Nat), RpL K H ds vs → Rp K H d v → RpL K H (ds.set i d) (vs.set i v)
  | [], vs, d, v, i, h, h' => by
    unfold RpL at h
    subst h
    exact RpL.nil
  | e :: ds, vs, d, v, 0, h, h' => by
    unfold RpL at h
    obtain ⟨u, r, rfl, h2, h3⟩ := h
    exact RpL.cons h' h3
  | e :: ds, vs, d, v, i + 1, h, h' => by
    unfold RpL at h
    obtain ⟨u, r, rfl, h2, h3⟩ := h
    exact RpL.cons h2 (RpL.set i h3 h')
end

/-! ### 2. what stands beside the data: owned objects, the number of draws -/
inductive MO where
  | lst (ds : List D)
  | ins (C : Addr) (ns : List Str) (ds : List D)
  | dK (ks : List Key) (ds : List D)
  | dT (ks : List (List Str)) (ds : List D)
  | stm (c : Addr)
  | cel
  /-- any other object that is no tuple, by what is true of it -/
  | gen (φ : Hp → HO → Prop)
structure Mem where
  cnt : Nat
  own : Addr → Option MO
def putM (m : Addr → Option MO) (a : Addr) (o : MO) : Addr → Option MO := fun b => if b = a then some o else m b
def dropM (m : Addr → Option MO) (a : Addr) : Addr → Option MO := fun b => if b = a then none else m b
theorem putM_same {m : Addr → Option MO} {a : Addr} {o : MO} : putM m a o a = some o := if_pos rfl
theorem putM_ne {m : Addr → Option MO} {a b : Addr} {o : MO} (h : b ≠ a) : putM m a o b = m b := if_neg h
theorem putM_put {m : Addr → Option MO} {a : Addr} {o u : MO} : putM (putM m a o) a u = putM m a u := by
  funext b
  unfold putM
  split <;> rfl
theorem dropM_same {m : Addr → Option MO} {a : Addr} : dropM m a a = none := if_pos rfl
theorem dropM_ne {m : Addr → Option MO} {a b : Addr} (h : b ≠ a) : dropM m a b = m b := if_neg h
theorem dropM_put {m : Addr → Option MO} {a : Addr} {o : MO} (h : m a = none) : dropM (putM m a o) a = m := by
  funext b
  unfold dropM putM
  split
  · rename_i e
    rw [e, h]
  · rfl
def StOk (s1 s2 s3 : Int) (cnt : Nat) : Prop := 0 ≤ s1 ∧ (0 ≤ s2 ∧ s2 ≤ cnt) ∧ 0 ≤ s3 ∧ s3 < 2147483647
def CelOk (ns : List Int) : Prop := ns.length ≤ 63
def RepM (K : PySem.W.Frag) (Hb H : Hp) (cnt : Nat) (a : Addr) : MO → Prop
  | .lst ds => ∃ vs, H a = some (.lst vs) ∧ RpL K Hb ds vs
  | .ins C ns ds => ∃ dx vs, H a = some (.ins C dx (ns.zip vs)) ∧ RpL K Hb ds vs ∧ ns.length = ds.length
  | .dK ks ds => ∃ vs, H a = some (.dK (ks.zip vs)) ∧ RpL K Hb ds vs ∧ ks.length = ds.length
  | .dT ks ds => ∃ vs, H a = some (.dT ((ks.map fun k => k.map Sum.inr).zip vs)) ∧ RpL K Hb ds vs ∧ ks.length = ds.length
  | .stm c => ∃ s1 s2 s3, H a = some (.lst [.ref c, .int s1, .int s2, .int s3]) ∧ StOk s1 s2 s3 cnt
  | .cel => ∃ ns : List Int, H a = some (.lst (ns.map V.int)) ∧ CelOk ns
  | .gen φ => ∃ o Hc, H a = some o ∧ Same Hc Hb ∧ φ Hc o ∧ ∀ xs, o ≠ .tup xs
structure Rel (K : PySem.W.Frag) (F Hb H : Hp) (m : Mem) : Prop where
  sub : Same Hb H
  fr : ∀ a o, F a = some o → H a = some o ∧ Hb a = none ∧ m.own a = none
  own : ∀ a mo, m.own a = some mo → Hb a = none ∧ RepM K Hb H m.cnt a mo
  nt : ∀ a xs, F a ≠ some (.tup xs)
theorem nt_upd {F : Hp} {p : Addr} {o : HO} (h : ∀ a xs, F a ≠ some (.tup xs)) (ho : ∀ xs, o ≠ .tup xs) : ∀ a xs, upd F p o a ≠ some (.tup xs) := fun a xs e => by
  by_cases ha : a = p
  · rw [ha, upd_same] at e
    exact ho xs (Option.some.inj e)
  · rw [upd_ne ha] at e
    exact h a xs e
theorem nt_of {F : Hp} {p : Addr} {o : HO} (h : ∀ a xs, upd F p o a ≠ some (.tup xs)) (hF : F p = none) : ∀ a xs, F a ≠ some (.tup xs) := fun a xs e => by
  refine h a xs ?_
  rw [upd_ne (ne_of_none e hF)]
  exact e
section
variable {K : PySem.W.Frag} {F Hb Hb' H H' : Hp} {m : Mem} {a p : Addr}
theorem RepM.some {cnt : Nat} {mo : MO} (h : RepM K Hb H cnt a mo) : ∃ o, H a = some o := by
  cases mo with
  | lst ds => obtain ⟨vs, e, _⟩ := h; exact ⟨_, e⟩
  | ins C ns ds => obtain ⟨dx, vs, e, _⟩ := h; exact ⟨_, e⟩
  | dK ks ds => obtain ⟨vs, e, _⟩ := h; exact ⟨_, e⟩
  | dT ks ds => obtain ⟨vs, e, _⟩ := h; exact ⟨_, e⟩
  | stm c => obtain ⟨s1, s2, s3, e, _⟩ := h; exact ⟨_, e⟩
  | cel => obtain ⟨ns, e, _⟩ := h; exact ⟨_, e⟩
  | gen φ => obtain ⟨o, Hc, e, _⟩ := h; exact ⟨_, e⟩
theorem RepM.mono {cnt cnt' : Nat} {mo : MO} (h : RepM K Hb H cnt a mo) (e : Same Hb Hb') (ea : H' a = H a) (hc : cnt ≤ cnt') : RepM K Hb' H' cnt' a mo := by
  cases mo with
  | lst ds => obtain ⟨vs, q, r⟩ := h; exact ⟨vs, ea.trans q, r.mono e⟩
  | ins C ns ds => obtain ⟨dx, vs, q, r, l⟩ := h; exact ⟨dx, vs, ea.trans q, r.mono e, l⟩
  | dK ks ds => obtain ⟨vs, q, r, l⟩ := h; exact ⟨vs, ea.trans q, r.mono e, l⟩
  | dT ks ds => obtain ⟨vs, q, r, l⟩ := h; exact ⟨vs, ea.trans q, r.mono e, l⟩
  | stm c => obtain ⟨s1, s2, s3, q, r1, r2, r3⟩ := h; exact ⟨s1, s2, s3, ea.trans q, r1, ⟨r2.1, by omega⟩, r3⟩
  | cel => obtain ⟨ns, q, r⟩ := h; exact ⟨ns, ea.trans q, r⟩
  | gen φ => obtain ⟨o, Hc, q, r, l⟩ := h; exact ⟨o, Hc, ea.trans q, r.trans e, l⟩
theorem Rel.fresh (r : Rel K F Hb H m) (h : H p = none) : Hb p = none := r.sub.free h
theorem Rel.free (r : Rel K F Hb H m) (h : H p = none) : m.own p = none := by
  cases e : m.own p with
  | none => rfl
  | some mo =>
    obtain ⟨o, q⟩ := (r.own p mo e).2.some
    rw [h] at q
    cases q
theorem Rel.nofr (r : Rel K F Hb H m) (h : H p = none) : F p = none := by
  cases e : F p with
  | none => rfl
  | some o =>
    rw [(r.fr p o e).1] at h
    cases h
theorem ne_fr {b : Addr} {o : HO} (h : F b = some o) (h' : F p = none) : b ≠ p := fun z => by
  rw [z, h'] at h
  cases h
/-- a new object that is data from now on -/
theorem Rel.data {o : HO} (r : Rel K F Hb H m) (h : H p = none) : Rel K F (upd Hb p o) (upd H p o) m := by
  refine ⟨fun b u e => ?_, fun b u e => ?_, fun b mo e => ?_, r.nt⟩
  · by_cases hb : b = p
    · subst hb
      rw [upd_same] at e ⊢
      exact e
    · rw [upd_ne hb] at e ⊢
      exact r.sub b u e
  · have hb := ne_fr e (r.nofr h)
    rw [upd_ne hb, upd_ne hb]
    exact r.fr b u e
  · obtain ⟨q1, q2⟩ := r.own b mo e
    have hb : b ≠ p := fun z => by
      rw [z, r.free h] at e
      cases e
    exact ⟨by rw [upd_ne hb]; exact q1, q2.mono (Same.new (r.fresh h)) (upd_ne hb) (Nat.le_refl _)⟩
/-- a new object that is owned -/
theorem Rel.owned {o : HO} {mo : MO} (r : Rel K F Hb H m) (h : H p = none) (new : RepM K Hb (upd H p o) m.cnt p mo) : Rel K F Hb (upd H p o) { m with own := putM m.own p mo } := by
  refine ⟨fun b u e => ?_, fun b u e => ?_, fun b mo' e => ?_, r.nt⟩
  · rw [upd_ne (ne_of_none (r.sub b u e) h)]
    exact r.sub b u e
  · have hb := ne_fr e (r.nofr h)
    rw [upd_ne hb]
    exact ⟨(r.fr b u e).1, (r.fr b u e).2.1, (putM_ne hb).trans (r.fr b u e).2.2⟩
  · by_cases hb : b = p
    · subst hb
      rw [show ({ m with own := putM m.own b mo } : Mem).own b = some mo from putM_same] at e
      cases e
      exact ⟨r.fresh h, new⟩
    · have e' : m.own b = some mo' := by
        rw [← e]
        exact (putM_ne hb).symm
      obtain ⟨q1, q2⟩ := r.own b mo' e'
      exact ⟨q1, q2.mono (Same.refl _) (upd_ne hb) (Nat.le_refl _)⟩
theorem Rel.ownF {mo : MO} (r : Rel K F Hb H m) (h : m.own p = some mo) : F p = none := by
  cases e : F p with
  | none => rfl
  | some o =>
    rw [(r.fr p o e).2.2] at h
    cases h
/-- an owned object changes -/
theorem Rel.change {o : HO} {mo mo' : MO} (r : Rel K F Hb H m) (h : m.own p = some mo) (new : RepM K Hb (upd H p o) m.cnt p mo') : Rel K F Hb (upd H p o) { m with own := putM m.own p mo' } := by
  have hn := (r.own p mo h).1
  refine ⟨fun b u e => ?_, fun b u e => ?_, fun b mo1 e => ?_, r.nt⟩
  · rw [upd_ne (ne_of_none e hn)]
    exact r.sub b u e
  · have hb := ne_fr e (r.ownF h)
    rw [upd_ne hb]
    exact ⟨(r.fr b u e).1, (r.fr b u e).2.1, (putM_ne hb).trans (r.fr b u e).2.2⟩
  · by_cases hb : b = p
    · subst hb
      rw [show ({ m with own := putM m.own b mo' } : Mem).own b = some mo' from putM_same] at e
      cases e
      exact ⟨hn, new⟩
    · have e' : m.own b = some mo1 := by
        rw [← e]
        exact (putM_ne hb).symm
      obtain ⟨q1, q2⟩ := r.own b mo1 e'
      exact ⟨q1, q2.mono (Same.refl _) (upd_ne hb) (Nat.le_refl _)⟩
/-- an owned object becomes data -/
theorem Rel.freeze {o : HO} {mo : MO} (r : Rel K F Hb H m) (h : m.own p = some mo) (hp : H p = some o) : Rel K F (upd Hb p o) H { m with own := dropM m.own p } := by
  have hn := (r.own p mo h).1
  refine ⟨fun b u e => ?_, fun b u e => ?_, fun b mo1 e => ?_, r.nt⟩
  · by_cases hb : b = p
    · subst hb
      rw [upd_same] at e
      rw [hp]
      exact e
    · rw [upd_ne hb] at e
      exact r.sub b u e
  · have hb := ne_fr e (r.ownF h)
    rw [upd_ne hb]
    exact ⟨(r.fr b u e).1, (r.fr b u e).2.1, (dropM_ne hb).trans (r.fr b u e).2.2⟩
  · by_cases hb : b = p
    · subst hb
      have q : (none : Option MO) = some mo1 := by
        rw [← e]
        exact dropM_same.symm
      cases q
    · have e' : m.own b = some mo1 := by
        rw [← e]
        exact (dropM_ne hb).symm
      obtain ⟨q1, q2⟩ := r.own b mo1 e'
      exact ⟨by rw [upd_ne hb]; exact q1, q2.mono (Same.new hn) rfl (Nat.le_refl _)⟩
/-- a new object that stands aside -/
theorem Rel.aside {o : HO} (r : Rel K F Hb H m) (h : H p = none) (ho : ∀ xs, o ≠ .tup xs := by intro _ z; cases z) : Rel K (upd F p o) Hb (upd H p o) m := by
  refine ⟨fun b u e => ?_, fun b u e => ?_, fun b mo e => ?_, nt_upd r.nt ho⟩
  · rw [upd_ne (ne_of_none (r.sub b u e) h)]
    exact r.sub b u e
  · by_cases hb : b = p
    · subst hb
      rw [upd_same] at e ⊢
      exact ⟨e, r.fresh h, r.free h⟩
    · rw [upd_ne hb] at e ⊢
      exact r.fr b u e
  · obtain ⟨q1, q2⟩ := r.own b mo e
    have hb : b ≠ p := fun z => by
      rw [z, r.free h] at e
      cases e
    exact ⟨q1, q2.mono (Same.refl _) (upd_ne hb) (Nat.le_refl _)⟩
theorem upd_back {F : Hp} {p : Addr} {o u : HO} (h : F p = none) {b : Addr} {x : HO} (e : F b = some x) : upd F p o b = some x := by
  rw [upd_ne (ne_of_none e h)]
  exact e
/-- what stands aside changes -/
theorem Rel.turnA {o u : HO} (r : Rel K (upd F p o) Hb H m) (hu : ∀ xs, u ≠ .tup xs := by intro _ z; cases z) : Rel K (upd F p u) Hb (upd H p u) m := by
  obtain ⟨h1, h2, h3⟩ := r.fr p o upd_same
  refine ⟨fun b x e => ?_, fun b x e => ?_, fun b mo e => ?_, fun a xs e => ?_⟩
  · rw [upd_ne (ne_of_none e h2)]
    exact r.sub b x e
  · by_cases hb : b = p
    · subst hb
      rw [upd_same] at e ⊢
      exact ⟨e, h2, h3⟩
    · rw [upd_ne hb] at e ⊢
      exact r.fr b x (by rw [upd_ne hb]; exact e)
  · obtain ⟨q1, q2⟩ := r.own b mo e
    have hb : b ≠ p := fun z => by
      rw [z, h3] at e
      cases e
    exact ⟨q1, q2.mono (Same.refl _) (upd_ne hb) (Nat.le_refl _)⟩
  · by_cases ha : a = p
    · rw [ha, upd_same] at e
      exact hu xs (Option.some.inj e)
    · rw [upd_ne ha] at e
      exact r.nt a xs (by rw [upd_ne ha]; exact e)
/-- what stood aside becomes data -/
theorem Rel.settle {o : HO} (r : Rel K (upd F p o) Hb H m) (hF : F p = none) : Rel K F (upd Hb p o) H m := by
  obtain ⟨h1, h2, h3⟩ := r.fr p o upd_same
  refine ⟨fun b x e => ?_, fun b x e => ?_, fun b mo e => ?_, nt_of r.nt hF⟩
  · by_cases hb : b = p
    · subst hb
      rw [upd_same] at e
      rw [h1]
      exact e
    · rw [upd_ne hb] at e
      exact r.sub b x e
  · have hb := ne_fr e hF
    rw [upd_ne hb]
    exact r.fr b x (by rw [upd_ne hb]; exact e)
  · obtain ⟨q1, q2⟩ := r.own b mo e
    have hb : b ≠ p := fun z => by
      rw [z, h3] at e
      cases e
    exact ⟨by rw [upd_ne hb]; exact q1, q2.mono (Same.new h2) rfl (Nat.le_refl _)⟩
/-- .. an owned object -/
theorem Rel.take {o : HO} {mo : MO} (r : Rel K (upd F p o) Hb H m) (hF : F p = none) (new : RepM K Hb H m.cnt p mo) : Rel K F Hb H { m with own := putM m.own p mo } := by
  obtain ⟨h1, h2, h3⟩ := r.fr p o upd_same
  refine ⟨r.sub, fun b x e => ?_, fun b mo' e => ?_, nt_of r.nt hF⟩
  · have hb := ne_fr e hF
    obtain ⟨z1, z2, z3⟩ := r.fr b x (by rw [upd_ne hb]; exact e)
    exact ⟨z1, z2, (putM_ne hb).trans z3⟩
  · by_cases hb : b = p
    · subst hb
      rw [show ({ m with own := putM m.own b mo } : Mem).own b = some mo from putM_same] at e
      cases e
      exact ⟨h2, new⟩
    · exact r.own b mo' (by rw [← e]; exact (putM_ne hb).symm)
theorem Rel.count {n : Nat} (r : Rel K F Hb H m) (h : m.cnt ≤ n) : Rel K F Hb H { m with cnt := n } :=
  ⟨r.sub, r.fr, fun b mo e => ⟨(r.own b mo e).1, (r.own b mo e).2.mono (Same.refl _) rfl h⟩, r.nt⟩
/-- an owned object is let go -/
theorem Rel.leave (r : Rel K F Hb H m) (a : Addr) : Rel K F Hb H { m with own := dropM m.own a } := by
  refine ⟨r.sub, fun b u e => ⟨(r.fr b u e).1, (r.fr b u e).2.1, ?_⟩, fun b mo e => ?_, r.nt⟩
  · show dropM m.own a b = none
    unfold dropM
    split
    · rfl
    · exact (r.fr b u e).2.2
  by_cases hb : b = a
  · subst hb
    have q : (none : Option MO) = some mo := by
      rw [← e]
      exact dropM_same.symm
    cases q
  · exact r.own b mo (by rw [← e]; exact (dropM_ne hb).symm)
end

/-! ### 3. slots -/
abbrev Env := List (Option D)
def RpS (K : PySem.W.Frag) (H : Hp) (ρ : Env) (σ : L2.St) : Prop := ρ.length = σ.length ∧ ∀ (i : Nat) d, ρ[i]? = some (some d) → ∃ v, σ[i]? = some (some v) ∧ Rp K H d v
section
variable {K : PySem.W.Frag} {H H' : Hp} {ρ : Env} {σ : L2.St}
theorem RpS.mono (e : Same H H') (h : RpS K H ρ σ) : RpS K H' ρ σ := ⟨h.1, fun i d q => by
  obtain ⟨v, h1, h2⟩ := h.2 i d q
  exact ⟨v, h1, h2.mono e⟩⟩
theorem RpS.set {i : Nat} {d : D} {v : V} (h : RpS K H ρ σ) (hv : Rp K H d v) : RpS K H (ρ.set i (some d)) (σ.set i (some v)) := by
  refine ⟨by simp [h.1], fun j d' q => ?_⟩
  by_cases hij : i = j
  · subst hij
    by_cases hl : i < ρ.length
    · rw [List.getElem?_set_self hl] at q
      cases q
      exact ⟨v, by rw [List.getElem?_set_self (by rw [← h.1]; exact hl)], hv⟩
    · rw [List.getElem?_eq_none (by simpa using hl)] at q
      cases q
  · rw [List.getElem?_set_ne hij] at q ⊢
    exact h.2 j d' q
theorem RpS.unset {i : Nat} {x : Option V} (h : RpS K H ρ σ) : RpS K H (ρ.set i none) (σ.set i x) := by
  refine ⟨by simp [h.1], fun j d' q => ?_⟩
  by_cases hij : i = j
  · subst hij
    by_cases hl : i < ρ.length
    · rw [List.getElem?_set_self hl] at q
      cases q
    · rw [List.getElem?_eq_none (by simpa using hl)] at q
      cases q
  · rw [List.getElem?_set_ne hij] at q ⊢
    exact h.2 j d' q
def wipeD (ρ : Env) : List Nat → Env
  | [] => ρ
  | v :: vs => (wipeD ρ vs).set v none
theorem RpS.wipe (h : RpS K H ρ σ) : ∀ vs : List Nat, RpS K H (wipeD ρ vs) (L2.wipe σ vs)
  | [] => h
  | v :: vs => by
    unfold wipeD L2.wipe
    exact (RpS.wipe h vs).unset
/-- the slots at a def's entry -/
def startD (N : List Str) (ds : List D) : Env := ds.map some ++ List.replicate (N.length - ds.length) none
theorem RpS.start {N : List Str} {ds : List D} {vs : List V} (h : RpL K H ds vs) : RpS K H (startD N ds) (L2.start N vs) := by
  have hl := h.length
  refine ⟨by simp [startD, L2.start, hl], fun i d q => ?_⟩
  unfold startD at q
  by_cases hi : i < ds.length
  · rw [List.getElem?_append_left (by simpa using hi), List.getElem?_map] at q
    cases e : ds[i]? with
    | none =>
      rw [e] at q
      cases q
    | some d' =>
      rw [e] at q
      cases q
      obtain ⟨v, h1, h2⟩ := h.get e
      refine ⟨v, ?_, h2⟩
      unfold L2.start
      rw [List.getElem?_append_left (by simp [hl]; exact hi), List.getElem?_map, h1]
      rfl
  · rw [List.getElem?_append_right (by simpa using hi), List.getElem?_replicate] at q
    split at q
    · cases q
    · cases q
/-- less may be known of the slots -/
def Sub1 (ρ ρ' : Env) : Prop := ρ.length = ρ'.length ∧ ∀ (i : Nat) d, ρ'[i]? = some (some d) → ρ[i]? = some (some d)
theorem RpS.sub {ρ' : Env} (h : RpS K H ρ σ) (s : Sub1 ρ ρ') : RpS K H ρ' σ := ⟨s.1.symm.trans h.1, fun i d q => h.2 i d (s.2 i d q)⟩
theorem Sub1.nil : Sub1 [] [] := ⟨rfl, fun i d q => by simp at q⟩
theorem Sub1.same {x : Option D} {ρ ρ' : Env} (h : Sub1 ρ ρ') : Sub1 (x :: ρ) (x :: ρ') := by
  refine ⟨by simp [h.1], fun i d q => ?_⟩
  cases i with
  | zero => simpa using q
  | succ i => simpa using h.2 i d (by simpa using q)
theorem Sub1.lose {x : Option D} {ρ ρ' : Env} (h : Sub1 ρ ρ') : Sub1 (x :: ρ) (none :: ρ') := by
  refine ⟨by simp [h.1], fun i d q => ?_⟩
  cases i with
  | zero => simp at q
  | succ i => simpa using h.2 i d (by simpa using q)
theorem Sub1.refl : ∀ ρ : Env, Sub1 ρ ρ
  | [] => Sub1.nil
  | x :: ρ => Sub1.same (Sub1.refl ρ)
end

/-! ### 4. what a reading gives -/
abbrev QD := D → Mem → Prop
structure DE where
  nx : Env → Mem → Prop
  rt : QD
  bk : Env → Mem → Prop := fun _ _ => False
  ct : Env → Mem → Prop := fun _ _ => False
/-- from the heap of data Hb on: what v, H' have to be -/
def OkV (K : PySem.W.Frag) (F Hb : Hp) (Q : QD) (R : VK) : Prop := ∀ v H' Hb' d m', Same Hb Hb' → Rel K F Hb' H' m' → Rp K Hb' d v → Q d m' → R v H'
def OkB (K : PySem.W.Frag) (F Hb : Hp) (Q : Bool → Mem → Prop) (R : Bool → Hp → Prop) : Prop := ∀ b H' Hb' m', Same Hb Hb' → Rel K F Hb' H' m' → Q b m' → R b H'
def OkA (K : PySem.W.Frag) (F Hb : Hp) (Q : List D → Mem → Prop) (R : List V → Hp → Prop) : Prop := ∀ vs H' Hb' ds m', Same Hb Hb' → Rel K F Hb' H' m' → RpL K Hb' ds vs → Q ds m' → R vs H'
def OkN (K : PySem.W.Frag) (F Hb : Hp) (Q : Env → Mem → Prop) (R : L2.St → Hp → Prop) : Prop := ∀ σ H' Hb' ρ m', Same Hb Hb' → Rel K F Hb' H' m' → RpS K Hb' ρ σ → Q ρ m' → R σ H'
structure OkE (K : PySem.W.Frag) (F Hb : Hp) (E : DE) (R : Ends) : Prop where
  nx : OkN K F Hb E.nx R.nx
  rt : OkV K F Hb E.rt R.rt
  bk : OkN K F Hb E.bk R.bk
  ct : OkN K F Hb E.ct R.ct
def WE (K : PySem.W.Frag) (F B : Hp) (te : TE) (ρ : Env) (m : Mem) (Q : QD) : Prop := ∀ Hb H σ R, Same B Hb → Rel K F Hb H m → RpS K Hb ρ σ → OkV K F Hb Q R → te σ H R
def WT (K : PySem.W.Frag) (F B : Hp) (tt : TT) (ρ : Env) (m : Mem) (Q : Bool → Mem → Prop) : Prop := ∀ Hb H σ R, Same B Hb → Rel K F Hb H m → RpS K Hb ρ σ → OkB K F Hb Q R → tt σ H R
def WA (K : PySem.W.Frag) (F B : Hp) (ta : TA) (ρ : Env) (m : Mem) (Q : List D → Mem → Prop) : Prop := ∀ Hb H σ R, Same B Hb → Rel K F Hb H m → RpS K Hb ρ σ → OkA K F Hb Q R → ta σ H R
def WO (K : PySem.W.Frag) (F B : Hp) (r : R2) (x y : D) (m : Mem) (Q : QD) : Prop := ∀ Hb H vx vy R, Same B Hb → Rel K F Hb H m → Rp K Hb x vx → Rp K Hb y vy → OkV K F Hb Q R → r vx vy H R
def WU (K : PySem.W.Frag) (F B : Hp) (r : V → Hp → VK → Prop) (x : D) (m : Mem) (Q : QD) : Prop := ∀ Hb H vx R, Same B Hb → Rel K F Hb H m → Rp K Hb x vx → OkV K F Hb Q R → r vx H R
def WC (K : PySem.W.Frag) (F B : Hp) (r : List V → Hp → VK → Prop) (xs : List D) (m : Mem) (Q : QD) : Prop := ∀ Hb H vs R, Same B Hb → Rel K F Hb H m → RpL K Hb xs vs → OkV K F Hb Q R → r vs H R
def WS (K : PySem.W.Frag) (F B : Hp) (t : TS) (ρ : Env) (m : Mem) (E : DE) : Prop := ∀ Hb H σ R, Same B Hb → Rel K F Hb H m → RpS K Hb ρ σ → OkE K F Hb E R → t R σ H
section
variable {K : PySem.W.Frag} {B F Hb Hb' H H' : Hp} {m : Mem} {ρ : Env}
theorem OkV.mono {Q : QD} {R : VK} (h : OkV K F Hb Q R) (e : Same Hb Hb') : OkV K F Hb' Q R := fun v H' H2 d m' e2 => h v H' H2 d m' (e.trans e2)
theorem OkB.mono {Q : Bool → Mem → Prop} {R : Bool → Hp → Prop} (h : OkB K F Hb Q R) (e : Same Hb Hb') : OkB K F Hb' Q R := fun v H' H2 m' e2 => h v H' H2 m' (e.trans e2)
theorem OkA.mono {Q : List D → Mem → Prop} {R : List V → Hp → Prop} (h : OkA K F Hb Q R) (e : Same Hb Hb') : OkA K F Hb' Q R := fun v H' H2 d m' e2 => h v H' H2 d m' (e.trans e2)
theorem OkN.mono {Q : Env → Mem → Prop} {R : L2.St → Hp → Prop} (h : OkN K F Hb Q R) (e : Same Hb Hb') : OkN K F Hb' Q R := fun v H' H2 d m' e2 => h v H' H2 d m' (e.trans e2)
theorem OkE.mono {E : DE} {R : Ends} (h : OkE K F Hb E R) (e : Same Hb Hb') : OkE K F Hb' E R := ⟨h.nx.mono e, h.rt.mono e, h.bk.mono e, h.ct.mono e⟩
theorem OkV.here {Q : QD} {R : VK} {v : V} {d : D} (h : OkV K F Hb Q R) (r : Rel K F Hb H m) (hd : Rp K Hb d v) (q : Q d m) : R v H := h v H Hb d m (Same.refl _) r hd q
theorem OkN.here {Q : Env → Mem → Prop} {R : L2.St → Hp → Prop} {σ : L2.St} (h : OkN K F Hb Q R) (r : Rel K F Hb H m) (hs : RpS K Hb ρ σ) (q : Q ρ m) : R σ H := h σ H Hb ρ m (Same.refl _) r hs q
theorem rp_s {v : V} : Rp K H (.s v) v := by unfold Rp; rfl

/-! ### 5. expressions -/
theorem we_imp {te : TE} {Q Q' : QD} (h : WE K F B te ρ m Q) (hq : ∀ d m', Q d m' → Q' d m') : WE K F B te ρ m Q' := fun Hb H σ R hB r hs k => h Hb H σ R hB r hs fun v H' Hb' d m' e r' hd q => k v H' Hb' d m' e r' hd (hq d m' q)
theorem wt_imp {tt : TT} {Q Q' : Bool → Mem → Prop} (h : WT K F B tt ρ m Q) (hq : ∀ d m', Q d m' → Q' d m') : WT K F B tt ρ m Q' := fun Hb H σ R hB r hs k => h Hb H σ R hB r hs fun v H' Hb' m' e r' q => k v H' Hb' m' e r' (hq v m' q)
theorem we_or1 {t u : TE} {Q : QD} (h : WE K F B t ρ m Q) : WE K F B (fun σ H R => t σ H R ∨ u σ H R) ρ m Q := fun Hb H σ R hB r hs k => .inl (h Hb H σ R hB r hs k)
theorem we_or2 {t u : TE} {Q : QD} (h : WE K F B u ρ m Q) : WE K F B (fun σ H R => t σ H R ∨ u σ H R) ρ m Q := fun Hb H σ R hB r hs k => .inr (h Hb H σ R hB r hs k)
theorem we_var {i : Nat} {d : D} {Q : QD} (h : ρ[i]? = some (some d)) (q : Q d m) : WE K F B (tVar i) ρ m Q := fun Hb H σ R hB r hs k => by
  obtain ⟨v, h1, h2⟩ := hs.2 i d h
  exact ⟨v, h1, k.here r h2 q⟩
theorem we_c {v : V} {Q : QD} (q : Q (.s v) m) : WE K F B (tC v) ρ m Q := fun Hb H σ R hB r hs k => k.here r rp_s q
theorem we_op {r2 : R2} {ta tb : TE} {Q : QD} (h : WE K F B ta ρ m fun x m1 => WE K F B tb ρ m1 fun y m2 => WO K F B r2 x y m2 Q) : WE K F B (tOp r2 ta tb) ρ m Q := fun Hb H σ R hB r hs k =>
  h Hb H σ _ hB r hs fun v H1 Hb1 x m1 e1 r1 hx q1 => q1 Hb1 H1 σ _ (hB.trans e1) r1 (hs.mono e1) fun u H2 Hb2 y m2 e2 r2 hy q2 =>
    q2 Hb2 H2 v u R ((hB.trans e1).trans e2) r2 (hx.mono e2) hy (k.mono (e1.trans e2))
theorem we_un {r1 : V → Hp → VK → Prop} {ta : TE} {Q : QD} (h : WE K F B ta ρ m fun x m1 => WU K F B r1 x m1 Q) : WE K F B (tUn r1 ta) ρ m Q := fun Hb H σ R hB r hs k =>
  h Hb H σ _ hB r hs fun v H1 Hb1 x m1 e1 r1 hx q1 => q1 Hb1 H1 v R (hB.trans e1) r1 hx (k.mono e1)
theorem we_if {t : TT} {ta tb : TE} {Q : QD} (h : WT K F B t ρ m fun b m1 => (b = true → WE K F B ta ρ m1 Q) ∧ (b = false → WE K F B tb ρ m1 Q)) : WE K F B (tIf t ta tb) ρ m Q := fun Hb H σ R hB r hs k =>
  h Hb H σ _ hB r hs fun b H1 Hb1 m1 e1 r1 q1 => by
    cases b with
    | true => exact q1.1 rfl Hb1 H1 σ R (hB.trans e1) r1 (hs.mono e1) (k.mono e1)
    | false => exact q1.2 rfl Hb1 H1 σ R (hB.trans e1) r1 (hs.mono e1) (k.mono e1)
theorem we_andV {ta tb : TE} {Q : QD} (h : WE K F B ta ρ m fun x m1 => ∃ b, x = .s (.bl b) ∧ (b = true → WE K F B tb ρ m1 Q) ∧ (b = false → Q (.s (.bl false)) m1)) : WE K F B (tAndV ta tb) ρ m Q := fun Hb H σ R hB r hs k =>
  h Hb H σ _ hB r hs fun v H1 Hb1 x m1 e1 r1 hx q1 => by
    obtain ⟨b, rfl, qt, qf⟩ := q1
    unfold Rp at hx
    refine ⟨b, hx, ?_⟩
    cases b with
    | true => exact iteT (qt rfl Hb1 H1 σ R (hB.trans e1) r1 (hs.mono e1) (k.mono e1))
    | false => exact iteF (k _ _ _ _ _ e1 r1 rp_s (qf rfl))
theorem we_orV {ta tb : TE} {Q : QD} (h : WE K F B ta ρ m fun x m1 => ∃ b, x = .s (.bl b) ∧ (b = false → WE K F B tb ρ m1 Q) ∧ (b = true → Q (.s (.bl true)) m1)) : WE K F B (tOrV ta tb) ρ m Q := fun Hb H σ R hB r hs k =>
  h Hb H σ _ hB r hs fun v H1 Hb1 x m1 e1 r1 hx q1 => by
    obtain ⟨b, rfl, qf, qt⟩ := q1
    unfold Rp at hx
    refine ⟨b, hx, ?_⟩
    cases b with
    | false => exact iteF (qf rfl Hb1 H1 σ R (hB.trans e1) r1 (hs.mono e1) (k.mono e1))
    | true => exact iteT (k _ _ _ _ _ e1 r1 rp_s (qt rfl))
theorem we_notV {ta : TE} {Q : QD} (h : WE K F B ta ρ m fun x m1 => ∃ b, x = .s (.bl b) ∧ Q (.s (.bl (!b))) m1) : WE K F B (tNotV ta) ρ m Q := fun Hb H σ R hB r hs k =>
  h Hb H σ _ hB r hs fun v H1 Hb1 x m1 e1 r1 hx q1 => by
    obtain ⟨b, rfl, q⟩ := q1
    unfold Rp at hx
    exact ⟨b, hx, k _ _ _ _ _ e1 r1 rp_s q⟩

/-! ### 6. tests -/
theorem wt_B {te : TE} {Q : Bool → Mem → Prop} (h : WE K F B te ρ m fun x m1 => ∃ b, x = .s (.bl b) ∧ Q b m1) : WT K F B (tB te) ρ m Q := fun Hb H σ R hB r hs k =>
  h Hb H σ _ hB r hs fun v H1 Hb1 x m1 e1 r1 hx q1 => by
    obtain ⟨b, rfl, q⟩ := q1
    unfold Rp at hx
    exact ⟨b, hx, k _ _ _ _ e1 r1 q⟩
theorem wt_test {te : TE} {Q : Bool → Mem → Prop} (h : WE K F B te ρ m fun x m1 => ∃ b, x = .s (.bl b) ∧ Q b m1) : WT K F B (tTest te) ρ m Q := wt_B h
theorem wt_and {t u : TT} {Q : Bool → Mem → Prop} (h : WT K F B t ρ m fun b m1 => (b = true → WT K F B u ρ m1 Q) ∧ (b = false → Q false m1)) : WT K F B (tAnd t u) ρ m Q := fun Hb H σ R hB r hs k =>
  h Hb H σ _ hB r hs fun b H1 Hb1 m1 e1 r1 q1 => by
    cases b with
    | true => exact iteT (q1.1 rfl Hb1 H1 σ R (hB.trans e1) r1 (hs.mono e1) (k.mono e1))
    | false => exact iteF (k _ _ _ _ e1 r1 (q1.2 rfl))
theorem wt_or {t u : TT} {Q : Bool → Mem → Prop} (h : WT K F B t ρ m fun b m1 => (b = false → WT K F B u ρ m1 Q) ∧ (b = true → Q true m1)) : WT K F B (tOr t u) ρ m Q := fun Hb H σ R hB r hs k =>
  h Hb H σ _ hB r hs fun b H1 Hb1 m1 e1 r1 q1 => by
    cases b with
    | false => exact iteF (q1.1 rfl Hb1 H1 σ R (hB.trans e1) r1 (hs.mono e1) (k.mono e1))
    | true => exact iteT (k _ _ _ _ e1 r1 (q1.2 rfl))
theorem wt_not {t : TT} {Q : Bool → Mem → Prop} (h : WT K F B t ρ m fun b m1 => Q (!b) m1) : WT K F B (tNot t) ρ m Q := fun Hb H σ R hB r hs k =>
  h Hb H σ _ hB r hs fun b H1 Hb1 m1 e1 r1 q1 => k _ _ _ _ e1 r1 q1
theorem wt_yes {Q : Bool → Mem → Prop} (q : Q true m) : WT K F B tYes ρ m Q := fun Hb H σ R hB r hs k => k _ _ _ _ (Same.refl _) r q

/-! ### 7. arguments, displays -/
theorem wa_nil {Q : List D → Mem → Prop} (q : Q [] m) : WA K F B tNil ρ m Q := fun Hb H σ R hB r hs k => k _ _ _ _ _ (Same.refl _) r RpL.nil q
theorem wa_cons {te : TE} {ta : TA} {Q : List D → Mem → Prop} (h : WE K F B te ρ m fun x m1 => WA K F B ta ρ m1 fun xs m2 => Q (x :: xs) m2) : WA K F B (tCons te ta) ρ m Q := fun Hb H σ R hB r hs k =>
  h Hb H σ _ hB r hs fun v H1 Hb1 x m1 e1 r1 hx q1 => q1 Hb1 H1 σ _ (hB.trans e1) r1 (hs.mono e1) fun vs H2 Hb2 xs m2 e2 r2 hxs q2 =>
    k _ _ _ _ _ (e1.trans e2) r2 (RpL.cons (hx.mono e2) hxs) q2
theorem we_tup {ta : TA} {Q : QD} (h : WA K F B ta ρ m fun xs m1 => xs.length ≤ sizeLine ∧ Q (.tup xs) m1) : WE K F B (tTup ta) ρ m Q := fun Hb H σ R hB r hs k =>
  h Hb H σ _ hB r hs fun vs H1 Hb1 xs m1 e1 r1 hx q1 => ⟨by rw [hx.length]; exact q1.1, fun p hp =>
    k _ _ _ (.tup xs) _ (e1.trans (Same.new (r1.fresh hp))) (r1.data hp) (by
      unfold Rp
      exact ⟨p, vs, rfl, SqT.of upd_same, hx.mono (Same.new (r1.fresh hp))⟩) q1.2⟩
theorem we_lst {ta : TA} {Q : QD} (h : WA K F B ta ρ m fun xs m1 => xs.length ≤ sizeLine ∧ Q (.lst xs) m1) : WE K F B (tLst ta) ρ m Q := fun Hb H σ R hB r hs k =>
  h Hb H σ _ hB r hs fun vs H1 Hb1 xs m1 e1 r1 hx q1 => ⟨by rw [hx.length]; exact q1.1, fun p hp =>
    k _ _ _ (.lst xs) _ (e1.trans (Same.new (r1.fresh hp))) (r1.data hp) (by
      unfold Rp
      exact ⟨p, vs, rfl, upd_same, hx.mono (Same.new (r1.fresh hp))⟩) q1.2⟩
/-- a list that is owned from now on -/
theorem we_lstO {ta : TA} {Q : QD} (h : WA K F B ta ρ m fun xs m1 => xs.length ≤ sizeLine ∧ ∀ a, m1.own a = none → Q (.s (.ref a)) { m1 with own := putM m1.own a (.lst xs) }) : WE K F B (tLst ta) ρ m Q := fun Hb H σ R hB r hs k =>
  h Hb H σ _ hB r hs fun vs H1 Hb1 xs m1 e1 r1 hx q1 => ⟨by rw [hx.length]; exact q1.1, fun p hp =>
    k _ _ _ _ _ e1 (r1.owned (mo := .lst xs) hp ⟨vs, upd_same, hx⟩) rp_s (q1.2 p (r1.free hp))⟩
theorem we_cb {r1 : List V → Hp → VK → Prop} {ta : TA} {Q : QD} (h : WA K F B ta ρ m fun xs m1 => WC K F B r1 xs m1 Q) : WE K F B (tCB r1 ta) ρ m Q := fun Hb H σ R hB r hs k =>
  h Hb H σ _ hB r hs fun vs H1 Hb1 xs m1 e1 r1 hx q1 => q1 Hb1 H1 vs R (hB.trans e1) r1 hx (k.mono e1)

/-! ### 8. statements -/
theorem ws_imp {t : TS} {E E' : DE} (h : WS K F B t ρ m E) (h1 : ∀ ρ m, E.nx ρ m → E'.nx ρ m) (h2 : ∀ d m, E.rt d m → E'.rt d m) (h3 : ∀ ρ m, E.bk ρ m → E'.bk ρ m) (h4 : ∀ ρ m, E.ct ρ m → E'.ct ρ m) : WS K F B t ρ m E' := fun Hb H σ R hB r hs k =>
  h Hb H σ R hB r hs ⟨fun _ _ _ _ _ e r q z => k.nx _ _ _ _ _ e r q (h1 _ _ z), fun _ _ _ _ _ e r q z => k.rt _ _ _ _ _ e r q (h2 _ _ z), fun _ _ _ _ _ e r q z => k.bk _ _ _ _ _ e r q (h3 _ _ z), fun _ _ _ _ _ e r q z => k.ct _ _ _ _ _ e r q (h4 _ _ z)⟩
theorem ws_next {E : DE} (q : E.nx ρ m) : WS K F B tNext ρ m E := fun Hb H σ R hB r hs k => k.nx.here r hs q
theorem ws_seq {t u : TS} {E : DE} (h : WS K F B t ρ m { E with nx := fun ρ1 m1 => WS K F B u ρ1 m1 E }) : WS K F B (tSeq t u) ρ m E := fun Hb H σ R hB r hs k =>
  h Hb H σ _ hB r hs ⟨fun σ1 H1 Hb1 ρ1 m1 e1 r1 hs1 q1 => q1 Hb1 H1 σ1 R (hB.trans e1) r1 hs1 (k.mono e1), k.rt, k.bk, k.ct⟩
theorem ws_brk {E : DE} (q : E.bk ρ m) : WS K F B tBreak ρ m E := fun Hb H σ R hB r hs k => k.bk.here r hs q
theorem ws_cont {E : DE} (q : E.ct ρ m) : WS K F B tCont ρ m E := fun Hb H σ R hB r hs k => k.ct.here r hs q
theorem ws_drop {te : TE} {E : DE} (h : WE K F B te ρ m fun _ m1 => E.nx ρ m1) : WS K F B (tDrop te) ρ m E := fun Hb H σ R hB r hs k =>
  h Hb H σ _ hB r hs fun v H1 Hb1 x m1 e1 r1 hx q1 => k.nx _ _ _ _ _ e1 r1 (hs.mono e1) q1
theorem ws_ret {te : TE} {E : DE} (h : WE K F B te ρ m E.rt) : WS K F B (tRet te) ρ m E := fun Hb H σ R hB r hs k => h Hb H σ _ hB r hs k.rt
theorem ws_retN {E : DE} (h : E.rt (.s .non) m) : WS K F B tRetN ρ m E := fun Hb H σ R hB r hs k => k.rt.here r rp_s h
theorem ws_if {t : TT} {tu tw : TS} {E : DE} (h : WT K F B t ρ m fun b m1 => (b = true → WS K F B tu ρ m1 E) ∧ (b = false → WS K F B tw ρ m1 E)) : WS K F B (tIfS t tu tw) ρ m E := fun Hb H σ R hB r hs k =>
  h Hb H σ _ hB r hs fun b H1 Hb1 m1 e1 r1 q1 => by
    cases b with
    | true => exact iteT (q1.1 rfl Hb1 H1 σ R (hB.trans e1) r1 (hs.mono e1) (k.mono e1))
    | false => exact iteF (q1.2 rfl Hb1 H1 σ R (hB.trans e1) r1 (hs.mono e1) (k.mono e1))
theorem ws_asg {te : TE} {i : Nat} {E : DE} (h : WE K F B te ρ m fun x m1 => E.nx (ρ.set i (some x)) m1) : WS K F B (tAsg te (gName i)) ρ m E := fun Hb H σ R hB r hs k =>
  h Hb H σ _ hB r hs fun v H1 Hb1 x m1 e1 r1 hx q1 => k.nx _ _ _ _ _ e1 r1 ((hs.mono e1).set hx) q1
theorem ws_never (E : DE) (h : False) {t : TS} : WS K F B t ρ m E := h.elim

/-! ### 9. targets -/
def WG (K : PySem.W.Frag) (F B : Hp) (g : TG) (x : D) (ρ : Env) (m : Mem) (Q : Env → Mem → Prop) : Prop := ∀ Hb H σ v (R : L2.St → Hp → Prop), Same B Hb → Rel K F Hb H m → RpS K Hb ρ σ → Rp K Hb x v → OkN K F Hb Q R → g v σ H R
def WGs (K : PySem.W.Frag) (F B : Hp) (g : TGs) (xs : List D) (ρ : Env) (m : Mem) (Q : Env → Mem → Prop) : Prop := ∀ Hb H σ vs (R : L2.St → Hp → Prop), Same B Hb → Rel K F Hb H m → RpS K Hb ρ σ → RpL K Hb xs vs → OkN K F Hb Q R → g vs σ H R
theorem wg_name {i : Nat} {x : D} {Q : Env → Mem → Prop} (q : Q (ρ.set i (some x)) m) : WG K F B (gName i) x ρ m Q := fun Hb H σ v R hB r hs hx k => k.here r (hs.set hx) q
theorem wgs_nil {Q : Env → Mem → Prop} (q : Q ρ m) : WGs K F B gNil [] ρ m Q := fun Hb H σ v R hB r hs hx k => by
  unfold RpL at hx
  exact ⟨hx, k.here r hs q⟩
theorem wgs_cons {g : TG} {gs : TGs} {x : D} {xs : List D} {Q : Env → Mem → Prop} (h : WG K F B g x ρ m fun ρ1 m1 => WGs K F B gs xs ρ1 m1 Q) : WGs K F B (gCons g gs) (x :: xs) ρ m Q := fun Hb H σ vs R hB r hs hx k => by
  unfold RpL at hx
  obtain ⟨v, us, rfl, h1, h2⟩ := hx
  exact ⟨v, us, rfl, h Hb H σ v _ hB r hs h1 fun σ1 H1 Hb1 ρ1 m1 e1 r1 hs1 q1 => q1 Hb1 H1 σ1 us R (hB.trans e1) r1 hs1 (h2.mono e1) (k.mono e1)⟩
theorem wg_tup {n : Nat} {gs : TGs} {xs : List D} {Q : Env → Mem → Prop} (hn : xs.length = n) (h : WGs K F B gs xs ρ m Q) : WG K F B (gTup K n gs) (.tup xs) ρ m Q := fun Hb H σ v R hB r hs hx k => by
  unfold Rp at hx
  obtain ⟨p, vs, rfl, h1, h2⟩ := hx
  exact ⟨p, vs, rfl, sameT r.sub h1, by rw [h2.length, hn], h Hb H σ vs R hB r hs h2 k⟩
theorem ws_asgG {te : TE} {g : TG} {E : DE} (h : WE K F B te ρ m fun x m1 => WG K F B g x ρ m1 E.nx) : WS K F B (tAsg te g) ρ m E := fun Hb H σ R hB r hs k =>
  h Hb H σ _ hB r hs fun v H1 Hb1 x m1 e1 r1 hx q1 => q1 Hb1 H1 σ v _ (hB.trans e1) r1 (hs.mono e1) hx (k.nx.mono e1)
theorem ws_par {i j : Nat} {ta : TA} {E : DE} (h : WA K F B ta ρ m fun xs m1 => ∃ x y, xs = [x, y] ∧ E.nx ((ρ.set i (some x)).set j (some y)) m1) : WS K F B (tPar i j ta) ρ m E := fun Hb H σ R hB r hs k =>
  h Hb H σ _ hB r hs fun vs H1 Hb1 xs m1 e1 r1 hx q1 => by
    obtain ⟨x, y, rfl, q⟩ := q1
    unfold RpL at hx
    obtain ⟨v, us, rfl, h1, h2⟩ := hx
    unfold RpL at h2
    obtain ⟨u, us', rfl, h3, h4⟩ := h2
    unfold RpL at h4
    subst h4
    exact ⟨v, u, rfl, k.nx _ _ _ _ _ e1 r1 (((hs.mono e1).set h1).set h3) q⟩
/-- less may be known behind -/
theorem ws_less {t : TS} {ρ' : Env} {E : DE} (h : WS K F B t ρ' m E) (s : Sub1 ρ ρ') : WS K F B t ρ m E := fun Hb H σ R hB r hs k => h Hb H σ R hB r (hs.sub s) k
theorem ws_count {t : TS} {n : Nat} {E : DE} (h : WS K F B t ρ { m with cnt := n } E) (hn : m.cnt ≤ n) : WS K F B t ρ m E := fun Hb H σ R hB r hs k => h Hb H σ R hB (r.count hn) hs k
end
end DD

/-! DFun: promises over data, calls, classes of one's own. -/
namespace DD
open PySem L2
open PySem.Spec PyProof.Rows

/-! ### promises -/
/-- what is wanted of an exception: its class, its attributes -/
abbrev XD := Addr → List Str → List D → Mem → Prop
abbrev Phi := List D → Mem → QD → XD → Prop
/-- the state beneath an exception with the dict d -/
def RelX (K : PySem.W.Frag) (F Hb H : Hp) (m : Mem) (d : Option Addr) (ns : List Str) (vs : List V) : Prop := match d with
  | none => ns = [] ∧ vs = [] ∧ Rel K F Hb H m
  | some dd => F dd = none ∧ Rel K (upd F dd (.xd (ns.zip vs))) Hb H m
def OkX (K : PySem.W.Frag) (F Hb : Hp) (X : XD) (E : XK) : Prop := ∀ C d H' Hb' ns ds vs m', Same Hb Hb' → RelX K F Hb' H' m' d ns vs → RpL K Hb' ds vs → ns.length = ds.length → X C ns ds m' → E (.ref C) d H'
def X0 : XD := fun _ _ _ _ => False
theorem okx0 {K : PySem.W.Frag} {F Hb : Hp} {E : XK} : OkX K F Hb X0 E := fun _ _ _ _ _ _ _ _ _ _ _ _ z => z.elim
theorem OkX.mono {K : PySem.W.Frag} {F Hb Hb' : Hp} {X : XD} {E : XK} (h : OkX K F Hb X E) (e : Same Hb Hb') : OkX K F Hb' X E := fun C d H' H2 ns ds vs m' e2 => h C d H' H2 ns ds vs m' (e.trans e2)
def spOf (K : PySem.W.Frag) (φ : Phi) : Sp := fun vs H Q E => ∃ ds m F Hb nx X, RpL K Hb ds vs ∧ Rel K F Hb H m ∧ φ ds m nx X ∧ OkV K F Hb nx Q ∧ OkX K F Hb X E
section
variable {P : Program} {w : World} {K : PySem.W.Frag} {mg : Str → Option Value} {base : Heap} {B F Hb H : Hp} {m : Mem} {ρ : Env}
theorem spOf_len {φ : Phi} {n : Nat} (h : ∀ ds m nx X, φ ds m nx X → ds.length = n) : ∀ vs H Q E, spOf K φ vs H Q E → vs.length = n := fun vs H Q E q => by
  obtain ⟨ds, m, F', Hb, nx, X, h1, _, h3, _⟩ := q
  rw [h1.length, h ds m nx X h3]
/-- what a def's body has to show -/
def BodyOk (K : PySem.W.Frag) (φ : Phi) (N : List Str) (E : XK) (t : TS) : Prop := ∀ ds m nx X F B, φ ds m nx X → OkX K F B X E → WS K F B t (startD N ds) m { nx := fun _ m' => nx (.s .non) m', rt := nx }
theorem okC {CX : CXT} {x qual : Str} {st : Stmt} {f : Addr} {fd : FuncData} {N ps : List Str} {k : Nat} {sp : Sp} (F : Fun K x qual st f fd) (S : FnScope N ps (defScope st)) (len : ∀ vs H Q E, sp vs H Q E → vs.length = ps.length)
    (hbody : ∀ (cdv : Value) (A : Around) (outer : List PySem.Env) (s : Shared) (H : Hp) (vs : List V) (Q : VK) (E : XK), Room k (A.deeper (envOfC qual (defScope st) s.heap.objs.size f cdv)) → sp vs H Q E →
      ∃ t, PSs (cxOf CX P w K mg base N qual (defScope st) f cdv A outer s H E) (defBody st) t ∧ t { nx := fun _ H' => Q .non H', rt := Q } (L2.start N vs) H) : FnOk P w K mg base CX (k + 1) f fd ps sp := by
  obtain ⟨oc, od, kV, doc, pm, an, cdv, ct, osl, rfl, lk, hcd⟩ := F.ex
  exact fn_of lk hcd S len fun A outer s H vs Q E hr hsp => hbody cdv A outer s H vs Q E hr hsp
theorem ok_D {CX : CXT} {x qual : Str} {st : Stmt} {f : Addr} {fd : FuncData} {N ps : List Str} {k : Nat} {φ : Phi} (F : Fun K x qual st f fd) (S : FnScope N ps (defScope st)) (hl : ∀ ds m nx X, φ ds m nx X → ds.length = ps.length)
    (hbody : ∀ (cdv : Value) (A : Around) (outer : List PySem.Env) (s : Shared) (H : Hp) (E : XK), Room k (A.deeper (envOfC qual (defScope st) s.heap.objs.size f cdv)) →
      ∃ t, PSs (cxOf CX P w K mg base N qual (defScope st) f cdv A outer s H E) (defBody st) t ∧ BodyOk K φ N E t) : FnOk P w K mg base CX (k + 1) f fd ps (spOf K φ) := by
  refine okC F S (spOf_len hl) fun cdv A outer s H vs Q E hr h => ?_
  obtain ⟨ds, m, F', Hb, nx, X, h1, h2, h3, h4, h5⟩ := h
  obtain ⟨t, ht, hw⟩ := hbody cdv A outer s H E hr
  exact ⟨t, ht, hw ds m nx X F' Hb h3 h5 Hb H _ _ (Same.refl _) h2 (RpS.start h1) ⟨fun σ H' Hb' ρ m' e r hs q => h4 _ _ _ _ _ e r rp_s q, h4, fun _ _ _ _ _ _ _ _ z => z.elim, fun _ _ _ _ _ _ _ _ z => z.elim⟩⟩

/-! ### calls -/
theorem we_callD {φ : Phi} {E : XK} {ta : TA} {dvs : List V} {dds : List D} {X : XD} {Q : QD} (hE : OkX K F B X E) (hd : RpL K B dds dvs) (h : WA K F B ta ρ m fun ds m1 => φ (ds ++ dds) m1 Q X) : WE K F B (tCall (spOf K φ) dvs E ta) ρ m Q := fun Hb H σ R hB r hs k =>
  h Hb H σ _ hB r hs fun vs H1 Hb1 ds m1 e1 r1 hx q1 => ⟨_, m1, F, Hb1, Q, X, hx.app (hd.mono (hB.trans e1)), r1, q1, k.mono e1, hE.mono (hB.trans e1)⟩
theorem we_call {φ : Phi} {E : XK} {ta : TA} {X : XD} {Q : QD} (hE : OkX K F B X E) (h : WA K F B ta ρ m fun ds m1 => φ ds m1 Q X) : WE K F B (tCall (spOf K φ) [] E ta) ρ m Q := fun Hb H σ R hB r hs k =>
  h Hb H σ _ hB r hs fun vs H1 Hb1 ds m1 e1 r1 hx q1 => ⟨_, m1, F, Hb1, Q, X, by rw [List.append_nil]; exact hx, r1, q1, k.mono e1, hE.mono (hB.trans e1)⟩
/-- an object as the receiver: data, or owned; nothing hides the method m -/
def Recv (m : Mem) (C : Addr) (f : Str) : D → Prop
  | .ins C' ns _ => C' = C ∧ f ∉ ns
  | .s (.ref a) => ∃ ns ds, m.own a = some (.ins C ns ds) ∧ f ∉ ns
  | _ => False
theorem zip_none {β : Type} {f : Str} : ∀ {ns : List Str} {vs : List β}, f ∉ ns → (ns.zip vs).lookup f = none
  | [], _, _ => rfl
  | _ :: _, [], _ => rfl
  | n :: ns, v :: vs, h => by
    have h1 : (f == n) = false := by
      simp only [List.mem_cons, not_or] at h
      simpa using h.1
    have h2 : f ∉ ns := fun z => h (List.mem_cons_of_mem _ z)
    show List.lookup f ((n, v) :: ns.zip vs) = none
    rw [List.lookup_cons, h1]
    exact zip_none h2
theorem Recv.at {x : D} {C : Addr} {f : Str} {v : V} (q : Recv m C f x) (r : Rel K F Hb H m) (hx : Rp K Hb x v) : ∃ a dx fs, v = .ref a ∧ H a = some (.ins C dx fs) ∧ fs.lookup f = none := by
  cases x with
  | ins C' ns ds =>
    obtain ⟨rfl, hn⟩ := q
    unfold Rp at hx
    obtain ⟨p, dx, vs, rfl, h1, h2, h3⟩ := hx
    exact ⟨p, dx, _, rfl, r.sub _ _ h1, zip_none hn⟩
  | s v' =>
    cases v' with
    | ref a =>
      obtain ⟨ns, ds, ho, hn⟩ := q
      unfold Rp at hx
      subst hx
      obtain ⟨_, dx, vs, h1, h2, h3⟩ := r.own _ _ ho
      exact ⟨a, dx, _, rfl, h1, zip_none hn⟩
    | _ => exact q.elim
  | _ => exact q.elim
theorem we_methD {C : Addr} {f : Str} {φ : Phi} {E : XK} {te : TE} {ta : TA} {dvs : List V} {dds : List D} {X : XD} {Q : QD} (hE : OkX K F B X E) (hd : RpL K B dds dvs)
    (h : WE K F B te ρ m fun x m1 => Recv m1 C f x ∧ WA K F B ta ρ m1 fun ds m2 => φ (x :: (ds ++ dds)) m2 Q X) : WE K F B (tMeth C f (spOf K φ) dvs E te ta) ρ m Q := fun Hb H σ R hB r hs k =>
  h Hb H σ _ hB r hs fun v H1 Hb1 x m1 e1 r1 hx q1 => by
    obtain ⟨a, dx, fs, rfl, h1, h2⟩ := q1.1.at r1 hx
    exact ⟨a, dx, fs, rfl, h1, h2, q1.2 Hb1 H1 σ _ (hB.trans e1) r1 (hs.mono e1) fun vs H2 Hb2 ds m2 e2 r2 hxs q2 =>
      ⟨_, m2, F, Hb2, Q, X, RpL.cons (hx.mono e2) (hxs.app (hd.mono ((hB.trans e1).trans e2))), r2, q2, k.mono (e1.trans e2), hE.mono ((hB.trans e1).trans e2)⟩⟩
theorem we_meth {C : Addr} {f : Str} {φ : Phi} {E : XK} {te : TE} {ta : TA} {X : XD} {Q : QD} (hE : OkX K F B X E)
    (h : WE K F B te ρ m fun x m1 => Recv m1 C f x ∧ WA K F B ta ρ m1 fun ds m2 => φ (x :: ds) m2 Q X) : WE K F B (tMeth C f (spOf K φ) [] E te ta) ρ m Q :=
  we_methD (dds := []) hE RpL.nil (we_imp h fun x m1 q => ⟨q.1, fun Hb H σ R hB r hs k => q.2 Hb H σ R hB r hs fun vs H1 Hb1 ds m2 e1 r1 hx q1 => k vs H1 Hb1 ds m2 e1 r1 hx (by show φ (x :: (ds ++ [])) m2 Q X; rw [List.append_nil]; exact q1)⟩)
/-- a new instance whose making is kept as data -/
theorem we_make {C : Addr} {φ : Phi} {E : XK} {ta : TA} {dvs : List V} {dds : List D} {X : XD} {Q : QD} (hE : OkX K F B X E) (hd : RpL K B dds dvs)
    (h : WA K F B ta ρ m fun ds m1 => ∀ x, m1.own x = none → φ (.s (.ref x) :: (ds ++ dds)) { m1 with own := putM m1.own x (.ins C [] []) }
      (fun d m2 => d = .s .non ∧ ∃ ns es, m2.own x = some (.ins C ns es) ∧ Q (.ins C ns es) { m2 with own := dropM m2.own x }) X) : WE K F B (tMake C (spOf K φ) dvs E ta) ρ m Q := fun Hb H σ R hB r hs k =>
  h Hb H σ _ hB r hs fun vs H1 Hb1 ds m1 e1 r1 hx q1 => fun x dx hxn hdn hne => by
    have r2 : Rel K F (upd Hb1 dx (.own x)) (upd H1 dx (.own x)) m1 := r1.data hdn
    have hx2 : upd H1 dx (.own x) x = none := by rw [upd_ne (Ne.symm hne)]; exact hxn
    have r3 : Rel K F (upd Hb1 dx (.own x)) (upd (upd H1 dx (.own x)) x (.ins C dx [])) { m1 with own := putM m1.own x (.ins C [] []) } :=
      r2.owned (mo := .ins C [] []) hx2 ⟨dx, [], upd_same, RpL.nil, rfl⟩
    have e2 : Same Hb1 (upd Hb1 dx (.own x)) := Same.new (r1.fresh hdn)
    refine ⟨_, _, F, _, _, X, RpL.cons rp_s ((hx.mono e2).app (hd.mono ((hB.trans e1).trans e2))), r3, q1 x (r1.free hxn), fun v H' Hb' d m' e3 r4 hd' q2 => ?_, hE.mono ((hB.trans e1).trans e2)⟩
    obtain ⟨rfl, ns, es, ho, q3⟩ := q2
    unfold Rp at hd'
    obtain ⟨hn, dx', vs', h1, h2, h3⟩ := r4.own _ _ ho
    have e4 : Same Hb' (upd Hb' x (.ins C dx' (ns.zip vs'))) := Same.new hn
    refine ⟨hd', k _ _ _ (.ins C ns es) _ ((e1.trans e2).trans (e3.trans e4)) (r4.freeze ho h1) ?_ q3⟩
    unfold Rp
    exact ⟨x, dx', vs', rfl, upd_same, h2.mono e4, h3⟩
/-- .. kept as an owned object -/
theorem we_makeO {C : Addr} {φ : Phi} {E : XK} {ta : TA} {dvs : List V} {dds : List D} {X : XD} {Q : QD} (hE : OkX K F B X E) (hd : RpL K B dds dvs)
    (h : WA K F B ta ρ m fun ds m1 => ∀ x, m1.own x = none → φ (.s (.ref x) :: (ds ++ dds)) { m1 with own := putM m1.own x (.ins C [] []) } (fun d m2 => d = .s .non ∧ Q (.s (.ref x)) m2) X) : WE K F B (tMake C (spOf K φ) dvs E ta) ρ m Q := fun Hb H σ R hB r hs k =>
  h Hb H σ _ hB r hs fun vs H1 Hb1 ds m1 e1 r1 hx q1 => fun x dx hxn hdn hne => by
    have r2 : Rel K F (upd Hb1 dx (.own x)) (upd H1 dx (.own x)) m1 := r1.data hdn
    have hx2 : upd H1 dx (.own x) x = none := by rw [upd_ne (Ne.symm hne)]; exact hxn
    have r3 : Rel K F (upd Hb1 dx (.own x)) (upd (upd H1 dx (.own x)) x (.ins C dx [])) { m1 with own := putM m1.own x (.ins C [] []) } :=
      r2.owned (mo := .ins C [] []) hx2 ⟨dx, [], upd_same, RpL.nil, rfl⟩
    have e2 : Same Hb1 (upd Hb1 dx (.own x)) := Same.new (r1.fresh hdn)
    refine ⟨_, _, F, _, _, X, RpL.cons rp_s ((hx.mono e2).app (hd.mono ((hB.trans e1).trans e2))), r3, q1 x (r1.free hxn), fun v H' Hb' d m' e3 r4 hd' q2 => ?_, hE.mono ((hB.trans e1).trans e2)⟩
    obtain ⟨rfl, q3⟩ := q2
    unfold Rp at hd'
    exact ⟨hd', k _ _ _ _ _ ((e1.trans e2).trans e3) r4 rp_s q3⟩

/-! ### attributes -/
theorem zip_get {f : Str} : ∀ {ns : List Str} {ds : List D} {vs : List V} {d : D}, RpL K H ds vs → (ns.zip ds).lookup f = some d → ∃ v, (ns.zip vs).lookup f = some v ∧ Rp K H d v
  | [], _, _, _, _, e => by cases e
  | _ :: _, [], _, _, _, e => by cases e
  | n :: ns, d0 :: ds, vs, d, h, e => by
    unfold RpL at h
    obtain ⟨v, r, rfl, h1, h2⟩ := h
    have e' : List.lookup f ((n, d0) :: ns.zip ds) = some d := e
    show ∃ u, List.lookup f ((n, v) :: ns.zip r) = some u ∧ _
    rw [List.lookup_cons] at e' ⊢
    cases hc : f == n with
    | true =>
      rw [hc] at e'
      cases e'
      exact ⟨v, rfl, h1⟩
    | false =>
      rw [hc] at e'
      exact zip_get h2 e'
/-- the attribute f of an object, data or owned -/
def FldD (m : Mem) (f : Str) (d : D) : D → Addr → Prop
  | .ins C ns ds, C' => C' = C ∧ (ns.zip ds).lookup f = some d
  | .s (.ref a), C => ∃ ns ds, m.own a = some (.ins C ns ds) ∧ (ns.zip ds).lookup f = some d
  | _, _ => False
theorem we_fld {te : TE} {f : Str} {Q : QD} (h : WE K F B te ρ m fun x m1 => ∃ C d, Cls K C ∧ NoAttr K C f ∧ FldD m1 f d x C ∧ Q d m1) : WE K F B (tFld K te f) ρ m Q := fun Hb H σ R hB r hs k =>
  h Hb H σ _ hB r hs fun v H1 Hb1 x m1 e1 r1 hx q1 => by
    obtain ⟨C, d, c, n, hf, q⟩ := q1
    cases x with
    | ins C' ns ds =>
      obtain ⟨rfl, hl⟩ := hf
      unfold Rp at hx
      obtain ⟨p, dx, vs, rfl, h1, h2, h3⟩ := hx
      obtain ⟨u, hu, ru⟩ := zip_get h2 hl
      exact ⟨p, C, dx, _, u, rfl, r1.sub _ _ h1, c, n, hu, k _ _ _ _ _ e1 r1 ru q⟩
    | s v' =>
      cases v' with
      | ref a =>
        obtain ⟨ns, ds, ho, hl⟩ := hf
        unfold Rp at hx
        subst hx
        obtain ⟨_, dx, vs, h1, h2, h3⟩ := r1.own _ _ ho
        obtain ⟨u, hu, ru⟩ := zip_get h2 hl
        exact ⟨a, C, dx, _, u, rfl, h1, c, n, hu, k _ _ _ _ _ e1 r1 ru q⟩
      | _ => exact hf.elim
    | _ => exact hf.elim
def putN (f : Str) : List Str → List Str
  | [] => [f]
  | n :: ns => if n = f then n :: ns else n :: putN f ns
def putE {α : Type} (f : Str) (x : α) : List Str → List α → List α
  | n :: ns, y :: ys => if n = f then x :: ys else y :: putE f x ns ys
  | _, ys => ys ++ [x]
theorem putF_zip (f : Str) (v : V) : ∀ (ns : List Str) (vs : List V), ns.length = vs.length → putF f v (ns.zip vs) = (putN f ns).zip (putE f v ns vs)
  | [], [], _ => rfl
  | n :: ns, u :: vs, h => by
    show putF f v ((n, u) :: ns.zip vs) = _
    unfold putF putN putE
    by_cases hn : n = f
    · rw [if_pos hn, if_pos hn, if_pos hn]
      rfl
    · rw [if_neg hn, if_neg hn, if_neg hn, putF_zip f v ns vs (by simpa using h)]
      rfl
theorem RpL.put {f : Str} {d : D} {v : V} : ∀ {ns : List Str} {ds : List D} {vs : List V}, RpL K H ds vs → Rp K H d v → ns.length = ds.length → RpL K H (putE f d ns ds) (putE f v ns vs)
  | [], ds, vs, h, hd, e => by
    have e1 : ds = [] := List.eq_nil_of_length_eq_zero e.symm
    subst e1
    unfold RpL at h
    subst h
    exact RpL.cons hd RpL.nil
  | n :: ns, [], vs, h, hd, e => by cases e
  | n :: ns, x :: ds, vs, h, hd, e => by
    unfold RpL at h
    obtain ⟨u, r, rfl, h1, h2⟩ := h
    unfold putE
    by_cases hn : n = f
    · rw [if_pos hn, if_pos hn]
      exact RpL.cons hd h2
    · rw [if_neg hn, if_neg hn]
      exact RpL.cons h1 (RpL.put h2 hd (by simpa using e))
theorem put_len {f : Str} {d : D} : ∀ {ns : List Str} {ds : List D}, ns.length = ds.length → (putN f ns).length = (putE f d ns ds).length
  | [], [], _ => rfl
  | n :: ns, x :: ds, e => by
    unfold putN putE
    by_cases hn : n = f
    · rw [if_pos hn, if_pos hn]
      exact e
    · rw [if_neg hn, if_neg hn]
      simp only [List.length_cons, put_len (f := f) (d := d) (show ns.length = ds.length by simpa using e)]
/-- o.f = e, o an owned object -/
theorem ws_fld {to te : TE} {f : Str} {E : DE} (h : WE K F B te ρ m fun y m1 => WE K F B to ρ m1 fun x m2 => ∃ a C ns ds, x = .s (.ref a) ∧ Cls K C ∧ NoAttr K C f ∧ m2.own a = some (.ins C ns ds) ∧ ns.length < 900 ∧
    E.nx ρ { m2 with own := putM m2.own a (.ins C (putN f ns) (putE f y ns ds)) }) : WS K F B (sFld K to te f) ρ m E := fun Hb H σ R hB r hs k =>
  h Hb H σ _ hB r hs fun u H1 Hb1 y m1 e1 r1 hy q1 => q1 Hb1 H1 σ _ (hB.trans e1) r1 (hs.mono e1) fun v H2 Hb2 x m2 e2 r2 hx q2 => by
    obtain ⟨a, C, ns, ds, rfl, c, n, ho, hl, q⟩ := q2
    unfold Rp at hx
    obtain ⟨_, dx, vs, h1, h2, h3⟩ := r2.own _ _ ho
    have h2l := h2.length
    refine ⟨a, C, dx, _, hx, h1, c, n, by rw [List.length_zip]; omega, k.nx _ _ _ _ _ (e1.trans e2) (r2.change (mo' := .ins C (putN f ns) (putE f y ns ds)) ho ?_) (hs.mono (e1.trans e2)) q⟩
    refine ⟨dx, putE f u ns vs, ?_, RpL.put h2 (hy.mono e2) h3, put_len h3⟩
    rw [upd_same, putF_zip f u ns vs (by omega)]
end
end DD

/-! DIter: loops and comprehensions over data. -/
namespace DD
open PySem L2
open PySem.Spec PyProof.Rows

/-- J goes through the data xs -/
def Iters (K : PySem.W.Frag) (Hb0 : Hp) (J : It) (xs : List D) : Prop := ∀ i F Hb H m, Same Hb0 Hb → Rel K F Hb H m → (xs.length ≤ i → J.stop i H) ∧ ∀ d, xs[i]? = some d → J.go i H ∧ ∀ x H', J.yld i H x H' → ∃ Hb', Same Hb Hb' ∧ Rel K F Hb' H' m ∧ Rp K Hb' d x
def WI (K : PySem.W.Frag) (F B : Hp) (wi : TI) (ρ : Env) (m : Mem) (Q : List D → Mem → Prop) : Prop := ∀ Hb H σ R, Same B Hb → Rel K F Hb H m → RpS K Hb ρ σ →
  (∀ J H' Hb' xs m', Same Hb Hb' → Rel K F Hb' H' m' → Iters K Hb' J xs → Q xs m' → R J H') → wi σ H R
section
variable {K : PySem.W.Frag} {B F Hb Hb' H H' : Hp} {m : Mem} {ρ : Env}
theorem Iters.mono {J : It} {xs : List D} (h : Iters K Hb J xs) (e : Same Hb Hb') : Iters K Hb' J xs := fun i F H2 H m e2 r => h i F H2 H m (e.trans e2) r
theorem wi_or1 {t u : TI} {Q : List D → Mem → Prop} (h : WI K F B t ρ m Q) : WI K F B (fun σ H R => t σ H R ∨ u σ H R) ρ m Q := fun Hb H σ R hB r hs k => .inl (h Hb H σ R hB r hs k)
theorem wi_or2 {t u : TI} {Q : List D → Mem → Prop} (h : WI K F B u ρ m Q) : WI K F B (fun σ H R => t σ H R ∨ u σ H R) ρ m Q := fun Hb H σ R hB r hs k => .inr (h Hb H σ R hB r hs k)
theorem it_seq {P : Hp → List V → Prop} {a : Addr} {ds : List D} {vs : List V} (mono : ∀ H H', Same H H' → P H vs → P H' vs) (h : P Hb vs) (hv : RpL K Hb ds vs) (J : It) (hs : ∀ i H, P H vs → vs.length ≤ i → J.stop i H) (hg : ∀ i H x, P H vs → vs[i]? = some x → J.go i H)
    (hy : ∀ i H x H', P H vs → J.yld i H x H' → H' = H ∧ vs[i]? = some x) : Iters K Hb J ds := by
  intro i F Hb1 H m e r
  have h1 : P H vs := mono _ _ r.sub (mono _ _ e h)
  have hl := hv.length
  refine ⟨fun hi => hs i H h1 (by omega), fun d hd => ?_⟩
  obtain ⟨v, hv1, hv2⟩ := hv.get hd
  refine ⟨hg i H v h1 hv1, fun x H' y => ?_⟩
  obtain ⟨rfl, hx⟩ := hy i H x H' h1 y
  rw [hv1] at hx
  cases hx
  exact ⟨Hb1, Same.refl _, r, hv2.mono e⟩
theorem it_list {a : Addr} {ds : List D} {vs : List V} (h : SqL K Hb a vs) (hv : RpL K Hb ds vs) : Iters K Hb (Itl K a) ds :=
  it_seq (P := fun H xs => SqL K H a xs) (a := a) (fun _ _ e q => e.seq q) h hv _ (fun i H q hi => ⟨vs, q, hi⟩) (fun i H x q hx => ⟨vs, x, q, hx⟩) fun i H x H' q y => ⟨y.1, y.2 vs q⟩
theorem it_tup {a : Addr} {ds : List D} {vs : List V} (h : SqT K Hb a vs) (hv : RpL K Hb ds vs) : Iters K Hb (Itt K a) ds :=
  it_seq (P := fun H xs => SqT K H a xs) (a := a) (fun _ _ e q => sameT e q) h hv _ (fun i H q hi => ⟨vs, q, hi⟩) (fun i H x q hx => ⟨vs, x, q, hx⟩) fun i H x H' q y => ⟨y.1, y.2 vs q⟩
theorem wi_list {tl : TE} {Q : List D → Mem → Prop} (h : WE K F B tl ρ m fun x m1 => ∃ xs, x = .lst xs ∧ Q xs m1) : WI K F B (iList K tl) ρ m Q := fun Hb H σ R hB r hs k =>
  h Hb H σ _ hB r hs fun v H1 Hb1 x m1 e1 r1 hx q1 => by
    obtain ⟨xs, rfl, q⟩ := q1
    unfold Rp at hx
    obtain ⟨p, vs, rfl, h1, h2⟩ := hx
    exact ⟨p, rfl, ⟨vs, SqL.of (r1.sub _ _ h1)⟩, k _ _ _ _ _ e1 r1 (it_list (SqL.of h1) h2) q⟩
theorem wi_tup {tl : TE} {Q : List D → Mem → Prop} (h : WE K F B tl ρ m fun x m1 => ∃ xs, x = .tup xs ∧ Q xs m1) : WI K F B (iTup K tl) ρ m Q := fun Hb H σ R hB r hs k =>
  h Hb H σ _ hB r hs fun v H1 Hb1 x m1 e1 r1 hx q1 => by
    obtain ⟨xs, rfl, q⟩ := q1
    unfold Rp at hx
    obtain ⟨p, vs, rfl, h1, h2⟩ := hx
    exact ⟨p, rfl, ⟨vs, sameT r1.sub h1⟩, k _ _ _ _ _ e1 r1 (it_tup h1 h2) q⟩
def chrs (x : Str) : List D := x.cps.toList.map fun c => .s (.str ⟨#[c]⟩)
theorem chrs_length (t : Str) : (chrs t).length = t.length := by
  unfold chrs
  rw [List.length_map]
  rfl
theorem wi_str {tl : TE} {Q : List D → Mem → Prop} (h : WE K F B tl ρ m fun x m1 => ∃ t, x = .s (.str t) ∧ Q (chrs t) m1) : WI K F B (iStr tl) ρ m Q := fun Hb H σ R hB r hs k =>
  h Hb H σ _ hB r hs fun v H1 Hb1 x m1 e1 r1 hx q1 => by
    obtain ⟨t, rfl, q⟩ := q1
    unfold Rp at hx
    refine ⟨t, hx, k _ _ _ _ _ e1 r1 (fun i F Hb2 H2 m2 e2 r2 => ⟨fun hi => ?_, fun d hd => ?_⟩) q⟩
    · show t.cps.size ≤ i
      simpa [chrs] using hi
    · unfold chrs at hd
      rw [List.getElem?_map] at hd
      cases hc : t.cps.toList[i]? with
      | none =>
        rw [hc] at hd
        cases hd
      | some c =>
        rw [hc] at hd
        cases hd
        have hc' : t.cps[i]? = some c := by simpa using hc
        refine ⟨?_, fun x H' y => ?_⟩
        · show i < t.cps.size
          exact (Array.getElem?_eq_some_iff.mp hc').1
        · obtain ⟨rfl, c', h1, rfl⟩ := y
          rw [hc'] at h1
          cases h1
          exact ⟨Hb2, Same.refl _, r2, rp_s⟩
def rngD (lo : Int) (n : Nat) : List D := (List.range n).map fun (i : Nat) => .s (.int (lo + (i : Int)))
theorem rngD_length {lo : Int} {n : Nat} : (rngD lo n).length = n := by simp [rngD]
theorem rngD_get {lo : Int} {n i : Nat} {d : D} (h : (rngD lo n)[i]? = some d) : i < n ∧ d = .s (.int (lo + (i : Int))) := by
  unfold rngD at h
  rw [List.getElem?_map] at h
  by_cases hi : i < n
  · rw [List.getElem?_range hi] at h
    cases h
    exact ⟨hi, rfl⟩
  · rw [List.getElem?_eq_none (by simpa using hi)] at h
    cases h
theorem it_rng {lo : Int} {n : Nat} : Iters K Hb (Itr lo n) (rngD lo n) := fun i F Hb2 H2 m2 e2 r2 => by
  refine ⟨fun hi => ?_, fun d hd => ?_⟩
  · show n ≤ i
    simpa [rngD] using hi
  · obtain ⟨hi, rfl⟩ := rngD_get hd
    refine ⟨hi, fun x H' y => ?_⟩
    obtain ⟨rfl, rfl⟩ := y
    exact ⟨Hb2, Same.refl _, r2, rp_s⟩
theorem wi_rng1 {ta : TA} {Q : List D → Mem → Prop} (h : WA K F B ta ρ m fun xs m1 => ∃ j : Int, xs = [.s (.int j)] ∧ -(2 ^ 62) ≤ j ∧ j < 2 ^ 62 ∧ Q (rngD 0 j.toNat) m1) : WI K F B (iRng1 ta) ρ m Q := fun Hb H σ R hB r hs k =>
  h Hb H σ _ hB r hs fun vs H1 Hb1 xs m1 e1 r1 hx q1 => by
    obtain ⟨j, rfl, h1, h2, q⟩ := q1
    have e : vs = [.int j] := RpL.scal (vs := [.int j]) hx
    subst e
    exact ⟨j, rfl, h1, h2, k _ _ _ _ _ e1 r1 it_rng q⟩
theorem wi_rng2 {ta : TA} {Q : List D → Mem → Prop} (h : WA K F B ta ρ m fun xs m1 => ∃ i j : Int, xs = [.s (.int i), .s (.int j)] ∧ (-(2 ^ 62) ≤ i ∧ i < 2 ^ 62 ∧ -(2 ^ 62) ≤ j ∧ j < 2 ^ 62) ∧ Q (rngD i (j - i).toNat) m1) : WI K F B (iRng2 ta) ρ m Q := fun Hb H σ R hB r hs k =>
  h Hb H σ _ hB r hs fun vs H1 Hb1 xs m1 e1 r1 hx q1 => by
    obtain ⟨i, j, rfl, h1, q⟩ := q1
    have e : vs = [.int i, .int j] := RpL.scal (vs := [.int i, .int j]) hx
    subst e
    exact ⟨i, j, rfl, h1, k _ _ _ _ _ e1 r1 it_rng q⟩
theorem new_pair {F Hb H : Hp} {m : Mem} {T : Addr} {x y : V} {d e : D} (r : Rel K F Hb H m) (hT : H T = none) (hx : Rp K Hb d x) (hy : Rp K Hb e y) :
    ∃ Hb', Same Hb Hb' ∧ Rel K F Hb' (upd H T (.tup [x, y])) m ∧ Rp K Hb' (.tup [d, e]) (.ref T) := by
  have e1 : Same Hb (upd Hb T (.tup [x, y])) := Same.new (r.fresh hT)
  refine ⟨_, e1, r.data hT, ?_⟩
  unfold Rp
  exact ⟨T, _, rfl, SqT.of upd_same, RpL.cons (hx.mono e1) (RpL.cons (hy.mono e1) RpL.nil)⟩
def enumD : Nat → List D → List D
  | _, [] => []
  | n, x :: xs => .tup [.s (.int (n : Int)), x] :: enumD (n + 1) xs
theorem enumD_length : ∀ (n : Nat) (xs : List D), (enumD n xs).length = xs.length
  | _, [] => rfl
  | n, x :: xs => by simp [enumD, enumD_length]
theorem enumD_get : ∀ {n : Nat} {xs : List D} {i : Nat} {d : D}, (enumD n xs)[i]? = some d → ∃ x, xs[i]? = some x ∧ d = .tup [.s (.int ((n + i : Nat) : Int)), x]
  | _, [], _, _, h => by simp [enumD] at h
  | n, x :: xs, 0, d, h => by
    simp [enumD] at h
    exact ⟨x, rfl, h.symm⟩
  | n, x :: xs, i + 1, d, h => by
    obtain ⟨y, h1, h2⟩ := enumD_get (n := n + 1) (xs := xs) (i := i) (by simpa [enumD] using h)
    exact ⟨y, by simpa using h1, by rw [h2, show n + 1 + i = n + (i + 1) by omega]⟩
theorem wi_enum {ta : TA} {Q : List D → Mem → Prop} (h : WA K F B ta ρ m fun xs m1 => ∃ ds, xs = [.lst ds] ∧ Q (enumD 0 ds) m1) : WI K F B (iEnum K ta) ρ m Q := fun Hb H σ R hB r hs k =>
  h Hb H σ _ hB r hs fun vs H1 Hb1 xs m1 e1 r1 hx q1 => by
    obtain ⟨ds, rfl, q⟩ := q1
    unfold RpL at hx
    obtain ⟨v, us, rfl, hv, hu⟩ := hx
    unfold RpL at hu
    subst hu
    unfold Rp at hv
    obtain ⟨p, vs, rfl, h1, h2⟩ := hv
    refine ⟨p, vs, rfl, SqL.of (r1.sub _ _ h1), k _ _ _ _ _ e1 r1 (fun i F Hb2 H2 m2 e2 r2 => ⟨fun hi => ?_, fun d hd => ?_⟩) q⟩
    · exact ⟨vs, SqL.of (r2.sub _ _ (e2 _ _ h1)), by rw [enumD_length] at hi; rw [h2.length]; exact hi⟩
    · obtain ⟨x, hx1, rfl⟩ := enumD_get hd
      obtain ⟨u, hu1, hu2⟩ := h2.get hx1
      have hq : SqL K H2 p vs := SqL.of (r2.sub _ _ (e2 _ _ h1))
      refine ⟨⟨vs, u, hq, hu1⟩, fun y H' hy => ?_⟩
      obtain ⟨T, z, rfl, hT, rfl, hz⟩ := hy
      have hz' := hz vs hq
      rw [hu1] at hz'
      cases hz'
      rw [show (0 + i : Nat) = i by omega]
      exact new_pair r2 hT rp_s (hu2.mono e2)
theorem wi_zip {ta : TA} {Q : List D → Mem → Prop} (h : WA K F B ta ρ m fun xs m1 => ∃ ds es, xs = [.lst ds, .lst es] ∧ Q ((ds.zip es).map fun p => .tup [p.1, p.2]) m1) : WI K F B (iZip K ta) ρ m Q := fun Hb H σ R hB r hs k =>
  h Hb H σ _ hB r hs fun vs H1 Hb1 xs m1 e1 r1 hx q1 => by
    obtain ⟨ds, es, rfl, q⟩ := q1
    unfold RpL at hx
    obtain ⟨v, us, rfl, hv, hu⟩ := hx
    unfold RpL at hu
    obtain ⟨v', us', rfl, hv', hu'⟩ := hu
    unfold RpL at hu'
    subst hu'
    unfold Rp at hv hv'
    obtain ⟨p, vs, rfl, h1, h2⟩ := hv
    obtain ⟨p', vs', rfl, h1', h2'⟩ := hv'
    have hl := h2.length
    have hl' := h2'.length
    refine ⟨p, p', vs, vs', rfl, SqL.of (r1.sub _ _ h1), SqL.of (r1.sub _ _ h1'), k _ _ _ _ _ e1 r1 (fun i F Hb2 H2 m2 e2 r2 => ?_) q⟩
    have hq : SqL K H2 p vs := SqL.of (r2.sub _ _ (e2 _ _ h1))
    have hq' : SqL K H2 p' vs' := SqL.of (r2.sub _ _ (e2 _ _ h1'))
    refine ⟨fun hi => ⟨vs, vs', hq, hq', by simp at hi; omega⟩, fun d hd => ?_⟩
    rw [List.getElem?_map] at hd
    cases hz : (ds.zip es)[i]? with
    | none =>
      rw [hz] at hd
      cases hd
    | some pr =>
      rw [hz] at hd
      cases hd
      obtain ⟨z1, z2⟩ := List.getElem?_zip_eq_some.mp hz
      obtain ⟨u, hu1, hu2⟩ := h2.get z1
      obtain ⟨u', hu1', hu2'⟩ := h2'.get z2
      refine ⟨⟨vs, vs', u, u', hq, hq', hu1, hu1'⟩, fun y H' hy => ?_⟩
      obtain ⟨T, z, z', rfl, hT, rfl, hz, hz'⟩ := hy
      have q1 := hz vs hq
      have q2 := hz' vs' hq'
      rw [hu1] at q1
      rw [hu1'] at q2
      cases q1
      cases q2
      exact new_pair r2 hT (hu2.mono e2) (hu2'.mono e2)

/-! ### a list, a tuple or a text, as it comes -/
def iAny (K : PySem.W.Frag) (te : TE) : TI := fun σ H R => te σ H fun v H1 => (∃ a, v = .ref a ∧ (∃ vs, SqL K H1 a vs) ∧ R (Itl K a) H1) ∨ (∃ a, v = .ref a ∧ (∃ vs, SqT K H1 a vs) ∧ R (Itt K a) H1) ∨ ∃ z, v = .str z ∧ R (Its z) H1
theorem pi_any {X : Cx} {tg e : Expr} {te : TE} (he : PE X e te) : PI X tg e (iAny X.K te) := by
  refine ⟨fun pins s σ H R I h => thn (he.run pins s σ H _ I h) fun v s1 ⟨y, H1, I1, r1, q⟩ => ?_⟩
  rcases q with ⟨a, rfl, ⟨vs, hq⟩, q⟩ | ⟨a, rfl, ⟨vs, hq⟩, q⟩ | ⟨z, rfl, q⟩
  · cases r1
    obtain ⟨its, _, p, _⟩ := I1.list hq
    exact wpAny_pyIter_list p.isList (pi_one (tk := s1.toks) I1 _ (turn_list a _) ⟨_, Heap.get?_push_size _ rfl, rfl, rfl⟩ q)
  · cases r1
    obtain ⟨its, _, p, _⟩ := I1.tuple hq
    exact wpAny_pyIter_tuple (show s1.heap.IsTuple a its.toArray from p) (pi_one (tk := s1.toks) I1 _ (turn_tuple a _) ⟨_, Heap.get?_push_size _ rfl, rfl, rfl⟩ q)
  · obtain ⟨t, rfl⟩ := r1
    cases ha : z.cps.all (· < 128) with
    | false => exact wpAny_pyIter_wide ha (pi_one (tk := s1.toks) I1 _ (turn_str _ z t "str_iterator" (.inr rfl)) ⟨_, Heap.get?_push_size _ rfl, rfl, rfl⟩ q)
    | true => exact wpAny_pyIter_ascii ha (pi_one (tk := s1.toks) I1 _ (turn_str _ z t "str_ascii_iterator" (.inl rfl)) ⟨_, Heap.get?_push_size _ rfl, rfl, rfl⟩ q)
theorem it_str {t : Str} : Iters K Hb (Its t) (chrs t) := fun i F Hb2 H2 m2 e2 r2 => ⟨fun hi => by
    show t.cps.size ≤ i
    simpa [chrs] using hi, fun d hd => by
    unfold chrs at hd
    rw [List.getElem?_map] at hd
    cases hc : t.cps.toList[i]? with
    | none =>
      rw [hc] at hd
      cases hd
    | some c =>
      rw [hc] at hd
      cases hd
      have hc' : t.cps[i]? = some c := by simpa using hc
      refine ⟨?_, fun x H' y => ?_⟩
      · show i < t.cps.size
        exact (Array.getElem?_eq_some_iff.mp hc').1
      · obtain ⟨rfl, c', h1, rfl⟩ := y
        rw [hc'] at h1
        cases h1
        exact ⟨Hb2, Same.refl _, r2, rp_s⟩⟩
def seqD : D → Option (List D)
  | .lst xs => some xs
  | .tup xs => some xs
  | .s (.str t) => some (chrs t)
  | .pl ns => some ((ns.map V.str).map D.s)
  | _ => none
theorem wi_any {te : TE} {Q : List D → Mem → Prop} (h : WE K F B te ρ m fun x m1 => ∃ xs, seqD x = some xs ∧ Q xs m1) : WI K F B (iAny K te) ρ m Q := fun Hb H σ R hB r hs k =>
  h Hb H σ _ hB r hs fun v H1 Hb1 x m1 e1 r1 hx q1 => by
    obtain ⟨xs, hs', q⟩ := q1
    cases x with
    | lst ys =>
      cases hs'
      unfold Rp at hx
      obtain ⟨p, vs, rfl, h1, h2⟩ := hx
      exact .inl ⟨p, rfl, ⟨vs, SqL.of (r1.sub _ _ h1)⟩, k _ _ _ _ _ e1 r1 (it_list (SqL.of h1) h2) q⟩
    | tup ys =>
      cases hs'
      unfold Rp at hx
      obtain ⟨p, vs, rfl, h1, h2⟩ := hx
      exact .inr (.inl ⟨p, rfl, ⟨vs, sameT r1.sub h1⟩, k _ _ _ _ _ e1 r1 (it_tup h1 h2) q⟩)
    | pl ns =>
      cases hs'
      unfold Rp at hx
      obtain ⟨p, rfl, h1⟩ := hx
      exact .inr (.inl ⟨p, rfl, ⟨_, .inl (.inl (r1.sub _ _ h1))⟩, k _ _ _ _ _ e1 r1 (it_tup (.inl (.inl h1)) (RpL.ofScal _)) q⟩)
    | s w =>
      cases w with
      | str t =>
        cases hs'
        unfold Rp at hx
        exact .inr (.inr ⟨t, hx, k _ _ _ _ _ e1 r1 it_str q⟩)
      | _ => cases hs'
    | _ => cases hs'

/-! ### for -/
theorem ws_for {wi : TI} {g : TG} {tb : TS} {E : DE} (h : WI K F B wi ρ m fun xs m1 => ∃ I : Nat → Env → Mem → Prop, I 0 ρ m1 ∧
      (∀ i d ρ' m', xs[i]? = some d → I i ρ' m' → WG K F B g d ρ' m' fun ρ2 m2 => WS K F B tb ρ2 m2 { nx := I (i + 1), ct := I (i + 1), bk := E.nx, rt := E.rt }) ∧ (∀ ρ' m', I xs.length ρ' m' → E.nx ρ' m')) :
    WS K F B (tFor wi g tb) ρ m E := fun Hb H σ R hB r hs k =>
  h Hb H σ _ hB r hs fun J H1 Hb1 xs m1 e1 r1 hj q1 => by
    obtain ⟨I, h0, ht, hd⟩ := q1
    refine ⟨fun i n σ' H' => n = xs.length - i ∧ i ≤ xs.length ∧ ∃ Hb' ρ' m', Same Hb1 Hb' ∧ Rel K F Hb' H' m' ∧ RpS K Hb' ρ' σ' ∧ I i ρ' m', ⟨xs.length, by simp, Nat.zero_le _, Hb1, ρ, m1, Same.refl _, r1, hs.mono e1, h0⟩, ?_⟩
    rintro i n σ' H' ⟨rfl, hi, Hb', ρ', m', e', r', hs', hI⟩
    by_cases hlt : i < xs.length
    · obtain ⟨hgo, hy⟩ := (hj i F Hb' H' m' e' r').2 xs[i] (by simp [hlt])
      refine .inr ⟨hgo, fun σ2 H2 => ∃ Hb2 ρ2 m2, Same Hb1 Hb2 ∧ Rel K F Hb2 H2 m2 ∧ RpS K Hb2 ρ2 σ2 ∧ I (i + 1) ρ2 m2, fun σ2 H2 q2 => ⟨xs.length - (i + 1), by omega, rfl, hlt, q2⟩, fun x H2 y => ?_⟩
      obtain ⟨Hb2, e2, r2, hx⟩ := hy x H2 y
      have eB : Same B Hb2 := (hB.trans e1).trans (e'.trans e2)
      refine ht i xs[i] ρ' m' (by simp [hlt]) hI Hb2 H2 σ' x _ eB r2 (hs'.mono e2) hx fun σ3 H3 Hb3 ρ3 m3 e3 r3 hs3 q3 => ?_
      have e13 : Same Hb1 Hb3 := (e'.trans e2).trans e3
      exact q3 Hb3 H3 σ3 _ (eB.trans e3) r3 hs3 ⟨fun σ4 H4 Hb4 ρ4 m4 e4 r4 hs4 q4 => ⟨Hb4, ρ4, m4, e13.trans e4, r4, hs4, q4⟩, k.rt.mono (e1.trans e13), k.nx.mono (e1.trans e13), fun σ4 H4 Hb4 ρ4 m4 e4 r4 hs4 q4 => ⟨Hb4, ρ4, m4, e13.trans e4, r4, hs4, q4⟩⟩
    · have e : i = xs.length := by omega
      subst e
      exact .inl ⟨(hj _ F Hb' H' m' e' r').1 (Nat.le_refl _), k.nx _ _ _ _ _ (e1.trans e') r' hs' (hd _ _ hI)⟩

/-! ### while -/
theorem ws_while {c : TT} {tb : TS} {E : DE} (I : Nat → Env → Mem → Prop) {n : Nat} (h0 : I n ρ m)
    (ht : ∀ n ρ' m', I n ρ' m' → WT K F B c ρ' m' fun b m1 => (b = true → WS K F B tb ρ' m1 { nx := fun ρ2 m2 => ∃ n', n' < n ∧ I n' ρ2 m2, ct := fun ρ2 m2 => ∃ n', n' < n ∧ I n' ρ2 m2, bk := E.nx, rt := E.rt }) ∧ (b = false → E.nx ρ' m1)) :
    WS K F B (tWhile c tb) ρ m E := fun Hb H σ R hB r hs k => by
  refine ⟨fun n σ' H' => ∃ Hb' ρ' m', Same Hb Hb' ∧ Rel K F Hb' H' m' ∧ RpS K Hb' ρ' σ' ∧ I n ρ' m', ⟨n, Hb, ρ, m, Same.refl _, r, hs, h0⟩, ?_⟩
  rintro n σ' H' ⟨Hb', ρ', m', e', r', hs', hI⟩
  refine ht n ρ' m' hI Hb' H' σ' _ (hB.trans e') r' hs' fun b H1 Hb1 m1 e1 r1 q1 => ?_
  have e01 : Same Hb Hb1 := e'.trans e1
  cases b with
  | true =>
    refine iteT ⟨fun σ2 H2 => ∃ n', n' < n ∧ ∃ Hb2 ρ2 m2, Same Hb Hb2 ∧ Rel K F Hb2 H2 m2 ∧ RpS K Hb2 ρ2 σ2 ∧ I n' ρ2 m2, fun σ2 H2 q => q, ?_⟩
    exact q1.1 rfl Hb1 H1 σ' _ (hB.trans e01) r1 (hs'.mono e1) ⟨fun σ4 H4 Hb4 ρ4 m4 e4 r4 hs4 ⟨n', hn, q4⟩ => ⟨n', hn, Hb4, ρ4, m4, e01.trans e4, r4, hs4, q4⟩, k.rt.mono e01, k.nx.mono e01, fun σ4 H4 Hb4 ρ4 m4 e4 r4 hs4 ⟨n', hn, q4⟩ => ⟨n', hn, Hb4, ρ4, m4, e01.trans e4, r4, hs4, q4⟩⟩
  | false => exact iteF (k.nx _ _ _ _ _ e01 r1 (hs'.mono e1) (q1.2 rfl))

/-! ### comprehensions -/
/-- a target within a comprehension: its own slots vs alone are stored -/
def WGw (K : PySem.W.Frag) (F B : Hp) (g : TG) (vs : List Nat) (x : D) (ρ : Env) (m : Mem) (Q : Env → Mem → Prop) : Prop := ∀ Hb H σ v (R : L2.St → Hp → Prop), Same B Hb → Rel K F Hb H m → RpS K Hb ρ σ → Rp K Hb x v → OkN K F Hb Q R → g v (L2.wipe σ vs) H fun σ2 H2 => L2.wipe σ2 vs = L2.wipe σ vs ∧ R σ2 H2
theorem wipe_set {σ : L2.St} {i : Nat} {x : Option V} : ∀ {vs : List Nat}, i ∈ vs → L2.wipe (σ.set i x) vs = L2.wipe σ vs
  | v :: vs, h => by
    unfold L2.wipe
    by_cases hv : i ∈ vs
    · rw [wipe_set hv]
    · have e : i = v := by
        rcases List.mem_cons.mp h with z | z
        · exact z
        · exact absurd z hv
      subst e
      have comm : ∀ {us : List Nat} {σ : L2.St}, i ∉ us → L2.wipe (σ.set i x) us = (L2.wipe σ us).set i x := fun {us} => by
        induction us with
        | nil =>
          intro σ _
          rfl
        | cons u us ih =>
          intro σ hu
          simp only [List.mem_cons, not_or] at hu
          unfold L2.wipe
          rw [ih hu.2, List.set_comm _ _ hu.1]
      rw [comm hv, List.set_set]
theorem wipe_wipe {σ : L2.St} : ∀ {vs : List Nat}, (∀ us : List Nat, (∀ u ∈ us, u ∈ vs) → L2.wipe (L2.wipe σ us) vs = L2.wipe σ vs) := fun {vs} us => by
  induction us with
  | nil =>
    intro _
    rfl
  | cons u us ih =>
    intro h
    show L2.wipe ((L2.wipe σ us).set u none) vs = L2.wipe σ vs
    rw [wipe_set (h u List.mem_cons_self)]
    exact ih fun z hz => h z (List.mem_cons_of_mem _ hz)
theorem wgw_name {i : Nat} {vs : List Nat} {x : D} {Q : Env → Mem → Prop} (hi : i ∈ vs) (q : Q ((wipeD ρ vs).set i (some x)) m) : WGw K F B (gName i) vs x ρ m Q := fun Hb H σ v R hB r hs hx k => by
  show L2.wipe ((L2.wipe σ vs).set i (some v)) vs = L2.wipe σ vs ∧ R ((L2.wipe σ vs).set i (some v)) H
  exact ⟨by rw [wipe_set hi, wipe_wipe vs fun _ z => z], k.here r ((hs.wipe vs).set hx) q⟩
theorem wgw_pair {i j : Nat} {vs : List Nat} {x y : D} {Q : Env → Mem → Prop} (hi : i ∈ vs) (hj : j ∈ vs) (q : Q (((wipeD ρ vs).set i (some x)).set j (some y)) m) :
    WGw K F B (gTup K 2 (gCons (gName i) (gCons (gName j) gNil))) vs (.tup [x, y]) ρ m Q := fun Hb H σ v R hB r hs hx k => by
  unfold Rp at hx
  obtain ⟨p, us, rfl, h1, h2⟩ := hx
  unfold RpL at h2
  obtain ⟨v1, us, rfl, hv1, h2⟩ := h2
  unfold RpL at h2
  obtain ⟨v2, us, rfl, hv2, h2⟩ := h2
  unfold RpL at h2
  subst h2
  refine ⟨p, [v1, v2], rfl, sameT r.sub h1, rfl, v1, [v2], rfl, v2, [], rfl, rfl, ?_⟩
  exact ⟨by rw [wipe_set hj, wipe_set hi, wipe_wipe vs fun _ z => z], k.here r (((hs.wipe vs).set hv1).set hv2) q⟩
theorem we_lc {wi : TI} {g : TG} {tt : TT} {te : TE} {vs : List Nat} {Q : QD} (h : WI K F B wi ρ m fun xs m1 => ∃ I : Nat → List D → Mem → Prop, I 0 [] m1 ∧
      (∀ F' i d acc m', xs[i]? = some d → I i acc m' → WGw K F' B g vs d ρ m' fun ρ2 m2 => WT K F' B tt ρ2 m2 fun b m3 =>
        (b = true → WE K F' B te ρ2 m3 fun y m4 => acc.length < sizeLine ∧ I (i + 1) (acc ++ [y]) m4) ∧ (b = false → I (i + 1) acc m3)) ∧ (∀ acc m', I xs.length acc m' → Q (.lst acc) m')) :
    WE K F B (tLc wi g tt te vs) ρ m Q := fun Hb H σ R hB r hs k =>
  h Hb H σ _ hB r hs fun J H1 Hb1 xs m1 e1 r1 hj q1 => by
    obtain ⟨I, h0, ht, hd⟩ := q1
    intro A hA
    have hF : F A = none := r1.nofr hA
    refine ⟨fun i n H' => n = xs.length - i ∧ i ≤ xs.length ∧ ∃ Hb' acc us m', Same Hb1 Hb' ∧ Rel K (upd F A (.lst us)) Hb' H' m' ∧ RpL K Hb' acc us ∧ I i acc m', ⟨xs.length, by simp, Nat.zero_le _, Hb1, [], [], m1, Same.refl _, r1.aside hA, RpL.nil, h0⟩, ?_⟩
    rintro i n H' ⟨rfl, hi, Hb', acc, us, m', e', r', ha, hI⟩
    by_cases hlt : i < xs.length
    · obtain ⟨hgo, hy⟩ := (hj i _ Hb' H' m' e' r').2 xs[i] (by simp [hlt])
      refine .inr ⟨hgo, fun H2 => ∃ Hb2 acc2 us2 m2, Same Hb1 Hb2 ∧ Rel K (upd F A (.lst us2)) Hb2 H2 m2 ∧ RpL K Hb2 acc2 us2 ∧ I (i + 1) acc2 m2, fun H2 q2 => ⟨xs.length - (i + 1), by omega, rfl, hlt, q2⟩, fun x H2 y => ?_⟩
      obtain ⟨Hb2, e2, r2, hx⟩ := hy x H2 y
      have eB : Same B Hb2 := (hB.trans e1).trans (e'.trans e2)
      refine ht (upd F A (.lst us)) i xs[i] acc m' (by simp [hlt]) hI Hb2 H2 σ x _ eB r2 (hs.mono ((e1.trans e').trans e2)) hx fun σ3 H3 Hb3 ρ3 m3 e3 r3 hs3 q3 => ?_
      refine q3 Hb3 H3 σ3 _ (eB.trans e3) r3 hs3 fun b H4 Hb4 m4 e4 r4 q4 => ?_
      have e14 : Same Hb1 Hb4 := ((e'.trans e2).trans e3).trans e4
      cases b with
      | true =>
        refine iteT (q4.1 rfl Hb4 H4 σ3 _ ((eB.trans e3).trans e4) r4 (hs3.mono e4) fun v H5 Hb5 y5 m5 e5 r5 hy5 q5 => ?_)
        have hD := (r5.fr A _ upd_same).1
        have ha5 : RpL K Hb5 acc us := ha.mono (((e2.trans e3).trans e4).trans e5)
        refine ⟨us, hD, by rw [ha5.length]; exact q5.1, Hb5, acc ++ [y5], us ++ [v], m5, e14.trans e5, r5.turnA, ha5.app (RpL.cons hy5 RpL.nil), q5.2⟩
      | false => exact iteF ⟨Hb4, acc, us, m4, e14, r4, ha.mono ((e2.trans e3).trans e4), q4.2 rfl⟩
    · have e : i = xs.length := by omega
      subst e
      have e4 : Same Hb' (upd Hb' A (.lst us)) := Same.new (r'.fr A _ upd_same).2.1
      refine .inl ⟨(hj _ _ Hb' H' m' e' r').1 (Nat.le_refl _), k _ _ _ (.lst acc) _ ((e1.trans e').trans e4) (r'.settle hF) ?_ (hd _ _ hI)⟩
      unfold Rp
      exact ⟨A, us, rfl, upd_same, ha.mono e4⟩
/-- a comprehension that changes nothing: what is made is f of the items -/
theorem we_lcMap {wi : TI} {g : TG} {te : TE} {vs : List Nat} {Q : QD} (h : WI K F B wi ρ m fun xs m1 => ∃ f : D → D, xs.length ≤ sizeLine ∧
      (∀ F' d, d ∈ xs → WGw K F' B g vs d ρ m1 fun ρ2 m2 => m2 = m1 ∧ WE K F' B te ρ2 m1 fun y m4 => y = f d ∧ m4 = m1) ∧ Q (.lst (xs.map f)) m1) : WE K F B (tLc wi g tYes te vs) ρ m Q :=
  we_lc fun Hb H σ R hB r hs k => h Hb H σ R hB r hs fun J H' Hb' xs m1 e1 r1 hj ⟨f, hl, hf, q⟩ => k J H' Hb' xs m1 e1 r1 hj ⟨fun i acc m' => acc = (xs.take i).map f ∧ m' = m1, ⟨by simp, rfl⟩, fun F' i d acc m' hd ⟨ha, hm⟩ => by
    subst hm
    have hi : i < xs.length := (List.getElem?_eq_some_iff.mp hd).1
    intro Hb2 H2 σ2 v R2 hB2 r2 hs2 hx2 k2
    refine hf F' d (List.mem_of_getElem? hd) Hb2 H2 σ2 v R2 hB2 r2 hs2 hx2 fun σ3 H3 Hb3 ρ3 m3 e3 r3 hs3 ⟨em, q3⟩ => k2 σ3 H3 Hb3 ρ3 m3 e3 r3 hs3 ?_
    subst em
    refine wt_yes ⟨fun _ => we_imp q3 fun y m4 ⟨ey, em⟩ => ?_, fun z => by cases z⟩
    subst ey em ha
    refine ⟨by simp; omega, ?_, rfl⟩
    rw [List.take_add_one, hd]
    simp, fun acc m' ⟨ha, hm⟩ => by
    subst ha hm
    rw [List.take_length]
    exact q⟩
/-- .. with a test: the items that p lets, f of them -/
theorem we_lcFilter {wi : TI} {g : TG} {tt : TT} {te : TE} {vs : List Nat} {Q : QD} (h : WI K F B wi ρ m fun xs m1 => ∃ (p : D → Bool) (f : D → D), xs.length ≤ sizeLine ∧
      (∀ F' d, d ∈ xs → WGw K F' B g vs d ρ m1 fun ρ2 m2 => m2 = m1 ∧ WT K F' B tt ρ2 m1 fun b m3 => b = p d ∧ m3 = m1 ∧ (b = true → WE K F' B te ρ2 m1 fun y m4 => y = f d ∧ m4 = m1)) ∧ Q (.lst ((xs.filter p).map f)) m1) : WE K F B (tLc wi g tt te vs) ρ m Q :=
  we_lc fun Hb H σ R hB r hs k => h Hb H σ R hB r hs fun J H' Hb' xs m1 e1 r1 hj ⟨p, f, hl, hf, q⟩ => k J H' Hb' xs m1 e1 r1 hj ⟨fun i acc m' => acc = ((xs.take i).filter p).map f ∧ m' = m1, ⟨by simp, rfl⟩, fun F' i d acc m' hd ⟨ha, hm⟩ => by
    subst hm
    have hi : i < xs.length := (List.getElem?_eq_some_iff.mp hd).1
    intro Hb2 H2 σ2 v R2 hB2 r2 hs2 hx2 k2
    refine hf F' d (List.mem_of_getElem? hd) Hb2 H2 σ2 v R2 hB2 r2 hs2 hx2 fun σ3 H3 Hb3 ρ3 m3 e3 r3 hs3 ⟨em, q3⟩ => k2 σ3 H3 Hb3 ρ3 m3 e3 r3 hs3 ?_
    subst em
    have hz : acc.length < sizeLine := by
      rw [ha, List.length_map]
      have z := List.length_filter_le p (xs.take i)
      rw [List.length_take] at z
      omega
    refine wt_imp q3 fun b m4 ⟨eb, em, q4⟩ => ⟨fun z => ?_, fun z => ?_⟩
    · subst em
      refine we_imp (q4 z) fun y m5 ⟨ey, em⟩ => ⟨hz, ?_, em⟩
      subst ey ha
      rw [List.take_add_one, hd, List.filter_append, List.map_append]
      simp [← eb, z]
    · subst ha
      refine ⟨?_, em⟩
      rw [List.take_add_one, hd, List.filter_append, List.map_append]
      simp [← eb, z], fun acc m' ⟨ha, hm⟩ => by
    subst ha hm
    rw [List.take_length]
    exact q⟩
end
end DD

/-! HOwn: operators and len by defs of the program's own classes. -/
namespace HO1
open PySem L2
open PySem.Spec PyProof.Rows

section
variable {X : Cx} {CX : CXT} {k : Nat} {f C : Addr} {fd : FuncData} {ps : List Str} {sp : Sp} {E : XK} {pins : List (Addr × Obj)} {σ : L2.St} {H : Hp} {s : Shared}
theorem vals_rr {a b : Addr} : Vals [V.ref a, V.ref b] [Value.ref a, Value.ref b] := .cons (show RelV (V.ref a) (Value.ref a) from rfl) (.cons (show RelV (V.ref b) (Value.ref b) from rfl) .nil)
theorem vals_rx {a : Addr} {x : V} {u : Value} (r : RelV x u) : Vals [V.ref a, x] [Value.ref a, u] := .cons (show RelV (V.ref a) (Value.ref a) from rfl) (.cons r .nil)
/-- a def of the text called below the running body -/
theorem run_in {A : Around} (F : FnOk X.prog X.w X.K X.mg X.base CX k f fd ps sp) (hr : Room k A) (hfr : A.frames = X.A.frames) (hb : Binds X.K fd ps []) (hx : Passes CX X E)
    (I : Inv X pins σ H s) {us : List Value} {vs : List V} (r : Vals vs us) {Q : VK} (h : sp vs H Q E) : wpAny (model X.prog X.w) A (call (.ref f) us) (EP X pins σ Q) X.xe s := by
  have e0 : Env0 X.prog X.w X.K X.mg X.base A X.stack s H := by
    have e := I.env0
    exact ⟨by rw [hfr]; exact e.frames, e.mod, e.bs, e.bsz, e.funs, e.frf, e.hok, e.bare⟩
  have hl := F.len _ _ _ _ h
  have hu : (us ++ []).length = ps.length := by
    rw [List.append_nil, ← r.length]
    exact hl
  have bb : BindsTo s fd ⟨us, []⟩ (ps.zip us) := by
    have q := hb s us I.kIn hu
    rw [List.append_nil] at q
    exact q
  refine wpAny_call (codeAny_mono (F.run A X.stack s H ⟨us, []⟩ us vs Q E hr e0 bb r h) fun r' s' hq => ?_)
  cases r' with
  | error e => exact hx pins σ H s e s' I hq
  | ok fl =>
    cases fl with
    | ret w => exact I.after hq
    | next => exact False.elim hq
    | brk => exact False.elim hq
    | cont => exact False.elim hq
theorem inst_at {a dx : Addr} {fs : List (Str × V)} (I : Inv X pins σ H s) (h : H a = some (.ins C dx fs)) : ∃ ox od, PySem.W.InstAt s.heap a ox C (some od) := by
  obtain ⟨mA, J, _⟩ := ins_get I.hok h
  obtain ⟨od, J, _⟩ := J.look
  exact ⟨_, od, J⟩
/-- what comes back is no stand-in -/
theorem back_of {Q : VK} {v : Value} {s' : Shared} (h : EP X pins σ Q v s') : PySem.W.CmpBack (EP X pins σ Q) v s' := by
  obtain ⟨z, H', I', r, q⟩ := h
  have h2 : EP X pins σ Q v s' := ⟨z, H', I', r, q⟩
  cases z with
  | non => cases r; exact h2
  | bl _ => cases r; exact h2
  | int _ => obtain ⟨t, rfl⟩ := r; exact h2
  | str _ => obtain ⟨t, rfl⟩ := r; exact h2
  | byt _ => obtain ⟨t, rfl⟩ := r; exact h2
  | flt _ => obtain ⟨t, rfl⟩ := r; exact h2
  | ref _ => cases r; exact h2
  | ty _ => cases r; exact h2

/-! ### len -/
def rLenO (C : Addr) (sp : Sp) (E : XK) : List V → Hp → VK → Prop := fun xs H Q => ∃ a dx fs, xs = [.ref a] ∧ H a = some (.ins C dx fs) ∧ sp [.ref a] H (fun z H' => ∃ n : Int, z = .int n ∧ 0 ≤ n ∧ n < 2 ^ 63 ∧ Q (.int n) H') E
theorem call_lenO (F : FnOk X.prog X.w X.K X.mg X.base CX k f fd ps sp) (hr : Room (k + 1) X.A) (hb : Binds X.K fd ps []) (hx : Passes CX X E)
    (hs : PySem.W.findIn X.K (.ref C) "__len__" = some (some (.ref f))) (hf : PySem.W.isFn X.K (.ref f) = true) : CallR X (.builtin "len") (rLenO C sp E) := by
  intro pins s σ H xs us Q I r h
  obtain ⟨a, dx, fs, rfl, ha, q⟩ := h
  have eu := Vals.ref1 r
  subst eu
  obtain ⟨ox, od, J⟩ := inst_at I ha
  obtain ⟨m, fr⟩ := I.fr
  refine PySem.W.len_K fr I.ok.mod.kin J hs hf (thn (run_in (A := X.A.in1) F hr.in1 rfl hb hx I r q) fun v s' z => ?_)
  obtain ⟨z', H', I', rz, n, en, h0, h1, qz⟩ := z
  subst en
  obtain ⟨t, rfl⟩ := rz
  exact ⟨⟨h0, h1⟩, .int n, H', I'.tok _, ⟨_, rfl⟩, qz⟩

/-! ### operators -/
def rBinO (C : Addr) (sp : Sp) (E : XK) : R2 := fun x y H Q => ∃ a b dx dy fs gs, x = .ref a ∧ y = .ref b ∧ H a = some (.ins C dx fs) ∧ H b = some (.ins C dy gs) ∧ sp [x, y] H Q E
theorem op_binO {op : Operator} (F : FnOk X.prog X.w X.K X.mg X.base CX k f fd ps sp) (hr : Room k X.A) (hb : Binds X.K fd ps []) (hx : Passes CX X E) (hc : PySem.W.selfFirst X.K C = true)
    (hs : PySem.W.findIn X.K (.ref C) (PySem.dunder op.info.2) = some (some (.ref f))) (hf : PySem.W.isFn X.K (.ref f) = true) : OpR X (binaryOp op) (rBinO C sp E) := by
  intro pins s σ H x y v u Q I rx ry h
  obtain ⟨a, b, dx, dy, fs, gs, rfl, rfl, ha, hb', q⟩ := h
  cases rx
  cases ry
  obtain ⟨ox, od, J⟩ := inst_at I ha
  obtain ⟨oy, oe, J'⟩ := inst_at I hb'
  obtain ⟨m, fr⟩ := I.fr
  exact PySem.W.binop_K fr I.ok.mod.kin J J'.type hc hs hf (thn (run_in F hr rfl hb hx I vals_rr q) fun v s' z => back_of z)

/-! ### in -/
def rInO (C : Addr) (sp : Sp) (E : XK) (neg : Bool) : R2 := fun x y H Q => ∃ a dx fs, y = .ref a ∧ H a = some (.ins C dx fs) ∧ sp [y, x] H (fun z H' => ∃ b, z = .bl b ∧ Q (.bl (if neg then !b else b)) H') E
theorem truthy_bl {M : Model} {A : Around} {E : Value → Shared → Prop} {s : Shared} {b : Bool} {Q : Bool → Shared → Prop} (h : Q b s) : wpAny M A (truthy (.bool b)) Q E s := by
  have e : truthy (.bool b) = pure b := by first | rfl | kernel_rfl
  rw [e]
  exact wpAny_pure h
theorem op_inO (F : FnOk X.prog X.w X.K X.mg X.base CX k f fd ps sp) (hr : Room k X.A) (hb : Binds X.K fd ps []) (hx : Passes CX X E)
    (hs : PySem.W.findIn X.K (.ref C) "__contains__" = some (some (.ref f))) (hf : PySem.W.isFn X.K (.ref f) = true) : OpR X (compareOp .In) (rInO C sp E false) := by
  intro pins s σ H x y v u Q I rx ry h
  obtain ⟨a, dx, fs, rfl, ha, q⟩ := h
  cases ry
  obtain ⟨ox, od, J⟩ := inst_at I ha
  obtain ⟨m, fr⟩ := I.fr
  refine PySem.W.in_K fr I.ok.mod.kin J hs hf (thn (run_in F hr rfl hb hx I (vals_rx rx) q) fun v s' z => ?_)
  obtain ⟨z', H', I', rz, b, eb, qz⟩ := z
  subst eb
  cases rz
  exact truthy_bl ⟨.bl b, H', I', rfl, qz⟩
theorem op_notInO (F : FnOk X.prog X.w X.K X.mg X.base CX k f fd ps sp) (hr : Room k X.A) (hb : Binds X.K fd ps []) (hx : Passes CX X E)
    (hs : PySem.W.findIn X.K (.ref C) "__contains__" = some (some (.ref f))) (hf : PySem.W.isFn X.K (.ref f) = true) : OpR X (compareOp .NotIn) (rInO C sp E true) := by
  intro pins s σ H x y v u Q I rx ry h
  obtain ⟨a, dx, fs, rfl, ha, q⟩ := h
  cases ry
  obtain ⟨ox, od, J⟩ := inst_at I ha
  obtain ⟨m, fr⟩ := I.fr
  refine PySem.W.notIn_K fr I.ok.mod.kin J hs hf (thn (run_in F hr rfl hb hx I (vals_rx rx) q) fun v s' z => ?_)
  obtain ⟨z', H', I', rz, b, eb, qz⟩ := z
  subst eb
  cases rz
  exact truthy_bl ⟨.bl (!b), H', I', rfl, qz⟩

/-! ### ==, <= .. and != -/
/-- the type of the other value, and that its class is not one below C -/
def Apart (K : PySem.W.Frag) (C : Addr) (y : V) (H : Hp) : Prop := ∃ t, TyX K H y t ∧ PySem.W.notFirst K C t = true
theorem tyx_type {x : V} {u t : Value} (I : Inv X pins σ H s) (rx : RelV x u) (ty : TyX X.K H x t) {M : Model} : PySem.W.Looks M s.heap (typeOf u) t := by
  cases ty with
  | base b =>
    cases b with
    | non => cases (show u = Value.none from rx); exact PySem.W.Looks.of_pure (by first | rfl | kernel_rfl)
    | bl y => cases (show u = Value.bool y from rx); exact PySem.W.Looks.of_pure (by first | rfl | kernel_rfl)
    | int i => obtain ⟨t, q⟩ := (show ∃ t, u = Value.int i t from rx); cases q; exact PySem.W.Looks.of_pure (by first | rfl | kernel_rfl)
    | str y => obtain ⟨t, q⟩ := (show ∃ t, u = Value.str y t from rx); cases q; exact PySem.W.Looks.of_pure (by first | rfl | kernel_rfl)
    | flt y => obtain ⟨t, q⟩ := (show ∃ t, u = Value.float y t from rx); cases q; exact PySem.W.Looks.of_pure (by first | rfl | kernel_rfl)
    | @lst a xs ea =>
      cases (show u = Value.ref a from rx)
      obtain ⟨_, _, n, _, h1⟩ := (show ObjOk X.prog X.w H s.heap a (.lst xs) from I.hok a _ ea)
      exact (PySem.W.Looks.ld h1).andThen .now
    | @frz a ob xs ea =>
      cases (show u = Value.ref a from rx)
      obtain ⟨_, _, _, n, _, h1⟩ := (show ObjOk X.prog X.w H s.heap a (.frz ob (.lst xs)) from I.hok a _ ea)
      exact (PySem.W.Looks.ld h1).andThen .now
    | @tup a xs ea =>
      cases (show u = Value.ref a from rx)
      obtain ⟨_, _, _, o, h1, h2, _⟩ := (show ObjOk X.prog X.w H s.heap a (.tup xs) from I.hok a _ ea)
      exact h2 ▸ (PySem.W.Looks.ld h1).andThen .now
    | @dK a kvs ea =>
      cases (show u = Value.ref a from rx)
      obtain ⟨_, _, vs, _, o, es, ep, h1, h2, _⟩ := (show ObjOk X.prog X.w H s.heap a (.dK kvs) from I.hok a _ ea)
      exact h2.1 ▸ (PySem.W.Looks.ld h1).andThen .now
    | @dT a kvs ea =>
      cases (show u = Value.ref a from rx)
      obtain ⟨_, _, xs, _, o, es, ep, h1, h2, _⟩ := (show ObjOk X.prog X.w H s.heap a (.dT kvs) from I.hok a _ ea)
      exact h2.1 ▸ (PySem.W.Looks.ld h1).andThen .now
    | @ins a C dx fs ea cl ha hn htk hm =>
      cases (show u = Value.ref a from rx)
      obtain ⟨ox, od, J⟩ := inst_at I ea
      exact J.type
  | byt y => obtain ⟨t, q⟩ := (show ∃ t, u = Value.bytes y t from rx); cases q; exact PySem.W.Looks.of_pure (by first | rfl | kernel_rfl)
  | @set a S n ea =>
    cases (show u = Value.ref a from rx)
    obtain ⟨o, _, _, _, e, ex, _⟩ := I.hok a _ ea
    exact ex.1 ▸ (PySem.W.Looks.ld e).andThen .now
  | @kList a o e c =>
    cases (show u = Value.ref a from rx)
    exact c ▸ (PySem.W.Looks.ld (I.kIn a o e)).andThen .now
  | @kTuple a o e c =>
    cases (show u = Value.ref a from rx)
    exact c ▸ (PySem.W.Looks.ld (I.kIn a o e)).andThen .now
  | @kDict a o e c =>
    cases (show u = Value.ref a from rx)
    exact c ▸ (PySem.W.Looks.ld (I.kIn a o e)).andThen .now
  | @fTuple a ob xs ea =>
    cases (show u = Value.ref a from rx)
    obtain ⟨_, _, _, _, o, h1, h2, _⟩ := (show ObjOk X.prog X.w H s.heap a (.frz ob (.tup xs)) from I.hok a _ ea)
    exact h2 ▸ (PySem.W.Looks.ld h1).andThen .now
  | @fDict a ob kvs ea =>
    cases (show u = Value.ref a from rx)
    obtain ⟨_, _, _, vs, _, o, es, ep, h1, h2, _⟩ := (show ObjOk X.prog X.w H s.heap a (.frz ob (.dK kvs)) from I.hok a _ ea)
    exact h2.1 ▸ (PySem.W.Looks.ld h1).andThen .now
def rCmpO (K : PySem.W.Frag) (C : Addr) (sp : Sp) (E : XK) : R2 := fun x y H Q => ∃ a dx fs, x = .ref a ∧ H a = some (.ins C dx fs) ∧ Apart K C y H ∧ sp [x, y] H Q E
theorem op_cmpO {op : CmpOp} (hop : ∀ a b, compareOp op a b = richCompare op a b) (F : FnOk X.prog X.w X.K X.mg X.base CX k f fd ps sp) (hr : Room k X.A) (hb : Binds X.K fd ps []) (hx : Passes CX X E)
    (hs : PySem.W.findIn X.K (.ref C) (cmpInfo op).2.1 = some (some (.ref f))) (hf : PySem.W.isFn X.K (.ref f) = true) : OpR X (compareOp op) (rCmpO X.K C sp E) := by
  intro pins s σ H x y v u Q I rx ry h
  obtain ⟨a, dx, fs, rfl, ha, ⟨t, ht, hn⟩, q⟩ := h
  cases rx
  obtain ⟨ox, od, J⟩ := inst_at I ha
  obtain ⟨m, fr⟩ := I.fr
  rw [hop]
  exact PySem.W.cmp_K hr.units0 fr I.ok.mod.kin J (tyx_type I ry ht) hn hs hf (thn (run_in F hr rfl hb hx I (vals_rx ry) q) fun v s' z => back_of z)
end

/-! ### != by an own == -/
section
variable {X : Cx} {CX : CXT} {k : Nat} {f C : Addr} {fd : FuncData} {ps : List Str} {sp : Sp} {E : XK}
theorem obj_ne {A : Around} {E : Value → Shared → Prop} {s : Shared} {K : PySem.W.Frag} {x C f : Addr} {ox : Obj} {od : Option Obj} {prog : Program} {w : World} {b : Value} {Q : Fin → Shared → Prop} (hu : A.units < cLine) (KX : K.In s.heap) (J : PySem.W.InstAt s.heap x ox C od)
    (hs : PySem.W.findIn K (.ref C) "__eq__" = some (some (.ref f))) (hf : PySem.W.isFn K (.ref f) = true)
    (h : wpAny (model prog w) A (call (.ref f) [.ref x, b]) (fun v s' => ∃ r, v = .bool r ∧ Q (.done (.ret (.bool (!r)))) s') E s) :
    wpAny (model prog w) A (Builtin.«object.__ne__» ⟨[.ref x, b], []⟩) Q E s := by
  unfold Builtin.«object.__ne__»
  refine wpAny_bind (m := slotArgs "__ne__" 1 ⟨[.ref x, b], []⟩) (wpAny_pure ?_)
  refine wpAny_bind (wpAny_cRoomFor hu ?_)
  refine wpAny_bind (PySem.W.ifBound_K KX J hs hf (wpAny_mono h (fun v s' z => ?_) fun _ _ z => z))
  obtain ⟨r, rfl, q⟩ := z
  exact wpAny_bind (truthy_bl (wpAny_pure q))
theorem ne_own {A : Around} {E : Value → Shared → Prop} {s : Shared} {K : PySem.W.Frag} {x C f : Addr} {ox : Obj} {od : Option Obj} {prog : Program} {w : World} {b : Value} {Q : Value → Shared → Prop} (hu : A.units + 1 < cLine) (KX : K.In s.heap) (J : PySem.W.InstAt s.heap x ox C od)
    (hb : PySem.W.Looks (model prog w) s.heap (typeOf b) tb) (hn : PySem.W.notFirst K C tb = true)
    (he : PySem.W.findIn K (.ref C) "__eq__" = some (some (.ref f))) (hf : PySem.W.isFn K (.ref f) = true) (hne : PySem.W.findIn K (.ref C) "__ne__" = some (some (.builtin "object.__ne__"))) (ho : PySem.W.subIn K (.ref C) (.type "object") = some true)
    (h : wpAny (model prog w) A.in1 (call (.ref f) [.ref x, b]) (fun v s' => ∃ r, v = .bool r ∧ Q (.bool (!r)) s') E s) :
    wpAny (model prog w) A (richCompare .NotEq (.ref x) b) Q E s := by
  have one : wpAny (model prog w) A (tryCompare (.ref x) "__ne__" b) (fun r s' => ∃ v, r = some v ∧ Q v s') E s := by
    unfold tryCompare
    refine wpAny_bind ?_
    simp only [callSpecialIfBound?, bindSpecialIfBound?]
    refine wpAny_holding (wpAny_bind (wpAny_bind (wpAny_bind (J.type.here ((PySem.W.looks_findIn KX hne).here ?_)))))
    simp only [PySem.F.slot_tuple_iterator_ne.bind]
    refine wpAny_bind (wpAny_askSetting (wpAny_ite ?_))
    have go : wpAny (model prog w) A (call (.builtin "object.__ne__") [.ref x, b]) (fun v s' => wpAny (model prog w) A (pure (some v)) (fun a s₁ => wpAny (model prog w) A (match a with | some Value.notImplemented | none => pure none | some v => pure (some v)) (fun r s' => ∃ v, r = some v ∧ Q v s') E s₁) E s') E s := by
      refine wpAny_call (codeAny_call_builtin PySem.F.slot_tuple_iterator_ne.plain PySem.F.cmpEntry_ne (PySem.W.check_slot PySem.F.cmpKind_ne PySem.F.cmpSplit_ne (J.type.andThen (PySem.W.looks_subIn KX ho)) (PySem.F.cmpArgs_ne _ _) ?_))
      refine obj_ne (A := A.in1) hu KX J he hf (wpAny_mono h (fun v s' z => ?_) fun _ _ z => z)
      obtain ⟨r, rfl, q⟩ := z
      exact ⟨r, rfl, wpAny_pure (wpAny_pure ⟨_, rfl, q⟩)⟩
    split
    · exact wpAny_bind (wpAny_pure (wpAny_pure (wpAny_bind go)))
    · exact wpAny_tryCatch (wpAny_bind (wpAny_pure (wpAny_pure (wpAny_bind go))))
  unfold richCompare
  simp only [oneThing_ref]
  refine wpAny_holding (wpAny_bind (wpAny_cRoomFor (by omega) ?_))
  refine wpAny_bind (J.type.here (wpAny_bind (hb.here ?_)))
  have fin : ∀ {T : Option Value → Sem Value}, (∀ v, T (some v) = pure v) → wpAny (model prog w) A (tryCompare (.ref x) "__ne__" b >>= T) Q E s := fun {T} hT => by
    refine wpAny_bind (wpAny_mono one (fun r s' z => ?_) fun _ _ e => e)
    obtain ⟨v, rfl, hq⟩ := z
    rw [hT]
    exact wpAny_pure hq
  split
  · rename_i q
    have e : PySem.W.subIn K tb (.ref C) = some false := by
      rcases Bool.or_eq_true_iff.mp hn with e | e
      · rw [beq_iff_eq.mp e] at q; simp at q
      · exact beq_iff_eq.mp e
    refine wpAny_bind ((PySem.W.looks_subIn KX e).here ?_)
    simp only [Bool.false_eq_true, if_false]
    exact fin fun v => rfl
  · refine wpAny_bind (wpAny_pure ?_)
    simp only [Bool.false_eq_true, if_false]
    exact fin fun v => rfl
def rNeO (K : PySem.W.Frag) (C : Addr) (sp : Sp) (E : XK) : R2 := fun x y H Q => ∃ a dx fs, x = .ref a ∧ H a = some (.ins C dx fs) ∧ Apart K C y H ∧ sp [x, y] H (fun z H' => ∃ b, z = .bl b ∧ Q (.bl (!b)) H') E
theorem op_neO (F : FnOk X.prog X.w X.K X.mg X.base CX k f fd ps sp) (hr : Room (k + 1) X.A) (hb : Binds X.K fd ps []) (hx : Passes CX X E)
    (hs : PySem.W.findIn X.K (.ref C) "__eq__" = some (some (.ref f))) (hf : PySem.W.isFn X.K (.ref f) = true) (hne : PySem.W.findIn X.K (.ref C) "__ne__" = some (some (.builtin "object.__ne__"))) (ho : PySem.W.subIn X.K (.ref C) (.type "object") = some true) : OpR X (compareOp .NotEq) (rNeO X.K C sp E) := by
  intro pins s σ H x y v u Q I rx ry h
  obtain ⟨a, dx, fs, rfl, ha, ⟨t, ht, hn⟩, q⟩ := h
  cases rx
  obtain ⟨ox, od, J⟩ := inst_at I ha
  show wpAny _ _ (richCompare .NotEq _ _) _ _ _
  refine ne_own (by have := hr.un; omega) I.kIn J (tyx_type I ry ht) hn hs hf hne ho (thn (run_in (A := X.A.in1) F hr.in1 rfl hb hx I (vals_rx ry) q) fun v s' z => ?_)
  obtain ⟨z', H', I', rz, b, eb, qz⟩ := z
  subst eb
  cases rz
  exact ⟨b, rfl, .bl (!b), H', I', rfl, qz⟩
end
end HO1

/-! DOps: operators, built-ins and methods over data. -/
namespace DD
open PySem L2
open PySem.Spec PyProof.Rows

/-! ### more rules of the hand layer -/
def rAddS : R2 := fun x y H Q => ∃ i j, x = .str i ∧ y = .str j ∧ i.length + j.length ≤ sizeLine ∧ Q (.str (i ++ j)) H
def rAddI : R2 := rI0 fun i j => .int (i + j)
def rAddA (K : PySem.W.Frag) : R2 := fun x y H Q => rAddI x y H Q ∨ rAddS x y H Q ∨ rCat x y H Q ∨ rCatT K x y H Q
theorem op_addA {X : Cx} : OpR X (binaryOp .Add) (rAddA X.K) := OpR.or op_add (OpR.or op_add_str (OpR.or op_cat op_catT))
def rSubI : R2 := rI0 fun i j => .int (i - j)
def rDivI : R2 := rI CDiv fun i j => .int (i / j)
def rModI : R2 := rI (fun _ j => 0 < j) fun i j => .int (i % j)
def rPowI : R2 := rI CPow fun i j => .int (i ^ j.toNat)
def rLtI : R2 := rI0 fun i j => .bl (decide (i < j))
def rLeI : R2 := rI0 fun i j => .bl (decide (i ≤ j))
def rGtI : R2 := rI0 fun i j => .bl (decide (j < i))
def rGeI : R2 := rI0 fun i j => .bl (decide (j ≤ i))
def rNeg : V → Hp → VK → Prop := rU fun i => .int (-i)
def rIsN : R2 := fun x y H Q => y = .non ∧ Q (.bl (decide (x = .non))) H
def rNotN : R2 := fun x y H Q => y = .non ∧ Q (.bl (!decide (x = .non))) H
theorem op_isN1 {X : Cx} : OpR X (compareOp .Is) rIsN := op_isN
theorem op_notN1 {X : Cx} : OpR X (compareOp .IsNot) rNotN := op_notN
theorem RelV_ref (a : Addr) : RelV (.ref a) (.ref a) := rfl
def repS (x : Str) (n : Nat) : Str := ⟨(List.replicate n x.cps.toList).flatten.toArray⟩
theorem repS_eq (x : Str) (n : Nat) : (⟨(List.replicate n x.cps).foldl (· ++ ·) #[]⟩ : Str) = repS x n := by
  have gen : ∀ (n : Nat) (acc : Array Nat), (List.replicate n x.cps).foldl (· ++ ·) acc = acc ++ (List.replicate n x.cps.toList).flatten.toArray := fun n => by
    induction n with
    | zero =>
      intro acc
      simp
    | succ n ih =>
      intro acc
      rw [List.replicate_succ, List.foldl_cons, ih, List.replicate_succ, List.flatten_cons]
      apply Array.toList_inj.mp
      simp
  unfold repS
  rw [gen]
  simp
def rRepS : R2 := fun x y H Q => ∃ (z : Str) (k : Int), x = .str z ∧ y = .int k ∧ -(2 ^ 63) ≤ k ∧ k < 1000000 ∧ z.length ≤ 1 ∧ Q (.str (repS z k.toNat)) H
theorem op_repS {X : Cx} : OpR X (binaryOp .Mult) rRepS := by
  intro pins s σ H x y v u Q I rx ry h
  obtain ⟨z, k, rfl, rfl, h1, h2, hz, q⟩ := h
  obtain ⟨t, rfl⟩ := rx
  obtain ⟨t', rfl⟩ := ry
  refine P.mul_str ?_ (fun a b => ?_) (fun a b => ?_) ?_
  · have a1 : ¬ k < -(2 ^ 63) := by omega
    have a2 : ¬ k ≥ 2 ^ 63 := by omega
    rw [decide_eq_false a1, decide_eq_false a2]
    rfl
  · have a3 : (z.length : Int) ≤ 1 := by omega
    have a4 : (1 : Int) ≤ (2 ^ 63 - 1) / k := by
      rw [Int.le_ediv_iff_mul_le (by omega)]
      omega
    omega
  · have a5 : z.length * k.toNat ≤ 1 * 1000000 := Nat.mul_le_mul hz (by omega)
    unfold Builtin.Str.tooLong
    have a6 : ¬ z.length * k.toNat > sizeLine := by
      rw [sizeLine_eq]
      omega
    simp [a6]
  · by_cases a : k < 1
    · rw [if_pos a]
      have e : repS z k.toNat = Str.empty := by
        have e2 : k.toNat = 0 := by omega
        rw [e2]
        rfl
      rw [e] at q
      exact ⟨by decide, .str Str.empty, H, I.tok _, ⟨_, rfl⟩, q⟩
    · rw [if_neg a]
      by_cases b : (k == 1 || z.length == 0) = true
      · rw [if_pos b]
        have e : repS z k.toNat = z := by
          rcases Bool.or_eq_true_iff.mp b with b | b
          · have e2 : k.toNat = 1 := by
              have := beq_iff_eq.mp b
              omega
            rw [e2]
            apply Str.ext'
            apply Array.toList_inj.mp
            simp [repS]
          · have e2 : z.cps.toList = [] := by
              have := beq_iff_eq.mp b
              apply List.eq_nil_of_length_eq_zero
              simpa [Str.length] using this
            apply Str.ext'
            apply Array.toList_inj.mp
            simp [repS, e2]
        rw [e] at q
        exact ⟨.str z, H, I, ⟨t, rfl⟩, q⟩
      · rw [if_neg b, repS_eq]
        refine ⟨?_, .str _, H, I.tok _, ⟨_, rfl⟩, q⟩
        have a5 : z.length * k.toNat ≤ 1 * 1000000 := Nat.mul_le_mul hz (by omega)
        have e3 : (repS z k.toNat).length = k.toNat * z.length := by
          simp [repS, Str.length]
        rw [e3, sizeLine_eq]
        rw [Nat.mul_comm] at a5
        omega
def rMulI : R2 := rI CMul fun i j => .int (i * j)
def rMulA : R2 := fun x y H Q => rMulI x y H Q ∨ rRepS x y H Q ∨ rRep x y H Q
theorem op_mulA {X : Cx} : OpR X (binaryOp .Mult) rMulA := OpR.or op_mul (OpR.or op_repS op_rep)
def rEqA (K : PySem.W.Frag) : R2 := fun x y H Q => rEq x y H Q ∨ rEqD K x y H Q
theorem op_eqA {X : Cx} (hu : X.A.units + 64 < cLine) : OpR X (compareOp .Eq) (rEqA X.K) := OpR.or op_eq (op_eqD hu)
def rNeA (K : PySem.W.Frag) : R2 := fun x y H Q => rNe x y H Q ∨ rNeD K x y H Q
theorem op_neA {X : Cx} (hu : X.A.units + 64 < cLine) : OpR X (compareOp .NotEq) (rNeA X.K) := OpR.or op_ne (op_neD hu)
def rInSgn : R2 := fun x y H Q => ∃ (c : Nat) (z : Str), x = .str ⟨#[c]⟩ ∧ y = .str z ∧ Q (.bl (decide (c ∈ z.cps.toList))) H
def rNInSgn : R2 := fun x y H Q => ∃ (c : Nat) (z : Str), x = .str ⟨#[c]⟩ ∧ y = .str z ∧ Q (.bl (!decide (c ∈ z.cps.toList))) H
def rInA (K : PySem.W.Frag) : R2 := fun x y H Q => rIn K false x y H Q ∨ rInSgn x y H Q
def rNInA (K : PySem.W.Frag) : R2 := fun x y H Q => rIn K true x y H Q ∨ rNInSgn x y H Q
theorem op_inA {X : Cx} : OpR X (compareOp .In) (rInA X.K) := OpR.or op_in_seq op_in_sign
theorem op_ninA {X : Cx} : OpR X (compareOp .NotIn) (rNInA X.K) := OpR.or op_notIn_seq op_notIn_sign
def rLenA (K : PySem.W.Frag) : List V → Hp → VK → Prop := fun xs H Q => ∃ x n, xs = [x] ∧ LenV K x H n ∧ Q (.int n) H
theorem call_lenA {X : Cx} : CallR X (.builtin "len") (rLenA X.K) := call_len
/-- isinstance(x, (c1, c2, ..)), whatever tuple it is -/
def rIsiS (K : PySem.W.Frag) : List V → Hp → VK → Prop := fun xs H Q => ∃ (x : V) (tp : Addr) (cs : List V) (t : Value) (us : List Value) (b : Bool), xs = [x, .ref tp] ∧ SqT K H tp cs ∧ Paired ClsV cs us ∧ TyX K H x t ∧ PySem.W.kitAny K t us = some b ∧ Q (.bl b) H
theorem call_isiS {X : Cx} : CallR X (.builtin "isinstance") (rIsiS X.K) := by
  intro pins s σ H xs us Q I r h
  obtain ⟨x, tp, cs, t, ws, b, rfl, hT, k, ty, e, q⟩ := h
  obtain ⟨u1, u2, rfl, r1, r2⟩ := vals2 r
  cases (show u2 = Value.ref tp from r2)
  obtain ⟨P, Z, p, hx⟩ := kit_of I r1 ty
  obtain ⟨its, rv, ⟨o, h1, h2, n, h3⟩, _⟩ := I.tuple hT
  have e3 := ClsV.all k rv
  subst e3
  obtain ⟨oc, od, dt, sl⟩ := o
  simp only at h2 h3
  subst h2 h3
  exact PySem.W.kia_tup Z I.kIn p h1 e hx fun tk => ⟨.bl b, H, I.tok tk, rfl, q⟩
def rIsiA (K : PySem.W.Frag) : List V → Hp → VK → Prop := fun xs H Q => rIsi K xs H Q ∨ rIsiS K xs H Q
theorem call_isiA {X : Cx} : CallR X (.builtin "isinstance") (rIsiA X.K) := CallR.or call_isi call_isiS
def rListA (K : PySem.W.Frag) : List V → Hp → VK → Prop := fun xs H Q => ∃ p ys, xs = [.ref p] ∧ (SqL K H p ys ∨ SqT K H p ys) ∧ ∀ l, H l = none → Q (.ref l) (upd H l (.lst ys))
theorem call_listA {X : Cx} : CallR X (.type "list") (rListA X.K) := call_list_of
def rTupA (K : PySem.W.Frag) : List V → Hp → VK → Prop := fun xs H Q => ∃ p ys, xs = [.ref p] ∧ ((SqL K H p ys ∧ ∀ l, H l = none → Q (.ref l) (upd H l (.tup ys))) ∨ (SqT K H p ys ∧ Q (.ref p) H))
theorem call_tupA {X : Cx} : CallR X (.type "tuple") (rTupA X.K) := call_tuple_of
def rInt1 : List V → Hp → VK → Prop := fun xs H Q => (∃ i, xs = [.int i] ∧ Q (.int i) H) ∨ ∃ k, xs = [.bl k] ∧ Q (.int (if k then 1 else 0)) H
theorem call_intA {X : Cx} : CallR X (.type "int") rInt1 := call_int1
def rSlA (K : PySem.W.Frag) : V → Option Int → Option Int → Hp → VK → Prop := fun x lo hi H Q => rSlS x lo hi H Q ∨ rSlL K x lo hi H Q ∨ rSlT K x lo hi H Q
theorem sl_A {X : Cx} : SlR X (rSlA X.K) := SlR.or sl_str (SlR.or sl_list sl_tup)
/-! methods of texts -/
def rSplit : V → List V → Hp → VK → Prop := fun x xs H Q => ∃ a b, x = .str a ∧ xs = [.str b] ∧ (b.length == 0) = false ∧ a.length + 2 ≤ sizeLine ∧ rNewStrs (Txt.split a b) H Q
theorem mt_splitA {X : Cx} : MtR X "str.split" rSplit := mt_split
def rJoin (K : PySem.W.Frag) : V → List V → Hp → VK → Prop := fun x xs H Q => ∃ a p, ∃ ys : List Str, x = .str a ∧ xs = [.ref p] ∧ (SqL K H p (ys.map V.str) ∨ SqT K H p (ys.map V.str)) ∧
      (ys.map (·.length)).sum + ys.length * a.length ≤ 16777216 ∧ Q (.str (Txt.join a ys)) H
theorem mt_joinA {X : Cx} : MtR X "str.join" (rJoin X.K) := mt_join
/-- a method of a text that gives a text -/
def rTxt (g : Str → Str → Str) : V → List V → Hp → VK → Prop := fun x xs H Q => ∃ a b, x = .str a ∧ xs = [.str b] ∧ a.length ≤ sizeLine ∧ Q (.str (g a b)) H
theorem mt_rstripA {X : Cx} : MtR X "str.rstrip" (rTxt Txt.rstripChars) := mt_rstripChars
theorem mt_lstripA {X : Cx} : MtR X "str.lstrip" (rTxt Txt.lstripChars) := mt_lstripChars
theorem mt_rmsufA {X : Cx} : MtR X "str.removesuffix" (rTxt Txt.removesuffix) := mt_removesuffix
theorem mt_rmpreA {X : Cx} : MtR X "str.removeprefix" (rTxt Txt.removeprefix) := mt_removeprefix
def rStarts : V → List V → Hp → VK → Prop := fun x xs H Q => ∃ a b, x = .str a ∧ xs = [.str b] ∧ Q (.bl (Txt.startswith a b)) H
theorem mt_startsA {X : Cx} : MtR X "str.startswith" rStarts := mt_startswith
/-- .append and .pop as their readings are -/
def rExtA : V → List V → Hp → VK → Prop := rExtend

/-! ### what D says of types -/
/-- what the written part says of a class for isinstance -/
structure InsTy (K : PySem.W.Frag) (C : Addr) : Prop where
  cl : Cls K C
  ha : PySem.W.findIn K (.ref C) "__class__" = some (some (.builtin "object.__class__"))
  hn : PySem.W.specialIn K (.builtin "object.__class__") "__get__" = some (some (.builtin "getset_descriptor.__get__"))
  htk : PySem.W.takesIn K (.builtin "object.__class__") = some true
  hm : PySem.W.mroIn K C (.type "object") = some true
inductive TyD (K : PySem.W.Frag) (m : Mem) : D → Value → Prop
  | non : TyD K m (.s .non) (.type "NoneType")
  | bl (b : Bool) : TyD K m (.s (.bl b)) (.type "bool")
  | int (i : Int) : TyD K m (.s (.int i)) (.type "int")
  | str (x : Str) : TyD K m (.s (.str x)) (.type "str")
  | lst (xs : List D) : TyD K m (.lst xs) (.type "list")
  | tup (xs : List D) : TyD K m (.tup xs) (.type "tuple")
  | dic (ks : List Key) (xs : List D) : TyD K m (.dic ks xs) (.type "dict")
  | ins {C : Addr} (h : InsTy K C) (ns : List Str) (xs : List D) : TyD K m (.ins C ns xs) (.ref C)
  | pl (ns : List Str) : TyD K m (.pl ns) (.type "tuple")
  | ownL {a : Addr} {xs : List D} (h : m.own a = some (.lst xs)) : TyD K m (.s (.ref a)) (.type "list")
  | ownD {a : Addr} {ks : List Key} {xs : List D} (h : m.own a = some (.dK ks xs)) : TyD K m (.s (.ref a)) (.type "dict")
  | ownI {a C : Addr} {ns : List Str} {xs : List D} (hc : InsTy K C) (h : m.own a = some (.ins C ns xs)) : TyD K m (.s (.ref a)) (.ref C)
  | gen {φ : Hp → V → Prop} {t : Value} (h : ∀ Hc H v, Same Hc H → φ Hc v → TyX K H v t) : TyD K m (.gen φ) t
section
variable {K : PySem.W.Frag} {B F Hb Hb' H H' : Hp} {m : Mem} {ρ : Env}
theorem TyD.at {x : D} {t : Value} {v : V} (h : TyD K m x t) (r : Rel K F Hb H m) (hx : Rp K Hb x v) : TyX K H v t := by
  cases h with
  | non => unfold Rp at hx; subst hx; exact .base .non
  | bl b => unfold Rp at hx; subst hx; exact .base (.bl b)
  | int i => unfold Rp at hx; subst hx; exact .base (.int i)
  | str x => unfold Rp at hx; subst hx; exact .base (.str x)
  | lst xs =>
    unfold Rp at hx
    obtain ⟨p, vs, rfl, h1, _⟩ := hx
    exact .base (.lst (r.sub _ _ h1))
  | tup xs =>
    unfold Rp at hx
    obtain ⟨p, vs, rfl, h1, _⟩ := hx
    rcases h1 with (h1 | ⟨o, h1⟩) | ⟨o, its, n, hk, hc, _⟩
    · exact .base (.tup (r.sub _ _ h1))
    · exact .fTuple (r.sub _ _ h1)
    · exact .kTuple hk hc
  | dic ks xs =>
    unfold Rp at hx
    obtain ⟨p, o, vs, rfl, h1, _⟩ := hx
    exact .fDict (r.sub _ _ h1)
  | ins h ns xs =>
    unfold Rp at hx
    obtain ⟨p, dx, vs, rfl, h1, _⟩ := hx
    exact .base (.ins (r.sub _ _ h1) h.cl h.ha h.hn h.htk h.hm)
  | pl ns =>
    unfold Rp at hx
    obtain ⟨p, rfl, h1⟩ := hx
    exact .base (.tup (r.sub _ _ h1))
  | ownL h =>
    unfold Rp at hx
    subst hx
    obtain ⟨_, vs, h1, _⟩ := r.own _ _ h
    exact .base (.lst h1)
  | ownD h =>
    unfold Rp at hx
    subst hx
    obtain ⟨_, vs, h1, _⟩ := r.own _ _ h
    exact .base (.dK h1)
  | ownI hc h =>
    unfold Rp at hx
    subst hx
    obtain ⟨_, dx, vs, h1, _⟩ := r.own _ _ h
    exact .base (.ins h1 hc.cl hc.ha hc.hn hc.htk hc.hm)
  | gen h =>
    unfold Rp at hx
    obtain ⟨Hc, e, hφ⟩ := hx
    exact h _ _ _ (e.trans r.sub) hφ

/-! ### plain data (for ==) -/
mutual
def pyD : D → Option PyData
  | .s .non => some .none
  | .s (.bl b) => some (.bool b)
  | .s (.int i) => some (.int i)
  | .s (.str x) => some (.str x)
  | .lst xs => (pyL xs).map .list
  | .tup xs => (pyL xs).map .tuple
  | .pl ns => some (.tuple (ns.map .str))
  | _ => none
def pyL : List D → Option (List PyData)
  | [] => some []
  | d :: ds => (pyD d).bind fun a => (pyL ds).map (a :: ·)
end
theorem dpAll_strs {H : Hp} : ∀ zs : List Str, DpAll K H (zs.map V.str) (zs.map PyData.str)
  | [] => .nil
  | z :: zs => .cons (.str z) (dpAll_strs zs)
mutual
theorem pyD_dp : ∀ (d : D) (v : V) (p : PyData), pyD d = some p → Rp K Hb d v → Same Hb H → Dp K H v p
  | .s .non, v, p, h, hx, e => by
    unfold pyD at h
    unfold Rp at hx
    cases h
    subst hx
    exact .non
  | .s (.bl b), v, p, h, hx, e => by
    unfold pyD at h
    unfold Rp at hx
    cases h
    subst hx
    exact .bl b
  | .s (.int i), v, p, h, hx, e => by
    unfold pyD at h
    unfold Rp at hx
    cases h
    subst hx
    exact .int i
  | .s (.str x), v, p, h, hx, e => by
    unfold pyD at h
    unfold Rp at hx
    cases h
    subst hx
    exact .str x
  | .s (.byt x), v, p, h, hx, e => by
    unfold pyD at h
    cases h
  | .s (.flt x), v, p, h, hx, e => by
    unfold pyD at h
    cases h
  | .s (.ref x), v, p, h, hx, e => by
    unfold pyD at h
    cases h
  | .s (.ty x), v, p, h, hx, e => by
    unfold pyD at h
    cases h
  | .lst xs, v, p, h, hx, e => by
    unfold pyD at h
    unfold Rp at hx
    cases hq : pyL xs with
    | none =>
      rw [hq] at h
      cases h
    | some ps =>
      rw [hq] at h
      cases h
      obtain ⟨a, vs, rfl, h1, h2⟩ := hx
      exact .lst (SqL.of (e _ _ h1)) (pyL_dp xs vs ps hq h2 e)
  | .tup xs, v, p, h, hx, e => by
    unfold pyD at h
    unfold Rp at hx
    cases hq : pyL xs with
    | none =>
      rw [hq] at h
      cases h
    | some ps =>
      rw [hq] at h
      cases h
      obtain ⟨a, vs, rfl, h1, h2⟩ := hx
      exact .tup (sameT e h1) (pyL_dp xs vs ps hq h2 e)
  | .dic ks xs, v, p, h, hx, e => by
    unfold pyD at h
    cases h
  | .ins C ns xs, v, p, h, hx, e => by
    unfold pyD at h
    cases h
  | .gen φ, v, p, h, hx, e => by
    unfold pyD at h
    cases h
  | .pl ns, v, p, h, hx, e => by
    unfold pyD at h
    unfold Rp at hx
    cases h
    obtain ⟨a, rfl, h1⟩ := hx
    exact .tup (sameT e (.inl (.inl h1))) (dpAll_strs ns)
theorem pyL_dp : ∀ (ds : List D) (vs : List V) (ps : List PyData), pyL ds = some ps → RpL K Hb ds vs → Same Hb H → DpAll K H vs ps
  | [], vs, ps, h, hx, e => by
    unfold pyL at h
    unfold RpL at hx
    cases h
    subst hx
    exact .nil
  | d :: ds, vs, ps, h, hx, e => by
    unfold pyL at h
    unfold RpL at hx
    obtain ⟨v, r, rfl, h1, h2⟩ := hx
    cases hq : pyD d with
    | none =>
      rw [hq] at h
      cases h
    | some a =>
      cases hq2 : pyL ds with
      | none =>
        rw [hq, hq2] at h
        cases h
      | some as =>
        rw [hq, hq2] at h
        cases h
        exact .cons (pyD_dp d v a hq h1 e) (pyL_dp ds r as hq2 h2 e)
end

/-! ### operators over data -/
theorem wo_addI {i j : Int} {Q : QD} (q : Q (.s (.int (i + j))) m) : WO K F B (rAddA K) (.s (.int i)) (.s (.int j)) m Q := fun Hb H vx vy R hB r hx hy k => by
  unfold Rp at hx hy
  exact .inl ⟨i, j, hx, hy, k.here r rp_s q⟩
theorem wo_addS {i j : Str} {Q : QD} (hl : i.length + j.length ≤ sizeLine) (q : Q (.s (.str (i ++ j))) m) : WO K F B (rAddA K) (.s (.str i)) (.s (.str j)) m Q := fun Hb H vx vy R hB r hx hy k => by
  unfold Rp at hx hy
  exact .inr (.inl ⟨i, j, hx, hy, hl, k.here r rp_s q⟩)
theorem wo_addL {xs ys : List D} {Q : QD} (hl : xs.length + ys.length ≤ sizeLine) (q : Q (.lst (xs ++ ys)) m) : WO K F B (rAddA K) (.lst xs) (.lst ys) m Q := fun Hb H vx vy R hB r hx hy k => by
  unfold Rp at hx hy
  obtain ⟨p, vs, rfl, h1, h2⟩ := hx
  obtain ⟨p', vs', rfl, h1', h2'⟩ := hy
  refine .inr (.inr (.inl ⟨p, p', vs, vs', rfl, rfl, r.sub _ _ h1, r.sub _ _ h1', by rw [h2.length, h2'.length]; exact hl, fun a ha => ?_⟩))
  have e := Same.new (o := .lst (vs ++ vs')) (r.fresh ha)
  refine k _ _ _ (.lst (xs ++ ys)) _ e (r.data ha) ?_ q
  unfold Rp
  exact ⟨a, _, rfl, upd_same, (h2.app h2').mono e⟩
theorem wo_addT {xs ys : List D} {Q : QD} (hx0 : xs ≠ []) (hl : xs.length + ys.length ≤ sizeLine) (q : Q (.tup (xs ++ ys)) m) : WO K F B (rAddA K) (.tup xs) (.tup ys) m Q := fun Hb H vx vy R hB r hx hy k => by
  unfold Rp at hx hy
  obtain ⟨p, vs, rfl, h1, h2⟩ := hx
  obtain ⟨p', vs', rfl, h1', h2'⟩ := hy
  have hl1 := h2.length
  have hl2 := h2'.length
  have hv : vs ≠ [] := fun z => by
    rw [z] at hl1
    exact hx0 (List.eq_nil_of_length_eq_zero hl1.symm)
  refine .inr (.inr (.inr ⟨p, p', vs, vs', rfl, rfl, sameT r.sub h1, sameT r.sub h1', hv, by rw [hl1, hl2]; exact hl, fun hn => ?_, fun _ a ha => ?_⟩))
  · have e : ys = [] := by
      apply List.eq_nil_of_length_eq_zero
      rw [← hl2, hn]
      rfl
    subst e
    rw [List.append_nil] at q
    refine k.here (d := .tup xs) r ?_ q
    unfold Rp
    exact ⟨p, vs, rfl, h1, h2⟩
  · have e := Same.new (o := .tup (vs ++ vs')) (r.fresh ha)
    refine k _ _ _ (.tup (xs ++ ys)) _ e (r.data ha) ?_ q
    unfold Rp
    exact ⟨a, _, rfl, SqT.of upd_same, (h2.app h2').mono e⟩
theorem wo_I0 {g : Int → Int → V} {i j : Int} {Q : QD} (q : Q (.s (g i j)) m) : WO K F B (rI0 g) (.s (.int i)) (.s (.int j)) m Q := fun Hb H vx vy R hB r hx hy k => by
  unfold Rp at hx hy
  exact ⟨i, j, hx, hy, k.here r rp_s q⟩
theorem wo_I {C : Int → Int → Prop} {g : Int → Int → V} {i j : Int} {Q : QD} (hc : C i j) (q : Q (.s (g i j)) m) : WO K F B (rI C g) (.s (.int i)) (.s (.int j)) m Q := fun Hb H vx vy R hB r hx hy k => by
  unfold Rp at hx hy
  exact ⟨i, j, hx, hy, hc, k.here r rp_s q⟩
theorem wo_mulI {i j : Int} {Q : QD} (hc : CMul i j) (q : Q (.s (.int (i * j))) m) : WO K F B rMulA (.s (.int i)) (.s (.int j)) m Q := fun Hb H vx vy R hB r hx hy k => by
  unfold Rp at hx hy
  exact .inl ⟨i, j, hx, hy, hc, k.here r rp_s q⟩
theorem wo_repS {z : Str} {n : Int} {Q : QD} (h1 : -(2 ^ 63) ≤ n) (h2 : n < 1000000) (hz : z.length ≤ 1) (q : Q (.s (.str (repS z n.toNat))) m) : WO K F B rMulA (.s (.str z)) (.s (.int n)) m Q := fun Hb H vx vy R hB r hx hy k => by
  unfold Rp at hx hy
  exact .inr (.inl ⟨z, n, hx, hy, h1, h2, hz, k.here r rp_s q⟩)
theorem rpL_rep {xs : List D} {vs : List V} (h : RpL K H xs vs) : ∀ n : Nat, RpL K H (List.replicate n xs).flatten (List.replicate n vs).flatten
  | 0 => RpL.nil
  | n + 1 => by
    rw [List.replicate_succ, List.replicate_succ, List.flatten_cons, List.flatten_cons]
    exact h.app (rpL_rep h n)
theorem wo_repL {xs : List D} {n : Int} {Q : QD} (h1 : -(2 ^ 63) ≤ n) (h2 : n < 2 ^ 63) (hz : xs.length * n.toNat ≤ sizeLine) (q : Q (.lst (List.replicate n.toNat xs).flatten) m) : WO K F B rMulA (.lst xs) (.s (.int n)) m Q := fun Hb H vx vy R hB r hx hy k => by
  unfold Rp at hx hy
  obtain ⟨p, vs, rfl, h3, h4⟩ := hx
  refine .inr (.inr ⟨p, n, vs, rfl, hy, r.sub _ _ h3, h1, h2, by rw [h4.length]; exact hz, fun a ha => ?_⟩)
  have e := Same.new (o := .lst (List.replicate n.toNat vs).flatten) (r.fresh ha)
  refine k _ _ _ (.lst (List.replicate n.toNat xs).flatten) _ e (r.data ha) ?_ q
  unfold Rp
  exact ⟨a, _, rfl, upd_same, (rpL_rep h4 _).mono e⟩
theorem wo_eqS {x y : V} {Q : QD} (h : scal x y = true) (q : Q (.s (.bl (decide (x = y)))) m) : WO K F B (rEqA K) (.s x) (.s y) m Q := fun Hb H vx vy R hB r hx hy k => by
  unfold Rp at hx hy
  subst hx hy
  exact .inl ⟨h, k.here r rp_s q⟩
theorem wo_neS {x y : V} {Q : QD} (h : scal x y = true) (q : Q (.s (.bl (!decide (x = y)))) m) : WO K F B (rNeA K) (.s x) (.s y) m Q := fun Hb H vx vy R hB r hx hy k => by
  unfold Rp at hx hy
  subst hx hy
  exact .inl ⟨h, k.here r rp_s q⟩
theorem wo_eqD {x y : D} {a b : PyData} {Q : QD} (ha : pyD x = some a) (hb : pyD y = some b) (sa : SeqAt.shaped a = true) (sb : SeqAt.shaped b = true) (q : Q (.s (.bl (PyData.eqv a b))) m) : WO K F B (rEqA K) x y m Q := fun Hb H vx vy R hB r hx hy k =>
  .inr ⟨a, b, pyD_dp x vx a ha hx r.sub, pyD_dp y vy b hb hy r.sub, sa, sb, k.here r rp_s q⟩
theorem wo_neD {x y : D} {a b : PyData} {Q : QD} (ha : pyD x = some a) (hb : pyD y = some b) (sa : SeqAt.shaped a = true) (sb : SeqAt.shaped b = true) (q : Q (.s (.bl (!PyData.eqv a b))) m) : WO K F B (rNeA K) x y m Q := fun Hb H vx vy R hB r hx hy k =>
  .inr ⟨a, b, pyD_dp x vx a ha hx r.sub, pyD_dp y vy b hb hy r.sub, sa, sb, k.here r rp_s q⟩
/-- x in xs, both flat -/
theorem wo_inL {x : V} {xs : List V} {Q : QD} (hx0 : flatV x = true) (hf : xs.all flatV = true) (q : Q (.s (.bl (inV x xs))) m) : WO K F B (rInA K) (.s x) (.lst (xs.map D.s)) m Q := fun Hb H vx vy R hB r hx hy k => by
  unfold Rp at hx hy
  subst hx
  obtain ⟨p, vs, rfl, h1, h2⟩ := hy
  have e := h2.scal
  subst e
  exact .inl ⟨p, _, rfl, .inl (SqL.of (r.sub _ _ h1)), hx0, hf, k.here r rp_s q⟩
theorem wo_inT {x : V} {xs : List V} {Q : QD} (hx0 : flatV x = true) (hf : xs.all flatV = true) (q : Q (.s (.bl (inV x xs))) m) : WO K F B (rInA K) (.s x) (.tup (xs.map D.s)) m Q := fun Hb H vx vy R hB r hx hy k => by
  unfold Rp at hx hy
  subst hx
  obtain ⟨p, vs, rfl, h1, h2⟩ := hy
  have e := h2.scal
  subst e
  exact .inl ⟨p, _, rfl, .inr (sameT r.sub h1), hx0, hf, k.here r rp_s q⟩
theorem wo_ninL {x : V} {xs : List V} {Q : QD} (hx0 : flatV x = true) (hf : xs.all flatV = true) (q : Q (.s (.bl (!inV x xs))) m) : WO K F B (rNInA K) (.s x) (.lst (xs.map D.s)) m Q := fun Hb H vx vy R hB r hx hy k => by
  unfold Rp at hx hy
  subst hx
  obtain ⟨p, vs, rfl, h1, h2⟩ := hy
  have e := h2.scal
  subst e
  exact .inl ⟨p, _, rfl, .inl (SqL.of (r.sub _ _ h1)), hx0, hf, k.here r rp_s q⟩
theorem wo_ninT {x : V} {xs : List V} {Q : QD} (hx0 : flatV x = true) (hf : xs.all flatV = true) (q : Q (.s (.bl (!inV x xs))) m) : WO K F B (rNInA K) (.s x) (.tup (xs.map D.s)) m Q := fun Hb H vx vy R hB r hx hy k => by
  unfold Rp at hx hy
  subst hx
  obtain ⟨p, vs, rfl, h1, h2⟩ := hy
  have e := h2.scal
  subst e
  exact .inl ⟨p, _, rfl, .inr (sameT r.sub h1), hx0, hf, k.here r rp_s q⟩
theorem wo_inC {c : Nat} {z : Str} {Q : QD} (q : Q (.s (.bl (decide (c ∈ z.cps.toList)))) m) : WO K F B (rInA K) (.s (.str ⟨#[c]⟩)) (.s (.str z)) m Q := fun Hb H vx vy R hB r hx hy k => by
  unfold Rp at hx hy
  exact .inr ⟨c, z, hx, hy, k.here r rp_s q⟩
theorem wo_ninO {x : V} {a : Addr} {xs : List V} {Q : QD} (ho : m.own a = some (.lst (xs.map D.s))) (hx0 : flatV x = true) (hf : xs.all flatV = true) (q : Q (.s (.bl (!inV x xs))) m) : WO K F B (rNInA K) (.s x) (.s (.ref a)) m Q := fun Hb H vx vy R hB r hx hy k => by
  unfold Rp at hx hy
  subst hx hy
  obtain ⟨_, vs, h1, h2⟩ := r.own _ _ ho
  have e := h2.scal
  subst e
  exact .inl ⟨a, _, rfl, .inl (SqL.of h1), hx0, hf, k.here r rp_s q⟩
theorem wo_isN {x : V} {Q : QD} (q : Q (.s (.bl (decide (x = .non)))) m) : WO K F B rIsN (.s x) (.s .non) m Q := fun Hb H vx vy R hB r hx hy k => by
  unfold Rp at hx hy
  subst hx hy
  exact ⟨rfl, k.here r rp_s q⟩
theorem wo_notN {x : V} {Q : QD} (q : Q (.s (.bl (!decide (x = .non)))) m) : WO K F B rNotN (.s x) (.s .non) m Q := fun Hb H vx vy R hB r hx hy k => by
  unfold Rp at hx hy
  subst hx hy
  exact ⟨rfl, k.here r rp_s q⟩
theorem wo_isB {a b : Bool} {Q : QD} (q : Q (.s (.bl (decide (a = b)))) m) : WO K F B rIsB (.s (.bl a)) (.s (.bl b)) m Q := fun Hb H vx vy R hB r hx hy k => by
  unfold Rp at hx hy
  exact ⟨a, b, hx, hy, k.here r rp_s q⟩
theorem wu_neg {i : Int} {Q : QD} (q : Q (.s (.int (-i))) m) : WU K F B rNeg (.s (.int i)) m Q := fun Hb H vx R hB r hx k => by
  unfold Rp at hx
  exact ⟨i, hx, k.here r rp_s q⟩
theorem we_chain {r1 r2 : R2} {ta tb tc : TE} {Q : QD} (h : WE K F B ta ρ m fun x m1 => WE K F B tb ρ m1 fun y m2 => WO K F B r1 x y m2 fun z m3 => ∃ b, z = .s (.bl b) ∧ (b = true → WE K F B tc ρ m3 fun u m4 => WO K F B r2 y u m4 Q) ∧ (b = false → Q (.s (.bl false)) m3)) :
    WE K F B (tChain r1 r2 ta tb tc) ρ m Q := fun Hb H σ R hB r hs k =>
  h Hb H σ _ hB r hs fun v H1 Hb1 x m1 e1 r1' hx q1 => q1 Hb1 H1 σ _ (hB.trans e1) r1' (hs.mono e1) fun u H2 Hb2 y m2 e2 r2' hy q2 =>
    q2 Hb2 H2 v u _ ((hB.trans e1).trans e2) r2' (hx.mono e2) hy fun z H3 Hb3 d m3 e3 r3' hz q3 => by
      obtain ⟨b, rfl, qt, qf⟩ := q3
      unfold Rp at hz
      refine ⟨b, hz, ?_⟩
      have e123 := (e1.trans e2).trans e3
      cases b with
      | true => exact iteT (qt rfl Hb3 H3 σ _ (hB.trans e123) r3' (hs.mono e123) fun w H4 Hb4 d4 m4 e4 r4' hw q4 => q4 Hb4 H4 u w R ((hB.trans e123).trans e4) r4' (hy.mono (e3.trans e4)) hw (k.mono (e123.trans e4)))
      | false => exact iteF (k _ _ _ _ _ e123 r3' rp_s (qf rfl))
/-- an item of an owned list, of a list, a tuple, a text -/
theorem wo_ixL {xs : List D} {i : Int} {d : D} {Q : QD} (h : atI xs i = some d) (q : Q d m) : WO K F B (rIx K) (.lst xs) (.s (.int i)) m Q := fun Hb H vx vy R hB r hx hy k => by
  unfold Rp at hx hy
  obtain ⟨p, vs, rfl, h1, h2⟩ := hx
  unfold atI at h
  cases hj : ixN xs.length i with
  | none =>
    rw [hj] at h
    cases h
  | some j =>
    rw [hj] at h
    obtain ⟨u, hu, ru⟩ := h2.get h
    refine .inl ⟨p, vs, i, u, rfl, hy, SqL.of (r.sub _ _ h1), ?_, k.here r ru q⟩
    unfold atI
    rw [h2.length, hj]
    exact hu
theorem wo_ixT {xs : List D} {i : Int} {d : D} {Q : QD} (h : atI xs i = some d) (q : Q d m) : WO K F B (rIx K) (.tup xs) (.s (.int i)) m Q := fun Hb H vx vy R hB r hx hy k => by
  unfold Rp at hx hy
  obtain ⟨p, vs, rfl, h1, h2⟩ := hx
  unfold atI at h
  cases hj : ixN xs.length i with
  | none =>
    rw [hj] at h
    cases h
  | some j =>
    rw [hj] at h
    obtain ⟨u, hu, ru⟩ := h2.get h
    refine .inr (.inl ⟨p, vs, i, u, rfl, hy, sameT r.sub h1, ?_, k.here r ru q⟩)
    unfold atI
    rw [h2.length, hj]
    exact hu
theorem wo_ixS {z : Str} {i : Int} {c : Nat} {Q : QD} (hz : z.length ≤ sizeLine) (h : atI z.cps.toList i = some c) (q : Q (.s (.str ⟨#[c]⟩)) m) : WO K F B (rIx K) (.s (.str z)) (.s (.int i)) m Q := fun Hb H vx vy R hB r hx hy k => by
  unfold Rp at hx hy
  exact .inr (.inr ⟨z, i, c, hx, hy, hz, h, k.here r rp_s q⟩)
theorem wo_ixO {a : Addr} {xs : List D} {i : Int} {d : D} {Q : QD} (ho : m.own a = some (.lst xs)) (h : atI xs i = some d) (q : Q d m) : WO K F B (rIx K) (.s (.ref a)) (.s (.int i)) m Q := fun Hb H vx vy R hB r hx hy k => by
  unfold Rp at hx hy
  subst hx
  obtain ⟨_, vs, h1, h2⟩ := r.own _ _ ho
  unfold atI at h
  cases hj : ixN xs.length i with
  | none =>
    rw [hj] at h
    cases h
  | some j =>
    rw [hj] at h
    obtain ⟨u, hu, ru⟩ := h2.get h
    refine .inl ⟨a, vs, i, u, rfl, hy, SqL.of h1, ?_, k.here r ru q⟩
    unfold atI
    rw [h2.length, hj]
    exact hu
/-! slices -/
def WSl (K : PySem.W.Frag) (F B : Hp) (r : V → Option Int → Option Int → Hp → VK → Prop) (x : D) (lo hi : Option Int) (m : Mem) (Q : QD) : Prop := ∀ Hb H vx R, Same B Hb → Rel K F Hb H m → Rp K Hb x vx → OkV K F Hb Q R → r vx lo hi H R
def WPt (K : PySem.W.Frag) (F B : Hp) (t : TO) (ρ : Env) (m : Mem) (Q : Option Int → Mem → Prop) : Prop := ∀ Hb H σ (R : Option Int → Hp → Prop), Same B Hb → Rel K F Hb H m → RpS K Hb ρ σ → (∀ o H' Hb' m', Same Hb Hb' → Rel K F Hb' H' m' → Q o m' → R o H') → t σ H R
theorem wpt_no {Q : Option Int → Mem → Prop} (q : Q none m) : WPt K F B tNoPart ρ m Q := fun Hb H σ R hB r hs k => k _ _ _ _ (Same.refl _) r q
theorem wpt_some {te : TE} {Q : Option Int → Mem → Prop} (h : WE K F B te ρ m fun x m1 => ∃ i, x = .s (.int i) ∧ Q (some i) m1) : WPt K F B (tPart te) ρ m Q := fun Hb H σ R hB r hs k =>
  h Hb H σ _ hB r hs fun v H1 Hb1 x m1 e1 r1 hx q1 => by
    obtain ⟨i, rfl, q⟩ := q1
    unfold Rp at hx
    exact ⟨i, hx, k _ _ _ _ e1 r1 q⟩
theorem we_sl {r : V → Option Int → Option Int → Hp → VK → Prop} {te : TE} {tl th : TO} {Q : QD} (h : WE K F B te ρ m fun x m1 => WPt K F B tl ρ m1 fun lo m2 => WPt K F B th ρ m2 fun hi m3 => WSl K F B r x lo hi m3 Q) : WE K F B (tSl r te tl th) ρ m Q := fun Hb H σ R hB r hs k =>
  h Hb H σ _ hB r hs fun v H1 Hb1 x m1 e1 r1 hx q1 => q1 Hb1 H1 σ _ (hB.trans e1) r1 (hs.mono e1) fun lo H2 Hb2 m2 e2 r2 q2 => q2 Hb2 H2 σ _ ((hB.trans e1).trans e2) r2 (hs.mono (e1.trans e2)) fun hi H3 Hb3 m3 e3 r3 q3 =>
    q3 Hb3 H3 v R (((hB.trans e1).trans e2).trans e3) r3 (hx.mono (e2.trans e3)) (k.mono ((e1.trans e2).trans e3))
def cutD (xs : List D) (lo hi : Option Int) : List D := (xs.drop (HT.sIx xs.length 0 lo)).take (HT.sIx xs.length xs.length hi - HT.sIx xs.length 0 lo)
theorem wsl_L {xs : List D} {lo hi : Option Int} {Q : QD} (q : Q (.lst (cutD xs lo hi)) m) : WSl K F B (rSlA K) (.lst xs) lo hi m Q := fun Hb H vx R hB r hx k => by
  unfold Rp at hx
  obtain ⟨p, vs, rfl, h1, h2⟩ := hx
  refine .inr (.inl ⟨p, vs, rfl, SqL.of (r.sub _ _ h1), fun a ha => ?_⟩)
  have e := Same.new (o := .lst (cutV vs lo hi)) (r.fresh ha)
  refine k _ _ _ (.lst (cutD xs lo hi)) _ e (r.data ha) ?_ q
  have z : RpL K Hb (cutD xs lo hi) (cutV vs lo hi) := by
    unfold cutV cutD
    rw [h2.length]
    exact (h2.drop _).take _
  unfold Rp
  exact ⟨a, _, rfl, upd_same, z.mono e⟩
theorem wsl_S {z : Str} {lo hi : Option Int} {Q : QD} (hz : z.length ≤ sizeLine) (q : Q (.s (.str (cutS z lo hi))) m) : WSl K F B (rSlA K) (.s (.str z)) lo hi m Q := fun Hb H vx R hB r hx k => by
  unfold Rp at hx
  exact .inl ⟨z, hx, hz, k.here r rp_s q⟩

/-! ### built-ins over data -/
def lenD (m : Mem) : D → Nat → Prop
  | .s (.str z), n => z.length ≤ sizeLine ∧ n = z.length
  | .lst xs, n => n = xs.length
  | .tup xs, n => n = xs.length
  | .s (.ref a), n => ∃ xs, m.own a = some (.lst xs) ∧ n = xs.length
  | .pl ns, n => n = ns.length
  | _, _ => False
theorem wc_len {x : D} {n : Nat} {Q : QD} (h : lenD m x n) (q : Q (.s (.int (n : Int))) m) : WC K F B (rLenA K) [x] m Q := fun Hb H vs R hB r hx k => by
  unfold RpL at hx
  obtain ⟨v, us, rfl, hv, hu⟩ := hx
  unfold RpL at hu
  subst hu
  refine ⟨v, n, rfl, ?_, k.here r rp_s q⟩
  cases x with
  | s w =>
    unfold Rp at hv
    subst hv
    cases v with
    | str z => exact ⟨h.1, h.2⟩
    | ref a =>
      obtain ⟨xs, ho, rfl⟩ := h
      obtain ⟨_, vs, h1, h2⟩ := r.own _ _ ho
      exact .inl ⟨vs, SqL.of h1, h2.length.symm⟩
    | _ => exact h.elim
  | lst xs =>
    unfold Rp at hv
    obtain ⟨p, vs, rfl, h1, h2⟩ := hv
    have e : n = xs.length := h
    subst e
    exact .inl ⟨vs, SqL.of (r.sub _ _ h1), h2.length.symm⟩
  | tup xs =>
    unfold Rp at hv
    obtain ⟨p, vs, rfl, h1, h2⟩ := hv
    have e : n = xs.length := h
    subst e
    exact .inr ⟨vs, sameT r.sub h1, h2.length.symm⟩
  | pl ns =>
    unfold Rp at hv
    obtain ⟨p, rfl, h1⟩ := hv
    have e : n = ns.length := h
    subst e
    exact .inr ⟨_, .inl (.inl (r.sub _ _ h1)), (List.length_map _).symm⟩
  | dic ks xs => exact h.elim
  | ins C ns xs => exact h.elim
  | gen φ => exact h.elim
theorem wc_int {i : Int} {Q : QD} (q : Q (.s (.int i)) m) : WC K F B rInt1 [.s (.int i)] m Q := fun Hb H vs R hB r hx k => by
  have e : vs = [.int i] := RpL.scal (vs := [.int i]) hx
  subst e
  exact .inl ⟨i, rfl, k.here r rp_s q⟩
theorem rpL1 {x : D} {vs : List V} (h : RpL K H [x] vs) : ∃ v, vs = [v] ∧ Rp K H x v := by
  unfold RpL at h
  obtain ⟨v, us, rfl, hv, hu⟩ := h
  unfold RpL at hu
  subst hu
  exact ⟨v, rfl, hv⟩
theorem rpL2 {x y : D} {vs : List V} (h : RpL K H [x, y] vs) : ∃ v u, vs = [v, u] ∧ Rp K H x v ∧ Rp K H y u := by
  unfold RpL at h
  obtain ⟨v, us, rfl, hv, hu⟩ := h
  obtain ⟨u, rfl, h2⟩ := rpL1 hu
  exact ⟨v, u, rfl, hv, h2⟩
theorem wc_all {bs : List Bool} {Q : QD} (q : Q (.s (.bl (bs.all id))) m) : WC K F B (rAll K) [.lst (bs.map fun b => .s (.bl b))] m Q := fun Hb H vs R hB r hx k => by
  obtain ⟨v, rfl, hv⟩ := rpL1 hx
  unfold Rp at hv
  obtain ⟨p, vs, rfl, h1, h2⟩ := hv
  have e : vs = bs.map V.bl := RpL.scal (vs := bs.map V.bl) (by rw [List.map_map]; exact h2)
  subst e
  exact ⟨p, bs, rfl, SqL.of (r.sub _ _ h1), k.here r rp_s q⟩
theorem wc_any {bs : List Bool} {Q : QD} (q : Q (.s (.bl (bs.any id))) m) : WC K F B (rAny K) [.lst (bs.map fun b => .s (.bl b))] m Q := fun Hb H vs R hB r hx k => by
  obtain ⟨v, rfl, hv⟩ := rpL1 hx
  unfold Rp at hv
  obtain ⟨p, vs, rfl, h1, h2⟩ := hv
  have e : vs = bs.map V.bl := RpL.scal (vs := bs.map V.bl) (by rw [List.map_map]; exact h2)
  subst e
  exact ⟨p, bs, rfl, SqL.of (r.sub _ _ h1), k.here r rp_s q⟩
/-- the class of a class name's value -/
def clsD : D → Option Value
  | .s (.ty n) => some (.type n)
  | .s (.ref C) => some (.ref C)
  | _ => none
theorem clsD_of {c : D} {u : Value} {v : V} (h : clsD c = some u) (hv : Rp K H c v) : ClsV v u := by
  cases c with
  | s w =>
    unfold Rp at hv
    subst hv
    cases v with
    | ty n =>
      cases h
      exact .ty n
    | ref C =>
      cases h
      exact .own C
    | _ => cases h
  | _ => cases h
theorem wc_isi {x c : D} {t u : Value} {b : Bool} {Q : QD} (ht : TyD K m x t) (hc : clsD c = some u) (hk : PySem.W.kitOne K t u = some b) (q : Q (.s (.bl b)) m) : WC K F B (rIsiA K) [x, c] m Q := fun Hb H vs R hB r hx k => by
  obtain ⟨v, w, rfl, hv, hw⟩ := rpL2 hx
  exact .inl ⟨v, w, t, u, b, rfl, clsD_of hc hw, ht.at r hv, hk, k.here r rp_s q⟩
theorem clsL_of : ∀ {cs : List D} {us : List Value} {vs : List V}, cs.map clsD = us.map some → RpL K H cs vs → Paired ClsV vs us
  | [], us, vs, h, hx => by
    unfold RpL at hx
    subst hx
    cases us with
    | nil => exact .nil
    | cons u us => cases h
  | c :: cs, us, vs, h, hx => by
    unfold RpL at hx
    obtain ⟨v, r, rfl, h1, h2⟩ := hx
    cases us with
    | nil => cases h
    | cons u us =>
      rw [List.map_cons, List.map_cons] at h
      injection h with a b
      exact .cons (clsD_of a h1) (clsL_of b h2)
theorem wc_isiT {x : D} {cs : List D} {t : Value} {us : List Value} {b : Bool} {Q : QD} (ht : TyD K m x t) (hc : cs.map clsD = us.map some) (hk : PySem.W.kitAny K t us = some b) (q : Q (.s (.bl b)) m) : WC K F B (rIsiA K) [x, .tup cs] m Q := fun Hb H vs R hB r hx k => by
  obtain ⟨v, w, rfl, hv, hw⟩ := rpL2 hx
  unfold Rp at hw
  obtain ⟨p, ws, rfl, h1, h2⟩ := hw
  exact .inr ⟨v, p, ws, t, us, b, rfl, sameT r.sub h1, clsL_of hc h2, ht.at r hv, hk, k.here r rp_s q⟩
theorem wc_listL {xs : List D} {Q : QD} (q : Q (.lst xs) m) : WC K F B (rListA K) [.lst xs] m Q := fun Hb H vs R hB r hx k => by
  obtain ⟨v, rfl, hv⟩ := rpL1 hx
  unfold Rp at hv
  obtain ⟨p, vs, rfl, h1, h2⟩ := hv
  refine ⟨p, vs, rfl, .inl (SqL.of (r.sub _ _ h1)), fun a ha => ?_⟩
  have e := Same.new (o := .lst vs) (r.fresh ha)
  refine k _ _ _ (.lst xs) _ e (r.data ha) ?_ q
  unfold Rp
  exact ⟨a, _, rfl, upd_same, h2.mono e⟩
theorem wc_listT {xs : List D} {Q : QD} (q : Q (.lst xs) m) : WC K F B (rListA K) [.tup xs] m Q := fun Hb H vs R hB r hx k => by
  obtain ⟨v, rfl, hv⟩ := rpL1 hx
  unfold Rp at hv
  obtain ⟨p, vs, rfl, h1, h2⟩ := hv
  refine ⟨p, vs, rfl, .inr (sameT r.sub h1), fun a ha => ?_⟩
  have e := Same.new (o := .lst vs) (r.fresh ha)
  refine k _ _ _ (.lst xs) _ e (r.data ha) ?_ q
  unfold Rp
  exact ⟨a, _, rfl, upd_same, h2.mono e⟩
/-- .. a list that is owned -/
theorem wc_listO {xs : List D} {Q : QD} (q : ∀ a, m.own a = none → Q (.s (.ref a)) { m with own := putM m.own a (.lst xs) }) : WC K F B (rListA K) [.lst xs] m Q := fun Hb H vs R hB r hx k => by
  obtain ⟨v, rfl, hv⟩ := rpL1 hx
  unfold Rp at hv
  obtain ⟨p, vs, rfl, h1, h2⟩ := hv
  refine ⟨p, vs, rfl, .inl (SqL.of (r.sub _ _ h1)), fun a ha => ?_⟩
  exact k _ _ _ _ _ (Same.refl _) (r.owned (mo := .lst xs) ha ⟨vs, upd_same, h2⟩) rp_s (q a (r.free ha))
theorem wc_tupL {xs : List D} {Q : QD} (q : Q (.tup xs) m) : WC K F B (rTupA K) [.lst xs] m Q := fun Hb H vs R hB r hx k => by
  obtain ⟨v, rfl, hv⟩ := rpL1 hx
  unfold Rp at hv
  obtain ⟨p, vs, rfl, h1, h2⟩ := hv
  refine ⟨p, vs, rfl, .inl ⟨SqL.of (r.sub _ _ h1), fun a ha => ?_⟩⟩
  have e := Same.new (o := .tup vs) (r.fresh ha)
  refine k _ _ _ (.tup xs) _ e (r.data ha) ?_ q
  unfold Rp
  exact ⟨a, _, rfl, SqT.of upd_same, h2.mono e⟩
theorem wc_tupT {xs : List D} {Q : QD} (q : Q (.tup xs) m) : WC K F B (rTupA K) [.tup xs] m Q := fun Hb H vs R hB r hx k => by
  obtain ⟨v, rfl, hv⟩ := rpL1 hx
  have hv' := hv
  unfold Rp at hv'
  obtain ⟨p, vs, rfl, h1, h2⟩ := hv'
  exact ⟨p, vs, rfl, .inr ⟨sameT r.sub h1, k.here r hv q⟩⟩

/-! ### methods over data -/
def WM (K : PySem.W.Frag) (F B : Hp) (r : V → List V → Hp → VK → Prop) (x : D) (xs : List D) (m : Mem) (Q : QD) : Prop := ∀ Hb H vx vs R, Same B Hb → Rel K F Hb H m → Rp K Hb x vx → RpL K Hb xs vs → OkV K F Hb Q R → r vx vs H R
theorem we_m1 {r : V → List V → Hp → VK → Prop} {to te : TE} {Q : QD} (h : WE K F B to ρ m fun x m1 => (∃ z, x = .s (.str z)) ∧ WE K F B te ρ m1 fun y m2 => WM K F B r x [y] m2 Q) : WE K F B (tM1 r to te) ρ m Q := fun Hb H σ R hB r hs k =>
  h Hb H σ _ hB r hs fun v H1 Hb1 x m1 e1 r1 hx q1 => by
    obtain ⟨⟨z, rfl⟩, q⟩ := q1
    have hx' := hx
    unfold Rp at hx'
    exact ⟨⟨z, hx'⟩, q Hb1 H1 σ _ (hB.trans e1) r1 (hs.mono e1) fun u H2 Hb2 y m2 e2 r2 hy q2 => q2 Hb2 H2 v [u] R ((hB.trans e1).trans e2) r2 (hx.mono e2) (RpL.cons hy RpL.nil) (k.mono (e1.trans e2))⟩
theorem rp_strs {p : Addr} {ys : List Str} (h : H p = some (.lst (ys.map V.str))) : Rp K H (.lst (ys.map fun y => .s (.str y))) (.ref p) := by
  unfold Rp
  refine ⟨p, _, rfl, h, ?_⟩
  have e := RpL.ofScal (K := K) (H := H) (ys.map V.str)
  rw [List.map_map] at e
  exact e
theorem strs_rp {v : V} {ys : List Str} (h : Rp K H (.lst (ys.map fun y => .s (.str y))) v) : ∃ p, v = .ref p ∧ H p = some (.lst (ys.map V.str)) := by
  unfold Rp at h
  obtain ⟨p, vs, rfl, h1, h2⟩ := h
  have e : vs = ys.map V.str := RpL.scal (vs := ys.map V.str) (by rw [List.map_map]; exact h2)
  subst e
  exact ⟨p, rfl, h1⟩
theorem wm_split {a b : Str} {Q : QD} (hb : (b.length == 0) = false) (ha : a.length + 2 ≤ sizeLine) (q : Q (.lst ((Txt.split a b).map fun y => .s (.str y))) m) : WM K F B rSplit (.s (.str a)) [.s (.str b)] m Q := fun Hb H vx vs R hB r hx hxs k => by
  obtain ⟨v, rfl, hv⟩ := rpL1 hxs
  unfold Rp at hx hv
  subst hx hv
  refine ⟨a, b, rfl, rfl, hb, ha, fun p hp => ?_⟩
  exact k _ _ _ _ _ (Same.new (r.fresh hp)) (r.data hp) (rp_strs upd_same) q
theorem wm_join {a : Str} {ys : List Str} {Q : QD} (hl : (ys.map (·.length)).sum + ys.length * a.length ≤ 16777216) (q : Q (.s (.str (Txt.join a ys))) m) : WM K F B (rJoin K) (.s (.str a)) [.lst (ys.map fun y => .s (.str y))] m Q := fun Hb H vx vs R hB r hx hxs k => by
  obtain ⟨v, rfl, hv⟩ := rpL1 hxs
  unfold Rp at hx
  subst hx
  obtain ⟨p, rfl, h1⟩ := strs_rp hv
  exact ⟨a, p, ys, rfl, rfl, .inl (SqL.of (r.sub _ _ h1)), hl, k.here r rp_s q⟩
theorem wm_txt {g : Str → Str → Str} {a b : Str} {Q : QD} (ha : a.length ≤ sizeLine) (q : Q (.s (.str (g a b))) m) : WM K F B (rTxt g) (.s (.str a)) [.s (.str b)] m Q := fun Hb H vx vs R hB r hx hxs k => by
  obtain ⟨v, rfl, hv⟩ := rpL1 hxs
  unfold Rp at hx hv
  subst hx hv
  exact ⟨a, b, rfl, rfl, ha, k.here r rp_s q⟩
/-- xs.append(e), xs an owned list -/
theorem we_append {to te : TE} {Q : QD} (h : WE K F B to ρ m fun x m1 => ∃ a, x = .s (.ref a) ∧ (∃ xs, m1.own a = some (.lst xs)) ∧ WE K F B te ρ m1 fun y m2 => ∃ xs, m2.own a = some (.lst xs) ∧ xs.length < sizeLine ∧ Q (.s .non) { m2 with own := putM m2.own a (.lst (xs ++ [y])) }) :
    WE K F B (tBM K "list" rAppend to (tCons te tNil)) ρ m Q := fun Hb H σ R hB r hs k =>
  h Hb H σ _ hB r hs fun v H1 Hb1 x m1 e1 r1 hx q1 => by
    obtain ⟨a, rfl, ⟨xs0, ho0⟩, q⟩ := q1
    unfold Rp at hx
    subst hx
    obtain ⟨_, vs0, h0, _⟩ := r1.own _ _ ho0
    refine ⟨.inl ⟨rfl, _, SqL.of h0⟩, q Hb1 H1 σ _ (hB.trans e1) r1 (hs.mono e1) fun u H2 Hb2 y m2 e2 r2 hy q2 => ?_⟩
    obtain ⟨xs, ho, hl, q3⟩ := q2
    obtain ⟨_, vs, h1, h2⟩ := r2.own _ _ ho
    exact ⟨a, vs, u, rfl, rfl, h1, by rw [h2.length]; exact hl, k _ _ _ _ _ (e1.trans e2) (r2.change (mo' := .lst (xs ++ [y])) ho ⟨_, upd_same, h2.app (RpL.cons hy RpL.nil)⟩) rp_s q3⟩
/-- an owned list becomes data -/
theorem we_freeze {te : TE} {Q : QD} (h : WE K F B te ρ m fun x m1 => ∃ a xs, x = .s (.ref a) ∧ m1.own a = some (.lst xs) ∧ Q (.lst xs) { m1 with own := dropM m1.own a }) : WE K F B te ρ m Q := fun Hb H σ R hB r hs k =>
  h Hb H σ _ hB r hs fun v H1 Hb1 x m1 e1 r1 hx q1 => by
    obtain ⟨a, xs, rfl, ho, q⟩ := q1
    unfold Rp at hx
    subst hx
    obtain ⟨hn, vs, h1, h2⟩ := r1.own _ _ ho
    have e4 : Same Hb1 (upd Hb1 a (.lst vs)) := Same.new hn
    refine k _ _ _ (.lst xs) _ (e1.trans e4) (r1.freeze ho h1) ?_ q
    unfold Rp
    exact ⟨a, vs, rfl, upd_same, h2.mono e4⟩
end
end DD

/-! DText: texts of paths as lists of codes. -/
namespace DT
open PySem L2
open TL

/-- the pieces between bars -/
def pcs : List Nat → List (List Nat)
  | [] => [[]]
  | c :: r => if c = 47 then [] :: pcs r else (c :: (pcs r).headD []) :: (pcs r).tail
theorem pcs_bar (r : List Nat) : pcs (47 :: r) = [] :: pcs r := if_pos rfl
theorem pcs_cons {c : Nat} (r : List Nat) (h : c ≠ 47) : pcs (c :: r) = (c :: (pcs r).headD []) :: (pcs r).tail := if_neg h
theorem pcs_ne : ∀ l : List Nat, pcs l ≠ []
  | [] => by simp [pcs]
  | c :: r => by
    unfold pcs
    split <;> simp
theorem pcs_head (l : List Nat) : (pcs l).headD [] :: (pcs l).tail = pcs l := by
  cases h : pcs l with
  | nil => exact absurd h (pcs_ne l)
  | cons a b => rfl
theorem spl_pcs : ∀ (l acc : List Nat), spl [47] 0 acc l = (acc ++ (pcs l).headD []) :: (pcs l).tail
  | [], acc => by
    rw [spl_nil]
    simp [pcs]
  | c :: r, acc => by
    by_cases hc : c = 47
    · subst hc
      have hp : pre [47] (47 :: r) = true := by simp [pre]
      rw [spl_hit hp]
      unfold pcs
      rw [if_pos rfl]
      simp only [List.headD_cons, List.tail_cons, List.append_nil]
      have e := spl_pcs r []
      rw [List.nil_append, pcs_head] at e
      exact congrArg (acc :: ·) e
    · have hp : pre [47] (c :: r) = false := pre_of_head [] r hc
      rw [spl_miss hp, spl_pcs r, pcs_cons r hc]
      simp only [List.headD_cons, List.tail_cons, List.append_assoc, List.singleton_append]
def mk (l : List Nat) : Str := ⟨l.toArray⟩
theorem mk_inj {a b : List Nat} (h : mk a = mk b) : a = b := by
  have := congrArg (fun s : Str => s.cps.toList) h
  simpa [mk] using this
theorem tl_mk' (l : List Nat) : tl (mk l) = l := rfl
theorem mk_tl' (x : Str) : mk (tl x) = x := mk_tl x
def pieces (t : Str) : List Str := (pcs (tl t)).map mk
theorem split_eq (t : Str) : Txt.split t "/" = pieces t := by
  have h := split_spl t "/" (by decide +kernel) (kind_ok (by decide +kernel))
  have e : tl ("/" : Str) = [47] := by decide +kernel
  rw [e, spl_pcs, List.nil_append, pcs_head] at h
  apply map_tl_inj
  rw [h]
  unfold pieces
  rw [List.map_map]
  exact (List.map_id (pcs (tl t))).symm.trans (List.map_congr_left fun a _ => rfl)
theorem pcs_noslash : ∀ {l p : List Nat}, p ∈ pcs l → 47 ∉ p
  | [], p, h => by
    simp [pcs] at h
    subst h
    simp
  | c :: r, p, h => by
    unfold pcs at h
    split at h
    · rcases List.mem_cons.mp h with z | z
      · subst z
        simp
      · exact pcs_noslash z
    · rename_i hc
      rcases List.mem_cons.mp h with z | z
      · subst z
        intro q
        rcases List.mem_cons.mp q with z | z
        · exact hc z.symm
        · have hm : (pcs r).headD [] ∈ pcs r := by
            have e := pcs_head r
            rw [← e]
            exact List.mem_cons_self
          exact pcs_noslash hm z
      · have hm : p ∈ pcs r := by
          have e := pcs_head r
          rw [← e]
          exact List.mem_cons_of_mem _ z
        exact pcs_noslash hm
/-- bars between -/
def jn : List (List Nat) → List Nat
  | [] => []
  | [p] => p
  | p :: q :: r => p ++ 47 :: jn (q :: r)
theorem jn_pcs : ∀ l : List Nat, jn (pcs l) = l
  | [] => rfl
  | c :: r => by
    have ih := jn_pcs r
    have hd := pcs_head r
    unfold pcs
    split
    · rename_i hc
      subst hc
      cases h : pcs r with
      | nil => exact absurd h (pcs_ne r)
      | cons a b =>
        rw [h] at ih
        show [] ++ 47 :: jn (a :: b) = _
        rw [ih]
        rfl
    · cases h : pcs r with
      | nil => exact absurd h (pcs_ne r)
      | cons a b =>
        rw [h] at ih
        cases b with
        | nil =>
          show c :: a = c :: r
          rw [show a = r from ih]
        | cons b bs =>
          show (c :: a) ++ 47 :: jn (b :: bs) = c :: r
          rw [List.cons_append]
          exact congrArg (c :: ·) ih
theorem pcs_app : ∀ (a b : List Nat), 47 ∉ a → pcs (a ++ 47 :: b) = a :: pcs b
  | [], b, _ => by simp [pcs]
  | c :: a, b, h => by
    have hc : c ≠ 47 := fun z => h (z ▸ List.mem_cons_self)
    have ha : 47 ∉ a := fun z => h (List.mem_cons_of_mem _ z)
    rw [List.cons_append, pcs_cons _ hc, pcs_app a b ha]
    rfl
theorem pcs_one : ∀ (a : List Nat), 47 ∉ a → pcs a = [a]
  | [], _ => rfl
  | c :: a, h => by
    have hc : c ≠ 47 := fun z => h (z ▸ List.mem_cons_self)
    have ha : 47 ∉ a := fun z => h (List.mem_cons_of_mem _ z)
    rw [pcs_cons _ hc, pcs_one a ha]
    rfl
theorem pcs_cat : ∀ (a b : List Nat), pcs (a ++ 47 :: b) = pcs a ++ pcs b
  | [], b => by simp [pcs]
  | c :: a, b => by
    have ih := pcs_cat a b
    have hne := pcs_ne a
    show (if c = 47 then [] :: pcs (a ++ 47 :: b) else (c :: (pcs (a ++ 47 :: b)).headD []) :: (pcs (a ++ 47 :: b)).tail) = (if c = 47 then [] :: pcs a else (c :: (pcs a).headD []) :: (pcs a).tail) ++ pcs b
    rw [ih]
    split
    · rfl
    · cases h : pcs a with
      | nil => exact absurd h hne
      | cons x y => rfl
theorem pcs_jn : ∀ ps : List (List Nat), ps ≠ [] → (∀ p ∈ ps, 47 ∉ p) → pcs (jn ps) = ps
  | [], h, _ => absurd rfl h
  | [p], _, h => pcs_one p (h p List.mem_cons_self)
  | p :: q :: r, _, h => by
    show pcs (p ++ 47 :: jn (q :: r)) = _
    rw [pcs_app _ _ (h p List.mem_cons_self), pcs_jn (q :: r) (by simp) fun x hx => h x (List.mem_cons_of_mem _ hx)]

/-! ### names and paths -/
def letters : List Nat := tl ("abcdefghijklmnopqrstuvwxyz" : Str)
def isName (z : Str) : Bool := decide (1 ≤ z.length) && (decide (z.length ≤ 8) && (tl z).all fun c => decide (c ∈ letters))
def dotty (p : Str) : Bool := inV (.str p) [.str "", .str ".", .str ".."]
def isPath (z : Str) : Bool := !decide (z = "") && (pieces z).all fun p => dotty p || isName p
def steps (z : Str) : List Str := (pieces z).filter fun p => !decide (p = "")
def rooted (z : Str) : Bool := decide ((tl z).head? = some 47)
def lastP (z : Str) : Str := mk ((pcs (tl z)).getLastD [])
def ended (z : Str) : Bool := dotty (lastP z)
theorem pieces_ne (z : Str) : pieces z ≠ [] := by
  unfold pieces
  intro h
  exact pcs_ne _ (List.map_eq_nil_iff.mp h)
theorem dotty_iff (p : Str) : dotty p = (decide (p = "") || (decide (p = ".") || decide (p = ".."))) := by
  unfold dotty inV eqV
  simp only [List.any_cons, List.any_nil, Bool.or_false]
  have e : ∀ a b : Str, (a == b) = decide (b = a) := fun a b => by
    by_cases h : a = b
    · subst h
      simp
    · have h2 : ¬ b = a := fun z => h z.symm
      rw [decide_eq_false h2]
      exact beq_eq_false_iff_ne.mpr h
  rw [e, e, e]

/-! ### the last bars, the beginning -/
def tlLast (z : Str) : Option Nat := (tl z).getLast?
/-- without the empty ones at the end -/
def dropE (ps : List (List Nat)) : List (List Nat) := (ps.reverse.dropWhile fun p => p.isEmpty).reverse
def beginL (l : List Nat) : List Nat := jn (dropE (dropE (pcs l)).dropLast)
def begin (z : Str) : Str := if steps z = [] then z else if beginL (tl z) = [] then (if rooted z = true then ("/" : Str) else ("." : Str)) else mk (beginL (tl z))
end DT

/-! DLaw: what the laws' own defs share. -/
namespace DD
open PySem L2
open PySem.Spec PyProof.Rows

theorem le_line {n : Nat} (h : n ≤ 1000000) : n ≤ sizeLine := by
  rw [sizeLine_eq]
  omega
theorem lt_line {n : Nat} (h : n ≤ 1000000) : n < sizeLine := by
  rw [sizeLine_eq]
  omega
/-! ### the law and its stream -/
def spLaw (K : PySem.W.Frag) : Sp := fun vs H Q _ => ∃ (a : Addr) (ns : List Int), vs = [.ref a] ∧ SqL K H a (ns.map V.int) ∧ ns.length ≤ 63 ∧ ∀ H', Q (.bl true) H'
def spStart (K : PySem.W.Frag) : Sp := fun vs H Q _ => ∃ (a : Addr) (ns : List Int), vs = [.ref a] ∧ SqL K H a (ns.map V.int) ∧ ns.length ≤ 63 ∧
  ∀ c p, H c = none → upd H c (.lst (ns.map V.int)) p = none → Q (.ref p) (upd (upd H c (.lst (ns.map V.int))) p (.lst [.ref c, .int 0, .int 0, .int 11]))
section
variable {P : Program} {w : World} {K : PySem.W.Frag} {mg : Str → Option Value} {base : Heap} {B F Hb H : Hp} {m : Mem} {ρ : Env}
theorem we_start {E : XK} {ta : TA} {Q : QD} (h : WA K F B ta ρ m fun ds m1 => ∃ (a : Addr) (ns : List Int), ds = [.s (.ref a)] ∧ SqL K B a (ns.map V.int) ∧ ns.length ≤ 63 ∧
      ∀ c p : Addr, p ≠ c → m1.own c = none → m1.own p = none → Q (.s (.ref p)) { m1 with own := putM (putM m1.own c .cel) p (.stm c) }) : WE K F B (tCall (spStart K) [] E ta) ρ m Q := fun Hb H σ R hB r hs k =>
  h Hb H σ _ hB r hs fun vs H1 Hb1 ds m1 e1 r1 hx q1 => by
    obtain ⟨a, ns, rfl, hS, hl, q⟩ := q1
    have e : vs = [.ref a] := RpL.scal (vs := [.ref a]) hx
    subst e
    refine ⟨a, ns, rfl, (hB.trans (e1.trans r1.sub)).seq hS, hl, fun c p hc hp => ?_⟩
    have hpc : p ≠ c := fun z => by
      rw [z, upd_same] at hp
      cases hp
    have r2 : Rel K F Hb1 (upd H1 c (.lst (ns.map V.int))) { m1 with own := putM m1.own c .cel } := r1.owned (mo := .cel) hc ⟨ns, upd_same, hl⟩
    have r3 : Rel K F Hb1 (upd (upd H1 c (.lst (ns.map V.int))) p (.lst [.ref c, .int 0, .int 0, .int 11])) { m1 with own := putM (putM m1.own c .cel) p (.stm c) } :=
      r2.owned (mo := .stm c) hp ⟨0, 0, 11, upd_same, by decide, ⟨by decide, Int.natCast_nonneg _⟩, by decide, by decide⟩
    have hp1 : H1 p = none := by
      rw [upd_ne hpc] at hp
      exact hp
    exact k _ _ _ _ _ e1 r3 rp_s (q c p hpc (r1.free hc) (r1.free hp1))
/-- the law -/
theorem ok_lawD {CX : CXT} {x qual : Str} {st : Stmt} {f : Addr} {fd : FuncData} {N : List Str} {y : Str} {k : Nat} (F : Fun K x qual st f fd) (S : FnScope N [y] (defScope st))
    (hbody : ∀ (cdv : Value) (A : Around) (outer : List PySem.Env) (s : Shared) (H : Hp) (E : XK), Room k (A.deeper (envOfC qual (defScope st) s.heap.objs.size f cdv)) →
      ∃ t, PSs (cxOf CX P w K mg base N qual (defScope st) f cdv A outer s H E) (defBody st) t ∧ ∀ (a : Addr) (ns : List Int) (B : Hp), SqL K B a (ns.map V.int) → ns.length ≤ 63 →
        WS K (fun _ => none) B t (startD N [.s (.ref a)]) ⟨0, fun _ => none⟩ { nx := fun _ _ => False, rt := fun d _ => d = .s (.bl true) }) : FnOk P w K mg base CX (k + 1) f fd [y] (spLaw K) := by
  refine okC F S (fun vs H Q E h => by obtain ⟨a, ns, rfl, _⟩ := h; rfl) fun cdv A outer s H vs Q E hr h => ?_
  obtain ⟨a, ns, rfl, hS, hl, q⟩ := h
  obtain ⟨t, ht, hw⟩ := hbody cdv A outer s H E hr
  refine ⟨t, ht, hw a ns H hS hl H H _ _ (Same.refl _) ⟨Same.refl _, (fun _ _ z => nomatch z), (fun _ _ z => nomatch z), (fun _ _ z => nomatch z)⟩ (RpS.start (RpL.cons rp_s RpL.nil)) ⟨fun _ _ _ _ _ _ _ _ z => z.elim, fun v H' Hb' d m' e r hd z => ?_, fun _ _ _ _ _ _ _ _ z => z.elim, fun _ _ _ _ _ _ _ _ z => z.elim⟩⟩
  subst z
  unfold Rp at hd
  subst hd
  exact q _
/-- the stream has turned -/
theorem Rel.stream {p c : Addr} {s1 s2 s3 : Int} {ns : List Int} {H' : Hp} (r : Rel K F Hb H m) (hp : m.own p = some (.stm c)) (hc : m.own c = some .cel) (hpc : p ≠ c) (h1 : H' p = some (.lst [.ref c, .int s1, .int s2, .int s3])) (h2 : H' c = some (.lst (ns.map V.int)))
    (hk : ∀ b, b ≠ p → b ≠ c → H' b = H b) (ho : StOk s1 s2 s3 (m.cnt + 1)) (hn : CelOk ns) : Rel K F Hb H' { m with cnt := m.cnt + 1 } := by
  have np : ∀ b o, Hb b = some o → b ≠ p := fun b o e z => by
    rw [z, (r.own p _ hp).1] at e
    cases e
  have nc : ∀ b o, Hb b = some o → b ≠ c := fun b o e z => by
    rw [z, (r.own c _ hc).1] at e
    cases e
  refine ⟨fun b o e => ?_, fun b o e => ?_, fun b mo e => ?_, r.nt⟩
  · rw [hk b (np b o e) (nc b o e)]
    exact r.sub b o e
  · have z1 := ne_fr e (r.ownF hp)
    have z2 := ne_fr e (r.ownF hc)
    rw [hk b z1 z2]
    exact r.fr b o e
  · have e' : m.own b = some mo := e
    obtain ⟨q1, q2⟩ := r.own b mo e'
    refine ⟨q1, ?_⟩
    by_cases z1 : b = p
    · subst z1
      rw [hp] at e'
      cases e'
      exact ⟨s1, s2, s3, h1, ho⟩
    · by_cases z2 : b = c
      · subst z2
        rw [hc] at e'
        cases e'
        exact ⟨ns, h2, hn⟩
      · exact q2.mono (Same.refl _) (hk b z1 z2) (Nat.le_succ _)

/-! ### isinstance of built-in types, by several -/
def kitAnyB (a : String) : List String → Option Bool
  | [] => some false
  | b :: r => match kitB a b with
    | some true => some true
    | some false => kitAnyB a r
    | none => none
theorem kit_any {a : String} : ∀ {bs : List String} {r : Bool}, kitAnyB a bs = some r → PySem.W.kitAny K (.type a) (bs.map Value.type) = some r
  | [], r, h => h
  | b :: bs, r, h => by
    unfold kitAnyB at h
    rw [List.map_cons]
    unfold PySem.W.kitAny
    cases hq : kitB a b with
    | none =>
      rw [hq] at h
      cases h
    | some q =>
      rw [hq] at h
      rw [kit_ty hq]
      cases q with
      | true => exact h
      | false => exact kit_any h

/-! ### plain data -/
def SameOk : Nat → D → Prop
  | _, .s .non => True
  | _, .s (.bl _) => True
  | _, .s (.int _) => True
  | _, .s (.str _) => True
  | n + 1, .lst xs => xs.length ≤ 1000000 ∧ ∀ x ∈ xs, SameOk n x
  | n + 1, .tup xs => xs.length ≤ 1000000 ∧ ∀ x ∈ xs, SameOk n x
  | _, _ => False

/-! ### zip of lists or of tuples -/
theorem wi_zipL {ta : TA} {Q : List D → Mem → Prop} (h : WA K F B ta ρ m fun xs m1 => ∃ ds es, ((xs = [.lst ds, .lst es]) ∨ xs = [.tup ds, .tup es]) ∧ Q ((ds.zip es).map fun p => .tup [p.1, p.2]) m1) : WI K F B (RZ.iZipA K ta) ρ m Q := fun Hb H σ R hB r hs k =>
  h Hb H σ _ hB r hs fun vs H1 Hb1 xs m1 e1 r1 hx q1 => by
    obtain ⟨ds, es, hd, q⟩ := q1
    rcases hd with rfl | rfl
    · obtain ⟨v, v', rfl, hv, hv'⟩ := rpL2 hx
      unfold Rp at hv hv'
      obtain ⟨p, vs, rfl, h1, h2⟩ := hv
      obtain ⟨p', vs', rfl, h1', h2'⟩ := hv'
      have hl := h2.length
      have hl' := h2'.length
      refine ⟨p, p', vs, vs', rfl, .inl ⟨SqL.of (r1.sub _ _ h1), SqL.of (r1.sub _ _ h1'), k _ _ _ _ _ e1 r1 (fun i F Hb2 H2 m2 e2 r2 => ?_) q⟩⟩
      have hq : SqL K H2 p vs := SqL.of (r2.sub _ _ (e2 _ _ h1))
      have hq' : SqL K H2 p' vs' := SqL.of (r2.sub _ _ (e2 _ _ h1'))
      refine ⟨fun hi => ⟨vs, vs', hq, hq', by simp at hi; omega⟩, fun d hd => ?_⟩
      rw [List.getElem?_map] at hd
      cases hz : (ds.zip es)[i]? with
      | none =>
        rw [hz] at hd
        cases hd
      | some pr =>
        rw [hz] at hd
        cases hd
        obtain ⟨z1, z2⟩ := List.getElem?_zip_eq_some.mp hz
        obtain ⟨u, hu1, hu2⟩ := h2.get z1
        obtain ⟨u', hu1', hu2'⟩ := h2'.get z2
        refine ⟨⟨vs, vs', u, u', hq, hq', hu1, hu1'⟩, fun y H' hy => ?_⟩
        obtain ⟨T, z, z', rfl, hT, rfl, hz, hz'⟩ := hy
        have q1 := hz vs hq
        have q2 := hz' vs' hq'
        rw [hu1] at q1
        rw [hu1'] at q2
        cases q1
        cases q2
        exact new_pair r2 hT (hu2.mono e2) (hu2'.mono e2)
    · obtain ⟨v, v', rfl, hv, hv'⟩ := rpL2 hx
      unfold Rp at hv hv'
      obtain ⟨p, vs, rfl, h1, h2⟩ := hv
      obtain ⟨p', vs', rfl, h1', h2'⟩ := hv'
      have hl := h2.length
      have hl' := h2'.length
      refine ⟨p, p', vs, vs', rfl, .inr ⟨sameT r1.sub h1, sameT r1.sub h1', k _ _ _ _ _ e1 r1 (fun i F Hb2 H2 m2 e2 r2 => ?_) q⟩⟩
      have hq : SqT K H2 p vs := sameT r2.sub (sameT e2 h1)
      have hq' : SqT K H2 p' vs' := sameT r2.sub (sameT e2 h1')
      refine ⟨fun hi => ⟨vs, vs', hq, hq', by simp at hi; omega⟩, fun d hd => ?_⟩
      rw [List.getElem?_map] at hd
      cases hz : (ds.zip es)[i]? with
      | none =>
        rw [hz] at hd
        cases hd
      | some pr =>
        rw [hz] at hd
        cases hd
        obtain ⟨z1, z2⟩ := List.getElem?_zip_eq_some.mp hz
        obtain ⟨u, hu1, hu2⟩ := h2.get z1
        obtain ⟨u', hu1', hu2'⟩ := h2'.get z2
        refine ⟨⟨vs, vs', u, u', hq, hq', hu1, hu1'⟩, fun y H' hy => ?_⟩
        obtain ⟨T, z, z', rfl, hT, rfl, hz, hz'⟩ := hy
        have q1 := hz vs hq
        have q2 := hz' vs' hq'
        rw [hu1] at q1
        rw [hu1'] at q2
        cases q1
        cases q2
        exact new_pair r2 hT (hu2.mono e2) (hu2'.mono e2)
end
end DD

/-! DPath: bars at the end, the beginning of a path. -/
namespace DT
open PySem L2
open TL PySem.Builtin PySem.Builtin.Str

/-- without the bars at the end -/
def rst (l : List Nat) : List Nat := (l.reverse.dropWhile fun c => decide (c = 47)).reverse
theorem rst_nil : rst [] = [] := rfl
theorem rst_bar (l : List Nat) : rst (l ++ [47]) = rst l := by
  unfold rst
  rw [List.reverse_append]
  rfl
theorem rst_not {l : List Nat} {c : Nat} (h : c ≠ 47) : rst (l ++ [c]) = l ++ [c] := by
  unfold rst
  rw [List.reverse_append]
  show (List.dropWhile (fun c => decide (c = 47)) (c :: l.reverse)).reverse = _
  rw [List.dropWhile_cons_of_neg (by simpa using h)]
  simp
theorem dropE_nil : dropE [] = [] := rfl
theorem dropE_e (ps : List (List Nat)) : dropE (ps ++ [[]]) = dropE ps := by
  unfold dropE
  rw [List.reverse_append]
  rfl
theorem dropE_ne {ps : List (List Nat)} {p : List Nat} (h : p ≠ []) : dropE (ps ++ [p]) = ps ++ [p] := by
  unfold dropE
  rw [List.reverse_append]
  show (List.dropWhile (fun p => p.isEmpty) (p :: ps.reverse)).reverse = _
  rw [List.dropWhile_cons_of_neg (by simpa using h)]
  simp
theorem snocInd {α : Type} {P : List α → Prop} (h0 : P []) (h1 : ∀ l a, P l → P (l ++ [a])) : ∀ l, P l := fun l => by
  have key : ∀ n (l : List α), l.length = n → P l := fun n => by
    induction n with
    | zero =>
      intro l h
      rw [List.eq_nil_of_length_eq_zero h]
      exact h0
    | succ n ih =>
      intro l h
      have hne : l ≠ [] := fun z => by
        rw [z] at h
        cases h
      rw [← List.dropLast_concat_getLast hne]
      exact h1 _ _ (ih _ (by rw [List.length_dropLast]; omega))
  exact key l.length l rfl
theorem pcs_snoc {c : Nat} (hc : c ≠ 47) : ∀ l : List Nat, ∃ qs q, pcs (l ++ [c]) = qs ++ [q ++ [c]] ∧ pcs l = qs ++ [q]
  | [] => ⟨[], [], by simp [pcs, hc], rfl⟩
  | d :: l => by
    obtain ⟨qs, q, h1, h2⟩ := pcs_snoc hc l
    by_cases hd : d = 47
    · subst hd
      exact ⟨[] :: qs, q, by rw [List.cons_append, pcs_bar, h1]; rfl, by rw [pcs_bar, h2]; rfl⟩
    · rw [List.cons_append, pcs_cons _ hd, pcs_cons _ hd, h1, h2]
      cases qs with
      | nil => exact ⟨[], d :: q, rfl, rfl⟩
      | cons a as => exact ⟨(d :: a) :: as, q, rfl, rfl⟩
theorem jn_dropE (l : List Nat) : jn (dropE (pcs l)) = rst l := by
  refine snocInd (P := fun l => jn (dropE (pcs l)) = rst l) rfl (fun l c ih => ?_) l
  by_cases hc : c = 47
  · subst hc
    rw [pcs_cat l []]
    show jn (dropE (pcs l ++ [[]])) = _
    rw [dropE_e, rst_bar, ih]
  · obtain ⟨qs, q, h1, h2⟩ := pcs_snoc hc l
    rw [h1, dropE_ne (by simp), ← h1, jn_pcs, rst_not hc]
theorem rst_jn {ps : List (List Nat)} (h : ∀ p ∈ ps, 47 ∉ p) : rst (jn ps) = jn (dropE ps) := by
  by_cases h0 : ps = []
  · subst h0
    rfl
  · have e := jn_dropE (jn ps)
    rw [pcs_jn ps h0 h] at e
    exact e.symm
theorem jn_snoc {qs : List (List Nat)} {p : List Nat} : jn (qs ++ [p]) = if qs = [] then p else jn qs ++ 47 :: p := by
  induction qs with
  | nil => rfl
  | cons a as ih =>
    rw [if_neg (by simp)]
    cases as with
    | nil => rfl
    | cons b bs =>
      rw [if_neg (by simp)] at ih
      show a ++ 47 :: jn (b :: bs ++ [p]) = (a ++ 47 :: jn (b :: bs)) ++ 47 :: p
      rw [ih]
      simp
/-- the empty ones at the end -/
theorem dropE_cut (ps : List (List Nat)) : (dropE ps = [] ∧ ∀ p ∈ ps, p = []) ∨ ∃ qs p k, p ≠ [] ∧ ps = qs ++ p :: List.replicate k [] ∧ dropE ps = qs ++ [p] := by
  refine snocInd (P := fun ps => (dropE ps = [] ∧ ∀ p ∈ ps, p = []) ∨ ∃ qs p k, p ≠ [] ∧ ps = qs ++ p :: List.replicate k [] ∧ dropE ps = qs ++ [p]) (.inl ⟨rfl, by simp⟩) (fun ps p ih => ?_) ps
  by_cases hp : p = []
  · subst hp
    rcases ih with ⟨h1, h2⟩ | ⟨qs, q, k, h1, h2, h3⟩
    · refine .inl ⟨by rw [dropE_e, h1], fun p hp => ?_⟩
      rcases List.mem_append.mp hp with z | z
      · exact h2 p z
      · simpa using z
    · refine .inr ⟨qs, q, k + 1, h1, ?_, by rw [dropE_e, h3]⟩
      rw [List.replicate_succ', h2]
      simp
  · exact .inr ⟨ps, p, 0, hp, rfl, dropE_ne hp⟩
theorem mem_dropE {ps : List (List Nat)} {p : List Nat} (h : p ∈ dropE ps) : p ∈ ps := by
  rcases dropE_cut ps with ⟨h1, h2⟩ | ⟨qs, q, k, h1, h2, h3⟩
  · rw [h1] at h
    cases h
  · rw [h3] at h
    rw [h2]
    rcases List.mem_append.mp h with z | z
    · exact List.mem_append_left _ z
    · have e : p = q := by simpa using z
      subst e
      simp

/-! ### texts -/
theorem tl_strip {z : Str} : tl (Txt.rstripChars z "/") = rst (tl z) := by
  have e : ("/" : Str).cps = #[47] := by decide +kernel
  unfold Txt.rstripChars
  rw [PySem.W.stripBy_eq]
  show tl (strSub z 0 (z.length - (((tl z).drop 0).reverse.takeWhile ("/" : Str).cps.contains).length)) = _
  rw [tl_strSub, List.drop_zero, e, len_tl]
  have e2 : (fun c => (#[47] : Array Nat).contains c) = fun c => decide (c = 47) := by
    funext c
    simp
  show ((tl z).drop 0).take ((tl z).length - ((tl z).reverse.takeWhile (fun c => (#[47] : Array Nat).contains c)).length - 0) = _
  rw [e2]
  unfold rst
  generalize tl z = l
  generalize (fun c => decide (c = 47)) = f
  have h1 : l.reverse = l.reverse.takeWhile f ++ l.reverse.dropWhile f := (List.takeWhile_append_dropWhile).symm
  have h2 : l = (l.reverse.dropWhile f).reverse ++ (l.reverse.takeWhile f).reverse := by
    rw [← List.reverse_append, ← h1, List.reverse_reverse]
  have h3 : l.length = (l.reverse.dropWhile f).length + (l.reverse.takeWhile f).length := by
    have := congrArg List.length h2
    simpa using this
  rw [List.drop_zero]
  have h4 : l.length - (l.reverse.takeWhile f).length - 0 = (l.reverse.dropWhile f).reverse.length := by
    rw [List.length_reverse]
    omega
  rw [h4]
  have h5 : List.take (l.reverse.dropWhile f).reverse.length ((l.reverse.dropWhile f).reverse ++ (l.reverse.takeWhile f).reverse) = (l.reverse.dropWhile f).reverse := List.take_left
  rw [← h2] at h5
  exact h5
theorem tl_rmsuf {z y : Str} {a : List Nat} (h : tl z = a ++ tl y) (hy : tl y ≠ []) : tl (Txt.removesuffix z y) = a := by
  have hl : z.length = a.length + y.length := by
    rw [len_tl, len_tl y, h, List.length_append]
  have hy1 : 1 ≤ y.length := len1 hy
  have hs : subAt z y (z.length - y.length) = true := by
    rw [PySem.StrLaws.subAt_eq]
    rw [show z.length - y.length = a.length by omega]
    have e : z.cps.toList = a ++ tl y := h
    rw [e, List.drop_left, len_tl y, List.take_length]
    simp [tl]
  unfold Txt.removesuffix
  rw [hs, Bool.and_true, if_pos (decide_eq_true (show y.length ≤ z.length by omega))]
  show tl (if (z.length - y.length - 0 == z.length) = true then z else strSub z 0 (z.length - y.length)) = a
  rw [if_neg (by simp; omega)]
  rw [tl_strSub, h, List.drop_zero]
  rw [show z.length - y.length - 0 = a.length by omega]
  exact List.take_left
theorem tl_ext {x : Str} {l : List Nat} (h : tl x = l) : x = mk l := by
  rw [← h]
  exact (mk_tl x).symm
theorem steps_tl (z : Str) : (steps z) = ((pcs (tl z)).filter fun p => !p.isEmpty).map mk := by
  unfold steps pieces
  rw [List.filter_map]
  congr 1
  refine List.filter_congr fun p _ => ?_
  show (!decide (mk p = "")) = !p.isEmpty
  congr 1
  cases p with
  | nil => exact decide_eq_true (by decide +kernel)
  | cons a b =>
    refine decide_eq_false fun z => ?_
    have e : tl (mk (a :: b)) = tl ("" : Str) := congrArg tl z
    have e2 : tl ("" : Str) = [] := by decide +kernel
    rw [e2] at e
    cases e
theorem mk_nil : mk [] = ("" : Str) := by decide +kernel
theorem mk_eq_nil {l : List Nat} : mk l = ("" : Str) ↔ l = [] := by
  constructor
  · intro h
    rw [← mk_nil] at h
    exact mk_inj h
  · rintro rfl
    exact mk_nil
/-- a path that has steps: all ahead of the last, the last -/
theorem steps_cut (z : Str) : (steps z = []) ∨ ∃ qs p k, p ≠ [] ∧ pcs (tl z) = qs ++ p :: List.replicate k [] ∧ dropE (pcs (tl z)) = qs ++ [p] ∧ (steps z).getLast? = some (mk p) ∧ steps z ≠ [] := by
  rcases dropE_cut (pcs (tl z)) with ⟨h1, h2⟩ | ⟨qs, p, k, h1, h2, h3⟩
  · left
    rw [steps_tl]
    have e : (pcs (tl z)).filter (fun p => !p.isEmpty) = [] := by
      rw [List.filter_eq_nil_iff]
      intro p hp
      rw [h2 p hp]
      simp
    rw [e]
    rfl
  · right
    have e : steps z = ((qs.filter fun p => !p.isEmpty) ++ [p]).map mk := by
      rw [steps_tl, h2, List.filter_append]
      have e2 : (p :: List.replicate k []).filter (fun p => !p.isEmpty) = [p] := by
        rw [List.filter_cons_of_pos (by simpa using h1)]
        congr 1
        rw [List.filter_eq_nil_iff]
        intro q hq
        rw [(List.mem_replicate.mp hq).2]
        simp
      rw [e2]
    refine ⟨qs, p, k, h1, h2, h3, ?_, ?_⟩
    · rw [e, List.map_append]
      exact List.getLast?_concat
    · rw [e]
      simp
theorem pcs_suf {z : Str} {qs : List (List Nat)} {p : List Nat} (h : dropE (pcs (tl z)) = qs ++ [p]) : beginL (tl z) = jn (dropE qs) := by
  unfold beginL
  rw [h, List.dropLast_concat]
/-- what the program's head is -/
theorem head_eq {z : Str} {qs : List (List Nat)} {p : List Nat} (hp : p ≠ []) (h : dropE (pcs (tl z)) = qs ++ [p]) : Txt.rstripChars (Txt.removesuffix (Txt.rstripChars z "/") (mk p)) "/" = mk (beginL (tl z)) := by
  apply ext_tl
  have hm : ∀ q ∈ qs, 47 ∉ q := fun q hq => pcs_noslash (l := tl z) (mem_dropE (by rw [h]; exact List.mem_append_left _ hq))
  have e1 : tl (Txt.rstripChars z "/") = jn (qs ++ [p]) := by rw [tl_strip, ← jn_dropE, h]
  rw [tl_strip, pcs_suf h]
  rw [jn_snoc] at e1
  by_cases h0 : qs = []
  · subst h0
    rw [if_pos rfl] at e1
    rw [tl_rmsuf (a := []) e1 hp]
    rfl
  · rw [if_neg h0] at e1
    have e2 : jn qs ++ 47 :: p = (jn qs ++ [47]) ++ tl (mk p) := by
      show _ = (jn qs ++ [47]) ++ p
      simp
    rw [e2] at e1
    rw [tl_rmsuf e1 hp, rst_bar, rst_jn hm]
    rfl
/-- all pieces are allowed -/
def Good (l : List Nat) : Prop := ∀ p ∈ pcs l, (dotty (mk p) || isName (mk p)) = true
theorem isPath_iff {z : Str} : isPath z = true ↔ z ≠ "" ∧ Good (tl z) := by
  unfold isPath Good pieces
  rw [Bool.and_eq_true, List.all_map, List.all_eq_true]
  simp
theorem dotty_nil : dotty (mk []) = true := by decide +kernel
theorem good_cat {a b : List Nat} (ha : Good a) (hb : Good b) : Good (a ++ 47 :: b) := fun p hp => by
  rw [pcs_cat] at hp
  rcases List.mem_append.mp hp with z | z
  · exact ha p z
  · exact hb p z
theorem good_nil : Good [] := fun p hp => by
  have e : p = [] := by simpa [pcs] using hp
  subst e
  decide +kernel
theorem good_cut {a b : List Nat} (h : Good (a ++ 47 :: b)) : Good a ∧ Good b := by
  unfold Good at h ⊢
  rw [pcs_cat] at h
  exact ⟨fun p hp => h p (List.mem_append_left _ hp), fun p hp => h p (List.mem_append_right _ hp)⟩
theorem good_bars {a b : List Nat} (ha : Good a) (hb : Good b) : ∀ n : Nat, Good (a ++ List.replicate (n + 1) 47 ++ b)
  | 0 => by
    have := good_cat ha hb
    simpa using this
  | n + 1 => by
    have e : a ++ List.replicate (n + 1 + 1) 47 ++ b = a ++ List.replicate (n + 1) 47 ++ (47 :: b) := by
      rw [List.replicate_succ' (n := n + 1)]
      simp
    rw [e]
    exact good_bars ha (good_cat good_nil hb) n
theorem begin_path {z : Str} (h : isPath z = true) : isPath (begin z) = true := by
  unfold begin
  by_cases h1 : steps z = []
  · rw [if_pos h1]
    exact h
  · rw [if_neg h1]
    by_cases h2 : beginL (tl z) = []
    · rw [if_pos h2]
      split <;> decide +kernel
    · rw [if_neg h2]
      rcases steps_cut z with z1 | ⟨qs, p, k, q1, q2, q3, q4, q5⟩
      · exact absurd z1 h1
      · have hb := pcs_suf q3
        rw [hb] at h2 ⊢
        have hm : ∀ q ∈ dropE qs, q ∈ pcs (tl z) := fun q hq => by
          rw [q2]
          exact List.mem_append_left _ (mem_dropE hq)
        refine isPath_iff.mpr ⟨fun z => h2 (mk_eq_nil.mp z), fun q hq => ?_⟩
        rw [tl_mk', pcs_jn _ (fun z => h2 (by rw [z]; rfl)) fun q hq => pcs_noslash (hm q hq)] at hq
        exact (isPath_iff.mp h).2 q (hm q hq)
theorem jn_len : ∀ {ps : List (List Nat)}, (jn ps).length + 1 = (ps.map fun p => p.length + 1).sum ∨ ps = []
  | [] => .inr rfl
  | [p] => .inl (by simp [jn])
  | p :: q :: r => .inl (by
    rcases jn_len (ps := q :: r) with h | h
    · show (p ++ 47 :: jn (q :: r)).length + 1 = _
      rw [List.map_cons, List.sum_cons, ← h]
      simp
      omega
    · cases h)
theorem rst_len (l : List Nat) : (rst l).length ≤ l.length := by
  unfold rst
  rw [List.length_reverse]
  have z := (List.dropWhile_sublist (fun c => decide (c = 47)) (l := l.reverse)).length_le
  rw [List.length_reverse] at z
  exact z
end DT

/-! DDraw: the stream opened; lists compared with lists. -/
namespace DD
open PySem L2
open PySem.Spec PyProof.Rows

/-- what m describes m' describes too -/
def Conv (m m' : Mem) : Prop := ∀ (K : PySem.W.Frag) (F Hb H : Hp), Rel K F Hb H m → Rel K F Hb H m'
section
variable {K : PySem.W.Frag} {B F Hb H : Hp} {m : Mem} {ρ : Env}
theorem Conv.refl : Conv m m := fun _ _ _ _ r => r
theorem we_conv {te : TE} {Q Q' : QD} (h : WE K F B te ρ m Q) (hq : ∀ d m', Q d m' → ∃ m2, Conv m' m2 ∧ Q' d m2) : WE K F B te ρ m Q' := fun Hb H σ R hB r hs k =>
  h Hb H σ R hB r hs fun v H1 Hb1 d m1 e1 r1 hd q1 => by
    obtain ⟨m2, c, q⟩ := hq d m1 q1
    exact k v H1 Hb1 d m2 e1 (c _ _ _ _ r1) hd q
theorem we_pre {te : TE} {m2 : Mem} {Q : QD} (c : Conv m m2) (h : WE K F B te ρ m2 Q) : WE K F B te ρ m Q := fun Hb H σ R hB r hs k => h Hb H σ R hB (c _ _ _ _ r) hs k
theorem ws_pre {t : TS} {m2 : Mem} {E : DE} (c : Conv m m2) (h : WS K F B t ρ m2 E) : WS K F B t ρ m E := fun Hb H σ R hB r hs k => h Hb H σ R hB (c _ _ _ _ r) hs k
theorem wt_pre {t : TT} {m2 : Mem} {Q : Bool → Mem → Prop} (c : Conv m m2) (h : WT K F B t ρ m2 Q) : WT K F B t ρ m Q := fun Hb H σ R hB r hs k => h Hb H σ R hB (c _ _ _ _ r) hs k
theorem Conv.count {n : Nat} (h : m.cnt ≤ n) : Conv m { m with cnt := n } := fun _ _ _ _ r => r.count h
def opened (own : Addr → Option MO) (p c : Addr) (s1 s2 s3 : Int) (ns : List Int) : Addr → Option MO :=
  putM (putM own c (.lst ((ns.map V.int).map D.s))) p (.lst [.s (.ref c), .s (.int s1), .s (.int s2), .s (.int s3)])
theorem opened_p {own : Addr → Option MO} {p c : Addr} {s1 s2 s3 : Int} {ns : List Int} : opened own p c s1 s2 s3 ns p = some (.lst [.s (.ref c), .s (.int s1), .s (.int s2), .s (.int s3)]) := putM_same
theorem opened_c {own : Addr → Option MO} {p c : Addr} {s1 s2 s3 : Int} {ns : List Int} (h : p ≠ c) : opened own p c s1 s2 s3 ns c = some (.lst ((ns.map V.int).map D.s)) := by
  unfold opened
  rw [putM_ne (Ne.symm h)]
  exact putM_same
theorem put4 {own : Addr → Option MO} {p c : Addr} {s1 s2 s3 t1 t2 t3 : Int} {ns : List Int} : putM (opened own p c s1 s2 s3 ns) p (.lst [.s (.ref c), .s (.int t1), .s (.int t2), .s (.int t3)]) = opened own p c t1 t2 t3 ns := putM_put
theorem putc {own : Addr → Option MO} {p c : Addr} {s1 s2 s3 : Int} {ns ns' : List Int} (h : p ≠ c) : putM (opened own p c s1 s2 s3 ns) c (.lst ((ns'.map V.int).map D.s)) = opened own p c s1 s2 s3 ns' := by
  funext b
  unfold opened putM
  by_cases h1 : b = c
  · have h2 : ¬ b = p := fun z => h (z.symm.trans h1)
    rw [if_pos h1, if_neg h2, if_pos h1]
  · rw [if_neg h1, if_neg h1, if_neg h1]
/-- the stream is opened -/
theorem ws_open {t : TS} {E : DE} {p c : Addr} (hp : m.own p = some (.stm c)) (hc : m.own c = some .cel) (hpc : p ≠ c)
    (h : ∀ s1 s2 s3 ns, StOk s1 s2 s3 m.cnt → ns.length ≤ 63 → WS K F B t ρ { m with own := opened m.own p c s1 s2 s3 ns } E) : WS K F B t ρ m E := fun Hb H σ R hB r hs k => by
  obtain ⟨np, s1, s2, s3, h1, h2⟩ := r.own _ _ hp
  obtain ⟨nc, ns, h3, h4⟩ := r.own _ _ hc
  refine h s1 s2 s3 ns h2 h4 Hb H σ R hB ⟨r.sub, fun b o e => ⟨(r.fr b o e).1, (r.fr b o e).2.1, ?_⟩, fun b mo e => ?_, r.nt⟩ hs k
  · have z1 := ne_fr e (r.ownF hp)
    have z2 := ne_fr e (r.ownF hc)
    show opened m.own p c s1 s2 s3 ns b = none
    unfold opened
    rw [putM_ne z1, putM_ne z2]
    exact (r.fr b o e).2.2
  · have e' : opened m.own p c s1 s2 s3 ns b = some mo := e
    by_cases z1 : b = p
    · subst z1
      rw [opened_p] at e'
      cases e'
      exact ⟨np, _, h1, RpL.ofScal [.ref c, .int s1, .int s2, .int s3]⟩
    · by_cases z2 : b = c
      · subst z2
        rw [opened_c (Ne.symm z1)] at e'
        cases e'
        exact ⟨nc, _, h3, RpL.ofScal _⟩
      · unfold opened at e'
        rw [putM_ne z1, putM_ne z2] at e'
        exact r.own b mo e'
/-- .. and closed -/
theorem Conv.close {own : Addr → Option MO} {n n' : Nat} {p c : Addr} {s1 s2 s3 : Int} {ns : List Int} (hp : own p = some (.stm c)) (hc : own c = some .cel) (hpc : p ≠ c) (hn : n ≤ n') (hs : StOk s1 s2 s3 n') (hl : ns.length ≤ 63) :
    Conv ⟨n, opened own p c s1 s2 s3 ns⟩ ⟨n', own⟩ := fun K F Hb H r => by
  obtain ⟨np, vs, h1, h2⟩ := r.own p _ opened_p
  obtain ⟨nc, us, h3, h4⟩ := r.own c _ (opened_c hpc)
  have e1 : vs = [.ref c, .int s1, .int s2, .int s3] := RpL.scal (vs := [.ref c, .int s1, .int s2, .int s3]) h2
  have e2 := RpL.scal h4
  subst e1 e2
  refine ⟨r.sub, fun b o e => ⟨(r.fr b o e).1, (r.fr b o e).2.1, ?_⟩, fun b mo e => ?_, r.nt⟩
  · have z1 := ne_fr e (r.ownF opened_p)
    have z2 := ne_fr e (r.ownF (opened_c hpc))
    have z3 := (r.fr b o e).2.2
    have z4 : opened own p c s1 s2 s3 ns b = none := z3
    unfold opened at z4
    rw [putM_ne z1, putM_ne z2] at z4
    exact z4
  · have e' : own b = some mo := e
    by_cases z1 : b = p
    · subst z1
      rw [hp] at e'
      cases e'
      exact ⟨np, s1, s2, s3, h1, hs⟩
    · by_cases z2 : b = c
      · subst z2
        rw [hc] at e'
        cases e'
        exact ⟨nc, ns, h3, hl⟩
      · obtain ⟨q1, q2⟩ := r.own b mo (by show opened own p c s1 s2 s3 ns b = some mo; unfold opened; rw [putM_ne z1, putM_ne z2]; exact e')
        exact ⟨q1, q2.mono (Same.refl _) rfl hn⟩
/-- o[i] = e, o an owned list -/
theorem ws_setO {te to ti : TE} {E : DE} (h : WE K F B te ρ m fun y m1 => WE K F B to ρ m1 fun x m2 => WE K F B ti ρ m2 fun z m3 => ∃ a xs i j, x = .s (.ref a) ∧ z = .s (.int i) ∧ m3.own a = some (.lst xs) ∧ ixN xs.length i = some j ∧
      E.nx ρ { m3 with own := putM m3.own a (.lst (xs.set j y)) }) : WS K F B (tAsg te (gSub to ti rSetL)) ρ m E := fun Hb H σ R hB r hs k =>
  h Hb H σ _ hB r hs fun u H1 Hb1 y m1 e1 r1 hy q1 => q1 Hb1 H1 σ _ (hB.trans e1) r1 (hs.mono e1) fun o H2 Hb2 x m2 e2 r2 hx q2 =>
    q2 Hb2 H2 σ _ ((hB.trans e1).trans e2) r2 (hs.mono (e1.trans e2)) fun w H3 Hb3 z m3 e3 r3 hz q3 => by
      obtain ⟨a, xs, i, j, rfl, rfl, ho, hj, q⟩ := q3
      unfold Rp at hx hz
      obtain ⟨_, vs, h1, h2⟩ := r3.own _ _ ho
      refine ⟨a, vs, i, j, hx, hz, h1, by rw [h2.length]; exact hj, k.nx _ _ _ _ _ ((e1.trans e2).trans e3) (r3.change (mo' := .lst (xs.set j y)) ho ⟨_, upd_same, ?_⟩) (hs.mono ((e1.trans e2).trans e3)) q⟩
      exact h2.set j (hy.mono (e2.trans e3))
/-- xs.pop(0), xs an owned list -/
theorem we_pop0 {to ti : TE} {Q : QD} (h : WE K F B to ρ m fun x m1 => ∃ a, x = .s (.ref a) ∧ (∃ xs, m1.own a = some (.lst xs)) ∧ WE K F B ti ρ m1 fun z m2 => z = .s (.int 0) ∧ ∃ y ys, m2.own a = some (.lst (y :: ys)) ∧ Q y { m2 with own := putM m2.own a (.lst ys) }) :
    WE K F B (tBM K "list" rPopAt to (tCons ti tNil)) ρ m Q := fun Hb H σ R hB r hs k =>
  h Hb H σ _ hB r hs fun v H1 Hb1 x m1 e1 r1 hx q1 => by
    obtain ⟨a, rfl, ⟨xs0, ho0⟩, q⟩ := q1
    unfold Rp at hx
    subst hx
    obtain ⟨_, vs0, h0, _⟩ := r1.own _ _ ho0
    refine ⟨.inl ⟨rfl, _, SqL.of h0⟩, q Hb1 H1 σ _ (hB.trans e1) r1 (hs.mono e1) fun u H2 Hb2 z m2 e2 r2 hz q2 => ?_⟩
    obtain ⟨rfl, y, ys, ho, q3⟩ := q2
    unfold Rp at hz
    subst hz
    obtain ⟨_, vs, h1, h2⟩ := r2.own _ _ ho
    unfold RpL at h2
    obtain ⟨v0, vr, rfl, h3, h4⟩ := h2
    have hk : seqIndex? 0 (v0 :: vr).length = some 0 := by
      unfold seqIndex?
      simp
    refine ⟨a, v0 :: vr, 0, 0, v0, rfl, rfl, h1, by decide, by decide, hk, rfl, ?_⟩
    exact k _ _ _ _ _ (e1.trans e2) (r2.change (mo' := .lst ys) ho ⟨vr, upd_same, h4⟩) (h3) q3
/-- an owned list against a list -/
theorem wo_neO {a : Addr} {xs : List D} {y : D} {ps : List PyData} {b : PyData} {Q : QD} (ho : m.own a = some (.lst xs)) (ha : pyL xs = some ps) (hb : pyD y = some b) (sa : SeqAt.shaped (.list ps) = true) (sb : SeqAt.shaped b = true) (q : Q (.s (.bl (!PyData.eqv (.list ps) b))) m) : WO K F B (rNeA K) (.s (.ref a)) y m Q := fun Hb H vx vy R hB r hx hy k => by
  unfold Rp at hx
  subst hx
  obtain ⟨_, vs, h1, h2⟩ := r.own _ _ ho
  exact .inr ⟨_, b, .lst (SqL.of h1) (pyL_dp xs vs ps ha h2 r.sub), pyD_dp y vy b hb hy r.sub, sa, sb, k.here r rp_s q⟩
theorem pyL_ints : ∀ ns : List Int, pyL ((ns.map V.int).map D.s) = some (ns.map PyData.int)
  | [] => by simp [pyL]
  | n :: ns => by
    have ih := pyL_ints ns
    rw [List.map_cons, List.map_cons]
    unfold pyL
    rw [ih]
    rfl
theorem pyL_strs : ∀ zs : List Str, pyL (zs.map fun z => D.s (.str z)) = some (zs.map PyData.str)
  | [] => by simp [pyL]
  | z :: zs => by
    have ih := pyL_strs zs
    rw [List.map_cons]
    unfold pyL
    rw [ih]
    rfl
theorem shp_ints : ∀ ns : List Int, PyData.canLayAll0 (ns.map PyData.int) = true ∧ PyData.depthAll (ns.map PyData.int) = 0
  | [] => ⟨rfl, rfl⟩
  | n :: ns => by
    obtain ⟨h1, h2⟩ := shp_ints ns
    exact ⟨by rw [List.map_cons]; unfold PyData.canLayAll0; rw [h1]; rfl, by rw [List.map_cons]; unfold PyData.depthAll; rw [h2]; rfl⟩
theorem shp_strs : ∀ {zs : List Str}, (∀ z ∈ zs, PyData.strOk z = true) → PyData.canLayAll0 (zs.map PyData.str) = true ∧ PyData.depthAll (zs.map PyData.str) = 0
  | [], _ => ⟨rfl, rfl⟩
  | z :: zs, h => by
    obtain ⟨h1, h2⟩ := shp_strs (zs := zs) fun y hy => h y (List.mem_cons_of_mem _ hy)
    exact ⟨by rw [List.map_cons]; unfold PyData.canLayAll0; rw [h1]; unfold PyData.canLay0; rw [h z List.mem_cons_self]; rfl, by rw [List.map_cons]; unfold PyData.depthAll; rw [h2]; rfl⟩
theorem shaped_ints (ns : List Int) : SeqAt.shaped (.list (ns.map PyData.int)) = true := by
  obtain ⟨h1, h2⟩ := shp_ints ns
  unfold SeqAt.shaped PyData.canLay0 PyData.depth
  rw [h1, h2]
  rfl
theorem shaped_strs {zs : List Str} (h : ∀ z ∈ zs, PyData.strOk z = true) : SeqAt.shaped (.list (zs.map PyData.str)) = true := by
  obtain ⟨h1, h2⟩ := shp_strs h
  unfold SeqAt.shaped PyData.canLay0 PyData.depth
  rw [h1, h2]
  rfl
theorem eqv_nil (ps : List PyData) : PyData.eqv (.list ps) (.list []) = ps.isEmpty := by
  cases ps <;> rfl
/-- a list of numbers, of texts, and the empty list -/
theorem wo_neNilS {zs : List Str} {Q : QD} (h : ∀ z ∈ zs, PyData.strOk z = true) (q : Q (.s (.bl (!decide (zs = [])))) m) : WO K F B (rNeA K) (.lst (zs.map fun z => .s (.str z))) (.lst []) m Q := by
  refine wo_neD (a := .list (zs.map PyData.str)) (b := .list []) (by unfold pyD; rw [pyL_strs]; rfl) (by simp [pyD, pyL]) (shaped_strs h) (by decide) ?_
  rw [eqv_nil]
  cases zs with
  | nil => exact q
  | cons a b => exact q
theorem wo_eqNilI {ns : List Int} {Q : QD} (q : Q (.s (.bl (decide (ns = [])))) m) : WO K F B (rEqA K) (.lst ((ns.map V.int).map D.s)) (.lst []) m Q := by
  refine wo_eqD (a := .list (ns.map PyData.int)) (b := .list []) (by unfold pyD; rw [pyL_ints]; rfl) (by simp [pyD, pyL]) (shaped_ints ns) (by decide) ?_
  rw [eqv_nil]
  cases ns with
  | nil => exact q
  | cons a b => exact q
theorem wo_neNilO {a : Addr} {ns : List Int} {Q : QD} (ho : m.own a = some (.lst ((ns.map V.int).map D.s))) (q : Q (.s (.bl (!decide (ns = [])))) m) : WO K F B (rNeA K) (.s (.ref a)) (.lst []) m Q := by
  refine wo_neO ho (pyL_ints ns) (b := .list []) (by simp [pyD, pyL]) (shaped_ints ns) (by decide) ?_
  rw [eqv_nil]
  cases ns with
  | nil => exact q
  | cons a b => exact q
theorem eqvAll_strs : ∀ (xs ys : List Str), PyData.eqvAll (xs.map PyData.str) (ys.map PyData.str) = decide (xs = ys)
  | [], [] => rfl
  | [], _ :: _ => rfl
  | _ :: _, [] => rfl
  | x :: xs, y :: ys => by
    rw [List.map_cons, List.map_cons]
    unfold PyData.eqvAll
    rw [eqvAll_strs xs ys]
    unfold PyData.eqv
    rw [Bool.eq_iff_iff]
    simp
theorem wo_neStrs {xs ys : List Str} {Q : QD} (h : ∀ z ∈ xs, PyData.strOk z = true) (h' : ∀ z ∈ ys, PyData.strOk z = true) (q : Q (.s (.bl (!decide (xs = ys)))) m) : WO K F B (rNeA K) (.lst (xs.map fun z => .s (.str z))) (.lst (ys.map fun z => .s (.str z))) m Q := by
  refine wo_neD (a := .list (xs.map PyData.str)) (b := .list (ys.map PyData.str)) (by unfold pyD; rw [pyL_strs]; rfl) (by unfold pyD; rw [pyL_strs]; rfl) (shaped_strs h) (shaped_strs h') ?_
  unfold PyData.eqv
  rw [eqvAll_strs]
  exact q
theorem wo_eqStrs {xs ys : List Str} {Q : QD} (h : ∀ z ∈ xs, PyData.strOk z = true) (h' : ∀ z ∈ ys, PyData.strOk z = true) (q : Q (.s (.bl (decide (xs = ys)))) m) : WO K F B (rEqA K) (.lst (xs.map fun z => .s (.str z))) (.lst (ys.map fun z => .s (.str z))) m Q := by
  refine wo_eqD (a := .list (xs.map PyData.str)) (b := .list (ys.map PyData.str)) (by unfold pyD; rw [pyL_strs]; rfl) (by unfold pyD; rw [pyL_strs]; rfl) (shaped_strs h) (shaped_strs h') ?_
  unfold PyData.eqv
  rw [eqvAll_strs]
  exact q
end
end DD
namespace DT
open PySem L2 TL
theorem strOk_of {z : Str} (h : ∀ c ∈ tl z, c < 128) : PyData.strOk z = true := by
  unfold PyData.strOk
  simp only [Array.all_eq_true', decide_eq_true_eq]
  intro c hc
  have := h c (by simpa [tl] using hc)
  show c < 1114112
  omega
theorem letters_lt : letters.all (fun c => decide (97 ≤ c ∧ c < 123)) = true := by decide +kernel
theorem name_lt {z : Str} (h : isName z = true) : ∀ c ∈ tl z, 97 ≤ c ∧ c < 123 := fun c hc => by
  unfold isName at h
  simp only [Bool.and_eq_true, List.all_eq_true, decide_eq_true_eq] at h
  exact of_decide_eq_true (List.all_eq_true.mp letters_lt c (h.2.2 c hc))
theorem dotty_lt {z : Str} (h : dotty z = true) : ∀ c ∈ tl z, c = 46 := by
  rw [dotty_iff] at h
  simp only [Bool.or_eq_true, decide_eq_true_eq] at h
  rcases h with rfl | rfl | rfl
  · have e : tl ("" : Str) = [] := by decide +kernel
    intro c hc
    rw [e] at hc
    cases hc
  · have e : tl ("." : Str) = [46] := by decide +kernel
    intro c hc
    rw [e] at hc
    simpa using hc
  · have e : tl (".." : Str) = [46, 46] := by decide +kernel
    intro c hc
    rw [e] at hc
    simpa using hc
theorem mem_pcs : ∀ {l : List Nat} {c : Nat}, c ∈ l → c = 47 ∨ ∃ p ∈ pcs l, c ∈ p
  | d :: l, c, h => by
    by_cases hd : d = 47
    · subst hd
      rw [pcs_bar]
      rcases List.mem_cons.mp h with z | z
      · exact .inl z
      · rcases mem_pcs z with z | ⟨p, h1, h2⟩
        · exact .inl z
        · exact .inr ⟨p, List.mem_cons_of_mem _ h1, h2⟩
    · rw [pcs_cons _ hd]
      rcases List.mem_cons.mp h with z | z
      · subst z
        exact .inr ⟨_, List.mem_cons_self, List.mem_cons_self⟩
      · rcases mem_pcs z with z | ⟨p, h1, h2⟩
        · exact .inl z
        · have e := pcs_head l
          rw [← e] at h1
          rcases List.mem_cons.mp h1 with z | z
          · refine .inr ⟨_, List.mem_cons_self, List.mem_cons_of_mem _ ?_⟩
            rw [← z]
            exact h2
          · exact .inr ⟨p, List.mem_cons_of_mem _ z, h2⟩
theorem piece_lt {p : Str} (h : (dotty p || isName p) = true) : ∀ c ∈ tl p, c < 128 := fun c hc => by
  rcases (Bool.or_eq_true _ _).mp h with z | z
  · rw [dotty_lt z c hc]
    decide
  · have := name_lt z c hc
    omega
theorem path_lt {z : Str} (h : isPath z = true) : ∀ c ∈ tl z, c < 128 := fun c hc => by
  rcases mem_pcs hc with q | ⟨p, h1, h2⟩
  · rw [q]
    decide
  · exact piece_lt ((isPath_iff.mp h).2 p h1) c h2
theorem path_ok {z : Str} (h : isPath z = true) : PyData.strOk z = true := strOk_of (path_lt h)
theorem steps_ok {z : Str} (h : isPath z = true) : ∀ p ∈ steps z, PyData.strOk p = true := fun p hp => by
  unfold steps pieces at hp
  obtain ⟨q, hq, rfl⟩ := List.mem_map.mp (List.mem_filter.mp hp).1
  exact strOk_of (piece_lt ((isPath_iff.mp h).2 q hq))
theorem name_ok {z : Str} (h : isName z = true) : PyData.strOk z = true := strOk_of fun c hc => by
  have := name_lt h c hc
  omega
theorem name_bar {z : Str} (h : isName z = true) : 47 ∉ tl z := fun hc => by
  have := name_lt h 47 hc
  omega
end DT

/-! DOwn: operators of one's own classes, over data. -/
namespace DD
open PySem L2
open PySem.Spec PyProof.Rows
/-- an object of the class C, data or owned -/
def ObjD (m : Mem) (C : Addr) : D → Prop
  | .ins C' _ _ => C' = C
  | .s (.ref a) => ∃ ns ds, m.own a = some (.ins C ns ds)
  | _ => False
section
variable {K : PySem.W.Frag} {B F Hb H : Hp} {m : Mem} {ρ : Env} {C : Addr} {φ : Phi} {E : XK} {X : XD}
theorem ObjD.at {x : D} {v : V} (q : ObjD m C x) (r : Rel K F Hb H m) (hx : Rp K Hb x v) : ∃ a dx fs, v = .ref a ∧ H a = some (.ins C dx fs) := by
  cases x with
  | ins C' ns ds =>
    have e : C' = C := q
    subst e
    unfold Rp at hx
    obtain ⟨p, dx, vs, rfl, h1, h2, h3⟩ := hx
    exact ⟨p, dx, _, rfl, r.sub _ _ h1⟩
  | s v' =>
    cases v' with
    | ref a =>
      obtain ⟨ns, ds, ho⟩ := q
      unfold Rp at hx
      subst hx
      obtain ⟨_, dx, vs, h1, h2, h3⟩ := r.own _ _ ho
      exact ⟨a, dx, _, rfl, h1⟩
    | _ => exact q.elim
  | _ => exact q.elim
theorem wc_lenO {x : D} {Q : QD} (hE : OkX K F B X E) (hx : ObjD m C x) (h : φ [x] m (fun d m' => ∃ n : Int, d = .s (.int n) ∧ 0 ≤ n ∧ n < 2 ^ 63 ∧ Q (.s (.int n)) m') X) : WC K F B (HO1.rLenO C (spOf K φ) E) [x] m Q := fun Hb H vs R hB r hv k => by
  obtain ⟨v, rfl, hv1⟩ := rpL1 hv
  obtain ⟨a, dx, fs, rfl, ha⟩ := hx.at r hv1
  refine ⟨a, dx, fs, rfl, ha, _, m, F, Hb, _, X, hv, r, h, fun w H' Hb' d m' e r' hd q => ?_, hE.mono hB⟩
  obtain ⟨n, rfl, h0, h1, q⟩ := q
  unfold Rp at hd
  exact ⟨n, hd, h0, h1, k _ _ _ _ _ e r' rp_s q⟩
theorem wo_binO {x y : D} {Q : QD} (hE : OkX K F B X E) (hx : ObjD m C x) (hy : ObjD m C y) (h : φ [x, y] m Q X) : WO K F B (HO1.rBinO C (spOf K φ) E) x y m Q := fun Hb H vx vy R hB r hvx hvy k => by
  obtain ⟨a, dx, fs, rfl, ha⟩ := hx.at r hvx
  obtain ⟨b, dy, gs, rfl, hb⟩ := hy.at r hvy
  exact ⟨a, b, dx, dy, fs, gs, rfl, rfl, ha, hb, _, m, F, Hb, Q, X, RpL.cons hvx (RpL.cons hvy RpL.nil), r, h, k, hE.mono hB⟩
theorem wo_inO {neg : Bool} {x y : D} {Q : QD} (hE : OkX K F B X E) (hy : ObjD m C y) (h : φ [y, x] m (fun d m' => ∃ b, d = .s (.bl b) ∧ Q (.s (.bl (if neg then !b else b))) m') X) : WO K F B (HO1.rInO C (spOf K φ) E neg) x y m Q := fun Hb H vx vy R hB r hvx hvy k => by
  obtain ⟨a, dx, fs, rfl, ha⟩ := hy.at r hvy
  refine ⟨a, dx, fs, rfl, ha, _, m, F, Hb, _, X, RpL.cons hvy (RpL.cons hvx RpL.nil), r, h, fun w H' Hb' d m' e r' hd q => ?_, hE.mono hB⟩
  obtain ⟨b, rfl, q⟩ := q
  unfold Rp at hd
  exact ⟨b, hd, k _ _ _ _ _ e r' rp_s q⟩
theorem wo_cmpO {x y : D} {t : Value} {Q : QD} (hE : OkX K F B X E) (hx : ObjD m C x) (hy : TyD K m y t) (hn : PySem.W.notFirst K C t = true) (h : φ [x, y] m Q X) : WO K F B (HO1.rCmpO K C (spOf K φ) E) x y m Q := fun Hb H vx vy R hB r hvx hvy k => by
  obtain ⟨a, dx, fs, rfl, ha⟩ := hx.at r hvx
  exact ⟨a, dx, fs, rfl, ha, ⟨t, hy.at r hvy, hn⟩, _, m, F, Hb, Q, X, RpL.cons hvx (RpL.cons hvy RpL.nil), r, h, k, hE.mono hB⟩
theorem wo_neOwn {x y : D} {t : Value} {Q : QD} (hE : OkX K F B X E) (hx : ObjD m C x) (hy : TyD K m y t) (hn : PySem.W.notFirst K C t = true) (h : φ [x, y] m (fun d m' => ∃ b, d = .s (.bl b) ∧ Q (.s (.bl (!b))) m') X) : WO K F B (HO1.rNeO K C (spOf K φ) E) x y m Q := fun Hb H vx vy R hB r hvx hvy k => by
  obtain ⟨a, dx, fs, rfl, ha⟩ := hx.at r hvx
  refine ⟨a, dx, fs, rfl, ha, ⟨t, hy.at r hvy, hn⟩, _, m, F, Hb, _, X, RpL.cons hvx (RpL.cons hvy RpL.nil), r, h, fun w H' Hb' d m' e r' hd q => ?_, hE.mono hB⟩
  obtain ⟨b, rfl, q⟩ := q
  unfold Rp at hd
  exact ⟨b, hd, k _ _ _ _ _ e r' rp_s q⟩
/-- the item at the end -/
theorem atI_last {α : Type} {xs : List α} {d : α} (h : xs.getLast? = some d) : atI xs (-1) = some d := by
  have hne : xs ≠ [] := fun z => by
    rw [z] at h
    cases h
  have hl : 0 < xs.length := List.length_pos_iff.mpr hne
  rw [List.getLast?_eq_getElem?] at h
  unfold atI ixN
  rw [if_neg (by decide), if_pos (by omega)]
  show xs[(-1 + (xs.length : Int)).toNat]? = some d
  rw [show (-1 + (xs.length : Int)).toNat = xs.length - 1 by omega]
  exact h
theorem atI_zero {α : Type} {xs : List α} {d : α} (h : xs.head? = some d) : atI xs 0 = some d := by
  cases xs with
  | nil => cases h
  | cons a as =>
    cases h
    unfold atI ixN
    rw [if_pos (by decide), if_pos (by simp)]
    rfl
theorem atI_nat {α : Type} {xs : List α} {i : Nat} {d : α} (h : xs[i]? = some d) : atI xs (i : Int) = some d := by
  have hi : i < xs.length := (List.getElem?_eq_some_iff.mp h).1
  unfold atI ixN
  rw [if_pos (by omega), if_pos (by omega)]
  show xs[(i : Int).toNat]? = some d
  rw [Int.toNat_natCast]
  exact h
theorem atI_int {α : Type} {xs : List α} {i : Int} (h0 : 0 ≤ i) (h1 : i < xs.length) : ∃ d, atI xs i = some d ∧ d ∈ xs := by
  have hi : i.toNat < xs.length := by omega
  refine ⟨xs[i.toNat], ?_, List.getElem_mem _⟩
  unfold atI ixN
  rw [if_pos h0, if_pos h1]
  exact List.getElem?_eq_getElem hi
/-- a cut between two statements -/
theorem ws_seqI {t u : TS} {E : DE} (I : DD.Env → Mem → Prop) (h1 : WS K F B t ρ m { E with nx := I }) (h2 : ∀ ρ1 m1, I ρ1 m1 → WS K F B u ρ1 m1 E) : WS K F B (tSeq t u) ρ m E :=
  ws_seq (ws_imp h1 (fun ρ1 m1 q => h2 ρ1 m1 q) (fun _ _ q => q) (fun _ _ q => q) (fun _ _ q => q))
/-- an item of a list, a tuple or a text -/
theorem wo_ixP {ns : List Str} {i : Int} {d : D} {Q : QD} (h : atI ((ns.map V.str).map D.s) i = some d) (q : Q d m) : WO K F B (rIx K) (.pl ns) (.s (.int i)) m Q := fun Hb H vx vy R hB r hx hy k => by
  refine wo_ixT h q Hb H vx vy R hB r ?_ hy k
  unfold Rp at hx ⊢
  obtain ⟨p, rfl, h2⟩ := hx
  exact ⟨p, _, rfl, SqT.of h2, RpL.ofScal _⟩
theorem wo_ixSeq {x : D} {xs : List D} {i : Int} {d : D} {Q : QD} (hs : seqD x = some xs) (hl : xs.length ≤ 1000000) (h : atI xs i = some d) (q : Q d m) : WO K F B (rIx K) x (.s (.int i)) m Q := by
  cases x with
  | lst ys =>
    cases hs
    exact wo_ixL h q
  | tup ys =>
    cases hs
    exact wo_ixT h q
  | pl ns =>
    cases hs
    exact wo_ixP h q
  | s w =>
    cases w with
    | str t =>
      cases hs
      unfold atI at h
      rw [chrs_length] at h hl
      cases hj : ixN t.length i with
      | none =>
        rw [hj] at h
        cases h
      | some j =>
        rw [hj] at h
        have h' : (chrs t)[j]? = some d := h
        unfold chrs at h'
        rw [List.getElem?_map] at h'
        cases hc : t.cps.toList[j]? with
        | none =>
          rw [hc] at h'
          cases h'
        | some c =>
          rw [hc] at h'
          cases h'
          refine wo_ixS (le_line hl) (c := c) ?_ q
          unfold atI
          rw [show t.cps.toList.length = t.length from (TL.len_tl t).symm, hj]
          exact hc
    | _ => cases hs
  | _ => cases hs
theorem lenD_seq {x : D} {xs : List D} (hs : seqD x = some xs) (hl : xs.length ≤ 1000000) : lenD m x xs.length := by
  cases x with
  | lst ys =>
    cases hs
    rfl
  | tup ys =>
    cases hs
    rfl
  | pl ns =>
    cases hs
    show _ = _
    simp
  | s w =>
    cases w with
    | str t =>
      cases hs
      rw [chrs_length] at hl ⊢
      exact ⟨le_line hl, rfl⟩
    | _ => cases hs
  | _ => cases hs
theorem zip_self : ∀ {xs : List D} {p : D × D}, p ∈ xs.zip xs → p.1 = p.2 ∧ p.1 ∈ xs
  | [], p, h => by cases h
  | x :: xs, p, h => by
    rw [List.zip_cons_cons] at h
    rcases List.mem_cons.mp h with z | z
    · subst z
      exact ⟨rfl, List.mem_cons_self⟩
    · obtain ⟨z1, z2⟩ := zip_self z
      exact ⟨z1, List.mem_cons_of_mem _ z2⟩
theorem len_le_of_sub {α : Type} [DecidableEq α] : ∀ {xs ys : List α}, xs.Nodup → (∀ x ∈ xs, x ∈ ys) → xs.length ≤ ys.length
  | [], ys, _, _ => Nat.zero_le _
  | x :: xs, ys, hn, hs => by
    have hx := hs x List.mem_cons_self
    obtain ⟨h1, h2⟩ := List.nodup_cons.mp hn
    have ih := len_le_of_sub (xs := xs) (ys := ys.erase x) h2 fun y hy => by
      have hne : y ≠ x := fun z => h1 (z ▸ hy)
      exact (List.mem_erase_of_ne hne).mpr (hs y (List.mem_cons_of_mem _ hy))
    rw [List.length_erase_of_mem hx] at ih
    have := List.length_pos_of_mem hx
    simp only [List.length_cons]
    omega
end
end DD
namespace DT
open PySem L2 TL PySem.StrLaws
theorem tl_emp : tl Str.empty = [] := rfl
theorem tl_join0 : ∀ zs : List Str, tl (Txt.join "" zs) = (zs.map tl).flatten := fun zs => by
  have e0 : tl ("" : Str) = [] := by decide +kernel
  show tl (Builtin.Str.glued "" zs) = _
  rw [glued_eq_join]
  induction zs with
  | nil => rfl
  | cons z zs ih =>
    cases zs with
    | nil => simp [Str.join]
    | cons y ys =>
      show tl (z ++ "" ++ Str.join "" (y :: ys)) = _
      rw [tl_append, tl_append, e0, ih]
      simp
theorem tl_joinB : ∀ ps : List (List Nat), tl (Txt.join "/" (ps.map mk)) = jn ps := fun ps => by
  have e0 : tl ("/" : Str) = [47] := by decide +kernel
  show tl (Builtin.Str.glued "/" (ps.map mk)) = _
  rw [glued_eq_join]
  induction ps with
  | nil => rfl
  | cons z zs ih =>
    cases zs with
    | nil => rfl
    | cons y ys =>
      show tl (mk z ++ "/" ++ Str.join "/" ((y :: ys).map mk)) = _
      rw [tl_append, tl_append, e0, ih]
      show z ++ [47] ++ _ = z ++ 47 :: _
      simp
end DT

/-! DKw: defs with defaults, calls by keywords, pop, a constant tuple. -/
namespace DD
open PySem L2
open PySem.Spec PyProof.Rows
section
variable {P : Program} {w : World} {K : PySem.W.Frag} {mg : Str → Option Value} {base : Heap} {B F Hb H : Hp} {m : Mem} {ρ : DD.Env}
theorem funD_mk {x qual : Str} {st : Stmt} {f T : Addr} {oc ot : Value} {od an odT : Option Addr} {osl slT : Array (Option Value)} {kV doc pm cdv ct : Value} {its : List Value} {n : Nat} {dvs : List V}
    (l : K.lookup f = some ⟨oc, od, .func (PySem.W.fnOf x qual (defArgs st) (defBody st) (defScope st) (.ref T) kV doc pm an cdv ct), osl⟩) (c : PySem.W.codeIn K cdv qual = true) (k : PySem.W.keepIn K (.ref f) = true)
    (lT : K.lookup T = some ⟨ot, odT, .seq its.toArray n, slT⟩) (r : Vals dvs its) (hd : dvs ≠ []) :
    FunD K x qual (defArgs st) (defBody st) (defScope st) dvs [] f (PySem.W.fnOf x qual (defArgs st) (defBody st) (defScope st) (.ref T) kV doc pm an cdv ct) :=
  ⟨⟨oc, od, .ref T, kV, doc, pm, an, cdv, ct, osl, rfl, l, c, .inr ⟨hd, T, _, its, n, rfl, lT, rfl, r⟩, .inl rfl⟩, k⟩
theorem allB {x qual : Str} {pa : Arguments} {bo : List Stmt} {sc : Scope} {dvs : List V} {f : Addr} {fd : FuncData} {ps : List Str} (F : FunD K x qual pa bo sc dvs [] f fd) (hd : dvs ≠ [])
    (h : ∀ (T : Addr) (kV doc pm : Value) (an : Option Addr) (cdv ct : Value) (us its : List Value), us.length = ps.length → its.length = dvs.length →
      ∃ k, bindArgs (PySem.W.fnOf x qual pa bo sc (.ref T) kV doc pm an cdv ct) ⟨us, []⟩ = seqItems? (.ref T) >>= k ∧ k (some its.toArray) = pure (ps.zip us)) : Binds K fd ps [] := by
  obtain ⟨ds, r, b⟩ := F.binds1 (ps := ps) ps.length dvs.length hd (by omega) fun T kV doc pm an cdv ct us its l1 l2 => by
    obtain ⟨k, e1, e2⟩ := h T kV doc pm an cdv ct us its l1 l2
    refine ⟨k, e1, ?_⟩
    rw [e2, ← l2, List.drop_length, List.append_nil]
  rw [List.drop_length] at r
  cases r
  exact b
theorem ok_DD {CX : CXT} {x qual : Str} {st : Stmt} {dvs : List V} {f : Addr} {fd : FuncData} {N ps : List Str} {k : Nat} {φ : Phi} (F : FunD K x qual (defArgs st) (defBody st) (defScope st) dvs [] f fd) (S : FnScope N ps (defScope st)) (hl : ∀ ds m nx X, φ ds m nx X → ds.length = ps.length)
    (hbody : ∀ (cdv : Value) (A : Around) (outer : List PySem.Env) (s : Shared) (H : Hp) (E : XK), Room k (A.deeper (envOfC qual (defScope st) s.heap.objs.size f cdv)) →
      ∃ t, PSs (cxOf CX P w K mg base N qual (defScope st) f cdv A outer s H E) (defBody st) t ∧ BodyOk K φ N E t) : FnOk P w K mg base CX (k + 1) f fd ps (spOf K φ) := by
  refine F.ok S (spOf_len hl) fun cdv A outer s H vs Q E hr h => ?_
  obtain ⟨ds, m, F', Hb, nx, X, h1, h2, h3, h4, h5⟩ := h
  obtain ⟨t, ht, hw⟩ := hbody cdv A outer s H E hr
  exact ⟨t, ht, hw ds m nx X F' Hb h3 h5 Hb H _ _ (Same.refl _) h2 (RpS.start h1) ⟨fun σ H' Hb' ρ m' e r hs q => h4 _ _ _ _ _ e r rp_s q, h4, fun _ _ _ _ _ _ _ _ z => z.elim, fun _ _ _ _ _ _ _ _ z => z.elim⟩⟩
theorem vals_app {vs zs : List V} {us ws : List Value} (h : Vals vs us) (h' : Vals zs ws) : Vals (vs ++ zs) (us ++ ws) := h.append h'
theorem kbn_mk {x qual : Str} {st : Stmt} {f : Addr} {fd : FuncData} {ps ks : List Str} {n : Nat} (F : Fun K x qual st f fd)
    (h : ∀ (kV doc pm : Value) (an : Option Addr) (cdv ct : Value) (us ws : List Value), us.length = n → ws.length = ks.length → bindArgs (PySem.W.fnOf x qual (defArgs st) (defBody st) (defScope st) .none kV doc pm an cdv ct) ⟨us, ks.zip ws⟩ = pure (ps.zip (us ++ ws))) :
    KBn K fd ps n ks (fun us ws => us ++ ws) (fun vs zs => vs ++ zs) := by
  obtain ⟨oc, od, kV, doc, pm, an, cdv, ct, osl, rfl, lk, hcd⟩ := F.ex
  exact ⟨fun s us ws X l1 l2 => .of_eq (h kV doc pm an cdv ct us ws l1 l2), fun r1 r2 => vals_app r1 r2⟩
theorem we_callN {φ : Phi} {E : XK} {n l : Nat} {ta tk : TA} {X : XD} {Q : QD} (hE : OkX K F B X E) (h : WA K F B ta ρ m fun ds m1 => WA K F B tk ρ m1 fun es m2 => ds.length = n ∧ es.length = l ∧ φ (ds ++ es) m2 Q X) :
    WE K F B (tCallN n l (spOf K φ) (fun vs zs => vs ++ zs) E ta tk) ρ m Q := fun Hb H σ R hB r hs k =>
  h Hb H σ _ hB r hs fun vs H1 Hb1 ds m1 e1 r1 hx q1 => q1 Hb1 H1 σ _ (hB.trans e1) r1 (hs.mono e1) fun zs H2 Hb2 es m2 e2 r2 hz q2 =>
    ⟨by rw [hx.length]; exact q2.1, by rw [hz.length]; exact q2.2.1, _, m2, F, Hb2, Q, X, (hx.mono e2).app hz, r2, q2.2.2, k.mono (e1.trans e2), hE.mono (hB.trans (e1.trans e2))⟩
/-- xs.pop(), xs an owned list -/
theorem we_pop {to : TE} {Q : QD} (h : WE K F B to ρ m fun x m1 => ∃ a xs y, x = .s (.ref a) ∧ m1.own a = some (.lst (xs ++ [y])) ∧ Q y { m1 with own := putM m1.own a (.lst xs) }) :
    WE K F B (tBM0 K "list" rPop to) ρ m Q := fun Hb H σ R hB r hs k =>
  h Hb H σ _ hB r hs fun v H1 Hb1 x m1 e1 r1 hx q1 => by
    obtain ⟨a, xs, y, rfl, ho, q⟩ := q1
    unfold Rp at hx
    subst hx
    obtain ⟨_, vs, h1, h2⟩ := r1.own _ _ ho
    have hl := h2.length
    obtain ⟨u, hu, ru⟩ := h2.get (i := xs.length) (d := y) (by simp)
    have e : vs.dropLast = vs.take xs.length := by
      rw [List.dropLast_eq_take, hl]
      simp
    refine ⟨.inl ⟨rfl, _, SqL.of h1⟩, a, vs, u, rfl, rfl, h1, ?_, ?_⟩
    · rw [hl]
      simpa using hu
    · refine k _ _ _ _ _ e1 (r1.change (mo' := .lst xs) ho ⟨_, upd_same, ?_⟩) ru q
      rw [e]
      have z := h2.take xs.length
      rw [List.take_left] at z
      exact z
/-- a constant tuple of the top -/
theorem we_cT {a : Addr} {vs : List V} {Q : QD} (h : ∀ H, SqT K H a vs) (q : Q (.tup (vs.map D.s)) m) : WE K F B (tC (.ref a)) ρ m Q := fun Hb H σ R hB r hs k => by
  refine k.here r (d := .tup (vs.map D.s)) ?_ q
  unfold Rp
  exact ⟨a, vs, rfl, h Hb, RpL.ofScal vs⟩
/-- any list against the empty one -/
theorem wo_neNil {xs : List D} {ps : List PyData} {Q : QD} (h : pyL xs = some ps) (s : SeqAt.shaped (.list ps) = true) (q : Q (.s (.bl (!decide (xs = [])))) m) : WO K F B (rNeA K) (.lst xs) (.lst []) m Q := by
  refine wo_neD (a := .list ps) (b := .list []) (by unfold pyD; rw [h]; rfl) (by simp [pyD, pyL]) s (by decide) ?_
  rw [eqv_nil]
  cases xs with
  | nil =>
    have e : ps = [] := by
      unfold pyL at h
      exact (Option.some.inj h).symm
    subst e
    exact q
  | cons a b =>
    cases ps with
    | nil =>
      unfold pyL at h
      cases e1 : pyD a with
      | none =>
        rw [e1] at h
        cases h
      | some y =>
        rw [e1] at h
        cases e2 : pyL b with
        | none =>
          rw [e2] at h
          cases h
        | some z =>
          rw [e2] at h
          cases h
    | cons y z => exact q
theorem wo_neNilOS {a : Addr} {zs : List Str} {Q : QD} (ho : m.own a = some (.lst (zs.map fun z => .s (.str z)))) (h : ∀ z ∈ zs, PyData.strOk z = true) (q : Q (.s (.bl (!decide (zs = [])))) m) : WO K F B (rNeA K) (.s (.ref a)) (.lst []) m Q := by
  refine wo_neO ho (pyL_strs zs) (b := .list []) (by simp [pyD, pyL]) (shaped_strs h) (by decide) ?_
  rw [eqv_nil]
  cases zs with
  | nil => exact q
  | cons a b => exact q
/-- a comprehension whose list is owned from then on -/
theorem we_lcO {wi : TI} {g : TG} {tt : TT} {te : TE} {vs : List Nat} {Q : QD} (h : WI K F B wi ρ m fun xs m1 => ∃ I : Nat → List D → Mem → Prop, I 0 [] m1 ∧
      (∀ F' i d acc m', xs[i]? = some d → I i acc m' → WGw K F' B g vs d ρ m' fun ρ2 m2 => WT K F' B tt ρ2 m2 fun b m3 =>
        (b = true → WE K F' B te ρ2 m3 fun y m4 => acc.length < sizeLine ∧ I (i + 1) (acc ++ [y]) m4) ∧ (b = false → I (i + 1) acc m3)) ∧ (∀ acc m' A, m'.own A = none → I xs.length acc m' → Q (.s (.ref A)) { m' with own := putM m'.own A (.lst acc) })) :
    WE K F B (tLc wi g tt te vs) ρ m Q := fun Hb H σ R hB r hs k =>
  h Hb H σ _ hB r hs fun J H1 Hb1 xs m1 e1 r1 hj q1 => by
    obtain ⟨I, h0, ht, hd⟩ := q1
    intro A hA
    have hF : F A = none := r1.nofr hA
    refine ⟨fun i n H' => n = xs.length - i ∧ i ≤ xs.length ∧ ∃ Hb' acc us m', Same Hb1 Hb' ∧ Rel K (upd F A (.lst us)) Hb' H' m' ∧ RpL K Hb' acc us ∧ I i acc m', ⟨xs.length, by simp, Nat.zero_le _, Hb1, [], [], m1, Same.refl _, r1.aside hA, RpL.nil, h0⟩, ?_⟩
    rintro i n H' ⟨rfl, hi, Hb', acc, us, m', e', r', ha, hI⟩
    by_cases hlt : i < xs.length
    · obtain ⟨hgo, hy⟩ := (hj i _ Hb' H' m' e' r').2 xs[i] (by simp [hlt])
      refine .inr ⟨hgo, fun H2 => ∃ Hb2 acc2 us2 m2, Same Hb1 Hb2 ∧ Rel K (upd F A (.lst us2)) Hb2 H2 m2 ∧ RpL K Hb2 acc2 us2 ∧ I (i + 1) acc2 m2, fun H2 q2 => ⟨xs.length - (i + 1), by omega, rfl, hlt, q2⟩, fun x H2 y => ?_⟩
      obtain ⟨Hb2, e2, r2, hx⟩ := hy x H2 y
      have eB : Same B Hb2 := (hB.trans e1).trans (e'.trans e2)
      refine ht (upd F A (.lst us)) i xs[i] acc m' (by simp [hlt]) hI Hb2 H2 σ x _ eB r2 (hs.mono ((e1.trans e').trans e2)) hx fun σ3 H3 Hb3 ρ3 m3 e3 r3 hs3 q3 => ?_
      refine q3 Hb3 H3 σ3 _ (eB.trans e3) r3 hs3 fun b H4 Hb4 m4 e4 r4 q4 => ?_
      have e14 : Same Hb1 Hb4 := ((e'.trans e2).trans e3).trans e4
      cases b with
      | true =>
        refine iteT (q4.1 rfl Hb4 H4 σ3 _ ((eB.trans e3).trans e4) r4 (hs3.mono e4) fun v H5 Hb5 y5 m5 e5 r5 hy5 q5 => ?_)
        have hD := (r5.fr A _ upd_same).1
        have ha5 : RpL K Hb5 acc us := ha.mono (((e2.trans e3).trans e4).trans e5)
        refine ⟨us, hD, by rw [ha5.length]; exact q5.1, Hb5, acc ++ [y5], us ++ [v], m5, e14.trans e5, r5.turnA, ha5.app (RpL.cons hy5 RpL.nil), q5.2⟩
      | false => exact iteF ⟨Hb4, acc, us, m4, e14, r4, ha.mono ((e2.trans e3).trans e4), q4.2 rfl⟩
    · have e : i = xs.length := by omega
      subst e
      have z := r'.fr A _ upd_same
      exact .inl ⟨(hj _ _ Hb' H' m' e' r').1 (Nat.le_refl _), k _ _ _ _ _ (e1.trans e') (r'.take hF (mo := .lst acc) ⟨us, z.1, ha⟩) rp_s (hd _ _ A z.2.2 hI)⟩
end
end DD

/-! DStrk: paths tidied, by lists of steps. -/
namespace DT
open PySem L2 TL
/-- a step -/
def isStep (s : Str) : Prop := s = "." ∨ s = ".." ∨ isName s = true
def lastN (st : List Str) : Bool := match st.getLast? with | some x => isName x | none => false
/-- one step is laid: d dot, u up, r root up and rooted -/
def lay (d u r : Bool) (st : List Str) (s : Str) : List Str :=
  if s = "." ∧ d = true then st else if s = ".." ∧ u = true ∧ lastN st = true then st.dropLast else if s = ".." ∧ r = true ∧ st = [] then st else st ++ [s]
def tidyS (d u r : Bool) (l : List Str) : List Str := l.foldl (lay d u r) []
theorem name_nd {s : Str} (h : isName s = true) : s ≠ "." ∧ s ≠ ".." := by
  constructor
  · rintro rfl
    revert h
    decide +kernel
  · rintro rfl
    revert h
    decide +kernel
theorem isStep_ne {s : Str} (h : isStep s) : tl s ≠ [] ∧ 47 ∉ tl s := by
  rcases h with rfl | rfl | h
  · decide +kernel
  · decide +kernel
  · refine ⟨fun e => ?_, name_bar h⟩
    unfold isName at h
    simp only [Bool.and_eq_true, decide_eq_true_eq] at h
    rw [len_tl, e] at h
    exact absurd h.1 (by decide)
theorem isStep_len {s : Str} (h : isStep s) : s.length ≤ 8 := by
  rcases h with rfl | rfl | h
  · decide +kernel
  · decide +kernel
  · unfold isName at h
    simp only [Bool.and_eq_true, decide_eq_true_eq] at h
    exact h.2.1
theorem isStep_piece {s : Str} (h : isStep s) : (dotty s || isName s) = true := by
  rcases h with rfl | rfl | h
  · decide +kernel
  · decide +kernel
  · rw [h, Bool.or_true]
theorem isStep_name {s : Str} (h : isStep s) : isName s = !(dotty s) := by
  rcases h with rfl | rfl | h
  · decide +kernel
  · decide +kernel
  · obtain ⟨h1, h2⟩ := name_nd h
    have h3 := isStep_ne (.inr (.inr h)) |>.1
    rw [h, dotty_iff, decide_eq_false h1, decide_eq_false h2, decide_eq_false (fun e => h3 (by rw [e]; decide +kernel))]
    rfl
theorem isStep_ok {s : Str} (h : isStep s) : PyData.strOk s = true := strOk_of (piece_lt (isStep_piece h))
theorem steps_isStep {z : Str} (h : isPath z = true) : ∀ s ∈ steps z, isStep s := fun s hs => by
  unfold steps pieces at hs
  obtain ⟨h1, h2⟩ := List.mem_filter.mp hs
  obtain ⟨q, hq, rfl⟩ := List.mem_map.mp h1
  have h3 := (isPath_iff.mp h).2 q hq
  have h4 : mk q ≠ "" := by simpa using h2
  rcases (Bool.or_eq_true _ _).mp h3 with w | w
  · rw [dotty_iff, decide_eq_false h4, Bool.false_or] at w
    rcases (Bool.or_eq_true _ _).mp w with w | w
    · exact .inl (of_decide_eq_true w)
    · exact .inr (.inl (of_decide_eq_true w))
  · exact .inr (.inr w)
section
variable {d u r : Bool}
theorem lay_cases (st : List Str) (s : Str) : lay d u r st s = st ∨ (lay d u r st s = st.dropLast) ∨ lay d u r st s = st ++ [s] := by
  unfold lay
  split
  · exact .inl rfl
  · split
    · exact .inr (.inl rfl)
    · split
      · exact .inl rfl
      · exact .inr (.inr rfl)
theorem lay_len (st : List Str) (s : Str) : (lay d u r st s).length ≤ st.length + 1 := by
  rcases lay_cases (d := d) (u := u) (r := r) st s with e | e | e <;> rw [e]
  · omega
  · rw [List.length_dropLast]
    omega
  · simp
theorem fold_len : ∀ (l st : List Str), (l.foldl (lay d u r) st).length ≤ st.length + l.length
  | [], st => Nat.le_refl _
  | s :: l, st => by
    have h1 := fold_len l (lay d u r st s)
    have h2 := lay_len (d := d) (u := u) (r := r) st s
    rw [List.foldl_cons, List.length_cons]
    omega
theorem tidy_snoc (l : List Str) (s : Str) : tidyS d u r (l ++ [s]) = lay d u r (tidyS d u r l) s := by
  unfold tidyS
  rw [List.foldl_append]
  rfl
theorem tidy_len (l : List Str) : (tidyS d u r l).length ≤ l.length := by
  have := fold_len (d := d) (u := u) (r := r) l []
  simpa [tidyS] using this
theorem lay_stable {st : List Str} (s : Str) (h : tidyS d u r st = st) : tidyS d u r (lay d u r st s) = lay d u r st s := by
  rcases lay_cases (d := d) (u := u) (r := r) st s with e | e | e
  · rw [e, h]
  · rw [e]
    by_cases hn : st = []
    · subst hn
      rfl
    · have es := List.dropLast_concat_getLast hn
      generalize st.getLast hn = x at es
      generalize st.dropLast = st' at es ⊢
      rw [← es, tidy_snoc] at h
      have hl := tidy_len (d := d) (u := u) (r := r) st'
      generalize tidyS d u r st' = y at h hl ⊢
      rcases lay_cases (d := d) (u := u) (r := r) y x with e2 | e2 | e2
      · rw [e2] at h
        rw [h] at hl
        simp at hl
        omega
      · rw [e2] at h
        have := congrArg List.length h
        simp at this
        omega
      · rw [e2] at h
        exact List.append_inj_left' h rfl
  · rw [e, tidy_snoc, h, e]
theorem tidy_idem (l : List Str) : tidyS d u r (tidyS d u r l) = tidyS d u r l := by
  refine snocInd (P := fun l => tidyS d u r (tidyS d u r l) = tidyS d u r l) rfl (fun l s ih => ?_) l
  rw [tidy_snoc]
  exact lay_stable s ih
theorem lay_mem {P : Str → Prop} {st : List Str} {s : Str} (h : ∀ x ∈ st, P x) (hs : P s) : ∀ x ∈ lay d u r st s, P x := by
  rcases lay_cases (d := d) (u := u) (r := r) st s with e | e | e <;> rw [e]
  · exact h
  · exact fun x hx => h x (List.dropLast_subset st hx)
  · intro x hx
    rcases List.mem_append.mp hx with w | w
    · exact h x w
    · have : x = s := by simpa using w
      rw [this]
      exact hs
theorem tidy_mem {P : Str → Prop} {l : List Str} (h : ∀ x ∈ l, P x) : ∀ x ∈ tidyS d u r l, P x := by
  revert h
  refine snocInd (P := fun l => (∀ x ∈ l, P x) → ∀ x ∈ tidyS d u r l, P x) (fun _ x hx => by cases hx) (fun l s ih h => ?_) l
  rw [tidy_snoc]
  exact lay_mem (ih fun x hx => h x (List.mem_append_left _ hx)) (h s (by simp))
/-! ### strikes -/
theorem fold_cut (l1 l2 m st : List Str) (h : ∀ st, st = tidyS d u r l1 → m.foldl (lay d u r) st = st) : tidyS d u r (l1 ++ (m ++ l2)) = tidyS d u r (l1 ++ l2) := by
  unfold tidyS at h ⊢
  rw [List.foldl_append, List.foldl_append, List.foldl_append, h _ rfl]
/-- what may be struck: (b, e) -/
def Strike (d u r : Bool) (l : List Str) (b e : Nat) : Prop :=
  (d = true ∧ e = b + 1 ∧ l[b]? = some ("." : Str)) ∨ (u = true ∧ e = b + 2 ∧ (∃ x : Str, l[b]? = some x ∧ x ≠ "." ∧ x ≠ "..") ∧ l[b + 1]? = some (".." : Str)) ∨ (r = true ∧ b = 0 ∧ e = 1 ∧ l[0]? = some (".." : Str))
theorem split_at {l : List Str} {b : Nat} {x : Str} (h : l[b]? = some x) : l = l.take b ++ x :: l.drop (b + 1) := by
  obtain ⟨hl, e⟩ := List.getElem?_eq_some_iff.mp h
  rw [← e]
  simp
theorem strike_len {l : List Str} {b e : Nat} (h : Strike d u r l b e) : b < e ∧ e ≤ l.length := by
  rcases h with ⟨_, rfl, h⟩ | ⟨_, rfl, _, h⟩ | ⟨_, rfl, rfl, h⟩
  · have := (List.getElem?_eq_some_iff.mp h).1
    omega
  · have := (List.getElem?_eq_some_iff.mp h).1
    omega
  · have := (List.getElem?_eq_some_iff.mp h).1
    omega
theorem strike_same {l : List Str} {b e : Nat} (hl : ∀ s ∈ l, isStep s) (h : Strike d u r l b e) : tidyS d u r (l.take b ++ l.drop e) = tidyS d u r l := by
  have key : ∀ m, l = l.take b ++ (m ++ l.drop e) → (∀ st, st = tidyS d u r (l.take b) → m.foldl (lay d u r) st = st) → tidyS d u r (l.take b ++ l.drop e) = tidyS d u r l := fun m e1 h1 => by
    have := fold_cut (d := d) (u := u) (r := r) (l.take b) (l.drop e) m [] h1
    rw [← e1] at this
    exact this.symm
  rcases h with ⟨hd, rfl, h⟩ | ⟨hu, rfl, ⟨x, hx, n1, n2⟩, h⟩ | ⟨hr, rfl, rfl, h⟩
  · refine key ["."] (split_at h) fun st _ => ?_
    show lay d u r st "." = st
    unfold lay
    rw [if_pos ⟨rfl, hd⟩]
  · have e1 := split_at hx
    have e2 : l.drop (b + 1) = (".." : Str) :: l.drop (b + 2) := by
      obtain ⟨hb, e⟩ := List.getElem?_eq_some_iff.mp h
      rw [List.drop_eq_getElem_cons hb, e]
    rw [e2] at e1
    have hxn : isName x = true := by
      have := hl x (List.mem_of_getElem? hx)
      rcases this with w | w | w
      · exact absurd w n1
      · exact absurd w n2
      · exact w
    refine key [x, ".."] e1 fun st _ => ?_
    show lay d u r (lay d u r st x) ".." = st
    have h1 : lay d u r st x = st ++ [x] := by
      unfold lay
      rw [if_neg (fun z => n1 z.1), if_neg (fun z => n2 z.1), if_neg (fun z => n2 z.1)]
    rw [h1]
    have h2 : lastN (st ++ [x]) = true := by
      unfold lastN
      rw [List.getLast?_concat]
      exact hxn
    unfold lay
    rw [if_neg (fun z => absurd z.1 (by decide +kernel)), if_pos ⟨rfl, hu, h2⟩, List.dropLast_concat]
  · refine key [".."] (split_at h) fun st e1 => ?_
    subst e1
    show lay d u r [] ".." = []
    unfold lay
    rw [if_neg (fun z => absurd z.1 (by decide +kernel)), if_neg (fun z => by simp [lastN] at z), if_pos ⟨rfl, hr, rfl⟩]
theorem strike_done {l : List Str} (hn : ∀ b e, ¬ Strike d u r l b e) : tidyS d u r l = l := by
  have key : ∀ n, n ≤ l.length → tidyS d u r (l.take n) = l.take n := fun n => by
    induction n with
    | zero =>
      intro _
      rw [List.take_zero]
      rfl
    | succ n ih =>
      intro h
      have hlt : n < l.length := by omega
      have hg : l[n]? = some l[n] := List.getElem?_eq_getElem hlt
      generalize l[n] = s at hg
      rw [List.take_add_one, hg]
      show tidyS d u r (l.take n ++ [s]) = l.take n ++ [s]
      rw [tidy_snoc, ih (by omega)]
      unfold lay
      rw [if_neg (fun z => hn n (n + 1) (.inl ⟨z.2, rfl, by rw [hg, z.1]⟩)), if_neg, if_neg]
      · rintro ⟨z1, z2, z3⟩
        have h0 : n = 0 := by
          have := congrArg List.length z3
          rw [List.length_take, List.length_nil] at this
          omega
        subst h0
        exact hn 0 1 (.inr (.inr ⟨z2, rfl, rfl, by rw [hg, z1]⟩))
      · rintro ⟨z1, z2, z3⟩
        cases n with
        | zero => simp [lastN] at z3
        | succ n =>
          have hlt' : n < l.length := by omega
          have hg' : l[n]? = some l[n] := List.getElem?_eq_getElem hlt'
          generalize l[n] = x at hg'
          have e : (l.take (n + 1)).getLast? = some x := by
            rw [List.take_add_one, hg']
            exact List.getLast?_concat
          unfold lastN at z3
          rw [e] at z3
          obtain ⟨w1, w2⟩ := name_nd z3
          exact hn n (n + 2) (.inr (.inl ⟨z2, rfl, ⟨x, hg', w1, w2⟩, by rw [hg, z1]⟩))
  have := key l.length (Nat.le_refl _)
  rw [List.take_length] at this
  exact this
end
/-! ### a path of steps -/
def bodyL (st : List Str) (rt : Bool) : List Nat := (if rt = true then [47] else []) ++ jn (st.map tl)
def plainL (st : List Str) (rt en : Bool) : List Nat := if bodyL st rt = [] then [46] else bodyL st rt ++ (if en = true ∧ lastN st = true then [47] else [])
def plainT (st : List Str) (rt en : Bool) : Str := mk (plainL st rt en)
theorem jn_ne {st : List (List Nat)} (h : ∀ s ∈ st, s ≠ []) (h0 : st ≠ []) : jn st ≠ [] := by
  cases st with
  | nil => exact absurd rfl h0
  | cons a as =>
    have ha := h a List.mem_cons_self
    cases as with
    | nil => exact ha
    | cons b bs => exact fun z => ha (List.append_eq_nil_iff.mp z).1
theorem body_nil {st : List Str} {rt : Bool} (h : ∀ s ∈ st, isStep s) : bodyL st rt = [] ↔ rt = false ∧ st = [] := by
  unfold bodyL
  constructor
  · intro z
    obtain ⟨z1, z2⟩ := List.append_eq_nil_iff.mp z
    refine ⟨?_, ?_⟩
    · cases rt with
      | true => cases z1
      | false => rfl
    · by_cases h0 : st = []
      · exact h0
      · refine absurd z2 (jn_ne (fun s hs => ?_) fun w => h0 (List.map_eq_nil_iff.mp w))
        obtain ⟨x, hx, rfl⟩ := List.mem_map.mp hs
        exact (isStep_ne (h x hx)).1
  · rintro ⟨rfl, rfl⟩
    rfl
theorem pcs_body {st : List Str} {rt : Bool} (h : ∀ s ∈ st, isStep s) (h0 : st ≠ []) : pcs (bodyL st rt) = (if rt = true then [[]] else []) ++ st.map tl := by
  have hj : pcs (jn (st.map tl)) = st.map tl := pcs_jn _ (fun w => h0 (List.map_eq_nil_iff.mp w)) fun p hp => by
    obtain ⟨x, hx, rfl⟩ := List.mem_map.mp hp
    exact (isStep_ne (h x hx)).2
  unfold bodyL
  cases rt with
  | true =>
    show pcs (47 :: jn (st.map tl)) = _
    rw [pcs_bar, hj]
    rfl
  | false => exact hj
theorem map_mk_tl (st : List Str) : (st.map tl).map mk = st := by
  rw [List.map_map]
  exact (List.map_congr_left fun x _ => mk_tl x).trans (List.map_id st)
/-- what a path with steps is, read again -/
theorem plain_read {st : List Str} {rt en : Bool} (h : ∀ s ∈ st, isStep s) (h0 : st ≠ []) :
    pcs (plainL st rt en) = (if rt = true then [[]] else []) ++ st.map tl ++ (if en = true ∧ lastN st = true then [[]] else []) := by
  have hb : bodyL st rt ≠ [] := fun z => h0 ((body_nil h).mp z).2
  unfold plainL
  rw [if_neg hb]
  split
  · rw [pcs_cat, pcs_body h h0]
    rfl
  · rw [List.append_nil, List.append_nil, pcs_body h h0]
theorem plain_steps {st : List Str} {rt en : Bool} (h : ∀ s ∈ st, isStep s) (h0 : st ≠ []) : steps (plainT st rt en) = st := by
  rw [steps_tl]
  show ((pcs (plainL st rt en)).filter fun p => !p.isEmpty).map mk = st
  rw [plain_read h h0, List.filter_append, List.filter_append]
  have e1 : (if rt = true then [([] : List Nat)] else []).filter (fun p => !p.isEmpty) = [] := by split <;> rfl
  have e2 : (if en = true ∧ lastN st = true then [([] : List Nat)] else []).filter (fun p => !p.isEmpty) = [] := by split <;> rfl
  have e3 : (st.map tl).filter (fun p => !p.isEmpty) = st.map tl := by
    rw [List.filter_eq_self]
    intro p hp
    obtain ⟨x, hx, rfl⟩ := List.mem_map.mp hp
    have := (isStep_ne (h x hx)).1
    simpa using this
  rw [e1, e2, e3, List.nil_append, List.append_nil, map_mk_tl]
theorem plain_rooted {st : List Str} {rt en : Bool} (h : ∀ s ∈ st, isStep s) (h0 : st ≠ []) : rooted (plainT st rt en) = rt := by
  have hb : bodyL st rt ≠ [] := fun z => h0 ((body_nil h).mp z).2
  unfold rooted
  show decide ((plainL st rt en).head? = some 47) = rt
  unfold plainL
  rw [if_neg hb]
  cases rt with
  | true =>
    refine decide_eq_true ?_
    unfold bodyL
    rfl
  | false =>
    refine decide_eq_false fun z => ?_
    unfold bodyL at z
    cases st with
    | nil => exact h0 rfl
    | cons a as =>
      obtain ⟨n1, n2⟩ := isStep_ne (h a List.mem_cons_self)
      cases ha : tl a with
      | nil => exact n1 ha
      | cons c cs =>
        have e : (jn ((a :: as).map tl)).head? = some c := by
          cases as with
          | nil =>
            show (tl a).head? = _
            rw [ha]
            rfl
          | cons b bs =>
            show (tl a ++ 47 :: jn ((b :: bs).map tl)).head? = _
            rw [ha]
            rfl
        have e2 : (([] ++ jn ((a :: as).map tl)) ++ (if en = true ∧ lastN (a :: as) = true then [47] else [])).head? = some c := by
          rw [List.nil_append, List.head?_append, e]
          rfl
        have z2 : (([] ++ jn ((a :: as).map tl)) ++ (if en = true ∧ lastN (a :: as) = true then [47] else [])).head? = some 47 := z
        rw [e2] at z2
        have : c = 47 := Option.some.inj z2
        exact n2 (by rw [ha, this]; exact List.mem_cons_self)
theorem plain_ended {st : List Str} {rt en : Bool} (h : ∀ s ∈ st, isStep s) (h0 : st ≠ []) : ended (plainT st rt en) = (!(lastN st) || en) := by
  unfold ended lastP
  show dotty (mk ((pcs (plainL st rt en)).getLastD [])) = _
  rw [plain_read h h0]
  have hl := List.getLast?_eq_some_getLast h0
  have hx := List.getLast_mem h0
  generalize st.getLast h0 = x at hl hx
  have hn : lastN st = isName x := by
    unfold lastN
    rw [hl]
  rw [List.getLastD_eq_getLast?, List.getLast?_append]
  by_cases hc : en = true ∧ lastN st = true
  · rw [if_pos hc, hc.1, Bool.or_true]
    show dotty (mk []) = true
    decide +kernel
  · rw [if_neg hc]
    have e2 : (((if rt = true then [([] : List Nat)] else []) ++ st.map tl).getLast?) = some (tl x) := by
      rw [List.getLast?_append, List.getLast?_map, hl]
      rfl
    show dotty (mk ((Option.or none (((if rt = true then [([] : List Nat)] else []) ++ st.map tl).getLast?)).getD [])) = _
    rw [e2]
    show dotty (mk (tl x)) = _
    rw [mk_tl', hn, isStep_name (h x hx)]
    rw [hn, isStep_name (h x hx)] at hc
    cases hd : dotty x with
    | true => rfl
    | false =>
      rw [hd] at hc
      cases en with
      | true => exact absurd ⟨rfl, rfl⟩ hc
      | false => rfl
theorem plain_path {st : List Str} {rt en : Bool} (h : ∀ s ∈ st, isStep s) : isPath (plainT st rt en) = true := by
  by_cases h0 : st = []
  · subst h0
    cases rt <;> cases en <;> decide +kernel
  · have hb : bodyL st rt ≠ [] := fun z => h0 ((body_nil h).mp z).2
    refine isPath_iff.mpr ⟨fun z => ?_, fun p hp => ?_⟩
    · have z2 := mk_eq_nil.mp z
      unfold plainL at z2
      rw [if_neg hb] at z2
      exact hb (List.append_eq_nil_iff.mp z2).1
    · have hp' : p ∈ pcs (plainL st rt en) := hp
      rw [plain_read h h0] at hp'
      rcases List.mem_append.mp hp' with w | w
      · rcases List.mem_append.mp w with w | w
        · split at w
          · have e : p = [] := by simpa using w
            subst e
            decide +kernel
          · cases w
        · obtain ⟨x, hx, rfl⟩ := List.mem_map.mp w
          rw [mk_tl']
          exact isStep_piece (h x hx)
      · split at w
        · have e : p = [] := by simpa using w
          subst e
          decide +kernel
        · cases w
/-- tidied once more nothing changes -/
theorem plain_again {d u r e : Bool} {st : List Str} {rt en : Bool} (h : ∀ s ∈ st, isStep s) (hf : tidyS d u (r && rt) st = st) (z : Str) (hz : z = plainT st rt (en && !e)) :
    plainT (tidyS d u (r && rooted z) (steps z)) (rooted z) (ended z && !e) = z := by
  by_cases h0 : st = []
  · subst h0
    subst hz
    cases rt <;> cases en <;> cases e <;> cases d <;> cases u <;> cases r <;> decide +kernel
  · have e1 := plain_steps (rt := rt) (en := en && !e) h h0
    have e2 := plain_rooted (rt := rt) (en := en && !e) h h0
    have e3 := plain_ended (rt := rt) (en := en && !e) h h0
    rw [← hz] at e1 e2 e3
    rw [e1, e2, e3, hf, hz]
    unfold plainT plainL
    congr 1
    split
    · rfl
    · congr 1
      cases hl : lastN st <;> cases en <;> cases e <;> rfl
theorem jn_le {b : Nat} : ∀ {st : List Str}, (∀ s ∈ st, s.length ≤ b) → (jn (st.map tl)).length ≤ st.length * (b + 1)
  | [], _ => Nat.zero_le _
  | [a], h => by
    have := h a List.mem_cons_self
    rw [len_tl] at this
    show (tl a).length ≤ 1 * (b + 1)
    omega
  | a :: c :: r, h => by
    have ih := jn_le (st := c :: r) fun s hs => h s (List.mem_cons_of_mem _ hs)
    have := h a List.mem_cons_self
    rw [len_tl] at this
    show (tl a ++ 47 :: jn ((c :: r).map tl)).length ≤ _
    rw [List.length_append, List.length_cons, List.length_cons (as := c :: r), Nat.succ_mul]
    omega
theorem plain_len {st : List Str} {rt en : Bool} (h : ∀ s ∈ st, isStep s) : (plainT st rt en).length ≤ st.length * 9 + 2 := by
  have h1 := jn_le (b := 8) (st := st) fun s hs => isStep_len (h s hs)
  rw [len_tl]
  show (plainL st rt en).length ≤ _
  unfold plainL
  split
  · show 1 ≤ _
    omega
  · unfold bodyL
    rw [List.length_append, List.length_append]
    have e1 : (if rt = true then [47] else []).length ≤ 1 := by split <;> decide
    have e2 : (if en = true ∧ lastN st = true then [47] else []).length ≤ 1 := by split <;> decide
    omega
end DT

/-! HExc: own exceptions whose __init__ calls the base's by its class; try around calls. -/
namespace HX1
open PySem PySem.Spec PyProof.Rows L2
section
variable {X : Cx} {o e : Expr} {es : List Expr} {to te : TE} {ta : TA} {f : Str} {p p' p1 p2 pos : Pos}
/-- B.__init__(self, ..), B an own class over ValueError without __init__ -/
theorem pe_peinit {x : Str} {C0 : Addr} {pl : Sem Bool} (hg : Gl X x) (hm : X.mg x = some (.ref C0)) (rd : PySem.W.readsIn X.K C0 (.type "type") = true) (ga : PySem.W.specialIn X.K (.ref C0) "__getattribute__" = some (some (.builtin "type.__getattribute__")))
    (vV : PySem.W.findCls X.K (.ref C0) (.type "type") "__init__" = some (.val (.builtin "ValueError.__init__"))) (ha : PA X (e :: es) ta)
    (hdb : (x == ("__debug__" : Str)) = false := by decide)
    (hc : eval (.Call (.Attribute (.Name x p1) "__init__" p2) (e :: es) [] pos) X.env = (do
      let ov ← eval (.Name x p1) X.env
      standAt p2.atName
      let (f, first) ← holding [ov] (getMethod ov "__init__" pl)
      callWith pos f first (backTo pos (starEach (e :: es) X.env)) (backToKw pos (keywordEach [] X.env))) := by rfl)
    (he : starEach (e :: es) X.env = (false, eval e X.env) :: starEach es X.env := by rfl) (hpl : (backTo pos (starEach es X.env)).any (·.1) = false := by rfl) :
    PE X (.Call (.Attribute (.Name x p1) "__init__" p2) (e :: es) [] pos) (tVeI X.K ta) := by
  refine ⟨fun pins s σ H Q I h => ?_⟩
  refine PySem.W.methodCall_KW (ld_glob I hg hm ?_ hdb) hc
  refine PySem.W.method_cls I.kIn ga ?_
  refine PySem.W.cls_value I.kIn rd vV (by decide +kernel) ?_
  show wpAny _ _ (callWith pos (Value.builtin "ValueError.__init__") [] (backTo pos (starEach (e :: es) X.env)) []) _ _ _
  refine PyProof.Rows.callWith_method1 (thn (ha.run pos pins _ σ H _ (I.tok _) h) fun us s1 ⟨vs, H1, I1, r1, a, C, ws, ev, hl, T, ea, q⟩ => ?_) he hpl
  subst ev
  cases r1 with
  | @cons _ u0 _ ur ra rw' =>
    obtain rfl : u0 = Value.ref a := ra
    have hlen : ur.length ≤ sizeLine := by
      rw [← Paired.length rw', sizeLine_eq]
      omega
    exact oinit_ok T I1 ea hlen fun s' J => ⟨.non, H1, J, rfl, q⟩
/-- what a callee lets out is taken, the slots' number known -/
theorem passes_len {W : WX} {E : XK} (tk : Takes X W) (hW : ∀ cls d σ H, σ.length = X.N.length → E cls d H → W cls d σ H) : Passes (L2.CX X.prog X.w) X E :=
  fun _ σ _ _ e s' I c => tk e s' (XE.of_call I (fun cls d H' h => hW cls d σ H' I.len h) c)
end
/-- the promise of an __init__ with one attribute f -/
def spExc (C : Addr) (f : Str) : Sp := fun vs H Q _ => ∃ a v, vs = [.ref a, v] ∧ H a = some (exo a C none) ∧ ∀ dx, H dx = none → dx ≠ a → Q .non (upd (upd H dx (exd dx [(f, v)])) a (exo a C (some dx)))
/-- its reading keeps the promise -/
theorem exc_init {K : PySem.W.Frag} {C : Addr} {f msg : Str} (T : OexC K C) (hno : PySem.W.findIn K (.ref C) f = some none) {N : List Str} {x y : Str} (hN : N = [x, y]) {vs : List V} {H : Hp} {Q : VK} {E : XK} (h : spExc C f vs H Q E) :
    (tSeq (tDrop (tVeI K (tCons (tVar 0) (tCons (tC (.str msg)) tNil)))) (tOst K f (tVar 0) (tVar 1))) { nx := fun _ H' => Q .non H', rt := Q } (L2.start N vs) H := by
  obtain ⟨a, v, rfl, ha, q⟩ := h
  subst hN
  refine ⟨.ref a, rfl, ⟨a, C, [.str msg], rfl, (by show 1 ≤ 1000; decide), T, ha, ?_⟩⟩
  exact ⟨v, rfl, .ref a, rfl, a, C, rfl, T, hno, .inl ⟨ha, fun dx h1 h2 => q dx h1 h2⟩⟩
/-- raise C(e) within a def -/
def tRaise (C : Addr) (sp : Sp) (ta : TA) (E : XK) : TS := fun _ σ H => tMkO C sp [] ta σ H fun cls d H' => E cls d H'
/-- try: body, except c as n: suite; n-th slot i -/
def tTry (K : PySem.W.Frag) (n : Nat) (c : Value) (i : Nat) (tb : XK → TS) (ts : Addr → Value → Option Addr → TS) : TS := fun D σ H => tb (fun cls d H' => ∀ σ' : L2.St, σ'.length = n → wAs K c i ts (fun _ _ _ _ => False) D cls d σ' H') D σ H
/-- a class's own clause takes its exceptions -/
theorem exm_own {K : PySem.W.Frag} {S : Addr} (h1 : PySem.W.subIn K (.ref S) (.type "BaseException") = some true) (h2 : PySem.W.isClsIn K S = true) (h3 : PySem.W.typeIn K (.ref S) = some (.type "type")) (h4 : PySem.W.subIn K (.ref S) (.ref S) = some true) :
    PySem.W.exmOne K (.ref S) (.ref S) = some true := by
  have e1 : (PySem.W.subIn K (.ref S) (.type "BaseException") == some true) = true := by rw [h1] <;> rfl
  have e2 : ((PySem.W.clsIn K S).isSome && PySem.W.typeIn K (.ref S) == some (.type "type")) = true := by
    have h2' : (PySem.W.clsIn K S).isSome = true := h2
    rw [h2', h3] <;> rfl
  show (if (PySem.W.subIn K (.ref S) (.type "BaseException") == some true) = true then (if ((PySem.W.clsIn K S).isSome && PySem.W.typeIn K (.ref S) == some (.type "type")) = true then PySem.W.subIn K (.ref S) (.ref S) else none) else none) = some true
  rw [if_pos e1, if_pos e2]
  exact h4
section
variable {X : Cx} {x n : Str} {c : Value} {i : Nat} {body suite : List Stmt} {b₀ : Stmt} {np pos pos' : Pos} {tb : XK → TS} {ts : Addr → Value → Option Addr → TS}
theorem ps_tryT (hs : X.stack = X.env :: X.outer) (hf : X.env.frame = some X.env.locals) (hN : X.N.Nodup) (hi : X.N[i]? = some n) (hln : X.env.kindOf n = some .local) (hc : Names X x c)
    (hb : ∀ (E : XK) (pn : List (Addr × Obj)) (xe : Value → Shared → Prop), Passes (L2.CX X.prog X.w) (X.tr pn xe) E → PassesOwn (model X.prog X.w) X.A X.env xe → PSs (X.tr pn xe) body (tb E))
    (hsu : ∀ (a : Addr) (oe : Obj) (cls : Value) (d : Option Addr) (pn : List (Addr × Obj)), Zc cls d oe → (∃ vs, oe.data = .fields vs) → PSs (X.suite a ((a, oe) :: pn)) (b₀ :: suite) (ts a cls d)) :
    PS X (.Try body [.ExceptHandler (some (.Name x np)) (some n) (b₀ :: suite) pos'] [] [] pos) (tTry X.K X.N.length c i tb ts) :=
  ps_try_as (tb := fun W => tb (fun cls d H' => ∀ σ' : L2.St, σ'.length = X.N.length → W cls d σ' H')) hs hf hN hi hln hc takes0 (fun W pn xe tk po => hb _ pn xe (passes_len (X := X.tr pn xe) tk fun cls d σ H hl h => h σ hl) po) hsu
end
end HX1

/-! DExc: raise and try over data. -/
namespace DD
open PySem L2
open PySem.Spec PyProof.Rows
section
variable {K : PySem.W.Frag} {B F Hb H : Hp} {m : Mem} {ρ : DD.Env}
theorem Rel.unframe {dd : Addr} {o : HO} (r : Rel K (upd F dd o) Hb H m) (h : F dd = none) : Rel K F Hb H m :=
  ⟨r.sub, fun b u e => r.fr b u (by rw [upd_ne (ne_fr e h)]; exact e), r.own, nt_of r.nt h⟩
theorem xd_put {H1 : Hp} {a dx : Addr} {C : Addr} {fs : List (Str × V)} {o1 o2 o3 u : HO} (ha : H1 a = none) (hne : dx ≠ a) : upd (del (upd (upd (upd H1 a o1) dx o2) a o3) a) dx u = upd H1 dx u := by
  funext b
  by_cases h1 : b = dx
  · subst h1
    rw [upd_same, upd_same]
  · rw [upd_ne h1, upd_ne h1]
    by_cases h2 : b = a
    · subst h2
      rw [del_same, ha]
    · rw [del_ne h2, upd_ne h2, upd_ne h1, upd_ne h2]
/-- raise C(e), C with one attribute -/
theorem ws_raise {C : Addr} {f : Str} {ta : TA} {EX : XK} {X : XD} {E : DE} (hE : OkX K F B X EX) (h : WA K F B ta ρ m fun ds m1 => ∃ d, ds = [d] ∧ X C [f] [d] m1) : WS K F B (HX1.tRaise C (HX1.spExc C f) ta EX) ρ m E := fun Hb H σ R hB r hs k =>
  h Hb H σ _ hB r hs fun vs H1 Hb1 ds m1 e1 r1 hx q1 => by
    obtain ⟨d, rfl, q⟩ := q1
    obtain ⟨v, rfl, hv⟩ := rpL1 hx
    refine ⟨by show 1 ≤ 1000; decide, fun a ha => ⟨a, v, rfl, upd_same, fun dx h1 h2 => ⟨rfl, dx, [(f, v)], upd_same, ?_, ?_, ?_⟩⟩⟩
    · rw [upd_ne h2, upd_same]
    · rw [upd_ne h2] at h1
      exact h1
    · rw [upd_ne h2] at h1
      rw [xd_put (C := C) (fs := [(f, v)]) ha h2]
      exact hE C (some dx) _ Hb1 [f] [d] [v] m1 (hB.trans e1) ⟨r1.nofr h1, r1.aside h1⟩ (RpL.cons hv RpL.nil) rfl q
theorem rpS_none {n : Nat} {σ : L2.St} (h : σ.length = n) : RpS K Hb (List.replicate n none) σ := by
  refine ⟨by rw [List.length_replicate, h], fun i d q => ?_⟩
  rw [List.getElem?_replicate] at q
  split at q <;> cases q
/-- try: body, except c as the i-th slot: suite -/
theorem ws_try {n i : Nat} {c : Value} {tb : XK → TS} {ts : Addr → Value → Option Addr → TS} {X : XD} {E : DE}
    (hb : ∀ B' EX, Same B B' → OkX K F B' X EX → WS K F B' (tb EX) ρ m E)
    (hX : ∀ C ns ds m', X C ns ds m' → ns ≠ [] ∧ PySem.W.exmOne K (.ref C) c = some true ∧ ∀ F' B' dd vs a, Same B B' → F' dd = some (.xd (ns.zip vs)) → RpL K B' ds vs → ns.length = ds.length →
      WS K F' B' (ts a (.ref C) (some dd)) ((List.replicate n none).set i (some (.s (.ref a)))) m' { nx := fun ρ m => E.nx (ρ.set i none) m, rt := E.rt, bk := fun ρ m => E.bk (ρ.set i none) m, ct := fun ρ m => E.ct (ρ.set i none) m }) :
    WS K F B (HX1.tTry K n c i tb ts) ρ m E := fun Hb H σ R hB r hs k => by
  refine hb Hb _ hB (fun C d H' Hb' ns ds vs m' eH rX hv hl hx => ?_) Hb H σ R (Same.refl _) r hs k
  obtain ⟨hne, hex, hw⟩ := hX C ns ds m' hx
  cases d with
  | none => exact absurd rX.1 hne
  | some dd =>
    obtain ⟨hF, rr⟩ := rX
    intro σ' hσ
    refine ⟨true, hex, fun _ a ha => ?_, fun z => nomatch z⟩
    refine hw (upd F dd (.xd (ns.zip vs))) Hb' dd vs a (hB.trans eH) upd_same hv hl Hb' H' _ _ (Same.refl _) rr ((rpS_none hσ).set rp_s) ?_
    exact ⟨fun σ1 H1 Hb1 ρ1 m1 e r1 hs1 q => k.nx _ _ _ _ _ (eH.trans e) (r1.unframe hF) hs1.unset q, fun v H1 Hb1 d1 m1 e r1 hd q => k.rt _ _ _ _ _ (eH.trans e) (r1.unframe hF) hd q,
      fun σ1 H1 Hb1 ρ1 m1 e r1 hs1 q => k.bk _ _ _ _ _ (eH.trans e) (r1.unframe hF) hs1.unset q, fun σ1 H1 Hb1 ρ1 m1 e r1 hs1 q => k.ct _ _ _ _ _ (eH.trans e) (r1.unframe hF) hs1.unset q⟩
/-- e.f of the exception that is caught -/
theorem we_xf {a C dd : Addr} {f : Str} {te : TE} {ns : List Str} {vs : List V} {ds : List D} {dv : D} {Q : QD} (hF : F dd = some (.xd (ns.zip vs))) (hv : RpL K B ds vs) (hd : (ns.zip ds).lookup f = some dv)
    (h : WE K F B te ρ m fun x m1 => x = .s (.ref a) ∧ Q dv m1) : WE K F B (tXf a (.ref C) (some dd) C f te) ρ m Q := fun Hb H σ R hB r hs k =>
  h Hb H σ _ hB r hs fun v H1 Hb1 x m1 e1 r1 hx q1 => by
    obtain ⟨rfl, q⟩ := q1
    unfold Rp at hx
    obtain ⟨u, hu, ru⟩ := zip_get (hv.mono (hB.trans e1)) hd
    exact ⟨hx, rfl, dd, _, u, rfl, (r1.fr dd _ hF).1, hu, k _ _ _ _ _ e1 r1 ru q⟩
/-- an owned object is let go -/
theorem Conv.leave {a : Addr} : Conv m { m with own := dropM m.own a } := fun _ _ _ _ r => r.leave a
end
end DD

/-! HRefl: a built-in value on the left of ==, an own instance on the right. -/
namespace HR1
open PySem PySem.Spec PyProof.Rows L2 PySem.SeqAt
open AutoSeq1 (wpAny_loadPart')
open MeetsSeq
section
theorem int_declines (b : Int) (u : Tok) (l C dx : Addr) : Meets (Builtin.«int.__eq__» ⟨[.int b u, .ref l], []⟩) (fun _ R s => s.heap.get? l = some (PySem.W.instObj C dx) ∧ R (.ok (.ret .notImplemented)) s) :=
  .of_wp fun prog w A R s h => by obtain ⟨hp, g, d, tk, os⟩ := s; obtain ⟨hl, h⟩ := h; wp_walk using wpAny_loadPart' hl, wpAny_load hl; exact ⟨_, rfl, h⟩
theorem bool_declines (b : Bool) (l C dx : Addr) : Meets (Builtin.«int.__eq__» ⟨[.bool b, .ref l], []⟩) (fun _ R s => s.heap.get? l = some (PySem.W.instObj C dx) ∧ R (.ok (.ret .notImplemented)) s) :=
  .of_wp fun prog w A R s h => by obtain ⟨hp, g, d, tk, os⟩ := s; obtain ⟨hl, h⟩ := h; wp_walk using wpAny_loadPart' hl, wpAny_load hl; exact ⟨_, rfl, h⟩
theorem str_declines (b : Str) (u : Tok) (l C dx : Addr) : Meets (Builtin.«str.__eq__» ⟨[.str b u, .ref l], []⟩) (fun _ R s => s.heap.get? l = some (PySem.W.instObj C dx) ∧ R (.ok (.ret .notImplemented)) s) :=
  .of_wp fun prog w A R s h => by obtain ⟨hp, g, d, tk, os⟩ := s; obtain ⟨hl, h⟩ := h; wp_walk using wpAny_loadPart' hl, wpAny_load hl; exact ⟨_, rfl, h⟩
theorem list_declines (a l : Addr) (items : Array Value) (n : Nat) (dd : Option Addr) (sl : Array (Option Value)) :
    Meets (Builtin.«list.__eq__» ⟨[.ref a, .ref l], []⟩) (fun _ R s => s.heap.get? a = some { cls := .type "list", dict := dd, data := .seq items n, slots := sl } ∧ (∀ M, PySem.W.Looks M s.heap (isInstance (.ref l) (.type "list")) false) ∧ R (.ok (.ret .notImplemented)) s) :=
  .of_wp fun prog w A R s h => by
    obtain ⟨hp, g, d, tk, os⟩ := s
    obtain ⟨hl, hI, h⟩ := h
    wp_walk using wpAny_loadPart' hl, (hI _).here
    exact ⟨_, rfl, h⟩
theorem tuple_declines (a l : Addr) (items : Array Value) (n : Nat) (dd : Option Addr) (sl : Array (Option Value)) :
    Meets (Builtin.«tuple.__eq__» ⟨[.ref a, .ref l], []⟩) (fun _ R s => s.heap.get? a = some { cls := .type "tuple", dict := dd, data := .seq items n, slots := sl } ∧ (∀ M, PySem.W.Looks M s.heap (isInstance (.ref l) (.type "tuple")) false) ∧ R (.ok (.ret .notImplemented)) s) :=
  .of_wp fun prog w A R s h => by
    obtain ⟨hp, g, d, tk, os⟩ := s
    obtain ⟨hl, hI, h⟩ := h
    wp_walk using wpAny_loadPart' hl, (hI _).here
    exact ⟨_, rfl, h⟩
theorem dict_declines (a l : Addr) (es : Array DictEntry) (ep : Nat) (dd : Option Addr) (sl : Array (Option Value)) :
    Meets (Builtin.«dict.__eq__» ⟨[.ref a, .ref l], []⟩) (fun _ R s => s.heap.get? a = some { cls := .type "dict", dict := dd, data := .dict es ep, slots := sl } ∧ (∀ M, PySem.W.Looks M s.heap (isInstance (.ref l) (.type "dict")) false) ∧ R (.ok (.ret .notImplemented)) s) :=
  .of_wp fun prog w A R s h => by
    obtain ⟨hp, g, d, tk, os⟩ := s
    obtain ⟨hl, hI, h⟩ := h
    wp_walk using wpAny_loadPart' hl, (hI _).here
    exact ⟨_, rfl, h⟩
end
end HR1
namespace HR1
open PySem L2
open PySem.Spec PyProof.Rows
theorem refl_K {prog : Program} {w : World} {A : Around} {E : Value → Shared → Prop} {s : Shared} {K : PySem.W.Frag} {x C f : Addr} {ox : Obj} {od : Option Obj} {a : Value} {T id : String} {Q : Value → Shared → Prop} (hu : A.units < cLine) (X : K.In s.heap)
    (I : PySem.W.InstAt s.heap x ox C od) (ha : s.TypeIs a T) (hsub : PySem.W.subIn K (.ref C) (.type T) = some false) (h1 : Slot T (cmpInfo .Eq).2.1 id)
    (hdec : ∀ Q' : Value → Shared → Prop, Q' .notImplemented s → wpAny (model prog w) A (call (.builtin id) [a, .ref x]) Q' E s)
    (hs : PySem.W.findIn K (.ref C) "__eq__" = some (some (.ref f))) (hf : PySem.W.isFn K (.ref f) = true)
    (h : wpAny (model prog w) A (call (.ref f) [.ref x, a]) (PySem.W.CmpBack Q) E s) : wpAny (model prog w) A (richCompare .Eq a (.ref x)) Q E s := by
  have two : wpAny (model prog w) A (tryCompare (.ref x) "__eq__" a) (fun r s' => ∃ v, r = some v ∧ Q v s') E s := by
    unfold tryCompare
    refine wpAny_bind (PySem.W.ifBound_K X I hs hf (wpAny_mono h (fun v s' hv => ?_) fun _ _ e => e))
    cases v <;> first | exact hv.elim | exact wpAny_pure ⟨_, rfl, hv⟩
  simp only [richCompare, cmpInfo_Eq, ha.oneThing_none] at h1 ⊢
  refine wpAny_holding (wpAny_bind (wpAny_cRoomFor hu ?_))
  refine wpAny_bind (wpAny_typeOf ha (wpAny_bind (I.type.here ?_)))
  split
  · refine wpAny_bind ((PySem.W.looks_subIn X hsub).here ?_)
    simp only [Bool.false_eq_true, if_false, Bool.not_false, if_true]
    refine wpAny_bind (m := tryCompare a _ (.ref x)) (wpAny_tryCompare_declines ha h1 (hdec _ ⟨rfl, ?_⟩))
    refine wpAny_bind (m := tryCompare (.ref x) _ a) (wpAny_mono two (fun r s2 z => ?_) fun _ _ e => e)
    obtain ⟨v, rfl, hq⟩ := z
    exact wpAny_pure hq
  · rename_i q
    exact absurd (by simp) q
end HR1
namespace HR1
open PySem L2
open PySem.Spec PyProof.Rows
/-- a value of a built-in type -/
inductive Bi (K : PySem.W.Frag) (H : Hp) : V → Prop
  | non : Bi K H .non
  | bl (b : Bool) : Bi K H (.bl b)
  | int (i : Int) : Bi K H (.int i)
  | str (z : Str) : Bi K H (.str z)
  | lst {p : Addr} {xs : List V} (h : SqL K H p xs) : Bi K H (.ref p)
  | tup {p : Addr} {xs : List V} (h : SqT K H p xs) : Bi K H (.ref p)
  | dic {p : Addr} {o : Obj} {kvs : List (Key × V)} (h : H p = some (.frz o (.dK kvs))) : Bi K H (.ref p)
/-- the class at C is below none of the built-in types -/
structure Aloof (K : PySem.W.Frag) (C : Addr) : Prop where
  non : PySem.W.subIn K (.ref C) (.type "NoneType") = some false
  bl : PySem.W.subIn K (.ref C) (.type "bool") = some false
  int : PySem.W.subIn K (.ref C) (.type "int") = some false
  str : PySem.W.subIn K (.ref C) (.type "str") = some false
  lst : PySem.W.subIn K (.ref C) (.type "list") = some false
  tup : PySem.W.subIn K (.ref C) (.type "tuple") = some false
  dic : PySem.W.subIn K (.ref C) (.type "dict") = some false
def rEqRefl (K : PySem.W.Frag) (C : Addr) (sp : Sp) (E : XK) : R2 := fun x y H Q => ∃ a dx fs, y = .ref a ∧ H a = some (.ins C dx fs) ∧ Bi K H x ∧ sp [y, x] H Q E
theorem op_eqRefl {X : Cx} {CX : CXT} {k : Nat} {f C : Addr} {fd : FuncData} {ps : List Str} {sp : Sp} {E : XK} (F0 : FnOk X.prog X.w X.K X.mg X.base CX k f fd ps sp) (hr : Room k X.A) (hb : Binds X.K fd ps []) (hx : Passes CX X E)
    (hs : PySem.W.findIn X.K (.ref C) "__eq__" = some (some (.ref f))) (hf : PySem.W.isFn X.K (.ref f) = true) (al : Aloof X.K C) : OpR X (compareOp .Eq) (rEqRefl X.K C sp E) := by
  intro pins s σ H x y v u Q I rx ry h
  obtain ⟨a, dx, fs, rfl, ha, hbi, q⟩ := h
  cases ry
  obtain ⟨mA, J0, _⟩ := ins_get I.hok ha
  obtain ⟨od, J, _⟩ := J0.look
  have ho : s.heap.get? a = some (PySem.W.instObj C dx) := J0.1
  have hI : ∀ T : String, PySem.W.subIn X.K (.ref C) (.type T) = some false → ∀ M, PySem.W.Looks M s.heap (isInstance (.ref a) (.type T)) false := fun T hT M => J.type.andThen (PySem.W.looks_subIn I.kIn hT)
  have fin : wpAny (model X.prog X.w) X.A (call (.ref f) [.ref a, v]) (PySem.W.CmpBack (EP X pins σ Q)) X.xe s := thn (HO1.run_in F0 hr rfl hb hx I (HO1.vals_rx rx) q) fun v s' z => HO1.back_of z
  show wpAny _ _ (richCompare .Eq v (.ref a)) _ _ _
  cases hbi with
  | non =>
    cases (show v = Value.none from rx)
    exact refl_K hr.units0 I.kIn J (show s.TypeIs .none "NoneType" from rfl) al.non F.slot_NoneType_eq
      (fun Q' hq => call_gives F.slot_NoneType_eq rfl F.entry_NoneType_eq (F.args_NoneType_eq_2 _ _) (PySem.SeqAt.NoneType___eq___none_ref_0 a) hq) hs hf fin
  | bl b =>
    cases (show v = Value.bool b from rx)
    exact refl_K hr.units0 I.kIn J (PySem.typeIs_bool s b) al.bl F.slot_bool_eq
      (fun Q' hq => call_meets F.slot_bool_eq (PySem.typeIs_bool s b) F.entry_int_eq (F.args_int_eq_2 _ _) (bool_declines b a C dx) ⟨ho, hq⟩) hs hf fin
  | int i =>
    obtain ⟨t, rfl⟩ := (show ∃ t, v = Value.int i t from rx)
    exact refl_K hr.units0 I.kIn J (typeIs_int s i t) al.int F.slot_int_eq
      (fun Q' hq => call_meets F.slot_int_eq (typeIs_int s i t) F.entry_int_eq (F.args_int_eq_2 _ _) (int_declines i t a C dx) ⟨ho, hq⟩) hs hf fin
  | str z =>
    obtain ⟨t, rfl⟩ := (show ∃ t, v = Value.str z t from rx)
    exact refl_K hr.units0 I.kIn J (typeIs_str s z t) al.str F.slot_str_eq
      (fun Q' hq => call_meets F.slot_str_eq (typeIs_str s z t) F.entry_str_eq (F.args_str_eq_2 _ _) (str_declines z t a C dx) ⟨ho, hq⟩) hs hf fin
  | @lst p xs hq0 =>
    cases (show v = Value.ref p from rx)
    obtain ⟨its, r, ⟨o, n, e, e1, e2, e3⟩, _⟩ := I.list hq0
    obtain ⟨oc, odd, odt, osl⟩ := o
    dsimp only at e1 e2 e3
    subst e1 e2 e3
    exact refl_K hr.units0 I.kIn J ⟨_, e, rfl⟩ al.lst F.slot_list_eq
      (fun Q' hq => call_meets F.slot_list_eq ⟨_, e, rfl⟩ F.entry_list_eq (F.args_list_eq_2 _ _) (list_declines p a _ n _ osl) ⟨e, hI "list" al.lst, hq⟩) hs hf fin
  | @tup p xs hq0 =>
    cases (show v = Value.ref p from rx)
    obtain ⟨its, r, ⟨o, e, e1, n, e3⟩, _⟩ := I.tuple hq0
    obtain ⟨oc, odd, odt, osl⟩ := o
    dsimp only at e1 e3
    subst e1 e3
    exact refl_K hr.units0 I.kIn J ⟨_, e, rfl⟩ al.tup F.slot_tuple_eq
      (fun Q' hq => call_meets F.slot_tuple_eq ⟨_, e, rfl⟩ F.entry_tuple_eq (F.args_tuple_eq_2 _ _) (tuple_declines p a _ n _ osl) ⟨e, hI "tuple" al.tup, hq⟩) hs hf fin
  | @dic p ob kvs e0 =>
    cases (show v = Value.ref p from rx)
    obtain ⟨_, _, _, vs, _, o, es, ep, e, e1, e3, _⟩ := (show ObjOk X.prog X.w H s.heap p (.frz ob (.dK kvs)) from I.hok p _ e0)
    obtain ⟨oc, odd, odt, osl⟩ := o
    obtain ⟨e1, e2⟩ := e1
    dsimp only at e1 e3
    subst e1 e3
    exact refl_K hr.units0 I.kIn J ⟨_, e, rfl⟩ al.dic F.slot_dict_eq
      (fun Q' hq => call_meets F.slot_dict_eq ⟨_, e, rfl⟩ F.entry_dict_eq (F.args_dict_eq_2 _ _) (dict_declines p a es ep _ osl) ⟨e, hI "dict" al.dic, hq⟩) hs hf fin
end HR1

/-! HTok: arguments behind a written text; replace over data; == with an own instance on the right, over data; {}. -/
namespace HT1
open PySem PySem.Spec PyProof.Rows L2
section
variable {X : Cx}
/-- the first item ends by a written text: behind it a token is out -/
theorem pa_consT {a : Expr} {es : List Expr} {ta : TE} {t : TA} {op : Operator} {r : R2} {c : Str} {j : Nat} {p2 p : Pos} (ho : OpR X (binaryOp op) r) (ha : PE X a ta) (hr : PAT X es t)
    (hs : starEach (.BinOp a op (.Constant (.str c) j p2) p :: es) X.env = (false, eval (.BinOp a op (.Constant (.str c) j p2) p) X.env) :: starEach es X.env := by rfl) :
    PA X (.BinOp a op (.Constant (.str c) j p2) p :: es) (tCons (tOp r ta (tC (.str c))) t) := by
  refine ⟨fun pos pins s σ H Q I h => ?_⟩
  rw [hs]
  show wpAny _ _ (spliced ((false, eval (.BinOp a op (.Constant (.str c) j p2) p) X.env) :: backTo pos (starEach es X.env))) _ _ s
  refine Calls.spliced_cons (wpAny_BinOp (thn (ha.run pins s σ H _ I h) fun v s1 ⟨x, H1, I1, r1, q1⟩ => ?_))
  refine Calls.Constant_str ?_
  refine wpAny_mono (PySem.wpAny_toks (ho pins _ σ H1 x (.str c) v (.str c s1.toks) _ (I1.tok _) r1 ⟨_, rfl⟩ q1)) (fun z s2 q => ?_) fun _ _ z => z.2
  obtain ⟨hk, x2, H2, I2, r2, q2⟩ := q
  have hk' : s1.toks + 1 ≤ s2.toks := hk
  exact thn (hr pos pins s2 σ H2 _ (by omega) I2 q2) fun us s3 ⟨xs, H3, I3, r3, q3⟩ => ⟨x2 :: xs, H3, I3, .cons r2 r3, q3⟩
theorem pat_of {e : Expr} {es : List Expr} {te : TE} {t : TA} (ha : PE X e te) (hr : PAT X es t) (hs : starEach (e :: es) X.env = (false, eval e X.env) :: starEach es X.env := by rfl) : PAT X (e :: es) (tCons te t) :=
  pat_cons (CwR.PET.of ha) hr hs
end
end HT1
namespace DD
open PySem L2
open PySem.Spec PyProof.Rows
section
variable {K : PySem.W.Frag} {B F Hb H : Hp} {m : Mem} {ρ : DD.Env} {C : Addr} {φ : Phi} {E : XK} {X : XD}
theorem we_repl {to : TE} {y z : Str} {Q : QD} (h : WE K F B to ρ m fun d m1 => ∃ x, d = .s (.str x) ∧ x.length + (x.length + 1) * z.length ≤ 16777216 ∧ Q (.s (.str (Txt.replace x y z))) m1) : WE K F B (CwR.tReplC to y z) ρ m Q := fun Hb H σ R hB r hs k =>
  h Hb H σ _ hB r hs fun v H1 Hb1 d m1 e1 r1 hd q1 => by
    obtain ⟨x, rfl, hl, q⟩ := q1
    unfold Rp at hd
    exact ⟨x, hd, hl, k _ _ _ _ _ e1 r1 rp_s q⟩
/-- a value of a built-in type -/
def BiD : D → Prop
  | .s .non => True
  | .s (.bl _) => True
  | .s (.int _) => True
  | .s (.str _) => True
  | .lst _ => True
  | .tup _ => True
  | .dic _ _ => True
  | _ => False
theorem BiD.at {x : D} {v : V} (h : BiD x) (r : Rel K F Hb H m) (hx : Rp K Hb x v) : HR1.Bi K H v := by
  cases x with
  | s w =>
    unfold Rp at hx
    subst hx
    cases v with
    | non => exact .non
    | bl b => exact .bl b
    | int i => exact .int i
    | str z => exact .str z
    | _ => exact h.elim
  | lst xs =>
    unfold Rp at hx
    obtain ⟨p, vs, rfl, h1, _⟩ := hx
    exact .lst (SqL.of (r.sub _ _ h1))
  | tup xs =>
    unfold Rp at hx
    obtain ⟨p, vs, rfl, h1, _⟩ := hx
    exact .tup (sameT r.sub h1)
  | dic ks xs =>
    unfold Rp at hx
    obtain ⟨p, o, vs, rfl, h1, _⟩ := hx
    exact .dic (r.sub _ _ h1)
  | _ => exact h.elim
theorem wo_eqRefl {x y : D} {Q : QD} (hE : OkX K F B X E) (hx : BiD x) (hy : ObjD m C y) (h : φ [y, x] m Q X) : WO K F B (HR1.rEqRefl K C (spOf K φ) E) x y m Q := fun Hb H vx vy R hB r hvx hvy k => by
  obtain ⟨a, dx, fs, rfl, ha⟩ := hy.at r hvy
  exact ⟨a, dx, fs, rfl, ha, hx.at r hvx, _, m, F, Hb, Q, X, RpL.cons hvy (RpL.cons hvx RpL.nil), r, h, k, hE.mono hB⟩
/-- {}, that stays as it is -/
def tDNewF : TE := fun _ H Q => ∀ p o, H p = none → Q (.ref p) (upd H p (.frz o (.dK [])))
theorem pe_dnewF {X : Cx} {pos : Pos} : PE X (.Dict [] [] pos) tDNewF := by
  refine ⟨fun pins s σ H Q I h => wpAny_Dict_empty ?_⟩
  have hn := I.hok.fresh (Nat.le_refl s.heap.objs.size)
  have I1 := I.laid (a := s.heap.objs.size) (o := .dK []) (h' := s.heap.push { cls := .type "dict", data := .dict #[] }) (t' := s.toks) (fun _ _ q => Heap.get?_push_of_some _ q) (Nat.le_refl _) (dk_empty s.heap I.big)
  obtain ⟨od, I2⟩ := I1.lock upd_same trivial
  rw [upd_upd] at I2
  exact ⟨.ref s.heap.objs.size, _, I2, rfl, h _ od hn⟩
theorem we_dnew {Q : QD} (q : Q (.dic [] []) m) : WE K F B tDNewF ρ m Q := fun Hb H σ R hB r hs k => fun p o hp =>
  k _ _ _ (.dic [] []) _ (Same.new (r.fresh hp)) (r.data hp) (by
    unfold Rp
    exact ⟨p, o, [], rfl, upd_same, RpL.nil, rfl⟩) q
/-- {} == {} -/
def rEqE : R2 := fun x y H Q => ∃ a b o o', x = .ref a ∧ y = .ref b ∧ H a = some (.frz o (.dK [])) ∧ H b = some (.frz o' (.dK [])) ∧ Q (.bl true) H
theorem op_eqE {X : Cx} (hu : X.A.units < cLine) : OpR X (compareOp .Eq) rEqE := by
  intro pins s σ H x y v u Q I rx ry h
  obtain ⟨a, b, o, o', rfl, rfl, ea, eb, q⟩ := h
  obtain rfl : v = Value.ref a := rx
  obtain rfl : u = Value.ref b := ry
  obtain ⟨_, _, ya, va, ra, da⟩ := (show ObjOk X.prog X.w H s.heap a (.frz o (.dK [])) from I.hok a _ ea)
  obtain ⟨_, _, yb, vb, rb, db⟩ := (show ObjOk X.prog X.w H s.heap b (.frz o' (.dK [])) from I.hok b _ eb)
  cases ra
  cases rb
  exact PySem.W.keq_eq (knd := mixKind X.prog X.w) (r := true) ya yb da db hu (fun _ => .nil) (fin_bl I q (by simp))
theorem wo_eqE {Q : QD} (q : Q (.s (.bl true)) m) : WO K F B rEqE (.dic [] []) (.dic [] []) m Q := fun Hb H vx vy R hB r hvx hvy k => by
  unfold Rp at hvx hvy
  obtain ⟨a, o, vs, rfl, h1, _⟩ := hvx
  obtain ⟨b, o', vs', rfl, h2, _⟩ := hvy
  exact ⟨a, b, o, o', rfl, rfl, r.sub _ _ h1, r.sub _ _ h2, k.here r rp_s q⟩
end
end DD

/-! HHot: list comprehensions, and dict() of nothing, while an exception is handled. -/
namespace HH1
open PySem PySem.Spec PyProof.Rows L2 HotX L2H
section
variable {prog : Program} {w : World} {A : Around} {E : Value → Shared → Prop} {s : Shared}
theorem list_end_hot {it l x1 : Addr} {i : Nat} {items : Array Value} {Q : Option Value → Shared → Prop} (hot : HotAt A x1 s.heap) (hne : x1 ≠ it)
    (hit : s.heap.IsListIter it l i) (hl : s.heap.IsList l items) (hx : items[i]? = none)
    (hQ : ∀ h', (∀ b o, b ≠ it → s.heap.get? b = some o → h'.get? b = some o) → Q none { s with heap := h' }) : wpAny (model prog w) A (pyNext (.ref it)) Q E s := by
  obtain ⟨hh, o1, vs1, h1, d1, c1⟩ := hot
  obtain ⟨o, ho, hc, hd⟩ := id hit
  obtain ⟨ol, hol, _, nl, hdl⟩ := hl
  unfold pyNext
  refine wpAny_bind (wpAny_attempt (wpAny_callSpecial?_slot (name := Str.ofString "__next__") hit.typeIs slot_listiter_next
    (wpAny_call_entry slot_listiter_next hit.typeIs entry_listiter_next ?_ (args_listiter_next _))))
  show wpAny _ _ (field (.ref it) 0 >>= _) _ _ s
  refine wpAny_bind (wpAny_field ho hd (x := .ref l) rfl ?_)
  show wpAny _ _ (if (Value.ref l == Value.none) = true then _ else _) _ _ s
  rw [if_neg (show ¬ ((Value.ref l == Value.none) = true) from Bool.false_ne_true)]
  show wpAny _ _ (field (.ref it) 1 >>= _) _ _ s
  refine wpAny_bind (wpAny_field ho hd (x := .int i 0) rfl ?_)
  show wpAny _ _ (seqItems? (.ref l) >>= _) _ _ s
  refine wpAny_bind (wpAny_seqItems hol hdl ?_)
  simp only [Int.toNat_natCast, hx]
  refine wpAny_bind (wpAny_rule (wpAny_bind (wpAny_setField ho hd (by simp) ?_)))
  show wpAny _ _ (newExc (.type "StopIteration") [] >>= _) _ _ _
  refine wpAny_bind ?_
  simp only [newExc, newTuple]
  refine wpAny_bind (wpAny_newObj_type ?_ (by size_fits))
  refine wpAny_bind (m := firstArgMember _ _) (wpAny_of_eq (a := Value.none) (by first | rfl | (simp only [firstArgMember]; rfl)) ?_)
  refine wpAny_newObj_type ?_ (by size_fits)
  refine raiseNew_hot ⟨hh, o1, vs1, Heap.get?_push_of_some _ (Heap.get?_push_of_some _ ((Heap.get?_update_other _ _ hne.symm).trans h1)), d1, c1⟩ (Nat.ne_of_lt (Heap.lt_size (Heap.get?_push_of_some _ ((Heap.get?_update_other _ _ hne.symm).trans h1)))) (Heap.get?_push_size _ rfl) rfl (by first | (simp; done) | (simp; omega) | (simp only [Array.size_append]; simp; omega)) ?_
  refine wpAny_bind (wpAny_isInstance (T := "StopIteration") (b := true) ⟨_, Heap.get?_update_self _ (Heap.get?_push_size _ rfl) rfl, rfl⟩ isSubtype_stop ?_)
  refine wpAny_pure (hQ _ fun b u hb e => ?_)
  rw [Heap.get?_update_other _ _ (Nat.ne_of_gt (Heap.lt_size (Heap.get?_push_of_some _ ((Heap.get?_update_other _ _ hb.symm).trans e))))]
  exact Heap.get?_push_of_some _ (Heap.get?_push_of_some _ ((Heap.get?_update_other _ _ hb.symm).trans e))
theorem tuple_end_hot {it t x1 : Addr} {i : Nat} {items : Array Value} {Q : Option Value → Shared → Prop} (hot : HotAt A x1 s.heap) (hne : x1 ≠ it)
    (hit : s.heap.IsTupleIter it t i) (ht : s.heap.IsTuple t items) (hx : items[i]? = none)
    (hQ : ∀ h', (∀ b o, b ≠ it → s.heap.get? b = some o → h'.get? b = some o) → Q none { s with heap := h' }) : wpAny (model prog w) A (pyNext (.ref it)) Q E s := by
  obtain ⟨hh, o1, vs1, h1, d1, c1⟩ := hot
  obtain ⟨o, ho, hc, hd⟩ := id hit
  obtain ⟨ol, hol, _, nl, hdl⟩ := ht
  unfold pyNext
  refine wpAny_bind (wpAny_attempt (wpAny_callSpecial?_slot (name := Str.ofString "__next__") hit.typeIs F.slot_tuple_iterator_next
    (wpAny_call_entry F.slot_tuple_iterator_next hit.typeIs F.entry_tuple_iterator_next ?_ (F.args_tuple_iterator_next_1 _))))
  show wpAny _ _ (field (.ref it) 0 >>= _) _ _ s
  refine wpAny_bind (wpAny_field ho hd (x := .ref t) rfl ?_)
  show wpAny _ _ (if (Value.ref t == Value.none) = true then _ else _) _ _ s
  rw [if_neg (show ¬ ((Value.ref t == Value.none) = true) from Bool.false_ne_true)]
  show wpAny _ _ (field (.ref it) 1 >>= _) _ _ s
  refine wpAny_bind (wpAny_field ho hd (x := .int i 0) rfl ?_)
  show wpAny _ _ (seqItems? (.ref t) >>= _) _ _ s
  refine wpAny_bind (wpAny_seqItems hol hdl ?_)
  simp only [Int.toNat_natCast, hx]
  refine wpAny_bind (wpAny_rule (wpAny_bind (wpAny_setField ho hd (by simp) ?_)))
  show wpAny _ _ (newExc (.type "StopIteration") [] >>= _) _ _ _
  refine wpAny_bind ?_
  simp only [newExc, newTuple]
  refine wpAny_bind (wpAny_newObj_type ?_ (by size_fits))
  refine wpAny_bind (m := firstArgMember _ _) (wpAny_of_eq (a := Value.none) (by first | rfl | (simp only [firstArgMember]; rfl)) ?_)
  refine wpAny_newObj_type ?_ (by size_fits)
  refine raiseNew_hot ⟨hh, o1, vs1, Heap.get?_push_of_some _ (Heap.get?_push_of_some _ ((Heap.get?_update_other _ _ hne.symm).trans h1)), d1, c1⟩ (Nat.ne_of_lt (Heap.lt_size (Heap.get?_push_of_some _ ((Heap.get?_update_other _ _ hne.symm).trans h1)))) (Heap.get?_push_size _ rfl) rfl (by first | (simp; done) | (simp; omega) | (simp only [Array.size_append]; simp; omega)) ?_
  refine wpAny_bind (wpAny_isInstance (T := "StopIteration") (b := true) ⟨_, Heap.get?_update_self _ (Heap.get?_push_size _ rfl) rfl, rfl⟩ isSubtype_stop ?_)
  refine wpAny_pure (hQ _ fun b u hb e => ?_)
  rw [Heap.get?_update_other _ _ (Nat.ne_of_gt (Heap.lt_size (Heap.get?_push_of_some _ ((Heap.get?_update_other _ _ hb.symm).trans e))))]
  exact Heap.get?_push_of_some _ (Heap.get?_push_of_some _ ((Heap.get?_update_other _ _ hb.symm).trans e))
theorem key_end_hot {it d x1 : Addr} {i n ep : Nat} {od : Obj} {es : Array DictEntry} {Q : Option Value → Shared → Prop} (hot : HotAt A x1 s.heap) (hne : x1 ≠ it) (hit : s.heap.IsKeyIter it d i n ep) (hod : s.heap.get? d = some od) (hdd : od.data = .dict es ep)
    (hsz : es.size = n) (hge : n ≤ i) (hQ : ∀ h', (∀ b o, b ≠ it → s.heap.get? b = some o → h'.get? b = some o) → Q none { s with heap := h' }) : wpAny (model prog w) A (pyNext (.ref it)) Q E s := by
  obtain ⟨hh, o1, vs1, h1, d1, c1⟩ := hot
  obtain ⟨o, ho, hc, hd⟩ := id hit
  unfold pyNext
  refine wpAny_bind (wpAny_attempt (wpAny_callSpecial?_slot (name := Str.ofString "__next__") hit.typeIs F.slot_dict_keyiterator_next
    (wpAny_call_entry F.slot_dict_keyiterator_next hit.typeIs F.entry_dict_keyiterator_next ?_ (F.args_dict_keyiterator_next_1 _))))
  refine wpAny_bind (wpAny_pure ?_)
  refine wpAny_bind ?_
  refine wpAny_bind ?_
  first | refine wpAny_bind (wpAny_typeNameOfWhole_keyiter hit.typeIs (wpAny_pure ?_)) | refine wpAny_bind (wpAny_typeNameOf_keyiter hit.typeIs (wpAny_pure ?_))
  refine wpAny_bind (wpAny_fieldsOf ho hd ?_)
  have hown : Builtin.Dict_items.ownsTuple "dict_keyiterator" = false := by decide
  simp only [hown, Bool.false_eq_true, if_false]
  show wpAny _ _ (if (Value.ref d == Value.none) = true then _ else _) _ _ s
  rw [if_neg (show ¬ ((Value.ref d == Value.none) = true) from Bool.false_ne_true)]
  refine wpAny_bind (wpAny_pure ?_)
  refine wpAny_bind (wpAny_dictEntries hod hdd ?_)
  rw [if_neg (by rw [hsz]; simp)]
  refine wpAny_bind (wpAny_pure ?_)
  refine wpAny_bind (wpAny_dictEpoch hod hdd ?_)
  rw [if_neg (by simp)]
  refine wpAny_pure ?_
  have hge' : es.size ≤ i := by rw [hsz]; exact hge
  simp only [show ¬ ((i : Int) < 0) from by omega, if_false, Int.toNat_natCast, Array.getElem?_eq_none hge']
  refine wpAny_bind ?_
  first | refine wpAny_bind (wpAny_typeNameOfWhole_keyiter hit.typeIs (wpAny_pure ?_)) | refine wpAny_bind (wpAny_typeNameOf_keyiter hit.typeIs (wpAny_pure ?_))
  show wpAny _ _ (setField (.ref it) 0 .none >>= _) _ _ s
  refine wpAny_bind (wpAny_setField ho hd (by simp) ?_)
  show wpAny _ _ (newExc (.type "StopIteration") [] >>= _) _ _ _
  refine wpAny_bind ?_
  simp only [newExc, newTuple]
  refine wpAny_bind (wpAny_newObj_type ?_ (by size_fits))
  refine wpAny_bind (m := firstArgMember _ _) (wpAny_of_eq (a := Value.none) (by first | rfl | (simp only [firstArgMember]; rfl)) ?_)
  refine wpAny_newObj_type ?_ (by size_fits)
  refine raiseNew_hot ⟨hh, o1, vs1, Heap.get?_push_of_some _ (Heap.get?_push_of_some _ ((Heap.get?_update_other _ _ hne.symm).trans h1)), d1, c1⟩ (Nat.ne_of_lt (Heap.lt_size (Heap.get?_push_of_some _ ((Heap.get?_update_other _ _ hne.symm).trans h1)))) (Heap.get?_push_size _ rfl) rfl (by first | (simp; done) | (simp; omega) | (simp only [Array.size_append]; simp; omega)) ?_
  refine wpAny_bind (wpAny_isInstance (T := "StopIteration") (b := true) ⟨_, Heap.get?_update_self _ (Heap.get?_push_size _ rfl) rfl, rfl⟩ isSubtype_stop ?_)
  refine wpAny_pure (hQ _ fun b u hb e => ?_)
  rw [Heap.get?_update_other _ _ (Nat.ne_of_gt (Heap.lt_size (Heap.get?_push_of_some _ ((Heap.get?_update_other _ _ hb.symm).trans e))))]
  exact Heap.get?_push_of_some _ (Heap.get?_push_of_some _ ((Heap.get?_update_other _ _ hb.symm).trans e))

theorem raiseAttr_hot {α : Type} {o : Value} {name msg : Str} {x1 : Addr} {Q : α → Shared → Prop} (hot : HotAt A x1 s.heap)
    (h : ∀ h' tk e, (∀ b ob, s.heap.get? b = some ob → h'.get? b = some ob) → (∃ t u, h'.get? e = some { cls := .type "AttributeError", data := .fields #[t, .none, .ref x1, .none, .bool false, .none, .str name u, o] }) → E (.ref e) { s with heap := h', toks := tk }) (hm : msg.length ≤ sizeLine := by size_fits) :
    wpAny (model prog w) A (raiseAttrError o name msg : Sem α) Q E s := by
  obtain ⟨hh, o1, vs1, h1, d1, c1⟩ := hot
  unfold raiseAttrError
  refine wpAny_bind (wpAny_mkStr (wpAny_bind ?_) hm)
  unfold newExc newTuple
  refine wpAny_bind (wpAny_newObj_type ?_ (by size_fits))
  refine wpAny_bind (m := firstArgMember _ _) (wpAny_of_eq (a := Value.none) (by simp only [firstArgMember, attrError_no_first]; rfl) ?_)
  rw [ownMembersOf_AttributeError]
  refine wpAny_newObj_type ?_ (by size_fits)
  obtain ⟨hp, g, d, tk, os⟩ := s
  have f1 := sub_AttributeError
  repeat (any_goals (first | assumption | wp_step))
  have hlt : x1 < hp.objs.size := Heap.lt_size h1
  refine raiseNew_hot ⟨hh, o1, vs1, (Heap.get?_update_other _ _ ?_).trans (Heap.get?_push_of_some _ (Heap.get?_push_of_some _ h1)), d1, c1⟩ ?_ (Heap.get?_update_self _ (Heap.get?_push_size _ rfl) rfl) rfl (by first | (simp; done) | (simp; omega) | (simp only [Array.size_append]; simp; omega)) ?_
  · simp only [Heap.size_push]
    exact Nat.ne_of_gt (Nat.lt_succ_of_lt hlt)
  · simp only [Heap.size_push]
    exact Nat.ne_of_lt (Nat.lt_succ_of_lt hlt)
  · dsimp only
    refine h _ _ _ (fun b ob hb => ?_) ?_
    · have hlt : b < hp.objs.size := Heap.lt_size hb
      refine (Heap.get?_update_other _ _ ?_).trans ((Heap.get?_update_other _ _ ?_).trans (Heap.get?_push_of_some _ (Heap.get?_push_of_some _ hb)))
      · simp only [Heap.size_push]
        exact Nat.ne_of_gt (Nat.lt_succ_of_lt hlt)
      · simp only [Heap.size_push]
        exact Nat.ne_of_gt (Nat.lt_succ_of_lt hlt)
    · exact ⟨_, _, Heap.get?_update_self _ (Heap.get?_update_self _ (Heap.get?_push_size _ rfl) rfl) rfl⟩
/-- raisesAttr while x1 is handled -/
def raisesAttrH (x1 : Addr) (o : Value) (name : Str) : PySem.Spec := fun A R s => HotAt A x1 s.heap ∧ ∀ h' tk e, (∀ b ob, s.heap.get? b = some ob → h'.get? b = some ob) → (∃ t u, h'.get? e = some { cls := .type "AttributeError", data := .fields #[t, .none, .ref x1, .none, .bool false, .none, .str name u, o] }) → R (.error (.ref e)) { s with heap := h', toks := tk }
theorem meets_miss_listH (x1 a : Addr) (xs : Array Value) (k : Nat) (sl : Array (Option Value)) (name : Str) (u : Tok) (hmiss : typeLookup (.type "list") name = pure none) (hname : (["__module__", "__name__", "__qualname__", "__doc__", "__annotations__"] : List Str).contains name = false) (hsz : name.length + 100 ≤ sizeLine := by size_fits) :
    Meets (Builtin.«object.__getattribute__» ⟨[.ref a, .str name u], []⟩) (fun A R s => s.heap.get? a = some { cls := .type "list", dict := none, data := .seq xs k, slots := sl } ∧ raisesAttrH x1 (.ref a) name A R s) :=
  Meets.of_wp fun prog w A R s hs => by
    obtain ⟨hp, g, d, tk, os⟩ := s
    obtain ⟨hx, hs⟩ := hs
    have hT : (⟨hp, g, d, tk, os⟩ : Shared).TypeIs (.ref a) "list" := ⟨_, hx, rfl⟩
    unfold Builtin.«object.__getattribute__»
    repeat (any_goals (first | assumption | wp_step))
    simp only [hname, Bool.false_eq_true, if_false]
    repeat (any_goals (first | assumption | wp_step))
    exact raiseAttr_hot hs.1 hs.2 (attrMsg_fits (by decide +kernel) hsz)
theorem miss_list_hot {s : Shared} {a x1 : Addr} {o : Obj} {xs : Array Value} {k : Nat} {Q : Option Value → Shared → Prop} (hx : s.heap.get? a = some o) (hc : o.cls = .type "list") (hdat : o.data = .seq xs k) (hd : o.dict = none) (hot : HotAt A x1 s.heap)
    (h : ∀ h' tk, (∀ b ob, s.heap.get? b = some ob → h'.get? b = some ob) → Q none { s with heap := h', toks := tk }) : wpAny (model prog w) A (getAttr? (.ref a) "keys") Q E s := by
  obtain ⟨c, dct, dat, sl⟩ := o
  simp only at hc hdat hd
  subst hc hdat hd
  obtain ⟨hp, g, d, tk, os⟩ := s
  have hT : ∀ tk', (⟨hp, g, d, tk', os⟩ : Shared).TypeIs (.ref a) "list" := fun _ => ⟨_, hx, rfl⟩
  have hmiss := list_keys_none
  have hname : (["__module__", "__name__", "__qualname__", "__doc__", "__annotations__"] : List Str).contains "keys" = false := by decide +kernel
  have hsz : ("keys" : Str).length + 100 ≤ sizeLine := by first | size_fits | decide +kernel
  have f1 := sub_AttributeError
  have f3 := PySem.F.slot_list_getattribute.lookup
  have f4 := PySem.F.slot_list_getattribute.bind (.ref a)
  have f5 := am_list_getattr_none
  unfold getAttr? getAttrBy? getAttrBy
  repeat (any_goals (first | assumption | exact hT _ | ((with_reducible show wpAny _ _ (call (Value.builtin "list.__getattribute__") _ _) _ _ _); refine call_meets PySem.F.slot_list_getattribute (hT _) am_entry_list_getattribute (PySem.F.args_list_getattribute_2 _ _) (meets_miss_listH x1 a xs k sl "keys" _ hmiss hname hsz) ⟨hx, hot, fun h' tk' e hk' hx' => ?_⟩) | wp_step))
  obtain ⟨t', u', he⟩ := hx'
  show wpAny _ _ (getattributeRaised _ _ _ _ _ _ _) _ _ _
  unfold getattributeRaised
  repeat (any_goals (first | assumption | wp_step))
  all_goals first | exact h _ _ hk' | (dsimp only; repeat (any_goals (first | assumption | exact h _ _ hk' | wp_step)))
/-- dict([]) -/
theorem dict_nil_hot {s : Shared} {l x1 : Addr} {ol : Obj} {n : Nat} {Q : Value → Shared → Prop} (hot : HotAt A x1 s.heap) (hl : s.heap.get? l = some ol) (hc : ol.cls = .type "list") (hd : ol.dict = none)
    (hdat : ol.data = .seq #[] n)
    (h : ∀ h' tk, h'.DictOf (mixKind prog w) s.heap.objs.size [] → (∀ b o, s.heap.get? b = some o → h'.get? b = some o) → Q (.ref s.heap.objs.size) { s with heap := h', toks := tk }) :
    wpAny (model prog w) A (call (.type "dict") [.ref l]) Q E s := by
  obtain ⟨hh, o1, vs1, ho1, d1, c1⟩ := hot
  refine callType_codes (Q₁ := fun obj s₁ => obj = .ref s.heap.objs.size ∧ s₁ = { s with heap := s.heap.push { cls := .type "dict", data := .dict #[] } }) PySem.F.kt_called_dict (PySem.F.kt_typeCall_dict_1 _) PySem.F.entry_dict_init (kt_code_dict_new _ ⟨rfl, rfl⟩) ?_
  rintro obj s₁ ⟨rfl, rfl⟩
  have hnew : (s.heap.push { cls := .type "dict", data := .dict #[] }).DictOf (mixKind prog w) s.heap.objs.size [] := Heap.DictOf.new s.heap
  have k0 : ∀ b o, s.heap.get? b = some o → (s.heap.push { cls := .type "dict", data := .dict #[] }).get? b = some o := fun b o e => Heap.get?_push_of_some _ e
  refine ⟨hnew.typeIs, PySem.F.args_dict_init_2 _ _, ?_⟩
  unfold Builtin.«dict.__init__»
  refine wpAny_bind ?_
  unfold Builtin.Dict.selfAndRest
  refine wpAny_bind (wpAny_notOrdered_dict hnew.typeIs ?_)
  show wpAny _ _ (pure (s.heap.objs.size, [Value.ref l])) _ _ _
  refine wpAny_pure ?_
  show wpAny _ _ (Builtin.Dict.updateFrom "dict.__init__" s.heap.objs.size (.ref l) [] .none) _ _ _
  unfold Builtin.Dict.updateFrom
  refine wpAny_bind (wpAny_typeOf (T := "list") ⟨ol, k0 _ _ hl, hc⟩ ?_)
  rw [if_pos (by first | decide | rfl | simp)]
  refine wpAny_bind (miss_list_hot (x1 := x1) (k0 _ _ hl) hc hdat hd ⟨hh, o1, vs1, k0 _ _ ho1, d1, c1⟩ fun h1 tk1 hk1 => ?_)
  rw [if_pos (show (none : Option Value).isNone = true from rfl)]
  refine wpAny_bind (wpAny_rule ?_)
  have hl1 : h1.IsList l #[] := ⟨ol, hk1 _ _ (k0 _ _ hl), hc, n, hdat⟩
  have hS1 : s.heap.objs.size < h1.objs.size := by
    have e : (s.heap.push { cls := .type "dict", data := .dict #[] }).get? s.heap.objs.size = some { cls := .type "dict", data := .dict #[] } := Heap.get?_push_size _ rfl
    exact Heap.lt_size (hk1 _ _ e)
  refine wpAny_bind (wpAny_pyIter_list hl1 ?_)
  have k2 : ∀ b o, h1.get? b = some o → (h1.push { cls := .type "list_iterator", data := .fields #[.ref l, .int 0 0] }).get? b = some o := fun b o e => Heap.get?_push_of_some _ e
  have hlt : l < s.heap.objs.size := Heap.lt_size hl
  have hx1 : x1 < s.heap.objs.size := Heap.lt_size ho1
  have key : codeAny (model prog w) A.in1 (.builtin "dict.update.loop" ⟨[.ref s.heap.objs.size, .ref h1.objs.size, .int 0 0, .none], []⟩) (wants (fun r s₂ => r = .none ∧ Q (.ref s.heap.objs.size) s₂) E)
      { s with heap := h1.push { cls := .type "list_iterator", data := .fields #[.ref l, .int 0 0] }, toks := tk1 } := by
    refine codeAny_builtin ud_entry ?_
    rw [Around.under_plainId ud_plain _]
    show wpAny _ A.in1.in1 (pyNext (.ref h1.objs.size) >>= _) _ _ _
    refine wpAny_bind (list_end_hot (A := A.in1.in1) (i := 0) (x1 := x1) (l := l) (items := #[]) ⟨hh, o1, vs1, k2 _ _ (hk1 _ _ (k0 _ _ ho1)), d1, c1⟩ (Nat.ne_of_lt (Nat.lt_trans hx1 hS1)) ⟨_, Heap.get?_push_size _ rfl, rfl, rfl⟩ (hl1.at fun o e => k2 _ _ e) rfl fun h' he => ?_)
    show wpAny _ A.in1.in1 (Builtin.Dict.addKeywords s.heap.objs.size [] >>= _) _ _ _
    refine wpAny_bind (wpAny_pure (wpAny_pure ?_))
    refine ⟨rfl, h h' tk1 (((hnew.at fun o e => hk1 _ _ e).at fun o e => k2 _ _ e).at fun o e => he _ _ (Nat.ne_of_lt hS1) e) fun b o e => ?_⟩
    exact he b o (Nat.ne_of_lt (Nat.lt_trans (Heap.lt_size e) hS1)) (k2 _ _ (hk1 _ _ (k0 _ _ e)))
  first
    | exact wpAny_pure ⟨plainId_quiet ud_plain _, key⟩
    | exact wpAny_bind (wpAny_pure (wpAny_pure ⟨plainId_quiet ud_plain _, key⟩))
end
/-! ### walks -/
section
variable {P : Program} {w : World} {K : PySem.W.Frag} {tg : Expr}
theorem turn_listH (a it : Addr) : TurnH P w K tg (Itl K a) [it] it (fun i h => h.IsListIter it a i) where
  mem := by simp
  obj := fun i h st b hb => by
    have e : b = it := by simpa using hb
    subst e
    obtain ⟨o, e, c, d⟩ := st
    exact ⟨o, e, fun v z => by rw [d] at z; cases z⟩
  keep := fun i h h' st k => st.at fun o e => k it (by simp) o e
  item := by
    intro X hP hw hK hc i pins s σ H E I hf st hg
    subst hP hw hK
    obtain ⟨xs, x, hq, hx⟩ := hg
    obtain ⟨its, rv, p, hz⟩ := I.list hq
    obtain ⟨u, hu, ru⟩ := rv.get hx
    obtain ⟨f0, f1, f2, f3, f4, f5⟩ := hf it (by simp)
    refine wpAny_pyNext_list_item st p.isList (x := u) (by simpa using hu) fun h' st' sb => ?_
    have I1 : Inv X pins σ H { s with heap := h' } := I.turned (t' := s.toks) (fun b o hb e => (sb.2 b hb).trans e) f0 f1 f3 f4 f5
    obtain ⟨o, e, c, d⟩ := id st'
    exact ⟨u, rfl, go_of (s := { s with heap := h' }) e c d (by decide) ⟨x, H, I1, ru, ⟨rfl, fun ys hy => by rw [I.list_inj hy hq]; exact hx⟩, st', fun b hb => (hf b hb).1⟩⟩
  done := by
    intro X hP hw hK hc i pins s σ H E I hf st hg
    subst hP hw hK
    obtain ⟨xs, hq, hx⟩ := hg
    obtain ⟨its, rv, p, hz⟩ := I.list hq
    obtain ⟨f0, f1, f2, f3, f4, f5⟩ := hf it (by simp)
    have hl := rv.length
    obtain ⟨q, hq1, hq2⟩ := hc
    obtain ⟨hh, v1, e1, c1⟩ := hq1
    have hot : HotAt X.A q.1 s.heap := ⟨hh, q.2, v1, (I.pin q (List.mem_append_left _ hq2)).1, e1, c1⟩
    exact list_end_hot hot (f5 q (List.mem_append_left _ hq2)) st p.isList (by simp; omega) fun h' eb => ⟨rfl, I.turned (t' := s.toks) (fun b o hb e => eb b o hb e) f0 f1 f3 f4 f5⟩
  self := fun _ _ _ _ _ st h => wpAny_pyIter_listiter st h
theorem turn_tupleH (a it : Addr) : TurnH P w K tg (Itt K a) [it] it (fun i h => h.IsTupleIter it a i) where
  mem := by simp
  obj := fun i h st b hb => by
    have e : b = it := by simpa using hb
    subst e
    obtain ⟨o, e, c, d⟩ := st
    exact ⟨o, e, fun v z => by rw [d] at z; cases z⟩
  keep := fun i h h' st k => st.at fun o e => k it (by simp) o e
  item := by
    intro X hP hw hK hc i pins s σ H E I hf st hg
    subst hP hw hK
    obtain ⟨xs, x, hq, hx⟩ := hg
    obtain ⟨its, rv, p, hz⟩ := I.tuple hq
    obtain ⟨u, hu, ru⟩ := rv.get hx
    obtain ⟨f0, f1, f2, f3, f4, f5⟩ := hf it (by simp)
    refine wpAny_pyNext_tuple_item st (show s.heap.IsTuple a its.toArray from p) (x := u) (by simpa using hu) fun h' st' sb => ?_
    have I1 : Inv X pins σ H { s with heap := h' } := I.turned (t' := s.toks) (fun b o hb e => (sb.2 b hb).trans e) f0 f1 f3 f4 f5
    obtain ⟨o, e, c, d⟩ := id st'
    exact ⟨u, rfl, go_of (s := { s with heap := h' }) e c d (by decide) ⟨x, H, I1, ru, ⟨rfl, fun ys hy => by rw [I.tuple_inj hy hq]; exact hx⟩, st', fun b hb => (hf b hb).1⟩⟩
  done := by
    intro X hP hw hK hc i pins s σ H E I hf st hg
    subst hP hw hK
    obtain ⟨xs, hq, hx⟩ := hg
    obtain ⟨its, rv, p, hz⟩ := I.tuple hq
    obtain ⟨f0, f1, f2, f3, f4, f5⟩ := hf it (by simp)
    have hl := rv.length
    obtain ⟨q, hq1, hq2⟩ := hc
    obtain ⟨hh, v1, e1, c1⟩ := hq1
    have hot : HotAt X.A q.1 s.heap := ⟨hh, q.2, v1, (I.pin q (List.mem_append_left _ hq2)).1, e1, c1⟩
    exact tuple_end_hot hot (f5 q (List.mem_append_left _ hq2)) st (show s.heap.IsTuple a its.toArray from p) (by simp; omega) fun h' eb => ⟨rfl, I.turned (t' := s.toks) (fun b o hb e => eb b o hb e) f0 f1 f3 f4 f5⟩
  self := fun _ _ _ _ _ st h => wpAny_pyIter_tupleiter st h
theorem turn_keysH {d : Addr} {o : Obj} {es : Array DictEntry} {ep : Nat} {kvs : List (L2.Key × V)} (it : Addr) (hod : o.data = .dict es ep) : TurnH P w K tg (Itk d o kvs) [it] it (fun i h => h.IsKeyIter it d i kvs.length ep) where
  mem := by simp
  obj := fun i h st b hb => by
    have e : b = it := by simpa using hb
    subst e
    obtain ⟨oi, e, c, dd⟩ := st
    exact ⟨oi, e, fun v z => by rw [dd] at z; cases z⟩
  keep := fun i h h' st k => st.at fun oi e => k it (by simp) oi e
  item := by
    intro X hP hw hK hc i pins s σ H E I hf st hg
    subst hP hw hK
    obtain ⟨hd, hi⟩ := hg
    obtain ⟨f0, f1, f2, f3, f4, f5⟩ := hf it (by simp)
    obtain ⟨hs, hgd, hx, es', ep', vs, hdt, hsz, kv, hm⟩ := I.frzK hd
    obtain ⟨rfl, rfl⟩ := dict_ep hod hdt
    obtain ⟨⟨k, v⟩, hkv⟩ : ∃ p, kvs[i]? = some p := ⟨kvs[i], List.getElem?_eq_getElem hi⟩
    obtain ⟨u, hu, ru⟩ := kv_get kv hkv
    have hl : kvs.length = vs.length := Paired.length kv
    rw [hl] at st
    refine wpAny_pyNext_dict_item st hm hu fun key h' hkey st' sb => ?_
    have I1 : Inv X pins σ H { s with heap := h' } := I.turned (t' := s.toks) (fun b ob hb e => (sb.2 b hb).trans e) f0 f1 f3 f4 f5
    obtain ⟨oi, e, c, dd⟩ := id st'
    refine ⟨key, rfl, go_of (s := { s with heap := h' }) e c dd (by decide) ⟨kV k, H, I1, relV_key (show keyIs k key = true from hkey), ⟨rfl, k, v, hkv, rfl⟩, ?_, fun b hb => (hf b hb).1⟩⟩
    show h'.IsKeyIter it d (i + 1) kvs.length _
    rw [hl]
    exact st'
  done := by
    intro X hP hw hK hc i pins s σ H E I hf st hg
    subst hP hw hK
    obtain ⟨hd, hi⟩ := hg
    obtain ⟨f0, f1, f2, f3, f4, f5⟩ := hf it (by simp)
    obtain ⟨hs, hgd, hx, es', ep', vs, hdt, hsz, kv, hm⟩ := I.frzK hd
    obtain ⟨rfl, rfl⟩ := dict_ep hod hdt
    obtain ⟨q, hq1, hq2⟩ := hc
    obtain ⟨hh, v1, e1, c1⟩ := hq1
    have hot : HotAt X.A q.1 s.heap := ⟨hh, q.2, v1, (I.pin q (List.mem_append_left _ hq2)).1, e1, c1⟩
    exact key_end_hot hot (f5 q (List.mem_append_left _ hq2)) st hgd hdt hsz hi fun h' eb => ⟨rfl, I.turned (t' := s.toks) (fun b ob hb e => eb b ob hb e) f0 f1 f3 f4 f5⟩
  self := fun A i s Q E st h => wpAny_pyIter_keyiter st h
end
section
variable {X : Cx} {tg e : Expr} {te : TE}
theorem pi_oneH {pins : List (Addr × Obj)} {σ : L2.St} {H : Hp} {s : Shared} {R : It → Hp → Prop} {J : It} {tn : Nat → Heap → Prop} {tk : Nat} (I : Inv X pins σ H s) (o : Obj)
    (T : TurnH X.prog X.w X.K tg J [s.heap.objs.size] s.heap.objs.size tn) (st : tn 0 (s.heap.push o)) (q : R J H) : PIEH X pins σ tg R (.ref s.heap.objs.size) { s with heap := s.heap.push o, toks := tk } := by
  refine ⟨s.heap.objs.size, [s.heap.objs.size], tn, J, H, rfl, I.kept fun b ob e => Heap.get?_push_of_some _ e, T, st, fun b hb => ?_, q⟩
  have e : b = s.heap.objs.size := by simpa using hb
  subst e
  exact I.fpOk (Nat.le_refl _) (I.hok.fresh (Nat.le_refl _))
/-- a list or a tuple, as it comes -/
def iLT (K : PySem.W.Frag) (te : TE) : TI := fun σ H R => te σ H fun v H1 => (∃ a, v = .ref a ∧ (∃ vs, SqL K H1 a vs) ∧ R (Itl K a) H1) ∨ (∃ a, v = .ref a ∧ (∃ vs, SqT K H1 a vs) ∧ R (Itt K a) H1)
theorem pi_LT (he : PE X e te) : PI X tg e (iLT X.K te) := by
  refine ⟨fun pins s σ H R I h => thn (he.run pins s σ H _ I h) fun v s1 ⟨y, H1, I1, r1, q⟩ => ?_⟩
  rcases q with ⟨a, rfl, ⟨vs, hq⟩, q⟩ | ⟨a, rfl, ⟨vs, hq⟩, q⟩
  · cases r1
    obtain ⟨its, _, p, _⟩ := I1.list hq
    exact wpAny_pyIter_list p.isList (pi_one (tk := s1.toks) I1 _ (turn_list a _) ⟨_, Heap.get?_push_size _ rfl, rfl, rfl⟩ q)
  · cases r1
    obtain ⟨its, _, p, _⟩ := I1.tuple hq
    exact wpAny_pyIter_tuple (show s1.heap.IsTuple a its.toArray from p) (pi_one (tk := s1.toks) I1 _ (turn_tuple a _) ⟨_, Heap.get?_push_size _ rfl, rfl, rfl⟩ q)
theorem pi_LTH (he : PE X e te) : PIH X tg e (iLT X.K te) := by
  refine ⟨fun pins s σ H R I h => thn (he.run pins s σ H _ I h) fun v s1 ⟨y, H1, I1, r1, q⟩ => ?_⟩
  rcases q with ⟨a, rfl, ⟨vs, hq⟩, q⟩ | ⟨a, rfl, ⟨vs, hq⟩, q⟩
  · cases r1
    obtain ⟨its, _, p, _⟩ := I1.list hq
    exact wpAny_pyIter_list p.isList (pi_oneH (tk := s1.toks) I1 _ (turn_listH a _) ⟨_, Heap.get?_push_size _ rfl, rfl, rfl⟩ q)
  · cases r1
    obtain ⟨its, _, p, _⟩ := I1.tuple hq
    exact wpAny_pyIter_tuple (show s1.heap.IsTuple a its.toArray from p) (pi_oneH (tk := s1.toks) I1 _ (turn_tupleH a _) ⟨_, Heap.get?_push_size _ rfl, rfl, rfl⟩ q)
/-- the keys of a locked dict -/
def iKy (td : TE) : TI := fun σ H R => td σ H fun x H1 => ∃ d o, x = .ref d ∧ ∃ kvs, H1 d = some (.frz o (.dK kvs)) ∧ R (Itk d o kvs) H1
theorem pi_ky (he : PE X e te) : PI X tg e (iKy te) := by
  refine ⟨fun pins s σ H R I h => ?_⟩
  refine thn (he.run pins s σ H _ I h) fun u s1 ⟨x, H1, I1, rx, d, o, ex, kvs, hd, q⟩ => ?_
  subst ex
  obtain rfl : u = Value.ref d := rx
  obtain ⟨hs, hgd, hx, es, ep, vs, hdt, hsz, kv, hm⟩ := I1.frzK hd
  refine iter_keys hs hgd hx hdt (pi_one (tk := s1.toks) I1 _ (turn_keys _ hdt) ⟨_, Heap.get?_push_size _ rfl, rfl, ?_⟩ q)
  rw [hsz] <;> rfl
theorem pi_kyH (he : PE X e te) : PIH X tg e (iKy te) := by
  refine ⟨fun pins s σ H R I h => ?_⟩
  refine thn (he.run pins s σ H _ I h) fun u s1 ⟨x, H1, I1, rx, d, o, ex, kvs, hd, q⟩ => ?_
  subst ex
  obtain rfl : u = Value.ref d := rx
  obtain ⟨hs, hgd, hx, es, ep, vs, hdt, hsz, kv, hm⟩ := I1.frzK hd
  refine iter_keys hs hgd hx hdt (pi_oneH (tk := s1.toks) I1 _ (turn_keysH _ hdt) ⟨_, Heap.get?_push_size _ rfl, rfl, ?_⟩ q)
  rw [hsz] <;> rfl
end
/-! ### the comprehension -/
/-- the block's context, the handled exception still pinned -/
abbrev blkH (X : Cx) (s : Shared) (H : Hp) (scope : Scope) (cenv : PySem.Env) (fp : List Addr) : Cx := { X with s_0 := s, H_0 := H, env := cenv, outer := X.stack, ex := fp, fn := fun x => scope.names.lookup x == some .cell, xe := fun _ _ => False }
section
variable {X : Cx}
theorem hotC_blk {s : Shared} {H : Hp} {scope : Scope} {cenv : PySem.Env} {fp : List Addr} (hc : HotC X) : HotC (blkH X s H scope cenv fp) := hc
theorem blk_pinned {pins : List (Addr × Obj)} {σ σ' : L2.St} {H : Hp} {s s' : Shared} {scope : Scope} {cenv : PySem.Env} {fp : List Addr} (I : Inv X pins σ H s) (hL : s.heap.objs.size ≤ cenv.locals)
    (k : ∀ b o, s.heap.get? b = some o → s'.heap.get? b = some o) (J : Inv (X.blk s H scope cenv fp) [] σ' H s') : Inv (blkH X s H scope cenv fp) [] σ' H s' :=
  ⟨⟨J.ok.mod, J.ok.kind, J.ok.glob, J.ok.blt, J.ok.above, J.ok.inj, J.ok.has, J.ok.cab, J.ok.hd, J.ok.frames, J.ok.stk, J.ok.exf, J.ok.bs, J.ok.bsz, J.ok.noex, J.ok.exfs, J.ok.funs, J.ok.frf⟩, J.os, J.bare, J.base, J.loc, J.cell, J.free, J.freeC, fun p hp => by
    have hp' : p ∈ X.pn := by simpa using hp
    have q := I.pin p (List.mem_append_left _ hp')
    refine ⟨k _ _ q.1, q.2.1, fun z => ?_, fun hm => ?_, q.2.2.2.2⟩
    · exact absurd (Nat.lt_of_lt_of_le (Heap.lt_size q.1) (by rw [z]; exact hL)) (Nat.lt_irrefl _)
    · exact (List.mem_cons.mp (I.stkSub p.1 hm)).elim q.2.2.1 q.2.2.2.1, J.hok, J.len⟩
theorem lc_coreH {pins : List (Addr × Obj)} {s : Shared} {σ : L2.St} {H : Hp} {Q : VK} {elt tg iter : Expr} {ifs : List Expr} {scope : Scope} {own : List (Str × Nat)} {pos pos' : Pos} {wi : TI} {g : TG} {tt : TT} {te : TE} {use : Option (Value → Sem Unit)} {Qf : Value → Shared → Prop}
    (hc : HotC X) (hN : X.N.Nodup) (I : Inv X pins σ H s) (hi : PIH X tg iter wi) (ok : BlkOk X.N X.env.scope scope own)
    (hg : ∀ (s : Shared) (H : Hp) (C : Addr) (cl : List (Str × Addr)) (fp : List Addr), PG (blkH X s H scope (compEnvC scope cl C X.env) fp) tg g) (ht : ∀ (s : Shared) (H : Hp) (C : Addr) (cl : List (Str × Addr)) (fp : List Addr), PTs (blkH X s H scope (compEnvC scope cl C X.env) fp) ifs tt)
    (he : ∀ (s : Shared) (H : Hp) (C : Addr) (cl : List (Str × Addr)) (fp : List Addr), PE (blkH X s H scope (compEnvC scope cl C X.env) fp) elt te) (hs : ∀ x, foldedSetIterable iter X.env x = pure x)
    (h : tLc wi g tt te (own.map (·.2)) σ H Q)
    (hRR : ∀ D C s' m H', Inv X pins σ H' s' → Q (.ref D) H' → s'.heap.Ns C m → FpOk X pins H' C → compPost (model X.prog X.w) X.A X.xe use Qf (.ref D) C (.ok .next) s') :
    wpAny (model X.prog X.w) X.A (comprehension (.ListComp elt [⟨tg, iter, ifs, 0⟩] scope pos) scope X.env pos' (newList []) false (eval iter X.env) use) Qf X.xe s := by
  have hfree : ∀ y ∈ scope.names, y.2 = .free → ∃ c, X.env.cells.lookup y.1 = some c := fun y hy e => by
    rcases ok.free y hy e with k | k
    · exact I.ok.has _ (.inl k)
    · exact I.ok.has _ (.inr k)
  refine wpAny_comprehension_free (use := use) rfl hs (closure_ok hfree) ok.kind (fun y hy e => by rw [ok.uniq y hy, e])
    (thn (hi.run pins s σ H _ I h) fun xv s1 hx => thn hx fun itv s2 h2 => ?_)
  obtain ⟨it, fp, tn, J, H2, e, I2, T, st2, f2, q⟩ := h2
  subst e
  refine wpAny_newObj_type (newEnv_comp ?_) (by show 0 ≤ sizeLine; decide)
  generalize hD : s2.heap.objs.size = D
  have hDn : H2 D = none := I2.hok.fresh (Nat.le_of_eq hD)
  obtain ⟨W, ⟨m0, w0⟩, turn⟩ := q D hDn
  generalize hs3 : ({ s2 with heap := s2.heap.push { cls := .type "list", data := .seq ([] : List Value).toArray } } : Shared) = s3
  have I3 : Inv X pins σ (upd H2 D (.lst [])) s3 := by
    rw [← hs3]
    refine I2.laid (t' := s2.toks) (fun b o e => Heap.get?_push_of_some _ e) (Nat.le_of_eq hD) ⟨Nat.zero_le _, [], 0, .nil, ?_⟩
    rw [← hD]
    exact Heap.get?_push_size _ rfl
  have h3 : s3.heap = s2.heap.push { cls := .type "list", data := .seq ([] : List Value).toArray } := by rw [← hs3]
  have sz : ∀ b ∈ fp, b < s2.heap.objs.size := fun b hb => by
    obtain ⟨o, e, _⟩ := T.obj _ _ st2 b hb
    exact Heap.lt_size e
  have f3 : ∀ b ∈ fp, FpOk X pins (upd H2 D (.lst [])) b ∧ b < s3.heap.objs.size := fun b hb => by
    have hlt := sz b hb
    refine ⟨⟨?_, (f2 b hb).2⟩, by rw [h3, Heap.size_push]; exact Nat.lt_succ_of_lt hlt⟩
    rw [upd_ne (by rw [← hD]; exact Nat.ne_of_lt hlt)]
    exact (f2 b hb).1
  have st3 : tn 0 s3.heap := T.keep _ _ _ st2 fun b _ o e => by rw [h3]; exact Heap.get?_push_of_some _ e
  have I4 : Inv (blkH X s3 (upd H2 D (.lst [])) scope (compEnvC scope (cellsFrom (s3.heap.objs.size + 1) scope.names (cloFrom X.env.cells scope.names [])) s3.heap.objs.size X.env) fp) [] (wipe σ (own.map (·.2))) (upd H2 D (.lst [])) { s3 with heap := pushCells (s3.heap.push { cls := .type "dict", data := .dict #[] }) scope.names } :=
    blk_pinned I3 (Nat.le_refl _) (fun b o e => pushCells_keeps _ _ _ _ (Heap.get?_push_of_some _ e)) (block_start I3 ok hN f3)
  have pg := hg s3 (upd H2 D (.lst [])) s3.heap.objs.size (cellsFrom (s3.heap.objs.size + 1) scope.names (cloFrom X.env.cells scope.names [])) fp
  have pt := ht s3 (upd H2 D (.lst [])) s3.heap.objs.size (cellsFrom (s3.heap.objs.size + 1) scope.names (cloFrom X.env.cells scope.names [])) fp
  have pe := he s3 (upd H2 D (.lst [])) s3.heap.objs.size (cellsFrom (s3.heap.objs.size + 1) scope.names (cloFrom X.env.cells scope.names [])) fp
  show codeAny _ _ (.compStart (.ListComp elt [⟨tg, iter, ifs, 0⟩] scope pos) 0 (.ref it) (.ref D) (compEnvC scope (cellsFrom (s3.heap.objs.size + 1) scope.names (cloFrom X.env.cells scope.names [])) s3.heap.objs.size X.env)) (compPost (model X.prog X.w) X.A X.xe use Qf (.ref D) s3.heap.objs.size) { s3 with heap := pushCells (s3.heap.push { cls := .type "dict", data := .dict #[] }) scope.names }
  have nfp : ∀ b ∈ fp, (upd H2 D (.lst [])) b = none := fun b hb => (f3 b hb).1.1
  generalize hce : compEnvC scope (cellsFrom (s3.heap.objs.size + 1) scope.names (cloFrom X.env.cells scope.names [])) s3.heap.objs.size X.env = ce at I4 pg pt pe ⊢
  have cL : ce.locals = s3.heap.objs.size := by subst hce; rfl
  generalize hH3 : upd H2 D (.lst []) = H3 at I3 I4 pg pt pe w0 nfp f3
  generalize hs4 : ({ s3 with heap := pushCells (s3.heap.push { cls := .type "dict", data := .dict #[] }) scope.names } : Shared) = s4 at I4 ⊢
  have st4 : tn 0 s4.heap := T.keep _ _ _ st3 fun b _ o e => by rw [← hs4]; exact pushCells_keeps _ _ _ _ (Heap.get?_push_of_some _ e)
  have stat : ∀ {σ' : L2.St} {H' : Hp} {s' : Shared}, Inv (blkH X s3 H3 scope ce fp) [] σ' H' s' → (∀ b ∈ fp, H' b = none) → ∀ b ∈ fp, FpOk (blkH X s3 H3 scope ce fp) [] H' b := fun {σ' H' s'} I' hn b hb =>
    ⟨hn b hb, (I'.ok.exf b hb).1, I'.ok.exfs b hb, .inl hb, fun x c e => (I'.ok.exf b hb).2 x c e, fun p hp => (f3 b hb).1.2.2.2.2.2 p (List.mem_append_left _ (by simpa using hp))⟩
  have loop : codeAny (model X.prog X.w) X.A (.compLoop (.ListComp elt [⟨tg, iter, ifs, 0⟩] scope pos) 0 (.ref it) (.ref D) ce) (compPost (model X.prog X.w) X.A X.xe use Qf (.ref D) s3.heap.objs.size) s4 := by
    refine compLoop_any (fun n s' => ∃ i H', Inv (blkH X s3 H3 scope ce fp) [] (wipe σ (own.map (·.2))) H' s' ∧ tn i s'.heap ∧ (∀ b ∈ fp, H' b = none) ∧ W i n H') ?_ m0 ⟨0, H3, I4, st4, nfp, w0⟩
    rintro n s5 ⟨i, H5, I5, st5, n5, w5⟩
    rcases turn i n H5 w5 with ⟨stop, qq⟩ | ⟨go, Nx, hNx, step⟩
    · have td := T.done (blkH X s3 H3 scope ce fp) rfl rfl rfl hc i [] s5 _ H5 (fun _ _ => False) I5 (stat I5 n5) st5 stop
      refine thnF td fun r s6 ⟨hr, I6⟩ => ?_
      subst hr
      have I7 : Inv X pins σ H5 s6 := I3.call' (ch := fp) I6.os I6.base I6.hok I6.bare fun b hb => ⟨(f3 b hb).1.2.2.2.1, (f3 b hb).1.2.1, (f3 b hb).1.2.2.2.2.1, (f3 b hb).1.2.2.2.2.2⟩
      have nC : H5 s3.heap.objs.size = none := by
        have z : H5 ce.locals = none := I6.free
        rw [cL] at z
        exact z
      obtain ⟨m, hn, _⟩ := I6.loc
      have hn : s6.heap.Ns ce.locals m := hn
      rw [cL] at hn
      exact hRR D s3.heap.objs.size s6 m H5 I7 qq hn (I3.fpOk (Nat.le_refl _) nC)
    · have ti := T.item (blkH X s3 H3 scope ce fp) rfl rfl rfl hc i [] s5 _ H5 (fun _ _ => False) I5 (stat I5 n5) st5 go
      refine thnF ti fun r s6 ⟨u, hr, h6⟩ => ?_
      subst hr
      refine thnF h6 fun _ s7 ⟨x, H7, I7, r7, y7, st7, n7⟩ => ?_
      have I7' := I7.pinned (stat I7 n7) (T.obj _ _ st7)
      refine thnF (pg.run _ s7 _ H7 x u _ I7' r7 (step x H7 y7)) fun _ s8 ⟨σ8, H8, I8, hw8, q8⟩ => ?_
      refine thnF (pt.run _ s8 σ8 H8 _ I8 q8) fun b s9 ⟨H9, I9, q9⟩ => ?_
      have fin : ∀ {s' : Shared} {H' : Hp}, Inv (blkH X s3 H3 scope ce fp) ([] ++ pinsAt fp s7.heap) σ8 H' s' → Nx H' → ∃ m, m < n ∧ ∃ i H', Inv (blkH X s3 H3 scope ce fp) [] (wipe σ (own.map (·.2))) H' s' ∧ tn i s'.heap ∧ (∀ b ∈ fp, H' b = none) ∧ W i m H' := fun {s' H'} I' nx => by
        obtain ⟨m', hm, w'⟩ := hNx H' nx
        have pin' : ∀ b ∈ fp, ∀ o, s7.heap.get? b = some o → s'.heap.get? b = some o ∧ H' b = none := fun b hb o e =>
          let z := I'.pin (b, o) (List.mem_append_right _ (List.mem_append_right _ (mem_pinsAt hb e)))
          ⟨z.1, z.2.1⟩
        have hl : (wipe σ (own.map (·.2))).length = σ8.length := by rw [← hw8, wipe_length]
        refine ⟨m', hm, i + 1, H', (I'.unpinned (pins := [])).weak hl (fun j v e => ?_), T.keep _ _ _ st7 fun b hb o e => (pin' b hb o e).1, fun b hb => ?_, w'⟩
        · rw [← hw8] at e
          exact (wipe_some e).1
        · obtain ⟨o, e, _⟩ := T.obj _ _ st7 b hb
          exact (pin' b hb o e).2
      cases b with
      | false =>
        simp only [Bool.false_eq_true, if_false] at q9 ⊢
        exact fin I9 q9
      | true =>
        simp only [if_true] at q9 ⊢
        refine thnF (pe.run _ s9 σ8 H9 _ I9 q9) fun z s10 ⟨yv, H10, I10, r10, acc, hD10, hz10, nx⟩ => ?_
        exact app_ok (X := blkH X s3 H3 scope ce fp) I10 hD10 hz10 r10 fun s11 I11 => fin I11 nx
  exact codeAny_compStart_list loop (T.self X.A 0 _ _ _ st4 loop)
theorem pe_lcH {elt tg iter : Expr} {ifs : List Expr} {scope : Scope} {own : List (Str × Nat)} {pos : Pos} {wi : TI} {g : TG} {tt : TT} {te : TE} (hc : HotC X) (hN : X.N.Nodup) (hi : PIH X tg iter wi) (ok : BlkOk X.N X.env.scope scope own)
    (hg : ∀ (s : Shared) (H : Hp) (C : Addr) (cl : List (Str × Addr)) (fp : List Addr), PG (blkH X s H scope (compEnvC scope cl C X.env) fp) tg g) (ht : ∀ (s : Shared) (H : Hp) (C : Addr) (cl : List (Str × Addr)) (fp : List Addr), PTs (blkH X s H scope (compEnvC scope cl C X.env) fp) ifs tt)
    (he : ∀ (s : Shared) (H : Hp) (C : Addr) (cl : List (Str × Addr)) (fp : List Addr), PE (blkH X s H scope (compEnvC scope cl C X.env) fp) elt te) (hs : ∀ x, foldedSetIterable iter X.env x = pure x := by intro _; rfl) :
    PE X (.ListComp elt [⟨tg, iter, ifs, 0⟩] scope pos) (tLc wi g tt te (own.map (·.2))) := by
  refine ⟨fun pins s σ H Q I h => ?_⟩
  rw [eval_ListComp]
  refine lc_coreH hc hN I hi ok hg ht he hs h fun D C s' m H' I' q hn f => ⟨m, hn, fun h'' sb => ?_⟩
  obtain ⟨f0, f1, f2, f3, f4, f5⟩ := f
  exact ⟨.ref D, H', I'.turned (t' := s'.toks) (fun b o hb e => (sb.2 b hb).trans e) f0 f1 f3 f4 f5, rfl, q⟩
end
end HH1

/-! HHotD: dict([]), calls, defs while an exception is handled; exceptions whose context is None; over data. -/
namespace HH1
open PySem PySem.Spec PyProof.Rows L2 HotX L2H
/-! ### dict([]) -/
def rDictE (K : PySem.W.Frag) : List V → Hp → VK → Prop := fun xs H Q => ∃ a, xs = [.ref a] ∧ SqL K H a [] ∧ ∀ p o, H p = none → Q (.ref p) (upd H p (.frz o (.dK [])))
theorem call_dictE {X : Cx} (hc : X.calm = true) : CallR X (.type "dict") (rDictE X.K) := by
  intro pins s σ H xs us Q I r q
  obtain ⟨a, rfl, hq, q⟩ := q
  refine thn (call_dictP hc pins s σ H [.ref a] us (fun v H' => ∃ p, v = .ref p ∧ H p = none ∧ H' = upd H p (.dK [])) I r ⟨a, [], [], rfl, hq, .nil, fun p hp => ⟨p, rfl, hp, rfl⟩⟩) fun v s' ⟨x, H', I', rv, p, hv, hp, hH⟩ => ?_
  subst hv hH
  obtain ⟨od, I2⟩ := I'.lock upd_same trivial
  rw [upd_upd] at I2
  exact ⟨.ref p, _, I2, rv, q p od hp⟩
theorem call_dictEH {X : Cx} (hc : HotC X) : CallR X (.type "dict") (rDictE X.K) := by
  intro pins s σ H xs us Q I r q
  obtain ⟨a, rfl, hq, q⟩ := q
  obtain ⟨u, eu, rx⟩ := vals1 r
  subst eu
  cases rx
  obtain ⟨x1, hot⟩ := hc.at I
  obtain ⟨its, rv, pl, hz⟩ := I.list hq
  cases rv
  obtain ⟨o, n, ho, hcl, hd, hdat⟩ := pl
  refine dict_nil_hot hot ho hcl hd hdat fun h' tk hd' k => ?_
  have hm : (s.heap.objs.size == sysModules) = false := beq_eq_false_iff_ne.mpr (Nat.ne_of_gt I.big)
  have hn : H s.heap.objs.size = none := I.hok.fresh (Nat.le_refl _)
  have I1 : Inv X pins σ (upd H s.heap.objs.size (.dK [])) { s with heap := h', toks := tk } :=
    I.laid (a := s.heap.objs.size) (o := .dK []) (t' := tk) k (Nat.le_refl _) ⟨Nat.zero_le _, hm, [], .nil, hd'⟩
  obtain ⟨od, I2⟩ := I1.lock upd_same trivial
  rw [upd_upd] at I2
  exact ⟨.ref s.heap.objs.size, _, I2, rfl, q _ od hn⟩
/-! ### list(text) -/
theorem vals_at : ∀ {xs : List V} {us : List Value}, xs.length = us.length → (∀ (j : Nat) (x : V) (u : Value), xs[j]? = some x → us[j]? = some u → RelV x u) → Vals xs us
  | [], [], _, _ => .nil
  | [], _ :: _, h, _ => by simp at h
  | _ :: _, [], h, _ => by simp at h
  | x :: xs, u :: us, h, k => .cons (k 0 x u rfl rfl) (vals_at (by simpa using h) fun j y v h1 h2 => k (j + 1) y v (by simpa using h1) (by simpa using h2))
def chV (z : Str) : List V := z.cps.toList.map fun c => V.str ⟨#[c]⟩
def rListS : List V → Hp → VK → Prop := fun xs H Q => ∃ z, xs = [.str z] ∧ z.length ≤ sizeLine ∧ ∀ p, H p = none → Q (.ref p) (upd H p (.lst (chV z)))
theorem call_listS {X : Cx} (hc : X.calm = true) : CallR X (.type "list") rListS := by
  intro pins s σ H xs us Q I r q
  obtain ⟨z, rfl, hz, q⟩ := q
  obtain ⟨u, eu, rx⟩ := vals1 r
  subst eu
  obtain ⟨t, rfl⟩ := rx
  refine call_list_str (I.ok.hd hc) z t (fun h' tk acc' c' k e it => ?_) (by show z.cps.size ≤ sizeLine; exact hz)
  have hl : (chV z).length = acc'.toList.length := by simp [chV, it.1]
  have hv : Vals (chV z) acc'.toList := vals_at hl fun j x u h1 h2 => by
    obtain ⟨c, t', h3, rfl⟩ := it.2 j u (by rw [← Array.getElem?_toList]; exact h2)
    unfold chV at h1
    rw [List.getElem?_map, Array.getElem?_toList, h3] at h1
    cases h1
    exact ⟨_, rfl⟩
  refine ⟨.ref s.heap.objs.size, _, I.laid (t' := tk) k (Nat.le_refl _) (show ObjOk X.prog X.w _ h' _ (.lst (chV z)) from ⟨?_, acc'.toList, c', hv, by rw [Array.toArray_toList]; exact e⟩), rfl, q _ (I.hok.fresh (Nat.le_refl _))⟩
  rw [hl]
  have a1 := it.1
  simp only [Array.length_toList]
  rw [a1]
  exact hz
/-! ### calls -/
theorem pe_callH0 {X : Cx} {CX : CXT} {k : Nat} {f : Addr} {fd : FuncData} {ps : List Str} {sp : Sp} {E : XK} {x : Str} {q pos : Pos} {e : Expr} {es : List Expr} {t : TA}
    (F : FnH X.prog X.w X.K X.mg X.base CX k f fd ps sp) (hr : RoomH k X.A) (hc : HotC X) (hg : Gl X x) (hm : X.mg x = some (.ref f)) (hk : PySem.W.keepIn X.K (.ref f) = true) (hb : Binds X.K fd ps []) (hx : Passes CX X E)
    (ha : PA X (e :: es) t) (hdb : (x == ("__debug__" : Str)) = false := by decide) (he : starEach (e :: es) X.env = (false, eval e X.env) :: starEach es X.env := by rfl) (hpl : (backTo pos (starEach es X.env)).any (·.1) = false := by rfl) :
    PE X (.Call (.Name x q) (e :: es) [] pos) (tCall sp [] E t) := by
  refine ⟨fun pins s σ H Q I h => (pe_callH F hr hc hg hm hk hb (E := fun _ => E) (fun σ pins H s e s' I c => hx pins σ H s e s' I c) ha hdb he hpl).run pins s σ H Q I ?_⟩
  have e : (fun (vs : List V) (H1 : Hp) => sp (vs ++ []) H1 Q E) = fun vs H1 => sp vs H1 Q E := by
    funext vs H1
    rw [List.append_nil]
  show t σ H fun vs H1 => sp vs H1 Q E
  rw [← e]
  exact h
/-! ### exceptions whose context is None -/
theorem passN {X : Cx} : Passes (L2N.CX X.prog X.w) X E0 := fun _ _ _ _ _ _ _ h => by
  obtain ⟨_, _, _, _, _, _, _, _, _, _, _, _, z⟩ := h
  exact z.elim
theorem takesN0 {X : Cx} : L2N.Takes X (fun _ _ _ _ => False) := fun _ _ x => by
  obtain ⟨_, _, _, _, _, _, _, _, _, _, _, _, _, _, _, _, z⟩ := x
  exact z.elim
theorem passesN_len {X : Cx} {W : WX} {E : XK} (tk : L2N.Takes X W) (hW : ∀ cls d σ H, σ.length = X.N.length → E cls d H → W cls d σ H) : Passes (L2N.CX X.prog X.w) X E :=
  fun _ σ _ _ e s' I c => tk e s' (L2N.XE.of_call I (fun cls d H' h => hW cls d σ H' I.len h) c)
section
variable {X : Cx} {e : Expr} {es : List Expr} {ta : TA} {p pos : Pos}
theorem pmkN_oex {CX : CXT} {x : Str} {C fI : Addr} {k : Nat} {fd : FuncData} {ps : List Str} {sp : Sp} {ds : List Value} {dvs : List V} (T : OexC X.K C) (iC : PySem.W.findIn X.K (.ref C) "__init__" = some (some (.ref fI))) (tI : PySem.W.typeIn X.K (.ref fI) = some (.type "function"))
    (F1 : FnOk X.prog X.w X.K X.mg X.base CX k fI fd ps sp) (hr : Room (k + 1) X.A) (hb : Binds X.K fd ps ds) (hd : Vals dvs ds) (hx : Passes CX X (fun _ _ _ => False)) (hg : Gl X x) (hm : X.mg x = some (.ref C)) (ha : PA X (e :: es) ta)
    (hdb : (x == ("__debug__" : Str)) = false := by decide) (he : starEach (e :: es) X.env = (false, eval e X.env) :: starEach es X.env := by rfl) (hpl : (backTo pos (starEach es X.env)).any (·.1) = false := by rfl) :
    L2N.PMk X (.Call (.Name x p) (e :: es) [] pos) (tMkO C sp dvs ta) := by
  intro pins s σ H Q I h
  obtain ⟨nm, q, N, bs, bm, sn, sub, ab, col, dd, k0, k1, k2, k3, k5, hC, hbm⟩ := T.cls
  refine wpAny_Call_Name_kw (ld_glob I hg hm ?_ hdb)
  refine PySem.W.callWith_K (h₀ := X.base) I.ok.mod.kin T.kC (thn (ha.run pos pins s σ H _ I h) fun us s1 ⟨vs, H1, I1, r1, hz, q1⟩ => ⟨I1.kIn, ?_⟩) he hpl
  show wpAny _ _ (call (.ref C) us) _ _ _
  obtain ⟨hp, g, dr, tk, os⟩ := s1
  have hsz : hp.objs.size ≤ hp.objs.size + 1 := Nat.le_succ _
  have hn : H1 (hp.objs.size + 1) = none := I1.hok.fresh hsz
  have hq := q1 (hp.objs.size + 1) hn
  have kk : ∀ b o, hp.get? b = some o → ((hp.push (PySem.W.kdv_tup us)).push (PySem.HandSPX.excO C hp.objs.size)).get? b = some o := fun b o e => Heap.get?_push_of_some _ (Heap.get?_push_of_some _ e)
  have hget : ((hp.push (PySem.W.kdv_tup us)).push (PySem.HandSPX.excO C hp.objs.size)).get? (hp.objs.size + 1) = some (PySem.HandSPX.excO C hp.objs.size) := by heap_get
  have I2 : Inv X pins σ (upd H1 (hp.objs.size + 1) (exo (hp.objs.size + 1) C none)) ⟨(hp.push (PySem.W.kdv_tup us)).push (PySem.HandSPX.excO C hp.objs.size), g, dr, tk, os⟩ :=
    I1.laid (t' := tk) (a := hp.objs.size + 1) (o := exo (hp.objs.size + 1) C none) (h' := (hp.push (PySem.W.kdv_tup us)).push (PySem.HandSPX.excO C hp.objs.size)) kk hsz (exo_ok hget)
  have r2 : Vals (V.ref (hp.objs.size + 1) :: (vs ++ dvs)) (Value.ref (hp.objs.size + 1) :: (us ++ ds)) := .cons rfl (r1.append hd)
  have hl : (Value.ref (hp.objs.size + 1) :: us ++ ds).length = ps.length := by
    have e := r2.length
    rw [F1.len _ _ _ _ hq] at e
    exact e.symm
  have hus : us.length ≤ sizeLine := by
    rw [← Paired.length r1, sizeLine_eq]
    omega
  refine wpAny_call (PySem.HandSPX.call_own F.excBase_ValueError (fun Y => PySem.HandSPX.refsVE_contains Y bm hbm) (I1.kIn _ _ hC) (PySem.W.looks_findIn I1.kIn iC) (fun self => PySem.W.bind_fn I1.kIn self tI) hus
    (codeAny_mono (F1.run _ X.stack _ _ ⟨Value.ref (hp.objs.size + 1) :: us, []⟩ (Value.ref (hp.objs.size + 1) :: (us ++ ds)) _ _ (fun _ _ _ => False) (hr.make C us []) (I2.env0.make C us []) (hb _ (Value.ref (hp.objs.size + 1) :: us) I2.kIn hl) r2 hq) fun r s' hq' => ?_))
  cases r with
  | error er => exact hx pins σ _ _ er s' I2 hq'
  | ok fl =>
    cases fl with
    | ret u =>
      obtain ⟨v, H2, os2, bare2, un2, hok2, rv, ev, d, fs, ea, ed, hd1, q2⟩ := hq'
      subst ev
      obtain ⟨h2, g2, d2, t2, os'⟩ := s'
      obtain ⟨t0, G, J, kG, ge, hoe, na⟩ := mk_end0 (d2 := d2) (t2 := t2) I1 hsz kk un2 hok2 os2 bare2 ea ed hd1
      refine ⟨rv, hp.objs.size + 1, _, _, ⟨G, g2, d2, t2, os'⟩, _, .ref C, some d, rfl, J, kG, ge, hoe, ⟨rfl, rfl, fun vs hv => ?_⟩, rfl, rfl, na, rfl, bare2, raises_own T.exC T.tyC, q2⟩
      cases hv
      rfl
    | next => exact False.elim hq'
    | brk => exact False.elim hq'
    | cont => exact False.elim hq'
end
/-- the suite is hot -/
theorem hot_suite {X : Cx} {a : Addr} {oe : Obj} {cls : Value} {d : Option Addr} {pn : List (Addr × Obj)} (hz : L2N.Zn cls d oe) (hd : ∃ vs, oe.data = .fields vs) : HotC (X.suite a ((a, oe) :: pn)) := by
  obtain ⟨vs, e⟩ := hd
  exact ⟨(a, oe), ⟨rfl, vs, e, hz.2.2 vs e⟩, List.mem_cons_self⟩
theorem room_suite {X : Cx} {k : Nat} {a : Addr} {pn : List (Addr × Obj)} (r : Room k X.A) : RoomH k (X.suite a pn).A := ⟨r.dp, r.un⟩
section
variable {X : Cx} {x n : Str} {c : Value} {i : Nat} {body suite : List Stmt} {b₀ : Stmt} {np pos pos' : Pos} {tb : XK → TS} {ts : Addr → Value → Option Addr → TS}
theorem ps_tryN (hs : X.stack = X.env :: X.outer) (hf : X.env.frame = some X.env.locals) (hN : X.N.Nodup) (hi : X.N[i]? = some n) (hln : X.env.kindOf n = some .local) (hc : Names X x c)
    (hb : ∀ (E : XK) (pn : List (Addr × Obj)) (xe : Value → Shared → Prop), Passes (L2N.CX X.prog X.w) (X.tr pn xe) E → PassesOwn (model X.prog X.w) X.A X.env xe → PSs (X.tr pn xe) body (tb E))
    (hsu : ∀ (a : Addr) (oe : Obj) (cls : Value) (d : Option Addr) (pn : List (Addr × Obj)), L2N.Zn cls d oe → (∃ vs, oe.data = .fields vs) → PSs (X.suite a ((a, oe) :: pn)) (b₀ :: suite) (ts a cls d)) :
    PS X (.Try body [.ExceptHandler (some (.Name x np)) (some n) (b₀ :: suite) pos'] [] [] pos) (HX1.tTry X.K X.N.length c i tb ts) :=
  L2N.ps_try_as (tb := fun W => tb (fun cls d H' => ∀ σ' : L2.St, σ'.length = X.N.length → W cls d σ' H')) hs hf hN hi hln hc takesN0 (fun W pn xe tk po => hb _ pn xe (passesN_len (X := X.tr pn xe) tk fun cls d σ H hl h => h σ hl) po) hsu
end
end HH1
namespace DD
open PySem L2 HotX L2H
def rLeS : R2 := fun x y H Q => ∃ i j, x = .str i ∧ y = .str j ∧ Q (.bl (!decide (j.cps.toList < i.cps.toList))) H
theorem op_leS {X : Cx} : OpR X (compareOp .LtE) rLeS := op_le_str
open PySem.Spec PyProof.Rows
section
variable {P : Program} {w : World} {K : PySem.W.Frag} {mg : Str → Option Value} {base : Heap} {B F Hb H : Hp} {m : Mem} {ρ : DD.Env}
/-- a def called while an exception is handled -/
theorem ok_DH {CX : CXT} {x qual : Str} {st : Stmt} {f : Addr} {fd : FuncData} {N ps : List Str} {k : Nat} {φ : Phi} (F : Fun K x qual st f fd) (S : FnScope N ps (defScope st)) (hl : ∀ ds m nx X, φ ds m nx X → ds.length = ps.length)
    (hbody : ∀ (cdv : Value) (A : Around) (outer : List PySem.Env) (s : Shared) (H : Hp) (E : XK) (p : Addr × Obj), HotC (cxH CX P w K mg base N qual (defScope st) f cdv A outer s H E p) → RoomH k (A.deeper (envOfC qual (defScope st) s.heap.objs.size f cdv)) →
      ∃ t, PSs (cxH CX P w K mg base N qual (defScope st) f cdv A outer s H E p) (defBody st) t ∧ BodyOk K φ N E t) : FnH P w K mg base CX (k + 1) f fd ps (spOf K φ) := by
  obtain ⟨oc, od, kV, doc, pm, an, cdv, ct, osl, rfl, lk, hcd⟩ := F.ex
  refine fn_ofH lk hcd S (spOf_len hl) fun A outer s H vs Q E p hot hr h => ?_
  obtain ⟨ds, m, F', Hb, nx, X, h1, h2, h3, h4, h5⟩ := h
  obtain ⟨t, ht, hw⟩ := hbody cdv A outer s H E p ⟨p, ⟨hot.1, hot.2⟩, List.mem_singleton_self p⟩ hr
  exact ⟨t, ht, hw ds m nx X F' Hb h3 h5 Hb H _ _ (Same.refl _) h2 (RpS.start h1) ⟨fun σ H' Hb' ρ m' e r hs q => h4 _ _ _ _ _ e r rp_s q, h4, fun _ _ _ _ _ _ _ _ z => z.elim, fun _ _ _ _ _ _ _ _ z => z.elim⟩⟩
theorem wc_dictE {Q : QD} (q : Q (.dic [] []) m) : WC K F B (HH1.rDictE K) [.lst []] m Q := fun Hb H vs R hB r hx k => by
  obtain ⟨v, rfl, hv⟩ := rpL1 hx
  unfold Rp at hv
  obtain ⟨p, us, rfl, h1, h2⟩ := hv
  cases us with
  | cons u us => exact absurd h2.length (by simp)
  | nil =>
    refine ⟨p, rfl, SqL.of (r.sub _ _ h1), fun a o ha => ?_⟩
    refine k _ _ _ (.dic [] []) _ (Same.new (r.fresh ha)) (r.data ha) ?_ q
    unfold Rp
    exact ⟨a, o, [], rfl, upd_same, RpL.nil, rfl⟩
theorem wc_listS {z : Str} {Q : QD} (hz : z.length ≤ sizeLine) (q : Q (.lst (chrs z)) m) : WC K F B HH1.rListS [.s (.str z)] m Q := fun Hb H vs R hB r hx k => by
  obtain ⟨v, rfl, hv⟩ := rpL1 hx
  unfold Rp at hv
  subst hv
  refine ⟨z, rfl, hz, fun p hp => ?_⟩
  refine k _ _ _ (.lst (chrs z)) _ (Same.new (r.fresh hp)) (r.data hp) ?_ q
  unfold Rp
  refine ⟨p, _, rfl, upd_same, ?_⟩
  have e : chrs z = (HH1.chV z).map D.s := by
    unfold chrs HH1.chV
    rw [List.map_map]
    rfl
  rw [e]
  exact RpL.ofScal _
theorem wo_leS {i j : Str} {Q : QD} (q : Q (.s (.bl (!decide (j.cps.toList < i.cps.toList)))) m) : WO K F B rLeS (.s (.str i)) (.s (.str j)) m Q := fun Hb H vx vy R hB r hx hy k => by
  unfold Rp at hx hy
  subst hx hy
  exact ⟨i, j, rfl, rfl, k.here r rp_s q⟩
theorem wi_LT {te : TE} {Q : List D → Mem → Prop} (h : WE K F B te ρ m fun x m1 => ∃ xs, (x = .lst xs ∨ x = .tup xs) ∧ Q xs m1) : WI K F B (HH1.iLT K te) ρ m Q := fun Hb H σ R hB r hs k =>
  h Hb H σ _ hB r hs fun v H1 Hb1 x m1 e1 r1 hx q1 => by
    obtain ⟨xs, hxx, q⟩ := q1
    rcases hxx with rfl | rfl
    · unfold Rp at hx
      obtain ⟨p, vs, rfl, h1, h2⟩ := hx
      exact .inl ⟨p, rfl, ⟨vs, SqL.of (r1.sub _ _ h1)⟩, k _ _ _ _ _ e1 r1 (it_list (SqL.of h1) h2) q⟩
    · unfold Rp at hx
      obtain ⟨p, vs, rfl, h1, h2⟩ := hx
      exact .inr ⟨p, rfl, ⟨vs, sameT r1.sub h1⟩, k _ _ _ _ _ e1 r1 (it_tup h1 h2) q⟩
theorem wi_ky0 {te : TE} {Q : List D → Mem → Prop} (h : WE K F B te ρ m fun x m1 => x = .dic [] [] ∧ Q [] m1) : WI K F B (HH1.iKy te) ρ m Q := fun Hb H σ R hB r hs k =>
  h Hb H σ _ hB r hs fun v H1 Hb1 x m1 e1 r1 hx q1 => by
    obtain ⟨rfl, q⟩ := q1
    unfold Rp at hx
    obtain ⟨p, o, vs, rfl, h1, _⟩ := hx
    refine ⟨p, o, rfl, [], r1.sub _ _ h1, k _ _ _ _ _ e1 r1 (fun i F' Hb2 H2 m2 e2 r2 => ⟨fun _ => ⟨r2.sub _ _ (e2 _ _ h1), Nat.zero_le _⟩, fun d hd => by simp at hd⟩) q⟩
end
end DD

/-! HBind: arguments that are left to the defaults. -/
namespace HB1
open PySem PySem.Spec PyProof.Rows L2
def det : V → Bool
  | .non => true
  | .bl _ => true
  | .ref _ => true
  | _ => false
theorem det_eq {v : V} {u u' : Value} (h : det v = true) (r : RelV v u) (r' : RelV v u') : u = u' := by
  cases v with
  | non => exact (show u = Value.none from r).trans (show u' = Value.none from r').symm
  | bl b => exact (show u = Value.bool b from r).trans (show u' = Value.bool b from r').symm
  | ref a => exact (show u = Value.ref a from r).trans (show u' = Value.ref a from r').symm
  | _ => exact nomatch h
theorem det_all : ∀ {vs : List V} {us us' : List Value}, vs.all det = true → Vals vs us → Vals vs us' → us = us'
  | [], _, _, _, .nil, .nil => rfl
  | v :: vs, _, _, h, .cons r t, .cons r' t' => by
    have h2 : (det v && vs.all det) = true := h
    rw [Bool.and_eq_true] at h2
    rw [det_eq h2.1 r r', det_all h2.2 t t']
theorem dflB {K : PySem.W.Frag} {x qual : Str} {pa : Arguments} {bo : List Stmt} {sc : Scope} {dvs : List V} {f : Addr} {fd : FuncData} {ps : List Str} {ds : List Value} (n j : Nat) (F : FunD K x qual pa bo sc dvs [] f fd) (hd : dvs ≠ []) (hv : Vals (dvs.drop j) ds) (hdet : (dvs.drop j).all det = true) (hn : n + (dvs.length - j) = ps.length)
    (h : ∀ (T : Addr) (kV doc pm : Value) (an : Option Addr) (cdv ct : Value) (us its : List Value), us.length = n → its.length = dvs.length →
      ∃ k, bindArgs (PySem.W.fnOf x qual pa bo sc (.ref T) kV doc pm an cdv ct) ⟨us, []⟩ = seqItems? (.ref T) >>= k ∧ k (some its.toArray) = pure (ps.zip (us ++ its.drop j))) : Binds K fd ps ds := by
  obtain ⟨ds', r, b⟩ := F.binds1 (ps := ps) n j hd hn h
  rw [det_all hdet hv r]
  exact b
end HB1

/-! DLend: owned lists that are walked, asked, extended, made tuples of. -/
namespace DD
open PySem L2
open PySem.Spec PyProof.Rows
section
variable {K : PySem.W.Frag} {B F Hb H : Hp} {m : Mem} {ρ : DD.Env}
/-- the memory without a, with a again -/
def offM (m : Mem) (a : Addr) : Mem := { m with own := dropM m.own a }
def onM (m : Mem) (a : Addr) (o : MO) : Mem := { m with own := putM m.own a o }
theorem on_off {a : Addr} {o : MO} (h : m.own a = some o) : onM (offM m a) a o = m := by
  unfold onM offM
  have e : putM (dropM m.own a) a o = m.own := by
    funext b
    by_cases hb : b = a
    · subst hb
      rw [putM_same, h]
    · rw [putM_ne hb, dropM_ne hb]
  rw [e]
/-- an owned list is put into the frame -/
theorem Rel.lend {a : Addr} {xs : List D} (r : Rel K F Hb H m) (h : m.own a = some (.lst xs)) : ∃ vs, RpL K Hb xs vs ∧ F a = none ∧ Rel K (upd F a (.lst vs)) Hb H (offM m a) := by
  obtain ⟨h1, vs, h2, h3⟩ := r.own a _ h
  have hF : F a = none := r.ownF h
  refine ⟨vs, h3, hF, r.sub, fun b o e => ?_, fun b mo e => ?_, nt_upd r.nt (fun _ z => nomatch z)⟩
  · by_cases hb : b = a
    · subst hb
      rw [upd_same] at e
      cases e
      exact ⟨h2, h1, dropM_same⟩
    · rw [upd_ne hb] at e
      obtain ⟨z1, z2, z3⟩ := r.fr b o e
      exact ⟨z1, z2, (dropM_ne hb).trans z3⟩
  · by_cases hb : b = a
    · subst hb
      have q : (none : Option MO) = some mo := by
        rw [← e]
        exact dropM_same.symm
      cases q
    · exact r.own b mo (by rw [← e]; exact (dropM_ne hb).symm)
theorem Rel.back {a : Addr} {xs : List D} {vs : List V} (r : Rel K (upd F a (.lst vs)) Hb H m) (hF : F a = none) (h : RpL K Hb xs vs) : Rel K F Hb H (onM m a (.lst xs)) :=
  r.take hF ⟨vs, (r.fr a _ upd_same).1, h⟩
theorem upd_swap {H : Hp} {a b : Addr} {o u : HO} (h : a ≠ b) : upd (upd H a o) b u = upd (upd H b u) a o := by
  funext c
  by_cases h1 : c = b
  · subst h1
    rw [upd_same, upd_ne h.symm, upd_same]
  · rw [upd_ne h1]
    by_cases h2 : c = a
    · subst h2
      rw [upd_same, upd_same]
    · rw [upd_ne h2, upd_ne h2, upd_ne h1]
/-- what is let out, the list lent -/
theorem OkX.lend {a : Addr} {xs : List D} {vs : List V} {X : XD} {E : XK} (h : OkX K F Hb X E) (hF : F a = none) (hv : RpL K Hb xs vs) : OkX K (upd F a (.lst vs)) Hb (fun C ns ds m => X C ns ds (onM m a (.lst xs))) E := by
  intro C d H' Hb' ns ds us m' e rX hu hl hx
  refine h C d H' Hb' ns ds us (onM m' a (.lst xs)) e ?_ hu hl hx
  cases d with
  | none => exact ⟨rX.1, rX.2.1, rX.2.2.back hF (hv.mono e)⟩
  | some dd =>
    obtain ⟨h1, r⟩ := rX
    have hne : dd ≠ a := fun z => by
      rw [z, upd_same] at h1
      cases h1
    have h2 : F dd = none := by rw [upd_ne hne] at h1; exact h1
    refine ⟨h2, ?_⟩
    rw [upd_swap hne.symm] at r
    exact r.back (by rw [upd_ne hne.symm]; exact hF) (hv.mono e)
/-- for over an owned list -/
theorem ws_forO {te : TE} {g : TG} {tb : TS} {E : DE} {a : Addr} {xs : List D} {X : XD} {EX : XK} (hE : OkX K F B X EX) (h : WE K F B te ρ m fun x m1 => x = .s (.ref a) ∧ m1.own a = some (.lst xs) ∧ ∃ I : Nat → DD.Env → Mem → Prop, I 0 ρ (offM m1 a) ∧
      (∀ F' B' i d ρ' m', Same B B' → OkX K F' B' (fun C ns ds m => X C ns ds (onM m a (.lst xs))) EX → xs[i]? = some d → I i ρ' m' → WG K F' B' g d ρ' m' fun ρ2 m2 => WS K F' B' tb ρ2 m2 { nx := I (i + 1), ct := I (i + 1), bk := fun ρ m => E.nx ρ (onM m a (.lst xs)), rt := fun d m => E.rt d (onM m a (.lst xs)) }) ∧
      (∀ ρ' m', I xs.length ρ' m' → E.nx ρ' (onM m' a (.lst xs)))) :
    WS K F B (tFor (iAny K te) g tb) ρ m E := fun Hb H σ R hB r hs k =>
  h Hb H σ _ hB r hs fun v H1 Hb1 x m1 e1 r1 hx q1 => by
    obtain ⟨rfl, ho, I, h0, ht, hd⟩ := q1
    unfold Rp at hx
    subst hx
    obtain ⟨vs, hv, hF, rL⟩ := r1.lend ho
    have hl : vs.length = xs.length := hv.length
    have hq : ∀ {H' Hb' : Hp} {m' : Mem}, Rel K (upd F a (.lst vs)) Hb' H' m' → SqL K H' a vs := fun {H' Hb' m'} r' => SqL.of (r'.fr a _ upd_same).1
    refine .inl ⟨a, rfl, ⟨vs, hq rL⟩, ?_⟩
    refine ⟨fun i n σ' H' => n = xs.length - i ∧ i ≤ xs.length ∧ ∃ Hb' ρ' m', Same Hb1 Hb' ∧ Rel K (upd F a (.lst vs)) Hb' H' m' ∧ RpS K Hb' ρ' σ' ∧ I i ρ' m', ⟨xs.length, by simp, Nat.zero_le _, Hb1, ρ, _, Same.refl _, rL, hs.mono e1, h0⟩, ?_⟩
    rintro i n σ' H' ⟨rfl, hi, Hb', ρ', m', e', r', hs', hI⟩
    by_cases hlt : i < xs.length
    · obtain ⟨u, hu, ru⟩ := hv.get (i := i) (d := xs[i]) (by simp [hlt])
      refine .inr ⟨⟨vs, u, hq r', hu⟩, fun σ2 H2 => ∃ Hb2 ρ2 m2, Same Hb1 Hb2 ∧ Rel K (upd F a (.lst vs)) Hb2 H2 m2 ∧ RpS K Hb2 ρ2 σ2 ∧ I (i + 1) ρ2 m2, fun σ2 H2 q2 => ⟨xs.length - (i + 1), by omega, rfl, hlt, q2⟩, fun x H2 y => ?_⟩
      obtain ⟨rfl, y2⟩ := y
      have hx := y2 vs (hq r')
      rw [hu] at hx
      cases hx
      have eB : Same B Hb' := (hB.trans e1).trans e'
      have hE' := (hE.mono eB).lend hF (hv.mono e')
      refine ht _ Hb' i xs[i] ρ' m' eB hE' (by simp [hlt]) hI Hb' H2 σ' _ _ (Same.refl _) r' hs' (ru.mono e') fun σ3 H3 Hb3 ρ3 m3 e3 r3 hs3 q3 => ?_
      have e13 : Same Hb1 Hb3 := e'.trans e3
      refine q3 Hb3 H3 σ3 _ e3 r3 hs3 ⟨fun σ4 H4 Hb4 ρ4 m4 e4 r4 hs4 q4 => ⟨Hb4, ρ4, m4, e13.trans e4, r4, hs4, q4⟩, fun v4 H4 Hb4 d4 m4 e4 r4 hd4 q4 => ?_, fun σ4 H4 Hb4 ρ4 m4 e4 r4 hs4 q4 => ?_, fun σ4 H4 Hb4 ρ4 m4 e4 r4 hs4 q4 => ⟨Hb4, ρ4, m4, e13.trans e4, r4, hs4, q4⟩⟩
      · exact k.rt _ _ _ _ _ ((e1.trans e13).trans e4) (r4.back hF (hv.mono (e13.trans e4))) hd4 q4
      · exact k.nx _ _ _ _ _ ((e1.trans e13).trans e4) (r4.back hF (hv.mono (e13.trans e4))) hs4 q4
    · have e : i = xs.length := by omega
      subst e
      exact .inl ⟨⟨vs, hq r', by omega⟩, k.nx _ _ _ _ _ (e1.trans e') (r'.back hF (hv.mono e')) hs' (hd _ _ hI)⟩
theorem wo_inOL {x : V} {a : Addr} {xs : List V} {Q : QD} (ho : m.own a = some (.lst (xs.map D.s))) (hx0 : flatV x = true) (hf : xs.all flatV = true) (q : Q (.s (.bl (inV x xs))) m) : WO K F B (rInA K) (.s x) (.s (.ref a)) m Q := fun Hb H vx vy R hB r hx hy k => by
  unfold Rp at hx hy
  subst hx hy
  obtain ⟨_, vs, h1, h2⟩ := r.own a _ ho
  have e := RpL.scal h2
  subst e
  exact .inl ⟨a, vs, rfl, .inl (SqL.of h1), hx0, hf, k.here r rp_s q⟩
/-- xs.extend(ys), xs owned, ys data -/
theorem we_extend {to te : TE} {Q : QD} (h : WE K F B to ρ m fun x m1 => ∃ a, x = .s (.ref a) ∧ (∃ xs, m1.own a = some (.lst xs)) ∧ WE K F B te ρ m1 fun y m2 => ∃ xs ys, m2.own a = some (.lst xs) ∧ y = .lst ys ∧ xs.length + ys.length ≤ sizeLine ∧ Q (.s .non) { m2 with own := putM m2.own a (.lst (xs ++ ys)) }) :
    WE K F B (tBM K "list" rExtA to (tCons te tNil)) ρ m Q := fun Hb H σ R hB r hs k =>
  h Hb H σ _ hB r hs fun v H1 Hb1 x m1 e1 r1 hx q1 => by
    obtain ⟨a, rfl, ⟨xs0, ho0⟩, q1⟩ := q1
    unfold Rp at hx
    subst hx
    obtain ⟨_, vs0, h0, _⟩ := r1.own a _ ho0
    refine ⟨.inl ⟨rfl, vs0, SqL.of h0⟩, ?_⟩
    refine q1 Hb1 H1 σ _ (hB.trans e1) r1 (hs.mono e1) fun u H2 Hb2 y m2 e2 r2 hy q2 => ?_
    obtain ⟨xs, ys, ho, rfl, hz, q⟩ := q2
    unfold Rp at hy
    obtain ⟨p, us, rfl, h1, h2⟩ := hy
    obtain ⟨h3, vs, h4, h5⟩ := r2.own a _ ho
    refine ⟨a, p, vs, us, rfl, rfl, h4, r2.sub _ _ h1, by rw [h5.length, h2.length]; exact hz, ?_⟩
    exact k _ _ _ (.s .non) _ (e1.trans e2) (r2.change (mo' := .lst (xs ++ ys)) ho ⟨vs ++ us, upd_same, h5.app h2⟩) rp_s q
/-- tuple(xs), xs owned -/
theorem wc_tupO {a : Addr} {xs : List D} {Q : QD} (ho : m.own a = some (.lst xs)) (q : Q (.tup xs) m) : WC K F B (rTupA K) [.s (.ref a)] m Q := fun Hb H vs R hB r hx k => by
  obtain ⟨v, rfl, hv⟩ := rpL1 hx
  unfold Rp at hv
  subst hv
  obtain ⟨_, us, h1, h2⟩ := r.own a _ ho
  refine ⟨a, us, rfl, .inl ⟨SqL.of h1, fun l hl => ?_⟩⟩
  refine k _ _ _ (.tup xs) _ (Same.new (r.fresh hl)) (r.data hl) ?_ q
  unfold Rp
  exact ⟨l, us, rfl, .inl (.inl upd_same), h2.mono (Same.new (r.fresh hl))⟩
end
end DD

/-! HTup: dicts whose keys are tuples, the key read in any way (also one that the module holds); sorted(d). -/
namespace HP1
open PySem PySem.W PySem.Calls PySem.Spec PyProof.Rows L2
open PySem.SeqAt (EqAt)
section
variable {X : Cx} {pins : List (Addr × Obj)} {σ : L2.St} {H : Hp} {s : Shared} {a b : Addr} {y v : V} {u r : Value} {o : Option V} {A : Around} {E : Value → Shared → Prop}
theorem keyq {k : List Key} (I : Inv X pins σ H s) (e : SqT X.K H b (k.map kV)) : (tupleKind (mixKind X.prog X.w)).is s.heap k b := by
  obtain ⟨its, r, ⟨o, h1, h2, n, h3⟩, _⟩ := I.tuple e
  exact ⟨o, its.toArray, n, h1, h2, h3, by simpa using items_are r⟩
/-- what the dict at a holds at the tuple y -/
def DGetQ (K : PySem.W.Frag) (H : Hp) (a : Addr) (y : V) (r : Option V) : Prop := ∃ kvs k b, Rd H a (.dT kvs) ∧ y = .ref b ∧ SqT K H b (k.map kV) ∧ r = valV kvs k
theorem dq_getItem {Q : Value → Shared → Prop} (hu : A.units + 1 < cLine) (I : Inv X pins σ H s) (g : DGetQ X.K H a y (some v)) (ry : RelV y u) (h : ∀ w' s', Inv X pins σ H s' → RelV v w' → Q w' s') :
    wpAny (model X.prog X.w) A (getItem (.ref a) u) Q E s := by
  obtain ⟨kvs, k, b, e, ey, eb, l⟩ := g
  subst ey
  cases (show u = Value.ref b from ry)
  obtain ⟨z, hd, xs, rel, dd⟩ := dt_rd I.hok e
  obtain ⟨w', hw, rw'⟩ := RelO.some_of (v := v) (o := (atKey xs k).map (·.2)) (by rw [l]; exact rel.val k)
  obtain ⟨p, hp, hp2⟩ := Option.map_eq_some_iff.mp hw
  refine wpAny_getItem_heap (tupleKind_room_in1 hu) (keyq I eb) dd hp ?_
  rw [hp2]
  exact h w' _ (I.tok _) rw'
theorem dq_in {Q : Value → Shared → Prop} (hu : A.units + 1 < cLine) (I : Inv X pins σ H s) (g : DGetQ X.K H a y o) (ry : RelV y u) (h : ∀ s', Inv X pins σ H s' → Q (.bool o.isSome) s') :
    wpAny (model X.prog X.w) A (compareOp .In u (.ref a)) Q E s := by
  obtain ⟨kvs, k, b, e, ey, eb, l⟩ := g
  subst ey
  cases (show u = Value.ref b from ry)
  obtain ⟨z, hd, xs, rel, dd⟩ := dt_rd I.hok e
  refine wpAny_in_heap (tupleKind_room_in1 hu) (keyq I eb) hd dd ?_
  have q := (rel.val k).isSome_eq
  rw [Option.isSome_map] at q
  rw [← q, ← l]
  exact h _ (I.tok _)
theorem dq_notIn {Q : Value → Shared → Prop} (hu : A.units + 1 < cLine) (I : Inv X pins σ H s) (g : DGetQ X.K H a y o) (ry : RelV y u) (h : ∀ s', Inv X pins σ H s' → Q (.bool (!o.isSome)) s') :
    wpAny (model X.prog X.w) A (compareOp .NotIn u (.ref a)) Q E s := by
  obtain ⟨kvs, k, b, e, ey, eb, l⟩ := g
  subst ey
  cases (show u = Value.ref b from ry)
  obtain ⟨z, hd, xs, rel, dd⟩ := dt_rd I.hok e
  refine wpAny_notIn_heap (tupleKind_room_in1 hu) (keyq I eb) hd dd ?_
  have q := (rel.val k).isSome_eq
  rw [Option.isSome_map] at q
  rw [← q, ← l]
  exact h _ (I.tok _)
theorem dq_get2 {d : V} {Q : Value → Shared → Prop} (hu : A.units + 1 < cLine) (I : Inv X pins σ H s) (g : DGetQ X.K H a y o) (ry : RelV y u) (rd : RelV d r) (h : ∀ w' s', Inv X pins σ H s' → RelV (o.getD d) w' → Q w' s') :
    wpAny (model X.prog X.w) A (call (.builtin "dict.get") [.ref a, u, r]) Q E s := by
  obtain ⟨kvs, k, b, e, ey, eb, l⟩ := g
  subst ey
  cases (show u = Value.ref b from ry)
  obtain ⟨z, hd, xs, rel, dd⟩ := dt_rd I.hok e
  refine call_meetsIn PySem.F.slot_dict_get dd.typeIs PySem.F.entry_dict_get (PySem.F.args_dict_get_3 _ _ _) (meetsH_dict_get_default (tupleKind (mixKind X.prog X.w)) a b hd r) ⟨tupleKind_room_in1 hu, k, xs, keyq I eb, dd, h _ _ (I.tok _) ?_⟩
  rw [l]
  exact (rel.val k).getD rd
theorem dq_typeIs (I : Inv X pins σ H s) (g : DGetQ X.K H a y o) : s.TypeIs (.ref a) "dict" := by
  obtain ⟨kvs, k, b, e, _, _, _⟩ := g
  obtain ⟨_, _, xs, _, dd⟩ := dt_rd I.hok e
  exact dd.typeIs
end
/-- y in d, y not in d -/
def rInQ (K : PySem.W.Frag) (neg : Bool) : R2 := fun y x H Q => ∃ a o, x = .ref a ∧ DGetQ K H a y o ∧ Q (.bl (if neg = true then !o.isSome else o.isSome)) H
/-- d[y] -/
def rIxQ (K : PySem.W.Frag) : R2 := fun x y H Q => ∃ a v, x = .ref a ∧ DGetQ K H a y (some v) ∧ Q v H
/-- d.get(y, z) -/
def tGetQ (K : PySem.W.Frag) (td ty tx : TE) : TE := fun σ H Q => td σ H fun x H1 => ∃ a, x = .ref a ∧ IsD H1 a ∧ ty σ H1 fun y H2 => tx σ H2 fun z H3 => ∃ o, DGetQ K H3 a y o ∧ Q (o.getD z) H3
section
variable {X : Cx} {o i e f : Expr} {pos apos cpos : Pos} {td ty tx : TE}
theorem op_inQ (hu : X.A.units + 1 < cLine) : OpR X (compareOp .In) (rInQ X.K false) := by
  intro pins s σ H y x u v Q I ry rx h
  obtain ⟨a, o, rfl, g, q⟩ := h
  obtain rfl : v = Value.ref a := rx
  exact dq_in hu I g ry fun s' I' => ⟨.bl o.isSome, H, I', rfl, q⟩
theorem op_ninQ (hu : X.A.units + 1 < cLine) : OpR X (compareOp .NotIn) (rInQ X.K true) := by
  intro pins s σ H y x u v Q I ry rx h
  obtain ⟨a, o, rfl, g, q⟩ := h
  obtain rfl : v = Value.ref a := rx
  exact dq_notIn hu I g ry fun s' I' => ⟨.bl (!o.isSome), H, I', rfl, q⟩
theorem pe_ixQ (hu : X.A.units + 1 < cLine) (ho : PE X o td) (hi : PE X i ty) (hs : NoSl i) : PE X (.Subscript o i pos) (tOp (rIxQ X.K) td ty) := by
  refine ⟨fun pins s σ H Q I h => ?_⟩
  refine subD_of PySem.F.slot_dict_getitem.lookup hs (thn (ho.run pins s σ H _ I h) fun u s1 ⟨x, H1, I1, rx, q1⟩ => thn (hi.run pins s1 σ H1 _ I1 q1) fun iv s2 ⟨y, H2, I2, ry, a, v, ex, g, q2⟩ => ?_)
  subst ex
  obtain rfl : u = Value.ref a := rx
  exact ⟨dq_typeIs I2 g, dq_getItem hu I2 g ry fun w' s3 I3 rw' => ⟨v, H2, I3, rw', q2⟩⟩
theorem pe_getQ (hu : X.A.units + 1 < cLine) (ho : PE X o td) (he : PE X e ty) (hf : PE X f tx) (m : M2 X o "get" apos e f cpos) : PE X (.Call (.Attribute o "get" apos) [e, f] [] cpos) (tGetQ X.K td ty tx) := by
  refine ⟨fun pins s σ H Q I h => ?_⟩
  refine wpAny_Call_method m.base m.few m.line PySem.F.plainAttrs_dict PySem.F.slot_dict_get PySem.F.type_dict_get (thn (ho.run pins s σ H _ I h) fun u s1 ⟨x, H1, I1, rx, a, ex, d, q1⟩ => ?_)
  subst ex
  obtain rfl : u = Value.ref a := rx
  obtain ⟨t1, t2, _⟩ := isD_at I1 d
  refine ⟨t1, t2, ?_⟩
  rw [m.trees]
  refine Calls.callWith_builtin rfl (Calls.evalArgs_plain (Calls.spliced_cons (thn (he.run pins s1 σ H1 _ I1 q1) fun iv s2 ⟨y, H2, I2, ry, q2⟩ =>
    Calls.spliced_cons (thn (hf.run pins s2 σ H2 _ I2 q2) fun fv s3 ⟨z, H3, I3, rz, ov, g, q3⟩ => Calls.spliced_nil ?_))))
  exact dq_get2 hu I3 g ry rz fun w' s4 I4 rw' => ⟨_, H3, I4, rw', q3⟩
end

/-! ### the order of tuples of texts -/
@[reducible] def txtOrd : PyProof.Rows.KeyOrd where
  α := List Nat
  blt := fun a b => decide (a < b)
  irrefl := strKind.irrefl
  trans := strKind.trans
  negTrans := strKind.negTrans
  total := strKind.total
abbrev tlt : List (List Nat) → List (List Nat) → Bool := PyProof.Rows.lexLt txtOrd
theorem tlt_swo {α : Type} (k : α → List (List Nat)) : SrtO.Swo (fun v u : α => tlt (k v) (k u)) := by
  refine ⟨fun x y h => ?_, fun x y z h1 h2 => ?_⟩
  · cases e : tlt (k y) (k x) with
    | false => rfl
    | true =>
      have := PyProof.Rows.lex_trans (O := txtOrd) _ _ _ h e
      rw [PyProof.Rows.lex_irrefl] at this
      cases this
  · cases e : tlt (k z) (k x) with
    | false => rfl
    | true =>
      rcases PyProof.Rows.lex_negTrans (O := txtOrd) _ (k y) _ e with q | q
      · exact absurd (q.symm.trans h2) (by decide)
      · exact absurd (q.symm.trans h1) (by decide)
/-- of the heap: what the texts of a tuple are -/
def cpsV : Value → List Nat
  | .str x _ => x.cps.toList
  | _ => []
def tupT (h : Heap) : Value → List (List Nat)
  | .ref a => match h.get? a with
    | some o => match o.data with
      | .seq xs _ => xs.toList.map cpsV
      | _ => []
    | none => []
  | _ => []
def TupS (h : Heap) (v : Value) (ns : List Str) : Prop := ∃ a its, v = .ref a ∧ IsTup h a its.toArray ∧ Vals (ns.map V.str) its
theorem cps_vals : ∀ {ns : List Str} {its : List Value}, Vals (ns.map V.str) its → its.map cpsV = ns.map (fun x => x.cps.toList)
  | [], its, r => by
    rw [List.map_nil] at r
    cases r
    rfl
  | n :: ns, its, r => by
    rw [List.map_cons] at r
    cases r with
    | cons h t =>
      obtain ⟨k, rfl⟩ := h
      rw [List.map_cons, List.map_cons, cps_vals t]
      rfl
theorem TupS.k {h : Heap} {v : Value} {ns : List Str} (x : TupS h v ns) : tupT h v = ns.map (fun x => x.cps.toList) := by
  obtain ⟨a, its, rfl, ⟨o, ho, hc, n, hd⟩, r⟩ := x
  unfold tupT
  simp only [ho, hd]
  exact cps_vals r
theorem TupS.keeps {h h' : Heap} {v : Value} {ns : List Str} (x : TupS h v ns) (k : ∀ b o, v = .ref b → h.get? b = some o → h'.get? b = some o) : TupS h' v ns := by
  obtain ⟨a, its, rfl, ⟨o, ho, r⟩, q⟩ := x
  exact ⟨a, its, rfl, ⟨o, k a o rfl ho, r⟩, q⟩
theorem TupS.type {M : Model} {h : Heap} {v : Value} {ns : List Str} (x : TupS h v ns) : Looks M h (typeOf v) (.type "tuple") := by
  obtain ⟨a, its, rfl, ⟨o, ho, hc, _⟩, _⟩ := x
  rw [← hc]
  exact (Looks.ld ho).andThen .now
theorem lexAt_tlt {e r : Nat → Bool} {n0 m0 : Nat} : ∀ (ns ms : List (List Nat)) (i : Nat), (∀ (j : Nat) a b, ns[j]? = some a → ms[j]? = some b → e (i + j) = decide (a = b)) → (∀ (j : Nat) a b, ns[j]? = some a → ms[j]? = some b → a ≠ b → r (i + j) = decide (a < b)) → n0 = i + ns.length → m0 = i + ms.length →
    Ob.lexAt e r (decide (n0 < m0)) i (min ns.length ms.length) = tlt ns ms
  | [], [], i, _, _, h1, h2 => by
    subst h1 h2
    simp [Ob.lexAt, tlt, PyProof.Rows.lexLt]
  | [], m :: ms, i, _, _, h1, h2 => by
    subst h1 h2
    simp [Ob.lexAt, tlt, PyProof.Rows.lexLt]
  | n :: ns, [], i, _, _, h1, h2 => by
    subst h1 h2
    simp [Ob.lexAt, tlt, PyProof.Rows.lexLt]
  | n :: ns, m :: ms, i, he, hr, h1, h2 => by
    have em : min (n :: ns).length (m :: ms).length = min ns.length ms.length + 1 := by simp only [List.length_cons]; omega
    rw [em, Ob.lexAt_succ]
    have e0 := he 0 n m rfl rfl
    rw [Nat.add_zero] at e0
    by_cases hnm : n = m
    · rw [e0, decide_eq_true hnm, if_pos rfl, lexAt_tlt ns ms (i + 1) (fun j a b q1 q2 => by
        have := he (j + 1) a b (by simpa using q1) (by simpa using q2)
        rw [← this]
        congr 1
        omega) (fun j a b q1 q2 q3 => by
        have := hr (j + 1) a b (by simpa using q1) (by simpa using q2) q3
        rw [← this]
        congr 1
        omega) (by rw [h1]; simp only [List.length_cons]; omega) (by rw [h2]; simp only [List.length_cons]; omega)]
      subst hnm
      exact (PyProof.Rows.lex_self (O := txtOrd) n ns ms).symm
    · have r0 := hr 0 n m rfl rfl hnm
      rw [Nat.add_zero] at r0
      rw [e0, decide_eq_false hnm, if_neg Bool.false_ne_true, r0]
      exact (PyProof.Rows.lex_diff (O := txtOrd) hnm).symm
section
variable {prog : Program} {w : World} {A : Around} {E : Value → Shared → Prop} {s : Shared}
theorem call_ltT {a b : Addr} {i1 i2 : List Value} {ns ms : List Str} {Q : Value → Shared → Prop} (ha : IsTup s.heap a i1.toArray) (hb : IsTup s.heap b i2.toArray) (ra : Vals (ns.map V.str) i1) (rb : Vals (ms.map V.str) i2)
    (h : Q (.bool (tlt (ns.map fun x => x.cps.toList) (ms.map fun x => x.cps.toList))) s) : wpAny (model prog w) A (call (.builtin "tuple.__lt__") [.ref a, .ref b]) Q E s := by
  have tya := ha.typeIs
  obtain ⟨⟨cls, dd, data, sl⟩, ho, hc, n, hd⟩ := id ha
  obtain ⟨⟨cls2, dd2, data2, sl2⟩, ho2, hc2, n2, hd2⟩ := id hb
  simp only at hc hd hc2 hd2
  subst hc hd hc2 hd2
  have get : ∀ {ns : List Str} {its : List Value} {j : Nat}, Vals (ns.map V.str) its → (hj : j < its.toArray.size) → ∃ x t, ns[j]? = some x ∧ its.toArray[j] = .str x t := fun {ns its j} r hj => by
    have hj' : j < its.length := by simpa using hj
    have hl := r.length
    rw [List.length_map] at hl
    have hk : ns[j]? = some ns[j] := List.getElem?_eq_getElem (by omega)
    obtain ⟨v, ev, rv⟩ := r.get (i := j) (by rw [List.getElem?_map, hk]; rfl)
    obtain ⟨t, rfl⟩ := rv
    refine ⟨ns[j], t, hk, ?_⟩
    rw [List.getElem?_eq_getElem hj'] at ev
    simpa using Option.some.inj ev
  let f : Str → List Nat := fun x => x.cps.toList
  have el : ∀ x y : Str, decide (f x = f y) = (x == y) := fun x y => by
    by_cases z : x = y
    · subst z
      simp
    · have z' : f x ≠ f y := fun q => z (by
        cases x with | mk x => cases y with | mk y => 
        congr 1
        exact Array.toList_inj.mp q)
      rw [decide_eq_false z']
      exact (beq_eq_false_iff_ne.mpr z).symm
  have L1 : ns.length = i1.length := by have := ra.length; rw [List.length_map] at this; exact this
  have L2' : ms.length = i2.length := by have := rb.length; rw [List.length_map] at this; exact this
  let e : Nat → Bool := fun j => decide ((ns.map f)[j]? = (ms.map f)[j]?)
  let r : Nat → Bool := fun j => match (ns.map f)[j]?, (ms.map f)[j]? with | some x, some y => decide (x < y) | _, _ => false
  have P1 : ∀ j (h1 : j < i1.toArray.size) (h2 : j < i2.toArray.size), EqAt A.in1 s i1.toArray[j] i2.toArray[j] (e j) := fun j h1 h2 => by
    obtain ⟨x, t, e1, e2⟩ := get ra h1
    obtain ⟨y, u, e3, e4⟩ := get rb h2
    have ee : e j = (x == y) := by
      show decide ((ns.map f)[j]? = (ms.map f)[j]?) = _
      rw [List.getElem?_map, List.getElem?_map, e1, e3, ← el x y]
      simp
    rw [e2, e4, ee]
    exact EqAt.str_str x t y u
  have P2 : ∀ j (h1 : j < i1.toArray.size) (h2 : j < i2.toArray.size), e j = false → Ob.RcOp .Lt A.in1 s i1.toArray[j] i2.toArray[j] (r j) := fun j h1 h2 _ => by
    obtain ⟨x, t, e1, e2⟩ := get ra h1
    obtain ⟨y, u, e3, e4⟩ := get rb h2
    have er : r j = decide (f x < f y) := by
      show (match (ns.map f)[j]?, (ms.map f)[j]? with | some x, some y => decide (x < y) | _, _ => false) = _
      rw [List.getElem?_map, List.getElem?_map, e1, e3]
      rfl
    rw [e2, e4, er]
    exact fun prog w E Q h => PySem.P.lt_str h
  have P3 : wants Q E (.ok (.ret (.bool (Ob.lexAt e r (decide (i1.toArray.size < i2.toArray.size)) 0 (min i1.toArray.size i2.toArray.size))))) s := by
    have q := lexAt_tlt (e := e) (r := r) (n0 := i1.toArray.size) (m0 := i2.toArray.size) (ns.map f) (ms.map f) 0 (fun j a b e1 e2 => by
      rw [Nat.zero_add]
      show decide ((ns.map f)[j]? = (ms.map f)[j]?) = _
      rw [e1, e2]
      simp) (fun j a b e1 e2 _ => by
      rw [Nat.zero_add]
      show (match (ns.map f)[j]?, (ms.map f)[j]? with | some x, some y => decide (x < y) | _, _ => false) = _
      rw [e1, e2]) (by simp [L1]) (by simp [L2'])
    rw [show min i1.toArray.size i2.toArray.size = min (ns.map f).length (ms.map f).length from by simp [L1, L2'], q]
    exact h
  have M := Ob.tuple_ltAt a b i1.toArray i2.toArray n n2 dd dd2 sl sl2 e r prog w A (wants Q E) s ⟨ho, ho2, P1, P2, P3⟩
  refine wpAny_call (codeAny_call_builtin PySem.F.slot_tuple_lt.plain PySem.F.entry_tuple_lt (PySem.F.slot_tuple_lt.check _ _ _ _ _ _ _ _ tya (PySem.F.args_tuple_lt_2 _ _) (wpAny_mono M (fun fin s' q => ?_) fun _ _ z => z)))
  cases fin with
  | done f => exact q
  | again c => exact q
theorem lt_tupS {v u : Value} {ns ms : List Str} {Q : Bool → Shared → Prop} (hu : A.units < cLine) (hv : TupS s.heap v ns) (hw : TupS s.heap u ms) (h : Q (tlt (tupT s.heap v) (tupT s.heap u)) s) : wpAny (model prog w) A (keyLt' oneType' v u) Q E s := by
  rw [hv.k, hw.k] at h
  have tv : Looks (model prog w) s.heap (typeOf v) (.type "tuple") := hv.type
  have sp : Looks (model prog w) s.heap (specialOf v "__lt__") (some (.builtin "tuple.__lt__")) := tv.andThen (Looks.of_pure PySem.F.slot_tuple_lt.lookup)
  obtain ⟨a, i1, rfl, ga, ia⟩ := hv
  obtain ⟨b, i2, rfl, gb, ib⟩ := hw
  rw [keyLt'_oneType, oneLt'_eq]
  simp only [if_true]
  refine wpAny_bind (wpAny_cRoomFor hu ?_)
  refine wpAny_bind (NtL.csib (E := E) sp (PySem.F.slot_tuple_lt.bind _) (call_ltT ga gb ia ib ?_))
  exact wpAny_truthy_bool h
theorem first_of {M : Model} {v : Value} {ns : List Str} {Q : Option Value → Shared → Prop} (x : TupS s.heap v ns) (h : ∀ o, (ns = [] → o = none) → Q o s) : wpAny M A (firstOfTuple' v) Q E s := by
  have tv := x.type (M := M)
  obtain ⟨a, its, rfl, ⟨o, ho, hc, n, hd⟩, r⟩ := x
  rw [kas_first_eq]
  refine wpAny_bind (tv.here ?_)
  rw [if_neg (by first | decide | simp)]
  refine wpAny_bind (listItems_at ho hd (wpAny_pure (h _ fun e => ?_)))
  subst e
  cases r
  rfl
theorem firsts_in {M : Model} : ∀ (vs : List Value) {Q : List (Option Value) → Shared → Prop}, (∀ v ∈ vs, ∃ ns, TupS s.heap v ns) → (∀ os : List (Option Value), os.length = vs.length → (∀ v r, vs = v :: r → TupS s.heap v [] → ∃ os', os = none :: os') → Q os s) → wpAny M A (vs.mapM firstOfTuple') Q E s
  | [], Q, _, h => by
    rw [List.mapM_nil]
    exact wpAny_pure (h [] rfl fun v r e => by cases e)
  | v :: vs, Q, hv, h => by
    obtain ⟨ns, x⟩ := hv v List.mem_cons_self
    rw [List.mapM_cons]
    refine wpAny_bind (first_of x fun o ho => wpAny_bind (firsts_in vs (Q := fun bs s' => wpAny M A (pure (o :: bs)) Q E s') (fun u hu => hv u (List.mem_cons_of_mem _ hu)) fun os hl _ => wpAny_pure (h _ (by simp [hl]) fun v' r e t0 => ?_)))
    cases e
    have e2 : ns = [] := by
      have k1 := x.k
      rw [t0.k] at k1
      cases ns with
      | nil => rfl
      | cons a r => cases k1
    exact ⟨os, by rw [ho e2]⟩
theorem kind_in {M : Model} {v : Value} {vs : List Value} {Q : SortKind → Shared → Prop} (hv : ∀ u ∈ v :: vs, ∃ ns, TupS s.heap u ns) (h0 : TupS s.heap v []) (h : Q oneType' s) : wpAny M A (keyKind' (v :: vs).toArray) Q E s := by
  rw [keyKind'_eq, List.mapM_toArray, map_eq_pure_bind]
  refine wpAny_bind (wpAny_bind (firsts_in (v :: vs) hv fun os hl hos => wpAny_pure ?_))
  obtain ⟨os', rfl⟩ := hos v vs rfl h0
  rw [if_neg (by simp), if_neg (by simp)]
  rw [oneTypeOnly'_eq, List.mapM_toArray, map_eq_pure_bind]
  refine wpAny_bind (wpAny_bind (wpAny_bind (kas_mapM (r := Value.type "tuple") _ (fun u hu Q' hq => by
    obtain ⟨ns, x⟩ := hv u hu
    exact x.type.here hq) (wpAny_pure ?_))))
  have hall : ((List.map (fun _ => Value.type "tuple") (v :: vs)).toArray.all fun x => x == Value.type "tuple") = true := by
    simp only [List.all_toArray, List.all_map, List.all_eq_true]
    intro _ _
    rfl
  have h0 : (List.map (fun _ => Value.type "tuple") (v :: vs)).toArray[0]? = some (Value.type "tuple") := by simp
  rw [h0]
  simp only [hall, if_true]
  exact wpAny_pure (wpAny_pure h)
theorem tupT_eq {h h' : Heap} {v : Value} {ns : List Str} (x : TupS h v ns) (y : TupS h' v ns) : tupT h v = tupT h' v := by rw [x.k, y.k]
theorem sortable {a : Addr} {vs : List Value} (hu : A.units < cLine) (hv : ∀ u ∈ vs, ∃ ns, TupS s.heap u ns) (h0 : ∃ v r, vs = v :: r ∧ TupS s.heap v []) (ha : ∀ u ∈ vs, u ≠ .ref a) :
    SrtO.SortableO prog w A s a vs fun x y => tlt (tupT s.heap x) (tupT s.heap y) := by
  obtain ⟨v, vs, rfl, h0⟩ := h0
  intro h' keep
  have kp : ∀ u ∈ v :: vs, ∀ ns, TupS s.heap u ns → TupS h' u ns := fun u hm ns x => x.keeps fun b o e g => keep b o (fun z => ha u hm (by rw [e, z])) g
  refine ⟨oneType', fun Q E hq => kind_in (s := { s with heap := h' }) (fun u hm => ?_) (kp v List.mem_cons_self _ h0) hq, fun p q hp hq => ?_⟩
  · obtain ⟨ns, x⟩ := hv u hm
    exact ⟨ns, kp u hm ns x⟩
  · obtain ⟨n1, x1⟩ := hv p.1 hp
    obtain ⟨n2, x2⟩ := hv q.1 hq
    refine lt_tupS (s := { s with heap := h' }) hu (kp _ hp _ x1) (kp _ hq _ x2) ⟨rfl, ?_⟩
    show tlt (tupT h' p.1) (tupT h' q.1) = tlt (tupT s.heap p.1) (tupT s.heap q.1)
    rw [tupT_eq x1 (kp _ hp _ x1), tupT_eq x2 (kp _ hq _ x2)]
end
/-! ### sorted(d) -/
theorem perm_map_ex {α β : Type} {f : α → β} {l m : List β} (h : l.Perm m) : ∀ {ks : List α}, m = ks.map f → ∃ zs : List α, zs.Perm ks ∧ l = zs.map f := by
  induction h with
  | nil => 
    intro ks e
    exact ⟨ks, List.Perm.refl _, e⟩
  | cons x h ih =>
    intro ks e
    cases ks with
    | nil => cases e
    | cons k ks =>
      rw [List.map_cons] at e
      injection e with e1 e2
      obtain ⟨zs, z1, z2⟩ := ih e2
      exact ⟨k :: zs, z1.cons k, by rw [List.map_cons, z2, e1]⟩
  | swap x y l =>
    intro ks e
    match ks, e with
    | [], e => cases e
    | [k], e => cases e
    | k1 :: k2 :: ks, e =>
      rw [List.map_cons, List.map_cons] at e
      injection e with e1 e2
      injection e2 with e2 e3
      exact ⟨k2 :: k1 :: ks, List.Perm.swap _ _ _, by rw [List.map_cons, List.map_cons, e1, e2, e3]⟩
  | trans h1 h2 ih1 ih2 =>
    intro ks e
    obtain ⟨zs, z1, z2⟩ := ih2 e
    obtain ⟨ys, y1, y2⟩ := ih1 z2
    exact ⟨ys, y1.trans z1, y2⟩
abbrev cpsT (k : List Str) : List (List Nat) := k.map fun x => x.cps.toList
abbrev inrs (k : List Str) : List Key := k.map Sum.inr
def unT (k : List Key) : List Str := k.filterMap fun | .inr x => some x | .inl _ => none
theorem un_in : ∀ k : List Str, unT (inrs k) = k
  | [] => rfl
  | x :: k => by
    show unT (Sum.inr x :: inrs k) = _
    unfold unT
    rw [List.filterMap_cons]
    show x :: unT (inrs k) = _
    rw [un_in k]
theorem kV_inrs (k : List Str) : (inrs k).map kV = k.map V.str := by
  rw [List.map_map]
  rfl
/-- sorted(d): the keys are tuples of texts, the first one has none -/
def rSortedT : List V → Hp → VK → Prop := fun vs H Q => ∃ (a : Addr) (ks : List (List Str)) (ws : List V), vs = [.ref a] ∧ Rd H a (.dT ((ks.map inrs).zip ws)) ∧ ks.length = ws.length ∧ (∃ r, ks = [] :: r) ∧
  ∀ (p : Addr) (zs : List (Addr × List Str)), H p = none → (zs.map (·.2)).Perm ks → (zs.map (·.2)).Pairwise (fun x y => tlt (cpsT y) (cpsT x) = false) → (∀ z ∈ zs, H z.1 = some (.tup (z.2.map V.str))) → Q (.ref p) (upd H p (.lst (zs.map fun z => V.ref z.1)))
section
variable {X : Cx}
theorem call_sortedT (hc : X.calm = true) (hu : X.A.units + 64 < cLine) : CallR X (.builtin "sorted") rSortedT := by
  intro pins s σ H xs us Q I r h
  obtain ⟨d, ks, ws, rfl, hd, hl, ⟨r0, h0⟩, q⟩ := h
  obtain ⟨u, rfl, rx⟩ := r.one
  cases rx
  obtain ⟨z, hs, ks', pr, o, es, ep, ho, hx, hdt, he, hn⟩ := (show ObjOk X.prog X.w H s.heap d (.dT ((ks.map inrs).zip ws)) from hd.ok I.hok)
  have l1 : es.size = ks'.length := size_of_entries he
  have l2 : ((ks.map inrs).zip ws).length = ks'.length := Paired.length pr
  have ek : ks'.map (·.1) = ks.map inrs := by
    have e : ∀ {l : List (List Key × V)} {m : List (List Key × Addr × Value)}, KT H l m → m.map (·.1) = l.map (·.1) := by
      intro l m q
      induction q with
      | nil => rfl
      | cons h t ih => rw [List.map_cons, List.map_cons, ih, h.1]
    rw [e pr, List.map_fst_zip (by simp [hl])]
  have hm : ∀ x ∈ ks', x.1 = inrs (unT x.1) ∧ H x.2.1 = some (.tup ((unT x.1).map V.str)) := fun x hx => by
    have e1 : x.1 = inrs (unT x.1) := by
      have : x.1 ∈ ks'.map (·.1) := List.mem_map_of_mem hx
      rw [ek] at this
      obtain ⟨k, _, e⟩ := List.mem_map.mp this
      rw [← e, un_in]
    refine ⟨e1, ?_⟩
    have e : ∀ {l : List (List Key × V)} {m : List (List Key × Addr × Value)}, KT H l m → ∀ x ∈ m, H x.2.1 = some (.tup (x.1.map kV)) := by
      intro l m q
      induction q with
      | nil =>
        intro x hx
        cases hx
      | cons h t ih =>
        intro x hx
        rcases List.mem_cons.mp hx with e | hx
        · subst e
          rw [← h.1]
          exact h.2.1
        · exact ih x hx
    rw [e pr x hx, ← kV_inrs, ← e1]
  have eu : ks'.map (fun x => unT x.1) = ks := by
    have := congrArg (List.map unT) ek
    rw [List.map_map, List.map_map] at this
    rw [show (fun x : List Key × Addr × Value => unT x.1) = unT ∘ (·.1) from rfl, this]
    rw [show unT ∘ inrs = id from funext un_in, List.map_id]
  refine Calls.call_function_entry PyProof.Rows.kind_sorted PyProof.Rows.plain_sorted PyProof.Rows.entry_sorted (PyProof.Rows.args_sorted1 _) ?_
  unfold Builtin.«sorted»
  refine wpAny_bind (m := checkCount "sorted" 1 1 _) (wpAny_pure ?_)
  refine wpAny_bind (PySem.W.kdu_collect (A := X.A.in1) (kdl_raw hs hx hdt) (I.ok.hd hc) ho (by omega) fun h' tk acc hk hacc => ?_)
  have ea : acc.toList = ks'.map fun x => Value.ref x.2.1 := by
    have hl : acc.toList.length = ks'.length := by rw [Array.length_toList, hacc.1]; exact l1
    apply List.ext_getElem?
    intro j
    rw [List.getElem?_map]
    cases hj : acc.toList[j]? with
    | none =>
      have h1 := List.getElem?_eq_none_iff.mp hj
      rw [List.getElem?_eq_none (by omega)]
      all_goals rfl
    | some v =>
      obtain ⟨en, hen, hv⟩ := hacc.2 j v (by rw [← Array.getElem?_toList]; exact hj)
      have qe := entry_at he j
      rw [hen] at qe
      cases hb : ks'[j]? with
      | none =>
        rw [hb] at qe
        exact nomatch (show some en = none from qe)
      | some b =>
        rw [hb] at qe
        have e2 : en = entryOfKey (tupleKind (mixKind X.prog X.w)) b := Option.some.inj qe
        rw [hv, e2]
        all_goals rfl
  have I1 : Inv X pins σ H { s with heap := h', toks := tk } := I.kept hk
  have hz : acc.toList.length ≤ sizeLine := by rw [ea, List.length_map]; omega
  refine wpAny_bind (wpAny_newList ?_ hz)
  have hoL : (h'.push (seqObj "list" acc.toList.toArray 0)).get? h'.objs.size = some (seqObj "list" acc.toList.toArray 0) := Heap.get?_push_size _ rfl
  show wpAny _ _ _ _ _ { s with heap := h'.push (seqObj "list" acc.toList.toArray 0), toks := tk }
  have tup : ∀ x ∈ ks', TupS (h'.push (seqObj "list" acc.toList.toArray 0)) (Value.ref x.2.1) (unT x.1) := fun x hx => by
    obtain ⟨_, its, rv, p⟩ := (show ObjOk X.prog X.w H h' x.2.1 (.tup ((unT x.1).map V.str)) from I1.hok _ _ (hm x hx).2)
    exact ⟨x.2.1, its, rfl, p.keeps fun b o e => Heap.get?_push_of_some _ e, rv⟩
  obtain ⟨x0, xr, ex0⟩ : ∃ x0 xr, ks' = x0 :: xr := by
    cases ks' with
    | nil =>
      rw [h0] at eu
      cases eu
    | cons x0 xr => exact ⟨x0, xr, rfl⟩
  have u0 : unT x0.1 = [] := by
    rw [ex0, h0, List.map_cons] at eu
    injection eu
  have eac : acc.toList = Value.ref x0.2.1 :: xr.map fun x => Value.ref x.2.1 := by rw [ea, ex0, List.map_cons]
  have hmem : ∀ u ∈ acc.toList, ∃ x ∈ ks', u = Value.ref x.2.1 := fun u hu => by
    rw [ea] at hu
    obtain ⟨x, hx, e⟩ := List.mem_map.mp hu
    exact ⟨x, hx, e.symm⟩
  refine wpAny_bind (wpAny_holding (wpAny_call_entry PyProof.Rows.slot_list_sort ⟨_, hoL, rfl⟩ PyProof.Rows.entry_list_sort
    (SrtO.list_sort_ord (s := { s with heap := h'.push (seqObj "list" acc.toList.toArray 0), toks := tk }) (tlt_swo fun v => tupT (h'.push (seqObj "list" acc.toList.toArray 0)) v) hoL hz (fun h2 => ?_) fun out h1 h2 => ⟨_, rfl, ?_⟩)
    (PyProof.Rows.args_list_sort _)))
  · refine sortable (s := { s with heap := h'.push (seqObj "list" acc.toList.toArray 0), toks := tk }) ?_ (fun u hu => ?_) ?_ fun u hu e => ?_
    · simp only [Around.in1_units]
      omega
    · obtain ⟨x, hx, e⟩ := hmem u hu
      rw [e]
      exact ⟨_, tup x hx⟩
    · have := tup x0 (by rw [ex0]; exact List.mem_cons_self)
      rw [u0] at this
      exact ⟨_, _, eac, this⟩
    · obtain ⟨x, hx, e'⟩ := hmem u hu
      rw [e'] at e
      have hxx : x.2.1 = h'.objs.size := Value.ref.inj e
      obtain ⟨o', ho'⟩ : ∃ o', h'.get? x.2.1 = some o' := by
        obtain ⟨_, its, rv, ⟨o', ho', _⟩⟩ := (show ObjOk X.prog X.w H h' x.2.1 (.tup ((unT x.1).map V.str)) from I1.hok _ _ (hm x hx).2)
        exact ⟨o', ho'⟩
      have lt := Heap.lt_size ho'
      rw [hxx] at lt
      exact absurd lt (Nat.lt_irrefl _)
  · obtain ⟨e', he'⟩ := PyProof.Rows.sortedHeap_at (vs := acc.toList) (out := out.toArray) hoL
    obtain ⟨zs, zp, ze⟩ := perm_map_ex (f := fun x : List Key × Addr × Value => Value.ref x.2.1) h2.perm ea
    have hzm : ∀ x ∈ zs, x ∈ ks' := fun x hx => zp.mem_iff.mp hx
    have hlen : ((zs.map fun x => (x.2.1, unT x.1)).map fun z => V.ref z.1).length ≤ sizeLine := by
      rw [List.length_map, List.length_map, zp.length_eq]
      omega
    have rvo : Vals ((zs.map fun x => (x.2.1, unT x.1)).map fun z => V.ref z.1) out := by
      rw [ze, List.map_map]
      have : ∀ zs : List (List Key × Addr × Value), Vals (zs.map ((fun z : Addr × List Str => V.ref z.1) ∘ fun x => (x.2.1, unT x.1))) (zs.map fun x => Value.ref x.2.1) := by
        intro zs
        induction zs with
        | nil => exact .nil
        | cons x r ih => exact .cons rfl ih
      exact this zs
    refine wpAny_pure ⟨_, rfl, .ref h'.objs.size, upd H h'.objs.size (.lst ((zs.map fun x => (x.2.1, unT x.1)).map fun z => V.ref z.1)), I1.laid (t' := tk) (fun b u e => ?_) (Nat.le_refl _)
      (show ObjOk X.prog X.w _ _ _ (.lst _) from ⟨hlen, out, e', rvo, he'⟩), rfl, q _ _ (I1.hok.fresh (Nat.le_refl _)) ?_ ?_ ?_⟩
    · have hb : b < h'.objs.size := Heap.lt_size e
      rw [PyProof.Rows.sortedHeap_old (Nat.ne_of_lt hb) (by rw [size_push']; exact Nat.lt_succ_of_lt hb)]
      exact Heap.get?_push_of_some _ e
    · rw [List.map_map]
      have := zp.map fun x => unT x.1
      rw [eu] at this
      exact this
    · rw [List.map_map]
      rw [ze] at h1
      have h3 := List.pairwise_map.mp h1
      refine List.pairwise_map.mpr (h3.imp_of_mem fun {x y} hx hy g => ?_)
      have k1 := (tup x (hzm x hx)).k
      have k2 := (tup y (hzm y hy)).k
      show tlt (cpsT (unT y.1)) (cpsT (unT x.1)) = false
      rw [← show tupT _ _ = cpsT (unT x.1) from k1, ← show tupT _ _ = cpsT (unT y.1) from k2]
      exact g
    · intro z hz
      obtain ⟨x, hx, e⟩ := List.mem_map.mp hz
      subst e
      exact (hm x (hzm x hx)).2
end
/-! ### a display with tuple keys -/
section
variable {X : Cx} {pins : List (Addr × Obj)} {σ : L2.St} {H : Hp} {s : Shared} {a b : Addr} {A : Around} {E : Value → Shared → Prop}
theorem set_step {kvs : List (List Key × V)} {k : List Key} {v : V} {r : Value} {Q : Unit → Shared → Prop} (hu : A.units + 1 < cLine) (I : Inv X pins σ H s) (e : H a = some (.dT kvs)) (eb : H b = some (.tup (k.map kV))) (l : kvs.length < sizeLine) (rv : RelV v r)
    (h : ∀ s', Inv X pins σ (upd H a (.dT (putK kvs k v))) s' → Q () s') : wpAny (model X.prog X.w) A (dictSet a (.ref b) r) Q E s := by
  obtain ⟨z, hd, xs, rel, dd⟩ := dt_of I.hok e
  have hz : xs.length ≤ sizeLine := by rw [← Paired.length rel]; exact z
  have hl : (putK kvs k v).length ≤ sizeLine := by have := length_putK kvs k v; omega
  refine wpAny_dictSet_heap (hsz := hz) (show Around.units _ < cLine by omega) (key_of I.hok eb) dd fun h' dd' hs => h _ ?_
  obtain ⟨q, es, ep, hq, h2, h3, h4, _, h5⟩ := dd'
  refine d_write I (by rw [e]; exact True.intro) hs ⟨q, hq⟩ ⟨hl, hd, _, (rel.put k eb rv).keeps fun c ys ec => ?_, q, es, ep, hq, h2, h3, h4, h5⟩
  rw [upd_ne (ne_of ec e (fun z => nomatch z))]
  exact ec
abbrev putAll (kvs : List (List Key × V)) (zs : List (List Key × Addr × V)) : List (List Key × V) := zs.foldl (fun acc z => putK acc z.1 z.2.2) kvs
theorem store_all (hu : A.units + 1 < cLine) : ∀ (zs : List (List Key × Addr × V)) (vs : List (Value × Value)) (kvs : List (List Key × V)) (H : Hp) (s : Shared) (Q : PUnit → Shared → Prop), VV (zs.map fun z => (V.ref z.2.1, z.2.2)) vs → Inv X pins σ H s → H a = some (.dT kvs) → kvs.length + zs.length ≤ sizeLine →
    (∀ z ∈ zs, H z.2.1 = some (.tup (z.1.map kV))) → (∀ s', Inv X pins σ (upd H a (.dT (putAll kvs zs))) s' → Q PUnit.unit s') →
    wpAny (model X.prog X.w) A (forIn vs PUnit.unit fun (x : Value × Value) (_ : PUnit) => (do dictSet a x.1 x.2; pure (ForInStep.yield PUnit.unit) : Sem (ForInStep PUnit))) Q E s
  | [], vs, kvs, H, s, Q, r, I, e, hz, ht, h => by
    rw [List.map_nil] at r
    cases r
    rw [List.forIn_nil]
    refine wpAny_pure (h s ?_)
    have : upd H a (.dT (putAll kvs [])) = H := by
      funext b
      unfold upd
      split
      · rename_i z
        rw [z, e]
        rfl
      · rfl
    rw [this]
    exact I
  | z :: zs, vs, kvs, H, s, Q, r, I, e, hz, ht, h => by
    rw [List.map_cons] at r
    cases r with
    | @cons p q ps qs r1 t =>
      obtain ⟨q1, q2⟩ := q
      have r2 : RelV (V.ref z.2.1) q1 := r1.1
      cases r2
      rw [List.forIn_cons]
      rw [List.length_cons] at hz
      refine wpAny_bind (wpAny_bind (set_step hu I e (ht z List.mem_cons_self) (by omega) r1.2 fun s' I' => wpAny_pure ?_))
      refine store_all hu zs qs (putK kvs z.1 z.2.2) _ s' Q t I' upd_same (by have := length_putK kvs z.1 z.2.2; omega) (fun y hy => ?_) fun s2 I2 => h s2 ?_
      · have ey := ht y (List.mem_cons_of_mem _ hy)
        rw [upd_ne (ne_of ey e (fun z => nomatch z))]
        exact ey
      · rw [upd_upd] at I2
        exact I2
end
/-- {k: v, ..} with keys tuples; the new dict stands empty while the pairs are made -/
def tDispT (trs : List (TE × TE)) : TE := fun σ H Q => ∀ p, H p = none → tPairs trs σ (upd H p (.dT [])) fun ps H2 => H2 p = some (.dT []) ∧ ∃ zs : List (List Key × Addr × V), ps = zs.map (fun z => (V.ref z.2.1, z.2.2)) ∧ zs.length ≤ 15 ∧
  (∀ z ∈ zs, H2 z.2.1 = some (.tup (z.1.map kV))) ∧ Q (.ref p) (upd H2 p (.dT (putAll [] zs)))
theorem pe_dispT {X : Cx} {pos : Pos} {keys : List (Option Expr)} {values : List Expr} {trs : List (TE × TE)} (hu : X.A.units + 2 < cLine) (h : PPs X pos keys values trs) (hall : keys.all (·.isSome) = true := by rfl) (hl : keys.length = values.length := by rfl) (h0 : keys ≠ [] := by simp)
    (h15 : keys.length ≤ 15 := by decide) : PE X (.Dict keys values pos) (tDispT trs) := by
  refine ⟨fun pins s σ H Q I q => ?_⟩
  have hn := I.hok.fresh (Nat.le_refl s.heap.objs.size)
  have I1 := I.laid (a := s.heap.objs.size) (o := .dT []) (h' := s.heap.push { cls := .type "dict", data := .dict #[] }) (t' := s.toks) (fun _ _ q => Heap.get?_push_of_some _ q) (Nat.le_refl _) (dt_empty s.heap I.big)
  have hn2 := pairTrees_length keys values X.env pos hall hl
  rw [arm_eval_Dict, zip_pairTrees keys values X.env pos hall hl, dictDisplay_pairs _ (fun he => by
    rw [he] at hn2
    exact h0 (List.length_eq_zero_iff.mp hn2.symm)) (by omega)]
  refine wpAny_bind (wpAny_standAt (wpAny_bind ?_))
  unfold subDict
  refine wpAny_bind (wpAny_alloc ?_)
  refine wpAny_bind (wpAny_holding ?_)
  rw [if_pos (by omega)]
  refine wpAny_bind (thn (h.run pins _ σ _ _ I1 (q _ hn)) fun ws s2 ⟨ps, H2, I2, rel, e, zs, ep, l15, ht, q2⟩ => ?_)
  subst ep
  refine wpAny_holding (wpAny_bind (store_all (a := s.heap.objs.size) (by omega) zs ws [] H2 s2 _ rel I2 e (by rw [sizeLine_eq, List.length_nil]; omega) ht fun s' I' => ?_))
  exact wpAny_pure (wpAny_pure (wpAny_pure ⟨.ref s.heap.objs.size, _, I', rfl, q2⟩))

/-! ### o.m(e, .., k = v, ..) -/
def tMethN (C : Addr) (m : Str) (n l : Nat) (sp : Sp) (gV : List V → List V → List V) (E : XK) (ta : TE) (t tk : TA) : TE := fun σ H Q => ta σ H fun x H1 => ∃ a dx fs, x = .ref a ∧ H1 a = some (.ins C dx fs) ∧ fs.lookup m = none ∧
  t σ H1 fun vs H2 => tk σ H2 fun zs H3 => vs.length = n ∧ zs.length = l ∧ sp (gV (.ref a :: vs) zs) H3 Q E
section
variable {X : Cx} {CX : CXT} {k n : Nat} {f C : Addr} {fd : FuncData} {ps ks : List Str} {sp : Sp} {E : XK} {m : Str} {apos pos : Pos} {o e : Expr} {es : List Expr} {kws : List Keyword} {ta : TE} {t tk : TA} {g : List Value → List Value → List Value} {gV : List V → List V → List V}
theorem pe_methN {pl : Sem Bool} (he : PE X o ta) (c : Cls X.K C) (hm : Meth X.K C m f) (F : FnOk X.prog X.w X.K X.mg X.base CX k f fd ps sp) (hr : Room k X.A) (hb : KBn X.K fd ps (n + 1) ks g gV) (hx : Passes CX X E)
    (ha : PA X (e :: es) t) (hkw : PK X kws tk) (hall : (backToKw pos (keywordEach kws X.env)).all (·.1.isSome) = true := by rfl) (hks : (backToKw pos (keywordEach kws X.env)).filterMap (·.1) = ks := by rfl)
    (hst : starEach (e :: es) X.env = (false, eval e X.env) :: starEach es X.env := by rfl) (hpl : ((backTo pos (starEach (e :: es) X.env)).any (·.1) || (backToKw pos (keywordEach kws X.env)).any (·.1.isNone)) = false := by rfl)
    (ht : eval (.Call (.Attribute o m apos) (e :: es) kws pos) X.env = (do
      let ov ← eval o X.env
      standAt apos.atName
      let (f, first) ← holding [ov] (getMethod ov m pl)
      callWith pos f first (backTo pos (starEach (e :: es) X.env)) (backToKw pos (keywordEach kws X.env))) := by rfl) :
    PE X (.Call (.Attribute o m apos) (e :: es) kws pos) (tMethN C m n ks.length sp gV E ta t tk) := by
  refine ⟨fun pins s σ H Q I h => ?_⟩
  refine PySem.W.methodCall_KW (pl := pl) (thn (he.run pins s σ H _ I h) fun u s1 ⟨x, H1, I1, rx, a, dx, fs, ex, ea, l, q⟩ => ?_) ht
  subst ex
  obtain rfl : u = Value.ref a := rx
  refine getmeth_ok I1 ea c hm l ?_
  refine PySem.W.callWith_KW (first := [.ref a]) (h₀ := X.base) I.ok.mod.kin hm.kp hall (thn (ha.run pos pins s1 σ H1 _ I1 q) fun us s2 ⟨vs, H2, I2, r, q2⟩ => ?_) hpl hst
  refine thn (hkw.run pos pins s2 σ H2 _ I2 q2) fun ws s3 ⟨zs, H3, I3, rz, l1, l2, q3⟩ => ⟨I3.kIn, ?_⟩
  rw [hks]
  exact run_fnN (us := .ref a :: us) (vs := .ref a :: vs) F hr hb hx I3 (.cons rfl r) rz (by rw [List.length_cons, l1]) l2 q3
end
/-! ### o.f as a target -/
def gFld (K : PySem.W.Frag) (to : TE) (f : Str) : TG := fun v σ H Q => to σ H fun x H1 => ∃ a C dx fs, x = .ref a ∧ H1 a = some (.ins C dx fs) ∧ Cls K C ∧ NoAttr K C f ∧ fs.length < 1000 ∧ Q σ (upd H1 a (.ins C dx (putF f v fs)))
theorem pg_fld {X : Cx} {o : Expr} {f : Str} {to : TE} {pos : Pos} (ho : PE X o to) : PG X (.Attribute o f pos) (gFld X.K to f) := by
  refine ⟨fun pins s σ H v u Q I r h => ?_⟩
  rw [assign_Attribute]
  refine wpAny_bind (wpAny_holding (thn (ho.run pins s σ H _ I h) fun ov s1 ⟨x, H1, I1, rx, a, C, dx, fs, ex, ea, c, n, l, q⟩ => ?_))
  subst ex
  obtain rfl : ov = Value.ref a := rx
  refine wpAny_bind (wpAny_standAt (wpAny_bind (wpAny_holding ?_)))
  exact setattr_ok I1 ea c n l r fun s3 I3 => wpAny_release ⟨σ, _, I3, q⟩
/-! ### keyword-only defaults -/
section
variable {K : PySem.W.Frag} {D : Addr}
def KwL (K : PySem.W.Frag) (D : Addr) (kws : List (Str × V)) : Prop := ∀ q ∈ kws, ∃ u, PySem.W.nsIn K D q.1 = some (some u) ∧ RelV q.2 u
theorem kwL_nil : KwL K D [] := fun q hq => by cases hq
theorem kwL_cons {x : Str} {v : V} {u : Value} {kws : List (Str × V)} (h : PySem.W.nsIn K D x = some (some u)) (r : RelV v u) (t : KwL K D kws) : KwL K D ((x, v) :: kws) := fun q hq => by
  rcases List.mem_cons.mp hq with e | hq
  · subst e
    exact ⟨u, h, r⟩
  · exact t q hq
theorem funK_mk {x qual : Str} {st : Stmt} {f : Addr} {oc : Value} {od an : Option Addr} {osl : Array (Option Value)} {doc pm cdv ct : Value} {kws : List (Str × V)}
    (l : K.lookup f = some ⟨oc, od, .func (PySem.W.fnOf x qual (defArgs st) (defBody st) (defScope st) .none (.ref D) doc pm an cdv ct), osl⟩) (c : PySem.W.codeIn K cdv qual = true) (k : PySem.W.keepIn K (.ref f) = true)
    (h : KwL K D kws) (hk : kws ≠ []) : FunD K x qual (defArgs st) (defBody st) (defScope st) [] kws f (PySem.W.fnOf x qual (defArgs st) (defBody st) (defScope st) .none (.ref D) doc pm an cdv ct) :=
  ⟨⟨oc, od, .none, .ref D, doc, pm, an, cdv, ct, osl, rfl, l, c, .inl ⟨rfl, rfl⟩, .inr ⟨D, rfl, h⟩⟩, k⟩
variable {x qual : Str} {params : Arguments} {body : List Stmt} {scope : Scope} {kws : List (Str × V)} {f : Addr} {fd : FuncData} {ps : List Str}
theorem bindK (F : FunD K x qual params body scope [] kws f fd) (n : Nat) (hk : kws ≠ []) (hn : n + kws.length = ps.length)
    (h : ∀ (D : Addr) (doc pm : Value) (an : Option Addr) (cdv ct : Value) (us ks : List Value), us.length = n → ks.length = kws.length →
      KwChain D ((kws.map (·.1)).zip ks) (bindArgs (PySem.W.fnOf x qual params body scope .none (.ref D) doc pm an cdv ct) ⟨us, []⟩) (ps.zip (us ++ ks))) : ∃ ds, Vals (kws.map (·.2)) ds ∧ Binds K fd ps ds := F.binds0 n hk hn h
theorem kbindK1 (F : FunD K x qual params body scope [] kws f fd) (n : Nat) (ks : List Str) (ms : List (Str × V)) (hk : kws ≠ []) (hms : ∀ q ∈ ms, q ∈ kws)
    (h : ∀ (D : Addr) (doc pm : Value) (an : Option Addr) (cdv ct : Value) (us mv ws : List Value), us.length = n → mv.length = ms.length → ws.length = ks.length →
      KwChain D ((ms.map (·.1)).zip mv) (bindArgs (PySem.W.fnOf x qual params body scope .none (.ref D) doc pm an cdv ct) ⟨us, ks.zip ws⟩) (ps.zip (us ++ (ws ++ mv)))) :
    ∃ mv : List Value, KBn K fd ps n ks (fun us ws => us ++ (ws ++ mv)) (fun vs zs => vs ++ (zs ++ ms.map (·.2))) :=
  F.kbinds0 n ks ms (fun us mv ws => us ++ (ws ++ mv)) hk hms (fun r1 r2 r3 => r1.append (r3.append r2)) h
theorem kbindK2 (F : FunD K x qual params body scope [] kws f fd) (n : Nat) (ks : List Str) (ms : List (Str × V)) (hk : kws ≠ []) (hms : ∀ q ∈ ms, q ∈ kws)
    (h : ∀ (D : Addr) (doc pm : Value) (an : Option Addr) (cdv ct : Value) (us mv ws : List Value), us.length = n → mv.length = ms.length → ws.length = ks.length →
      KwChain D ((ms.map (·.1)).zip mv) (bindArgs (PySem.W.fnOf x qual params body scope .none (.ref D) doc pm an cdv ct) ⟨us, ks.zip ws⟩) (ps.zip (us ++ (mv ++ ws)))) :
    ∃ mv : List Value, KBn K fd ps n ks (fun us ws => us ++ (mv ++ ws)) (fun vs zs => vs ++ (ms.map (·.2) ++ zs)) :=
  F.kbinds0 n ks ms (fun us mv ws => us ++ (mv ++ ws)) hk hms (fun r1 r2 r3 => r1.append (r2.append r3)) h
end
end HP1

/-! DTup: places (tuples of texts) and dicts with tuple keys, over data. -/
namespace HP1
open PySem PySem.Spec PyProof.Rows L2
/-- membership by values, in a list or a tuple -/
def rInP (K : PySem.W.Frag) (neg : Bool) : R2 := fun x y H Q => ∃ d ds, Dp K H x d ∧ (Dp K H y (.list ds) ∨ Dp K H y (.tuple ds)) ∧ SeqAt.shaped d = true ∧ SeqAt.shaped (.list ds) = true ∧ Q (.bl (if neg = true then !(ds.any fun z => PyData.eqv z d) else ds.any fun z => PyData.eqv z d)) H
theorem op_inP {X : Cx} (hu : X.A.units + 65 < cLine) : OpR X (compareOp .In) (rInP X.K false) := by
  intro pins s σ H x y v u Q I rx ry h
  obtain ⟨d, ds, hd, he, sd, se, q⟩ := h
  obtain ⟨as, r1⟩ := Dp.reads I d x v hd rx
  rcases he with he | he
  · obtain ⟨bs, r2⟩ := Dp.reads I (.list ds) y u he ry
    exact SeqAt.in_list_reads r2 r1 (SeqAt.canLay_of_shaped se) (SeqAt.canLay_of_shaped sd) (room_in_shaped sd hu) ⟨.bl _, H, I, rfl, q⟩
  · obtain ⟨bs, r2⟩ := Dp.reads I (.tuple ds) y u he ry
    exact SeqAt.in_tuple_reads r2 r1 (SeqAt.canLay_of_shaped se) (SeqAt.canLay_of_shaped sd) (room_in_shaped sd hu) ⟨.bl _, H, I, rfl, q⟩
theorem op_ninP {X : Cx} (hu : X.A.units + 65 < cLine) : OpR X (compareOp .NotIn) (rInP X.K true) := by
  intro pins s σ H x y v u Q I rx ry h
  obtain ⟨d, ds, hd, he, sd, se, q⟩ := h
  obtain ⟨as, r1⟩ := Dp.reads I d x v hd rx
  rcases he with he | he
  · obtain ⟨bs, r2⟩ := Dp.reads I (.list ds) y u he ry
    exact SeqAt.notIn_list_reads r2 r1 (SeqAt.canLay_of_shaped se) (SeqAt.canLay_of_shaped sd) (room_in_shaped sd hu) ⟨.bl _, H, I, rfl, q⟩
  · obtain ⟨bs, r2⟩ := Dp.reads I (.tuple ds) y u he ry
    exact SeqAt.notIn_tuple_reads r2 r1 (SeqAt.canLay_of_shaped se) (SeqAt.canLay_of_shaped sd) (room_in_shaped sd hu) ⟨.bl _, H, I, rfl, q⟩
theorem room65 {k : Nat} {A : Around} (r : Room k A) : A.units + 65 < cLine := by have := r.un; omega
theorem room2 {k : Nat} {A : Around} (r : Room k A) : A.units + 2 < cLine := by have := r.un; omega
theorem room1 {k : Nat} {A : Around} (r : Room k A) : A.units + 1 < cLine := by have := r.un; omega
end HP1
namespace DD
open PySem L2 HP1
open PySem.Spec PyProof.Rows
/-- a tuple of these texts, tracked or not -/
def TxT (d : D) (ns : List Str) : Prop := d = .pl ns ∨ d = .tup ((ns.map V.str).map D.s)
/-- the first table entry of the key -/
def lookT : List (List Str) → List D → List Str → Option D
  | k :: ks, d :: ds, x => if k = x then some d else lookT ks ds x
  | _, _, _ => none
def SeqO (m : Mem) (y : D) (ds : List D) : Prop := y = .lst ds ∨ y = .tup ds ∨ ∃ a, y = .s (.ref a) ∧ m.own a = some (.lst ds)
abbrev tupP (ns : List Str) : PyData := .tuple (ns.map PyData.str)
inductive PlL : List D → List (List Str) → Prop
  | nil : PlL [] []
  | cons {d : D} {ns : List Str} {ds : List D} {nss : List (List Str)} (h : TxT d ns) (t : PlL ds nss) : PlL (d :: ds) (ns :: nss)
theorem PlL.map : ∀ nss : List (List Str), PlL (nss.map D.pl) nss
  | [] => .nil
  | _ :: nss => .cons (.inl rfl) (PlL.map nss)
theorem PlL.snoc {ds : List D} {nss : List (List Str)} (h : PlL ds nss) {d : D} {ns : List Str} (hd : TxT d ns) : PlL (ds ++ [d]) (nss ++ [ns]) := by
  induction h with
  | nil => exact .cons hd .nil
  | cons h t ih => exact .cons h ih
theorem PlL.app {ds ds' : List D} {nss nss' : List (List Str)} (h : PlL ds nss) (h' : PlL ds' nss') : PlL (ds ++ ds') (nss ++ nss') := by
  induction h with
  | nil => exact h'
  | cons h t ih => exact .cons h ih
theorem PlL.length {ds : List D} {nss : List (List Str)} (h : PlL ds nss) : ds.length = nss.length := by
  induction h with
  | nil => rfl
  | cons h t ih => simp [ih]
theorem pyL_strsV : ∀ ns : List Str, pyL ((ns.map V.str).map D.s) = some (ns.map PyData.str)
  | [] => by
    unfold pyL
    rfl
  | n :: ns => by
    rw [List.map_cons, List.map_cons]
    unfold pyL
    rw [pyL_strsV ns]
    unfold pyD
    rfl
theorem TxT.py {d : D} {ns : List Str} (h : TxT d ns) : pyD d = some (tupP ns) := by
  rcases h with rfl | rfl
  · unfold pyD
    rfl
  · unfold pyD
    rw [pyL_strsV]
    rfl
theorem PlL.py {ds : List D} {nss : List (List Str)} (h : PlL ds nss) : pyL ds = some (nss.map tupP) := by
  induction h with
  | nil =>
    unfold pyL
    rfl
  | cons h t ih =>
    unfold pyL
    rw [h.py, ih]
    rfl
theorem TxT.seq {d : D} {ns : List Str} (h : TxT d ns) : seqD d = some ((ns.map V.str).map D.s) := by
  rcases h with rfl | rfl <;> rfl
section
variable {K : PySem.W.Frag} {B F Hb H : Hp} {m : Mem} {ρ : DD.Env} {E : XK} {X : XD}
theorem TxT.rp {d : D} {ns : List Str} {v : V} (h : TxT d ns) (hd : Rp K Hb d v) : ∃ b, v = .ref b ∧ SqT K Hb b (ns.map V.str) := by
  rcases h with rfl | rfl
  · unfold Rp at hd
    obtain ⟨p, rfl, h2⟩ := hd
    exact ⟨p, rfl, SqT.of h2⟩
  · unfold Rp at hd
    obtain ⟨p, vs, rfl, h2, h3⟩ := hd
    rw [RpL.scal h3] at h2
    exact ⟨p, rfl, h2⟩
theorem shaped_tupP {ns : List Str} (h : ∀ z ∈ ns, PyData.strOk z = true) : SeqAt.shaped (tupP ns) = true := by
  have := shaped_strs h
  unfold SeqAt.shaped at this ⊢
  simpa [PyData.canLay0, PyData.depth] using this
theorem shaped_lstP {nss : List (List Str)} (h : ∀ ns ∈ nss, ∀ z ∈ ns, PyData.strOk z = true) : SeqAt.shaped (.list (nss.map tupP)) = true := by
  have : ∀ nss : List (List Str), (∀ ns ∈ nss, ∀ z ∈ ns, PyData.strOk z = true) → PyData.canLayAll0 (nss.map tupP) = true ∧ PyData.depthAll (nss.map tupP) ≤ 1 := by
    intro nss
    induction nss with
    | nil => intro _; exact ⟨rfl, Nat.zero_le _⟩
    | cons ns nss ih =>
      intro h
      obtain ⟨a1, a2⟩ := ih fun x hx => h x (List.mem_cons_of_mem _ hx)
      obtain ⟨b1, b2⟩ := shp_strs (h ns List.mem_cons_self)
      refine ⟨?_, ?_⟩
      · simp only [List.map_cons, PyData.canLayAll0, PyData.canLay0, Bool.and_eq_true]
        exact ⟨b1, a1⟩
      · simp only [List.map_cons, PyData.depthAll, PyData.depth, b2]
        omega
  obtain ⟨h1, h2⟩ := this nss h
  unfold SeqAt.shaped
  simp [PyData.canLay0, PyData.depth, h1]
  try omega
theorem eqv_tupP (xs ys : List Str) : PyData.eqv (tupP xs) (tupP ys) = decide (xs = ys) := by
  rw [← eqvAll_strs]
  simp [PyData.eqv]
theorem any_tupP (nss : List (List Str)) (ns : List Str) : ((nss.map tupP).any fun z => PyData.eqv z (tupP ns)) = decide (ns ∈ nss) := by
  induction nss with
  | nil => rfl
  | cons k nss ih =>
    rw [List.map_cons, List.any_cons, ih, eqv_tupP]
    by_cases h : k = ns
    · subst h
      simp
    · simp [h, Ne.symm h]
theorem SeqO.dp {y : D} {ds : List D} {ps : List PyData} {v : V} (h : SeqO m y ds) (hp : pyL ds = some ps) (r : Rel K F Hb H m) (hy : Rp K Hb y v) : Dp K H v (.list ps) ∨ Dp K H v (.tuple ps) := by
  rcases h with rfl | rfl | ⟨a, rfl, ho⟩
  · refine .inl (pyD_dp (.lst ds) v (.list ps) ?_ hy r.sub)
    unfold pyD
    rw [hp]
    rfl
  · refine .inr (pyD_dp (.tup ds) v (.tuple ps) ?_ hy r.sub)
    unfold pyD
    rw [hp]
    rfl
  · unfold Rp at hy
    subst hy
    obtain ⟨_, vs, h1, h2⟩ := r.own a _ ho
    exact .inl (.lst (SqL.of h1) (pyL_dp ds vs ps hp h2 r.sub))
theorem wo_inPb {x y : D} {ns : List Str} {ds : List D} {nss : List (List Str)} {neg : Bool} {Q : QD} (hx : TxT x ns) (hy : SeqO m y ds) (hd : PlL ds nss) (ok : ∀ z ∈ ns, PyData.strOk z = true) (oks : ∀ ns ∈ nss, ∀ z ∈ ns, PyData.strOk z = true)
    (q : Q (.s (.bl (if neg = true then !decide (ns ∈ nss) else decide (ns ∈ nss)))) m) : WO K F B (rInP K neg) x y m Q := fun Hb H vx vy R hB r hvx hvy k => by
  refine ⟨tupP ns, nss.map tupP, pyD_dp x vx _ hx.py hvx r.sub, hy.dp hd.py r hvy, shaped_tupP ok, shaped_lstP oks, ?_⟩
  rw [any_tupP]
  exact k.here r rp_s q

/-! ### dicts -/
theorem look_val : ∀ {ks : List (List Str)} {ds : List D} {vs : List V} (x : List Str), RpL K Hb ds vs → ks.length = ds.length →
    (∀ d, lookT ks ds x = some d → ∃ v, valV ((ks.map inrs).zip vs) (inrs x) = some v ∧ Rp K Hb d v) ∧ (lookT ks ds x = none → valV ((ks.map inrs).zip vs) (inrs x) = none)
  | [], [], vs, x, h, _ => by
    unfold RpL at h
    subst h
    exact ⟨fun d e => (nomatch (show (none : Option D) = some d from e)), fun _ => rfl⟩
  | k :: ks, d :: ds, vs, x, h, hl => by
    unfold RpL at h
    obtain ⟨v, r, rfl, h1, h2⟩ := h
    obtain ⟨i1, i2⟩ := look_val x h2 (by simpa using hl)
    rw [List.map_cons, List.zip_cons_cons]
    unfold lookT
    by_cases e : k = x
    · rw [if_pos e]
      refine ⟨fun d' e' => ?_, fun e' => by cases e'⟩
      cases e'
      exact ⟨v, valV_pos (by rw [e]), h1⟩
    · rw [if_neg e]
      have ne : ¬ inrs k = inrs x := fun z => e (by rw [← un_in k, ← un_in x, z])
      refine ⟨fun d' e' => ?_, fun e' => ?_⟩
      · obtain ⟨v', e1, e2⟩ := i1 d' e'
        exact ⟨v', (valV_neg ne).trans e1, e2⟩
      · exact (valV_neg ne).trans (i2 e')
theorem keyQ {a : Addr} {ks : List (List Str)} {ds : List D} {vs : List V} {x : D} {ns : List Str} {vx : V} (r : Rel K F Hb H m) (h1 : H a = some (.dT ((ks.map inrs).zip vs))) (hx : TxT x ns) (hv : Rp K Hb x vx) :
    DGetQ K H a vx (valV ((ks.map inrs).zip vs) (inrs ns)) := by
  obtain ⟨b, rfl, hb⟩ := hx.rp hv
  exact ⟨_, inrs ns, b, .inl h1, rfl, by rw [kV_inrs]; exact sameT r.sub hb, rfl⟩
theorem wo_inQb {a : Addr} {ks : List (List Str)} {ds : List D} {x : D} {ns : List Str} {neg : Bool} {Q : QD} (hx : TxT x ns) (ho : m.own a = some (.dT ks ds)) (q : Q (.s (.bl (if neg = true then !(lookT ks ds ns).isSome else (lookT ks ds ns).isSome))) m) :
    WO K F B (rInQ K neg) x (.s (.ref a)) m Q := fun Hb H vx vy R hB r hvx hvy k => by
  unfold Rp at hvy
  subst hvy
  obtain ⟨_, vs, h1, h2, h3⟩ := r.own a _ ho
  refine ⟨a, _, rfl, keyQ (ds := ds) r h1 hx hvx, ?_⟩
  have e : (valV ((ks.map inrs).zip vs) (inrs ns)).isSome = (lookT ks ds ns).isSome := by
    obtain ⟨i1, i2⟩ := look_val (K := K) (Hb := Hb) ns h2 h3
    cases q : lookT ks ds ns with
    | none =>
      rw [i2 q]
      rfl
    | some d =>
      obtain ⟨v, e, _⟩ := i1 d q
      rw [e]
      rfl
  rw [e]
  exact k.here r rp_s q
theorem wo_ixQ {a : Addr} {ks : List (List Str)} {ds : List D} {x d : D} {ns : List Str} {Q : QD} (hx : TxT x ns) (ho : m.own a = some (.dT ks ds)) (hd : lookT ks ds ns = some d) (q : Q d m) :
    WO K F B (rIxQ K) (.s (.ref a)) x m Q := fun Hb H vx vy R hB r hvx hvy k => by
  unfold Rp at hvx
  subst hvx
  obtain ⟨_, vs, h1, h2, h3⟩ := r.own a _ ho
  obtain ⟨v, e1, e2⟩ := (look_val (K := K) (Hb := Hb) ns h2 h3).1 d hd
  refine ⟨a, v, rfl, ?_, k.here r e2 q⟩
  rw [← e1]
  exact keyQ (ds := ds) r h1 hx hvy
theorem we_getQ {td ty tx : TE} {Q : QD} (h : WE K F B td ρ m fun x m1 => ∃ a, x = .s (.ref a) ∧ (∃ ks ds, m1.own a = some (.dT ks ds)) ∧ WE K F B ty ρ m1 fun y m2 => WE K F B tx ρ m2 fun z m3 => ∃ ks ds ns, m3.own a = some (.dT ks ds) ∧ TxT y ns ∧
    (∀ d, lookT ks ds ns = some d → Q d m3) ∧ (lookT ks ds ns = none → Q z m3)) : WE K F B (tGetQ K td ty tx) ρ m Q := fun Hb H σ R hB r hs k =>
  h Hb H σ _ hB r hs fun v H1 Hb1 x m1 e1 r1 hx q1 => by
    obtain ⟨a, rfl, ⟨ks0, ds0, ho0⟩, q1⟩ := q1
    unfold Rp at hx
    subst hx
    obtain ⟨_, vs0, h0, _⟩ := r1.own a _ ho0
    refine ⟨a, rfl, .inr ⟨_, .inl h0⟩, ?_⟩
    refine q1 Hb1 H1 σ _ (hB.trans e1) r1 (hs.mono e1) fun u H2 Hb2 y m2 e2 r2 hy q2 => ?_
    refine q2 Hb2 H2 σ _ ((hB.trans e1).trans e2) r2 ((hs.mono e1).mono e2) fun w H3 Hb3 z m3 e3 r3 hz q3 => ?_
    obtain ⟨ks, ds, ns, ho, hn, qs, qn⟩ := q3
    obtain ⟨_, vs, h1, h2, h3⟩ := r3.own a _ ho
    refine ⟨_, keyQ (ds := ds) r3 h1 hn (hy.mono e3), ?_⟩
    obtain ⟨i1, i2⟩ := look_val (K := K) (Hb := Hb3) ns h2 h3
    cases q : lookT ks ds ns with
    | none =>
      rw [i2 q]
      exact k _ _ _ _ _ ((e1.trans e2).trans e3) r3 hz (qn q)
    | some d =>
      obtain ⟨v', e, rd⟩ := i1 d q
      rw [e]
      exact k _ _ _ _ _ ((e1.trans e2).trans e3) r3 rd (qs d q)
theorem look_app : ∀ {ks : List (List Str)} {ds : List D} (x y : List Str) (d : D), ks.length = ds.length → lookT ks ds x = none → lookT (ks ++ [x]) (ds ++ [d]) y = if y = x then some d else lookT ks ds y
  | [], [], x, y, d, _, _ => by
    show (if x = y then some d else none) = _
    by_cases e : y = x
    · rw [if_pos e, if_pos e.symm]
    · rw [if_neg e, if_neg (Ne.symm e)]
      rfl
  | k :: ks, e :: ds, x, y, d, hl, hn => by
    unfold lookT at hn
    by_cases hk : k = x
    · rw [if_pos hk] at hn
      cases hn
    · rw [if_neg hk] at hn
      show (if k = y then some e else lookT (ks ++ [x]) (ds ++ [d]) y) = _
      rw [look_app x y d (by simpa using hl) hn]
      by_cases hy : k = y
      · rw [if_pos hy, if_neg (fun z => hk (hy.trans z))]
        show _ = (if k = y then some e else lookT ks ds y)
        rw [if_pos hy]
      · rw [if_neg hy]
        show _ = if y = x then some d else (if k = y then some e else lookT ks ds y)
        rw [if_neg hy]
theorem zip_snoc {α β : Type} : ∀ {xs : List α} {ys : List β} (x : α) (y : β), xs.length = ys.length → (xs ++ [x]).zip (ys ++ [y]) = xs.zip ys ++ [(x, y)]
  | [], [], _, _, _ => rfl
  | a :: xs, b :: ys, x, y, h => by
    show (a, b) :: ((xs ++ [x]).zip (ys ++ [y])) = _
    rw [zip_snoc x y (by simpa using h)]
    rfl
/-- a new key -/
theorem RepM.dput {a : Addr} {ks : List (List Str)} {ds : List D} {vs : List V} {ns : List Str} {d : D} {v : V} {cnt : Nat} (h2 : RpL K Hb ds vs) (h3 : ks.length = ds.length) (hd : Rp K Hb d v) (hn : lookT ks ds ns = none) :
    RepM K Hb (upd H a (.dT (putK ((ks.map inrs).zip vs) (inrs ns) v))) cnt a (.dT (ks ++ [ns]) (ds ++ [d])) := by
  refine ⟨vs ++ [v], ?_, h2.app (RpL.cons hd RpL.nil), by simp [h3]⟩
  rw [upd_same, putK_new v ((look_val (K := K) (Hb := Hb) ns h2 h3).2 hn), List.map_append, ← zip_snoc]
  · rfl
  · rw [List.length_map, h3, h2.length]
/-- d[k] = v, a new key -/
theorem wg_subT {to ti : TE} {x : D} {Q : Env → Mem → Prop} (h : WE K F B to ρ m fun o m1 => WE K F B ti ρ m1 fun y m2 => ∃ a ks ds ns, o = .s (.ref a) ∧ y = .pl ns ∧ m2.own a = some (.dT ks ds) ∧ ks.length < sizeLine ∧ lookT ks ds ns = none ∧
    Q ρ { m2 with own := putM m2.own a (.dT (ks ++ [ns]) (ds ++ [x])) }) : WG K F B (gSub to ti rSetD) x ρ m Q := fun Hb H σ v R hB r hs hx k =>
  h Hb H σ _ hB r hs fun o H1 Hb1 od m1 e1 r1 ho q1 => q1 Hb1 H1 σ _ (hB.trans e1) r1 (hs.mono e1) fun i H2 Hb2 y m2 e2 r2 hy q2 => by
    obtain ⟨a, ks, ds, ns, rfl, rfl, hown, hz, hn, q⟩ := q2
    unfold Rp at ho hy
    subst ho
    obtain ⟨b, rfl, hb⟩ := hy
    obtain ⟨h0, vs, h1, h2, h3⟩ := r2.own a _ hown
    show ∃ a' H', V.ref a = V.ref a' ∧ DPut H2 a' (V.ref b) v H' ∧ R σ H'
    refine ⟨a, _, rfl, DPut.t (k := inrs ns) h1 (by rw [kV_inrs]; exact r2.sub _ _ hb) ?_, ?_⟩
    · rw [List.length_zip, List.length_map]
      omega
    · exact k _ _ _ _ _ (e1.trans e2) (r2.change hown (RepM.dput h2 h3 ((hx.mono e1).mono e2) hn)) ((hs.mono e1).mono e2) q
/-- {}, owned -/
theorem we_dnewTO {Q : QD} (h : ∀ a, m.own a = none → Q (.s (.ref a)) { m with own := putM m.own a (.dT [] []) }) : WE K F B tDNewT ρ m Q := fun Hb H σ R hB r hs k => fun p hp =>
  k _ _ _ _ _ (Same.refl _) (r.owned (mo := .dT [] []) hp ⟨[], upd_same, RpL.nil, rfl⟩) rp_s (h p (r.free hp))
/-- the pairs of a display -/
def WPs (K : PySem.W.Frag) (F B : Hp) (trs : List (TE × TE)) (ρ : Env) (m : Mem) (Q : List (D × D) → Mem → Prop) : Prop := ∀ Hb H σ (R : List (V × V) → Hp → Prop), Same B Hb → Rel K F Hb H m → RpS K Hb ρ σ →
  (∀ (ps : List (V × V)) H' Hb' (ds : List (D × D)) m', Same Hb Hb' → Rel K F Hb' H' m' → RpL K Hb' (ds.map (·.1)) (ps.map (·.1)) → RpL K Hb' (ds.map (·.2)) (ps.map (·.2)) → Q ds m' → R ps H') → tPairs trs σ H R
theorem wps_nil {Q : List (D × D) → Mem → Prop} (q : Q [] m) : WPs K F B [] ρ m Q := fun Hb H σ R hB r hs k => k [] H Hb [] m (Same.refl _) r RpL.nil RpL.nil q
theorem wps_cons {tk tv : TE} {trs : List (TE × TE)} {Q : List (D × D) → Mem → Prop} (h : WE K F B tk ρ m fun x m1 => WE K F B tv ρ m1 fun y m2 => WPs K F B trs ρ m2 fun ds m3 => Q ((x, y) :: ds) m3) : WPs K F B ((tk, tv) :: trs) ρ m Q := fun Hb H σ R hB r hs k =>
  h Hb H σ _ hB r hs fun v H1 Hb1 x m1 e1 r1 hx q1 => q1 Hb1 H1 σ _ (hB.trans e1) r1 (hs.mono e1) fun u H2 Hb2 y m2 e2 r2 hy q2 =>
    q2 Hb2 H2 σ _ ((hB.trans e1).trans e2) r2 ((hs.mono e1).mono e2) fun ps H3 Hb3 ds m3 e3 r3 h1 h2 q3 =>
      k ((v, u) :: ps) H3 Hb3 ((x, y) :: ds) m3 ((e1.trans e2).trans e3) r3 (RpL.cons ((hx.mono e2).mono e3) h1) (RpL.cons (hy.mono e3) h2) q3
theorem put_all_new : ∀ (zs : List (List Key × Addr × V)) (kvs : List (List Key × V)), (zs.map (·.1)).Nodup → (∀ z ∈ zs, valV kvs z.1 = none) → putAll kvs zs = kvs ++ zs.map fun z => (z.1, z.2.2)
  | [], kvs, _, _ => by simp
  | z :: zs, kvs, hn, hv => by
    rw [List.map_cons] at hn
    obtain ⟨n1, n2⟩ := List.nodup_cons.mp hn
    show putAll (putK kvs z.1 z.2.2) zs = _
    rw [putK_new _ (hv z List.mem_cons_self), put_all_new zs _ n2 fun y hy => ?_]
    · simp
    · rw [valV_snoc _ _ _ _ (hv z List.mem_cons_self), if_neg]
      · exact hv y (List.mem_cons_of_mem _ hy)
      · intro e
        exact n1 (by rw [← e]; exact List.mem_map_of_mem hy)
theorem rp_pls : ∀ {kss : List (List Str)} {vs : List V}, RpL K Hb (kss.map D.pl) vs → ∃ bs : List Addr, vs = bs.map V.ref ∧ bs.length = kss.length ∧ ∀ z ∈ kss.zip bs, Hb z.2 = some (.tup (z.1.map V.str))
  | [], vs, h => by
    unfold RpL at h
    subst h
    exact ⟨[], rfl, rfl, fun z hz => by cases hz⟩
  | k :: kss, vs, h => by
    unfold RpL at h
    obtain ⟨v, r, rfl, h1, h2⟩ := h
    unfold Rp at h1
    obtain ⟨b, rfl, hb⟩ := h1
    obtain ⟨bs, rfl, hl, hh⟩ := rp_pls h2
    refine ⟨b :: bs, rfl, by simp [hl], fun z hz => ?_⟩
    rcases List.mem_cons.mp hz with e | hz
    · subst e
      exact hb
    · exact hh z hz
/-- a display with tuple keys, all unlike -/
theorem we_dispT {trs : List (TE × TE)} {Q : QD} (h : ∀ p, m.own p = none → WPs K F B trs ρ { m with own := putM m.own p (.dT [] []) } fun qs m' => m'.own p = some (.dT [] []) ∧ ∃ (ks : List (List Str)) (ds : List D), qs.map (·.1) = ks.map D.pl ∧ qs.map (·.2) = ds ∧ ks.length ≤ 15 ∧ ks.Nodup ∧
    Q (.s (.ref p)) { m' with own := putM m'.own p (.dT ks ds) }) : WE K F B (tDispT trs) ρ m Q := fun Hb H σ R hB r hs k => fun p hp => by
  have r0 := r.owned (mo := .dT [] []) hp ⟨[], upd_same, RpL.nil, rfl⟩
  refine h p (r.free hp) Hb _ σ _ hB r0 hs fun ps H2 Hb2 qs m2 e2 r2 h1 h2 q2 => ?_
  obtain ⟨ho, ks, ds, ek, ed, l15, nd, q⟩ := q2
  obtain ⟨h0, vs0, hv0, hr0, _⟩ := r2.own p _ ho
  have e0 : H2 p = some (.dT []) := by
    unfold RpL at hr0
    subst hr0
    exact hv0
  refine ⟨e0, ?_⟩
  rw [ek] at h1
  rw [ed] at h2
  obtain ⟨bs, eb, hl, hh⟩ := rp_pls h1
  have lq : ks.length = qs.length := by
    have := congrArg List.length ek
    simpa using this.symm
  have lp : ps.length = ks.length := by
    have := congrArg List.length eb
    simp at this
    omega
  have l2 : ds.length = ks.length := by rw [← ed, List.length_map, lq]
  let zs : List (List Key × Addr × V) := (ks.map inrs).zip (bs.zip (ps.map (·.2)))
  have ez : ps = zs.map (fun z => (V.ref z.2.1, z.2.2)) := by
    have e1 : ∀ (ks : List (List Str)) (bs : List Addr) (ps : List (V × V)), ps.map (·.1) = bs.map V.ref → bs.length = ks.length → ps = ((ks.map inrs).zip (bs.zip (ps.map (·.2)))).map (fun z => (V.ref z.2.1, z.2.2)) := by
      intro ks
      induction ks with
      | nil =>
        intro bs ps e l
        have : bs = [] := List.eq_nil_of_length_eq_zero l
        subst this
        have : ps = [] := by simpa using e
        subst this
        rfl
      | cons k ks ih =>
        intro bs ps e l
        match bs, ps, e, l with
        | b :: bs, p :: ps, e, l =>
          rw [List.map_cons, List.map_cons] at e
          injection e with e1 e2
          obtain ⟨p1, p2⟩ := p
          have e1' : p1 = V.ref b := e1
          have i := ih bs ps e2 (by simpa using l)
          subst e1'
          exact congrArg (fun z => (V.ref b, p2) :: z) i
        | [], _, _, l => cases l
        | b :: bs, [], e, l => cases e
    exact e1 ks bs ps eb hl
  have k1 : zs.map (·.1) = ks.map inrs := by
    refine List.map_fst_zip ?_
    simp [hl, lp]
  have hm : ∀ z ∈ zs, H2 z.2.1 = some (.tup (z.1.map kV)) := fun z hz => by
    have : ∀ (ks : List (List Str)) (bs : List Addr) (vs : List V), (∀ z ∈ ks.zip bs, Hb2 z.2 = some (.tup (z.1.map V.str))) → ∀ z ∈ (ks.map inrs).zip (bs.zip vs), Hb2 z.2.1 = some (.tup (z.1.map kV)) := by
      intro ks
      induction ks with
      | nil => intro bs vs _ z hz; cases hz
      | cons k ks ih =>
        intro bs vs hh z hz
        match bs, vs, hh, hz with
        | b :: bs, v :: vs, hh, hz =>
          rcases List.mem_cons.mp hz with e | hz
          · subst e
            show Hb2 b = some (.tup ((inrs k).map kV))
            rw [kV_inrs]
            exact hh (k, b) List.mem_cons_self
          · exact ih bs vs (fun y hy => hh y (List.mem_cons_of_mem _ hy)) z hz
    exact r2.sub _ _ (this ks bs _ hh z hz)
  have zl : zs.length = ks.length := by
    have := congrArg List.length k1
    simpa using this
  refine ⟨zs, ez, by omega, hm, ?_⟩
  rw [put_all_new zs [] (by
    rw [k1]
    exact nd.map _ fun a b hab hc => hab (by rw [← un_in a, ← un_in b, hc])) fun z _ => rfl]
  refine k _ _ _ _ _ e2 (r2.change (mo' := .dT ks ds) ho ⟨ps.map (·.2), ?_, h2, l2.symm⟩) rp_s q
  rw [upd_same, List.nil_append]
  have : zs.map (fun z => (z.1, z.2.2)) = (ks.map inrs).zip (ps.map (·.2)) := by
    rw [← k1]
    rw [ez, List.map_map, List.zip_map']
    rfl
  rw [this]
/-! ### tuples of texts -/
def cutT (ns : List Str) (lo hi : Option Int) : List Str := (ns.drop (HT.sIx ns.length 0 lo)).take (HT.sIx ns.length ns.length hi - HT.sIx ns.length 0 lo)
theorem cutT_cut (ns : List Str) (lo hi : Option Int) : cutV (ns.map V.str) lo hi = (cutT ns lo hi).map V.str := by
  unfold cutV cutT
  rw [List.length_map, List.map_take, List.map_drop]
theorem cutT_last (ns : List Str) : cutT ns none (some (-1)) = ns.dropLast := by
  unfold cutT
  rw [List.dropLast_eq_take]
  show (ns.drop 0).take ((-1 + (ns.length : Int)).toNat - 0) = _
  rw [List.drop_zero]
  congr 1
  omega
/-- a display of texts: a tracked tuple -/
theorem we_tupP {ta : TA} {Q : QD} (h : WA K F B ta ρ m fun xs m1 => ∃ ns : List Str, xs = (ns.map V.str).map D.s ∧ ns.length ≤ sizeLine ∧ Q (.pl ns) m1) : WE K F B (tTup ta) ρ m Q := fun Hb H σ R hB r hs k =>
  h Hb H σ _ hB r hs fun vs H1 Hb1 xs m1 e1 r1 hx q1 => by
    obtain ⟨ns, rfl, hl, q⟩ := q1
    have e := RpL.scal hx
    subst e
    refine ⟨by rw [List.length_map]; exact hl, fun p hp => k _ _ _ (.pl ns) _ (e1.trans (Same.new (r1.fresh hp))) (r1.data hp) ?_ q⟩
    unfold Rp
    exact ⟨p, rfl, upd_same⟩
theorem wo_catP {x : D} {ns ms : List Str} {Q : QD} (hx : TxT x ns) (hm : ms ≠ []) (hl : ns.length + ms.length ≤ sizeLine) (q : Q (.pl (ns ++ ms)) m) : WO K F B (L2.rCatA K) x (.pl ms) m Q := fun Hb H vx vy R hB r hvx hvy k => by
  obtain ⟨a, rfl, ha⟩ := hx.rp hvx
  have hvy' := hvy
  unfold Rp at hvy'
  obtain ⟨b, rfl, hb⟩ := hvy'
  refine ⟨a, b, _, _, rfl, rfl, sameT r.sub ha, SqT.of (r.sub _ _ hb), by rw [List.length_map, List.length_map]; exact hl, fun e => ?_, fun _ e => ?_, fun _ _ p hp => ?_⟩
  · have e0 : ns = [] := by simpa using e
    subst e0
    exact k.here r hvy q
  · exact absurd (by simpa using e) hm
  · refine k _ _ _ (.pl (ns ++ ms)) _ (Same.new (r.fresh hp)) (r.data hp) ?_ q
    unfold Rp
    exact ⟨p, rfl, by rw [upd_same, List.map_append]⟩
theorem wsl_P {x : D} {ns : List Str} {lo hi : Option Int} {Q : QD} (hx : TxT x ns) (q : ∀ d, TxT d (cutT ns lo hi) → (x = .pl ns → d = .pl (cutT ns lo hi)) → Q d m) : WSl K F B (L2.rSlA K) x lo hi m Q := fun Hb H vx R hB r hvx k => by
  obtain ⟨a, rfl, ha⟩ := hx.rp hvx
  refine ⟨a, _, rfl, sameT r.sub ha, fun hw => ?_, fun _ p hp => ?_⟩
  · rw [List.length_map] at hw
    have e : cutT ns lo hi = ns := by
      unfold cutT
      rw [hw.1, hw.2, List.drop_zero, Nat.sub_zero, List.take_length]
    exact k.here r hvx (q x (by rw [e]; exact hx) fun z => by rw [e]; exact z)
  · refine k _ _ _ (.pl (cutT ns lo hi)) _ (Same.new (r.fresh hp)) (r.data hp) ?_ (q _ (.inl rfl) fun _ => rfl)
    unfold Rp
    exact ⟨p, rfl, by rw [upd_same, cutT_cut]⟩
/-- data that is no None -/
def ThD : D → Prop
  | .s v => v ≠ .non
  | .gen _ => False
  | _ => True
theorem ThD.at {d : D} {v : V} (h : ThD d) (hd : Rp K Hb d v) : decide (v = V.non) = false := by
  cases d with
  | s w =>
    unfold Rp at hd
    subst hd
    exact decide_eq_false h
  | lst xs =>
    unfold Rp at hd
    obtain ⟨p, vs, rfl, _⟩ := hd
    rfl
  | tup xs =>
    unfold Rp at hd
    obtain ⟨p, vs, rfl, _⟩ := hd
    rfl
  | dic ks xs =>
    unfold Rp at hd
    obtain ⟨p, o, vs, rfl, _⟩ := hd
    rfl
  | ins C ns xs =>
    unfold Rp at hd
    obtain ⟨p, dx, vs, rfl, _⟩ := hd
    rfl
  | pl ns =>
    unfold Rp at hd
    obtain ⟨p, rfl, _⟩ := hd
    rfl
  | gen φ => exact h.elim
theorem TxT.th {d : D} {ns : List Str} (h : TxT d ns) : ThD d := by
  rcases h with rfl | rfl <;> exact trivial
theorem wo_isTh {x : D} {Q : QD} (h : ThD x) (q : Q (.s (.bl false)) m) : WO K F B rIsN x (.s .non) m Q := fun Hb H vx vy R hB r hx hy k => by
  unfold Rp at hy
  refine ⟨hy, ?_⟩
  rw [h.at hx]
  exact k.here r rp_s q
theorem wo_notTh {x : D} {Q : QD} (h : ThD x) (q : Q (.s (.bl true)) m) : WO K F B rNotN x (.s .non) m Q := fun Hb H vx vy R hB r hx hy k => by
  unfold Rp at hy
  refine ⟨hy, ?_⟩
  rw [h.at hx]
  exact k.here r rp_s q
/-- *e in a display or in arguments -/
theorem wa_star {te : TE} {ta : TA} {Q : List D → Mem → Prop} (h : WE K F B te ρ m fun x m1 => ∃ ds, SeqO m1 x ds ∧ WA K F B ta ρ m1 fun ys m2 => Q (ds ++ ys) m2) : WA K F B (StX.tStar K te ta) ρ m Q := fun Hb H σ R hB r hs k =>
  h Hb H σ _ hB r hs fun v H1 Hb1 x m1 e1 r1 hx q1 => by
    obtain ⟨ds, hd, q⟩ := q1
    have z : ∃ p xs, v = V.ref p ∧ (SqT K H1 p xs ∨ SqL K H1 p xs) ∧ RpL K Hb1 ds xs := by
      rcases hd with rfl | rfl | ⟨a, rfl, ho⟩
      · unfold Rp at hx
        obtain ⟨p, vs, rfl, h1, h2⟩ := hx
        exact ⟨p, vs, rfl, .inr (SqL.of (r1.sub _ _ h1)), h2⟩
      · unfold Rp at hx
        obtain ⟨p, vs, rfl, h1, h2⟩ := hx
        exact ⟨p, vs, rfl, .inl (sameT r1.sub h1), h2⟩
      · unfold Rp at hx
        subst hx
        obtain ⟨_, vs, h1, h2⟩ := r1.own a _ ho
        exact ⟨a, vs, rfl, .inr (SqL.of h1), h2⟩
    obtain ⟨p, xs, rfl, hsq, hx⟩ := z
    exact ⟨p, xs, rfl, hsq, q Hb1 H1 σ _ (hB.trans e1) r1 (hs.mono e1) fun ys H2 Hb2 es m2 e2 r2 hy q2 => k _ _ _ _ _ (e1.trans e2) r2 ((hx.mono e2).app hy) q2⟩
theorem wc_tupP {ns : List Str} {Q : QD} (q : Q (.pl ns) m) : WC K F B (rTupA K) [.pl ns] m Q := fun Hb H vs R hB r hx k => by
  obtain ⟨v, rfl, hv⟩ := rpL1 hx
  have hv' := hv
  unfold Rp at hv'
  obtain ⟨p, rfl, h1⟩ := hv'
  exact ⟨p, _, rfl, .inr ⟨SqT.of (r.sub _ _ h1), k.here r hv q⟩⟩
theorem wc_tupTx {x : D} {ns : List Str} {Q : QD} (hx : TxT x ns) (q : Q x m) : WC K F B (rTupA K) [x] m Q := by
  rcases hx with rfl | rfl
  · exact wc_tupP q
  · exact wc_tupT q
/-- tuple(xs) of a list of texts: a tracked tuple -/
theorem wc_tupLP {ns : List Str} {Q : QD} (q : Q (.pl ns) m) : WC K F B (rTupA K) [.lst ((ns.map V.str).map D.s)] m Q := fun Hb H vs R hB r hx k => by
  obtain ⟨v, rfl, hv⟩ := rpL1 hx
  unfold Rp at hv
  obtain ⟨p, us, rfl, h1, h2⟩ := hv
  have e := RpL.scal h2
  subst e
  refine ⟨p, _, rfl, .inl ⟨SqL.of (r.sub _ _ h1), fun l hl => ?_⟩⟩
  refine k _ _ _ (.pl ns) _ (Same.new (r.fresh hl)) (r.data hl) ?_ q
  unfold Rp
  exact ⟨l, rfl, upd_same⟩
/-! ### sorted(d) -/
theorem perm_srt {α : Type} {lt : α → α → Bool} (anti : ∀ x y, lt x y = false → lt y x = false → x = y) : ∀ {l m : List α}, l.Perm m → l.Pairwise (fun x y => lt y x = false) → m.Pairwise (fun x y => lt y x = false) → l = m
  | [], m, h, _, _ => (List.Perm.nil_eq h)
  | x :: l, [], h, _, _ => by
    have := h.length_eq
    cases this
  | x :: l, y :: m, h, hl, hm => by
    obtain ⟨l1, l2⟩ := List.pairwise_cons.mp hl
    obtain ⟨m1, m2⟩ := List.pairwise_cons.mp hm
    have hx : x = y ∨ lt x y = false := by
      rcases List.mem_cons.mp (h.mem_iff.mp List.mem_cons_self) with e | e
      · exact .inl e
      · exact .inr (m1 x e)
    have hy : x = y ∨ lt y x = false := by
      rcases List.mem_cons.mp (h.mem_iff.mpr List.mem_cons_self) with e | e
      · exact .inl e.symm
      · exact .inr (l1 y e)
    have e : x = y := by
      rcases hx with e | hx
      · exact e
      · rcases hy with e | hy
        · exact e
        · exact anti x y hx hy
    subst e
    rw [perm_srt anti (List.Perm.cons_inv h) l2 m2]
def pLt (x y : List Str) : Bool := tlt (cpsT x) (cpsT y)
theorem pLt_anti (x y : List Str) (h : pLt x y = false) (h' : pLt y x = false) : x = y := by
  have e := PyProof.Rows.lex_total (O := txtOrd) _ _ h h'
  have inj : ∀ a b : Str, a.cps.toList = b.cps.toList → a = b := fun a b q => by
    cases a with | mk a => cases b with | mk b =>
    congr 1
    exact Array.toList_inj.mp q
  have : ∀ x y : List Str, cpsT x = cpsT y → x = y := by
    intro x
    induction x with
    | nil =>
      intro y e
      cases y with
      | nil => rfl
      | cons b y => cases e
    | cons a x ih =>
      intro y e
      cases y with
      | nil => cases e
      | cons b y =>
        injection e with e1 e2
        rw [inj a b e1, ih y e2]
  exact this x y e
def sortT (ks : List (List Str)) : List (List Str) := ks.mergeSort fun x y => !pLt y x
theorem sortT_perm (ks : List (List Str)) : (sortT ks).Perm ks := List.mergeSort_perm ks _
theorem sortT_srt (ks : List (List Str)) : (sortT ks).Pairwise fun x y => pLt y x = false := by
  have O := tlt_swo (fun x : List Str => cpsT x)
  have := List.pairwise_mergeSort (le := fun x y => !pLt y x) (fun a b c h1 h2 => by
    have e1 : pLt b a = false := by simpa using h1
    have e2 : pLt c b = false := by simpa using h2
    have := O.tr a b c e1 e2
    show (!pLt c a) = true
    rw [show pLt c a = false from this]
    rfl) (fun a b => by
    show (!pLt b a || !pLt a b) = true
    cases e : pLt b a with
    | false => rfl
    | true =>
      rw [show pLt a b = false from O.asym b a e]
      rfl) ks
  exact this.imp fun h => by simpa using h
theorem Rel.tup1 {b : Addr} {xs : List V} (r : Rel K F Hb H m) (h : H b = some (.tup xs)) : ∃ Hb', Same Hb Hb' ∧ Rel K F Hb' H m ∧ Hb' b = some (.tup xs) := by
  cases e : Hb b with
  | some o =>
    have := r.sub b o e
    rw [h] at this
    cases this
    exact ⟨Hb, Same.refl _, r, e⟩
  | none =>
    refine ⟨upd Hb b (.tup xs), Same.new e, ⟨fun c u ec => ?_, fun c o ec => ?_, fun c mo ec => ?_, r.nt⟩, upd_same⟩
    · by_cases hc : c = b
      · subst hc
        rw [upd_same] at ec
        rw [h]
        exact ec
      · rw [upd_ne hc] at ec
        exact r.sub c u ec
    · have hc : c ≠ b := fun z => by
        subst z
        have := (r.fr c o ec).1
        rw [h] at this
        cases this
        exact r.nt c xs ec
      obtain ⟨f1, f2, f3⟩ := r.fr c o ec
      exact ⟨f1, by rw [upd_ne hc]; exact f2, f3⟩
    · obtain ⟨o1, o2⟩ := r.own c mo ec
      have hc : c ≠ b := fun z => by
        subst z
        cases mo with
        | lst ds =>
          obtain ⟨vs, q, _⟩ := o2
          rw [h] at q
          cases q
        | ins C ns ds =>
          obtain ⟨dx, vs, q, _⟩ := o2
          rw [h] at q
          cases q
        | dK ks ds =>
          obtain ⟨vs, q, _⟩ := o2
          rw [h] at q
          cases q
        | dT ks ds =>
          obtain ⟨vs, q, _⟩ := o2
          rw [h] at q
          cases q
        | stm c =>
          obtain ⟨s1, s2, s3, q, _⟩ := o2
          rw [h] at q
          cases q
        | cel =>
          obtain ⟨ns, q, _⟩ := o2
          rw [h] at q
          cases q
        | gen φ =>
          obtain ⟨o, Hc, q, _, _, no⟩ := o2
          rw [h] at q
          exact no xs (Option.some.inj q).symm
      exact ⟨by rw [upd_ne hc]; exact o1, o2.mono (Same.new e) rfl (Nat.le_refl _)⟩
theorem Rel.tups : ∀ {zs : List (Addr × List Str)} {Hb : Hp}, Rel K F Hb H m → (∀ z ∈ zs, H z.1 = some (.tup (z.2.map V.str))) → ∃ Hb', Same Hb Hb' ∧ Rel K F Hb' H m ∧ ∀ z ∈ zs, Hb' z.1 = some (.tup (z.2.map V.str))
  | [], Hb, r, _ => ⟨Hb, Same.refl _, r, fun z hz => by cases hz⟩
  | z :: zs, Hb, r, h => by
    obtain ⟨Hb1, e1, r1, h1⟩ := r.tup1 (h z List.mem_cons_self)
    obtain ⟨Hb2, e2, r2, h2⟩ := Rel.tups r1 fun y hy => h y (List.mem_cons_of_mem _ hy)
    refine ⟨Hb2, e1.trans e2, r2, fun y hy => ?_⟩
    rcases List.mem_cons.mp hy with e | hy
    · subst e
      exact e2 _ _ h1
    · exact h2 y hy
theorem wc_sortedT {a : Addr} {ks : List (List Str)} {ds : List D} {Q : QD} (ho : m.own a = some (.dT ks ds)) (h0 : ∃ r, ks = [] :: r) (q : Q (.lst ((sortT ks).map D.pl)) m) : WC K F B rSortedT [.s (.ref a)] m Q := fun Hb H vs R hB r hx k => by
  obtain ⟨v, rfl, hv⟩ := rpL1 hx
  unfold Rp at hv
  subst hv
  obtain ⟨hn, vs, h1, h2, h3⟩ := r.own a _ ho
  refine ⟨a, ks, vs, rfl, .inl h1, by rw [h3, h2.length], h0, fun p zs hp hperm hsrt ht => ?_⟩
  have e : zs.map (·.2) = sortT ks := perm_srt pLt_anti (hperm.trans (sortT_perm ks).symm) hsrt (sortT_srt ks)
  -- every key's tuple is data
  obtain ⟨Hb2, e2, r2, htb⟩ := r.tups ht
  refine k _ _ _ (.lst ((sortT ks).map D.pl)) _ (e2.trans (Same.new (r2.fresh hp))) (r2.data hp) ?_ q
  have hl : RpL K Hb2 ((zs.map (·.2)).map D.pl) (zs.map fun z => V.ref z.1) := by
    have : ∀ zs : List (Addr × List Str), (∀ z ∈ zs, Hb2 z.1 = some (.tup (z.2.map V.str))) → RpL K Hb2 ((zs.map (·.2)).map D.pl) (zs.map fun z => V.ref z.1) := by
      intro zs
      induction zs with
      | nil => intro _; exact RpL.nil
      | cons z zs ih =>
        intro h
        refine RpL.cons ?_ (ih fun y hy => h y (List.mem_cons_of_mem _ hy))
        unfold Rp
        exact ⟨z.1, rfl, h z List.mem_cons_self⟩
    exact this zs htb
  rw [← e]
  unfold Rp
  exact ⟨p, _, rfl, upd_same, hl.mono (Same.new (r2.fresh hp))⟩
/-! ### o.m(e, .., k = v, ..) -/
theorem we_methN {C : Addr} {f : Str} {n l : Nat} {φ : Phi} {te : TE} {ta tk : TA} {g : List V → List V → List V} {gd : List D → List D → List D} {Q : QD} (hE : OkX K F B X E)
    (hg : ∀ {Hb : Hp} {ds es : List D} {vs zs : List V}, Same B Hb → RpL K Hb ds vs → RpL K Hb es zs → RpL K Hb (gd ds es) (g vs zs))
    (h : WE K F B te ρ m fun x m1 => Recv m1 C f x ∧ WA K F B ta ρ m1 fun ds m2 => WA K F B tk ρ m2 fun es m3 => ds.length = n ∧ es.length = l ∧ φ (gd (x :: ds) es) m3 Q X) :
    WE K F B (tMethN C f n l (spOf K φ) g E te ta tk) ρ m Q := fun Hb H σ R hB r hs k =>
  h Hb H σ _ hB r hs fun v H1 Hb1 x m1 e1 r1 hx q1 => by
    obtain ⟨a, dx, fs, rfl, h1, h2⟩ := q1.1.at r1 hx
    exact ⟨a, dx, fs, rfl, h1, h2, q1.2 Hb1 H1 σ _ (hB.trans e1) r1 (hs.mono e1) fun vs H2 Hb2 ds m2 e2 r2 hxs q2 => q2 Hb2 H2 σ _ ((hB.trans e1).trans e2) r2 ((hs.mono e1).mono e2) fun zs H3 Hb3 es m3 e3 r3 hzs q3 =>
      ⟨by rw [hxs.length]; exact q3.1, by rw [hzs.length]; exact q3.2.1, _, m3, F, Hb3, Q, X, hg (((hB.trans e1).trans e2).trans e3) (RpL.cons ((hx.mono e2).mono e3) (hxs.mono e3)) hzs, r3, q3.2.2, k.mono ((e1.trans e2).trans e3), hE.mono (((hB.trans e1).trans e2).trans e3)⟩⟩
/-- o.f as a target, o owned -/
theorem wg_fld {to : TE} {f : Str} {x : D} {Q : Env → Mem → Prop} (h : WE K F B to ρ m fun o m1 => ∃ a C ns ds, o = .s (.ref a) ∧ m1.own a = some (.ins C ns ds) ∧ Cls K C ∧ NoAttr K C f ∧ ns.length < 1000 ∧
    Q ρ { m1 with own := putM m1.own a (.ins C (putN f ns) (putE f x ns ds)) }) : WG K F B (gFld K to f) x ρ m Q := fun Hb H σ v R hB r hs hx k =>
  h Hb H σ _ hB r hs fun o H1 Hb1 od m1 e1 r1 ho q1 => by
    obtain ⟨a, C, ns, ds, rfl, hown, c, n, hl, q⟩ := q1
    unfold Rp at ho
    subst ho
    obtain ⟨h0, dx, vs, h1, h2, h3⟩ := r1.own a _ hown
    refine ⟨a, C, dx, _, rfl, h1, c, n, ?_, ?_⟩
    · rw [List.length_zip]
      omega
    · refine k _ _ _ _ _ e1 (r1.change (mo' := .ins C (putN f ns) (putE f x ns ds)) hown ⟨dx, putE f v ns vs, ?_, h2.put (hx.mono e1) h3, put_len h3⟩) (hs.mono e1) q
      rw [upd_same, putF_zip f v ns vs (by rw [h3, h2.length])]
end
section
variable {P : Program} {w : World} {K : PySem.W.Frag} {mg : Str → Option Value} {base : Heap}
theorem ok_DK {CX : CXT} {x qual : Str} {st : Stmt} {dvs : List V} {kws : List (Str × V)} {f : Addr} {fd : FuncData} {N ps : List Str} {k : Nat} {φ : Phi} (F : FunD K x qual (defArgs st) (defBody st) (defScope st) dvs kws f fd) (S : FnScope N ps (defScope st)) (hl : ∀ ds m nx X, φ ds m nx X → ds.length = ps.length)
    (hbody : ∀ (cdv : Value) (A : Around) (outer : List PySem.Env) (s : Shared) (H : Hp) (E : XK), Room k (A.deeper (envOfC qual (defScope st) s.heap.objs.size f cdv)) →
      ∃ t, PSs (cxOf CX P w K mg base N qual (defScope st) f cdv A outer s H E) (defBody st) t ∧ BodyOk K φ N E t) : FnOk P w K mg base CX (k + 1) f fd ps (spOf K φ) := by
  refine F.ok S (spOf_len hl) fun cdv A outer s H vs Q E hr h => ?_
  obtain ⟨ds, m, F', Hb, nx, X, h1, h2, h3, h4, h5⟩ := h
  obtain ⟨t, ht, hw⟩ := hbody cdv A outer s H E hr
  exact ⟨t, ht, hw ds m nx X F' Hb h3 h5 Hb H _ _ (Same.refl _) h2 (RpS.start h1) ⟨fun σ H' Hb' ρ m' e r hs q => h4 _ _ _ _ _ e r rp_s q, h4, fun _ _ _ _ _ _ _ _ z => z.elim, fun _ _ _ _ _ _ _ _ z => z.elim⟩⟩
end
/-! ### one thing, told in another way -/
def Coarse (x y : D) : Prop := ∀ (K : PySem.W.Frag) (H : Hp) (v : V), Rp K H x v → Rp K H y v
def CoarseL (xs ys : List D) : Prop := ∀ (K : PySem.W.Frag) (H : Hp) (vs : List V), RpL K H xs vs → RpL K H ys vs
theorem Coarse.refl (x : D) : Coarse x x := fun _ _ _ h => h
theorem CoarseL.nil : CoarseL [] [] := fun _ _ _ h => h
theorem CoarseL.cons {x y : D} {xs ys : List D} (h : Coarse x y) (t : CoarseL xs ys) : CoarseL (x :: xs) (y :: ys) := fun K H vs r => by
  unfold RpL at r ⊢
  obtain ⟨v, us, e, r1, r2⟩ := r
  exact ⟨v, us, e, h K H v r1, t K H us r2⟩
theorem Coarse.lst {xs ys : List D} (h : CoarseL xs ys) : Coarse (.lst xs) (.lst ys) := fun K H v r => by
  unfold Rp at r ⊢
  obtain ⟨p, vs, e, h1, h2⟩ := r
  exact ⟨p, vs, e, h1, h K H vs h2⟩
theorem Coarse.tup {xs ys : List D} (h : CoarseL xs ys) : Coarse (.tup xs) (.tup ys) := fun K H v r => by
  unfold Rp at r ⊢
  obtain ⟨p, vs, e, h1, h2⟩ := r
  exact ⟨p, vs, e, h1, h K H vs h2⟩
abbrev plD (ns : List Str) : D := .tup ((ns.map V.str).map D.s)
theorem Coarse.tx {d : D} {ns : List Str} (h : TxT d ns) : Coarse d (plD ns) := fun K H v r => by
  obtain ⟨b, rfl, hb⟩ := h.rp r
  unfold Rp
  exact ⟨b, _, rfl, hb, RpL.ofScal _⟩
theorem CoarseL.pls {ds : List D} {nss : List (List Str)} (h : PlL ds nss) : CoarseL ds (nss.map plD) := by
  induction h with
  | nil => exact .nil
  | cons h t ih => exact .cons (.tx h) ih
section
variable {K : PySem.W.Frag} {B F Hb H : Hp} {m : Mem} {ρ : DD.Env} {E : XK} {X : XD}
theorem we_coarse {te : TE} {Q' Q : QD} (h : WE K F B te ρ m Q') (hq : ∀ d m', Q' d m' → ∃ y, Coarse d y ∧ Q y m') : WE K F B te ρ m Q := fun Hb H σ R hB r hs k =>
  h Hb H σ R hB r hs fun v H' Hb' d m' e r' hd q => by
    obtain ⟨y, c, q2⟩ := hq d m' q
    exact k v H' Hb' y m' e r' (c K Hb' v hd) q2
end
end DD

/-! HLam: a lambda handed to a def, its table told as it grows; a try with several clauses, named or not. -/
namespace HL1
open PySem PySem.Spec PyProof.Rows L2
/-- the heap behind the making of a lambda: as it was, or with one code object more -/
inductive Grew (P c' : Addr) (q : Str) (ps : Array Value) (H : Hp) : Hp → Prop
  | known (h : ∃ p, codeAmong p ps.toList = some (.ref c')) : Grew P c' q ps H H
  | fresh (more : Array Value) (hn : H c' = none) (ht : TriplesOk (ps ++ more).toList) (ha : ∀ p cv, codeAmong p (ps ++ more).toList = some cv → (∃ p', codeAmong p' ps.toList = some cv) ∨ cv = .ref c') :
      Grew P c' q ps H (upd (upd H P (.tbl (ps ++ more))) c' (LamX.CodeO c' q))
section
variable {X : Cx} {pins : List (Addr × Obj)} {σ : L2.St} {H : Hp} {s : Shared}
theorem lamNew {c P : Addr} {q : Str} {ps : Array Value} {params : Arguments} {body : Expr} {scope : Scope} {pos : Pos} {E Q : Value → Shared → Prop} (I : Inv X pins σ H s) (hq : X.env.qual ++ "<lambda>" = q) (TB : LamX.TabB X.base X.mg c P) (hcode : X.env.code = .ref c)
    (tP : H P = some (.tbl ps)) (tOk : TriplesOk ps.toList) (tAll : ∀ p cv, codeAmong p ps.toList = some cv → ∃ c', cv = .ref c' ∧ H c' = some (LamX.CodeO c' q)) (hdef : defaultsOf params X.env = ([], []))
    (hfree : ∀ y ∈ scope.names, y.2 = .free → ∃ c, X.env.cells.lookup y.1 = some c)
    (h : ∀ (f c' : Addr) (pm ctv : Value) (H1 : Hp) (s1 : Shared), Inv X pins σ H1 s1 → Grew P c' q ps H H1 → H1 c' = some (LamX.CodeO c' q) →
      s1.heap.get? f = some (PySem.W.kla_obj "<lambda>" q params body scope (cloFrom X.env.cells scope.names []) pm c' ctv) → H1 f = none → f ∉ frs X.stack → Q (.ref f) s1) :
    wpAny (model X.prog X.w) X.A (eval (.Lambda params body scope pos) X.env) Q E s := by
  subst hq
  refine PySem.W.kla_eval hdef ?_
  have hbP := TB.bm.keeps I.bk
  have hgP : s.heap.get? P = some { cls := .none, data := .fields ps } := I.hok P _ tP
  have away : ∀ f, s.heap.objs.size ≤ f → f ∉ frs X.stack := fun f hf hm => by
    rcases List.mem_cons.mp (I.stkSub f hm) with z | z
    · have lo := I.lt
      rw [← z] at lo
      exact absurd (Nat.lt_of_lt_of_le lo hf) (Nat.lt_irrefl f)
    · exact I.nofs hf z
  cases fnd : codeAmong pos ps.toList with
  | some cv =>
    obtain ⟨c', rfl, hc'⟩ := tAll pos cv fnd
    refine PySem.W.kla_makeFunctionHit (c := c) (P := P) (ps := ps) (mg := X.mg) (closure_ok hfree) I.ok.glob (I.mod.glob.keeps I.bk) hcode (TB.code.keeps I.bk) hgP tOk fnd hbP ?_
    intro ctv g tk up grown
    have J := I.kept (h' := g.push (PySem.W.kla_obj "<lambda>" (X.env.qual ++ "<lambda>") params body scope (cloFrom X.env.cells scope.names []) ((X.mg "__name__").getD .none) c' ctv)) (t' := tk) fun b o e => Heap.get?_push_of_some _ (up b o e)
    exact h _ c' _ ctv H _ J (.known ⟨pos, fnd⟩) hc' (Heap.get?_push_size _ rfl) (I.hok.fresh grown) (away _ grown)
  | none =>
    refine PySem.W.kla_makeFunction (c := c) (P := P) (ps := ps) (mg := X.mg) (closure_ok hfree) I.ok.glob (I.mod.glob.keeps I.bk) hcode (TB.code.keeps I.bk) hgP tOk fnd TB.gP hbP ?_
    intro c' ctv g tk ext lo hi rec_ tab
    obtain ⟨c2, oc, vs, tt, rfl', r1, r2, r3⟩ := rec_
    cases rfl'
    have big : s.heap.objs.size ≤ g.objs.size := Nat.le_of_lt (Nat.lt_of_le_of_lt lo hi)
    have free' : H c' = none := I.hok.fresh lo
    have J := LamX.inv_table (t' := tk) (q := X.env.qual ++ "<lambda>") (more := #[rawInt pos.line, rawInt pos.col, .ref c']) (h' := g.push (PySem.W.kla_obj "<lambda>" (X.env.qual ++ "<lambda>") params body scope (cloFrom X.env.cells scope.names []) ((X.mg "__name__").getD .none) c' ctv)) I tP
      (fun b o nb e => Heap.get?_push_of_some _ (ext b o nb e)) (Heap.get?_push_of_some _ tab) lo ⟨oc, vs, tt, Heap.get?_push_of_some _ r1, r2, r3⟩
    have lst : (ps ++ #[rawInt pos.line, rawInt pos.col, .ref c']).toList = ps.toList ++ [rawInt pos.line, rawInt pos.col, .ref c'] := by simp
    refine h g.objs.size c' _ ctv _ _ J (.fresh _ free' (by rw [lst]; exact PySem.TriplesOk_snoc _ _ _ _ tOk) fun p cv hcv => ?_) upd_same (Heap.get?_push_size _ rfl) ?_ (away _ big)
    · rw [lst] at hcv
      exact (LamX.among_app _ tOk hcv).imp (fun z => ⟨p, z⟩) fun z => z
    · have n2 : g.objs.size ≠ P := Nat.ne_of_gt (Nat.lt_of_lt_of_le (Heap.lt_size hgP) big)
      rw [upd_ne (Nat.ne_of_gt hi), upd_ne n2]
      exact I.hok.fresh big
theorem takes_len {W : WX} (tk : Takes X W) : Takes X (fun cls d σ' H' => σ'.length = X.N.length → W cls d σ' H') := fun u s' z => by
  obtain ⟨a, B, sI, pins', σ', H', cls, d, e, J, b1, b2, b3, b4, b5, b6, w⟩ := z
  exact tk u s' ⟨a, B, sI, pins', σ', H', cls, d, e, J, b1, b2, b3, b4, b5, b6, w J.len⟩
end
/-- what the reading of x(lambda: ..) asks: the table's state, then the def's reading over the lambda's -/
def tLam (P : Addr) (q : Str) (Ng : List Str) (tg : (XK → TE) → TS) (t : XK → TE) : TE := fun σ H Q => ∃ ps, H P = some (.tbl ps) ∧ TriplesOk ps.toList ∧ (∀ p cv, codeAmong p ps.toList = some cv → ∃ c', cv = .ref c' ∧ H c' = some (LamX.CodeO c' q)) ∧
  ∀ f c' H1, H1 f = none → H1 c' = some (LamX.CodeO c' q) → Grew P c' q ps H H1 → tg (fun E σZ HZ Q' => σZ[0]? = some (some (.ref f)) ∧ HZ c' = some (LamX.CodeO c' q) ∧ t E σ HZ Q') { nx := fun _ H' => Q .non H', rt := Q } (L2.start Ng [.ref f]) H1
section
variable {X : Cx}
theorem pe_lam {x a q : Str} {g c P : Addr} {k : Nat} {st : Stmt} {fd : FuncData} {Ng : List Str} {params : Arguments} {body : Expr} {scope : Scope} {t : XK → TE} {tg : (XK → TE) → TS} {p lpos pos : Pos} (hg : Gl X x) (hm : X.mg x = some (.ref g)) (F : L2.Fun X.K x x st g fd) (hb : L2.Binds X.K fd [a] []) (Sg : FnScope Ng [a] (defScope st))
    (h0 : Ng[0]? = some a) (hva : Vis (defScope st) a) (hq : X.env.qual ++ "<lambda>" = q)
    (hG : ∀ (cdv : Value) (s : Shared) (H : Hp) (ask : XK → TE), (∀ (W : WX) (pn : List (Addr × Obj)) (xe : Value → Shared → Prop) (p1 p2 : Pos), Takes ((cxOf C8.CX0 X.prog X.w X.K X.mg X.base Ng x (defScope st) g cdv X.A X.stack s H C8.E0).tr pn xe) W →
        PE ((cxOf C8.CX0 X.prog X.w X.K X.mg X.base Ng x (defScope st) g cdv X.A X.stack s H C8.E0).tr pn xe) (.Call (.Name a p1) [] [] p2) (ask fun cls d H' => ∀ σ' : L2.St, σ'.length = Ng.length → W cls d σ' H')) →
      PSs (cxOf C8.CX0 X.prog X.w X.K X.mg X.base Ng x (defScope st) g cdv X.A X.stack s H C8.E0) (defBody st) (tg ask))
    (TB : LamX.TabB X.base X.mg c P) (hcode : X.env.code = .ref c) (hr : Room (k + 2) X.A) (L : LamX.LamS X.env.scope scope) (hdef : defaultsOf params X.env = ([], []))
    (hbind : ∀ (q : Str) (cl : List (Str × Addr)) (pm cv ctv : Value), bindArgs (PySem.W.kla_fn "<lambda>" q params body scope cl pm cv ctv) ⟨[], []⟩ = pure [])
    (hbody : ∀ (A : Around) (outer : List Env) (s : Shared) (H : Hp) (E : XK) (f c' : Addr), Room k (A.deeper (LamX.lamEnv X scope s.heap.objs.size f c')) → PE (LamX.lamCx X A outer s H E scope f c') body (t E))
    (hdb : (x == ("__debug__" : Str)) = false := by decide) (hd : (a == ("__debug__" : Str)) = false := by decide) (hcd : (a == ("__classdict__" : Str)) = false := by decide) :
    PE X (.Call (.Name x p) [.Lambda params body scope lpos] [] pos) (tLam P q Ng tg t) := by
  obtain ⟨oc, od, kV, doc, pm, an, cdv, ct, osl, rfl, lk, hcg⟩ := F.ex
  refine ⟨fun pins s σ H Q I ⟨ps, tP, tOk, tAll, go⟩ => wpAny_Call_Name_kw (ld_glob I hg hm ?_ hdb)⟩
  refine PySem.W.callWith_K (h₀ := X.base) I.ok.mod.kin F.kp ?_ (by rfl) (by rfl)
  show wpAny _ _ (spliced ((false, eval (.Lambda params body scope lpos) X.env) :: backTo pos (starEach [] X.env))) _ _ s
  refine Calls.spliced_cons (lamNew I hq TB hcode tP tOk tAll hdef (L.has I.ok) ?_)
  intro f c' pm' ctv H1 s1 J gr hc' obj fr0 fr1
  refine Calls.spliced_nil ⟨J.kIn, wpAny_call ?_⟩
  subst hq
  refine codeAny_mono (LamX.run_ofS (CX := C8.CX0) (E := C8.E0) (Q := Q) (N := Ng) (ps := [a]) (us := [.ref f]) (vs := [.ref f]) lk hcg Sg hr J.env0 (hb s1 [.ref f] J.kIn rfl) (.cons rfl .nil) rfl fun hr1 => ⟨_, hG cdv s1 H1 (fun E σZ HZ Q' => σZ[0]? = some (some (.ref f)) ∧ HZ c' = some (LamX.CodeO c' (X.env.qual ++ "<lambda>")) ∧ t E σ HZ Q') ?_, ?_⟩) fun r s2 hr2 => ?_
  · intro W pn xe p1 p2 tk
    exact LamX.pe_act (i := 0) J L obj fr0 fr1 (hbind _ _ _ _ _) (takes_len tk) (fun cls d σ' H' hE hl => hE σ' hl) hr1 (fun A outer s0 H0 hr0 => hbody A outer s0 H0 _ f c' hr0) h0 hva hd hcd
  · exact go f c' H1 fr0 hc' gr
  · match r, hr2 with
    | .ok (.ret u), z => exact J.after z
    | .ok .next, z => exact False.elim z
    | .ok .brk, z => exact False.elim z
    | .ok .cont, z => exact False.elim z
    | .error e, z => exact False.elim z
end
/-- whether the clause of the class S takes an exception of the class C -/
theorem exm_two {K : PySem.W.Frag} {C S : Addr} {r : Bool} (h1 : PySem.W.subIn K (.ref S) (.type "BaseException") = some true) (h2 : PySem.W.isClsIn K S = true) (h3 : PySem.W.typeIn K (.ref S) = some (.type "type")) (h4 : PySem.W.subIn K (.ref C) (.ref S) = some r) :
    PySem.W.exmOne K (.ref C) (.ref S) = some r := by
  have b1 : (PySem.W.subIn K (.ref S) (.type "BaseException") == some true) = true := by rw [h1] <;> rfl
  have b2 : ((PySem.W.clsIn K S).isSome && PySem.W.typeIn K (.ref S) == some (.type "type")) = true := by
    have h2' : (PySem.W.clsIn K S).isSome = true := h2
    rw [h2', h3] <;> rfl
  show (if _ then (if _ then PySem.W.subIn K (.ref C) (.ref S) else none) else none) = some r
  rw [if_pos b1, if_pos b2]
  exact h4
/-! ### a try with several clauses -/
/-- what the clauses wish of an exception: class, slot of the name if there is one, suite -/
def wM (K : PySem.W.Frag) (D : Ends) : List (Value × Option Nat × (Addr → Value → Option Addr → TS)) → WX
  | [] => fun _ _ _ _ => False
  | (c, none, ts) :: r => fun cls d σ H => ∃ b, PySem.W.exmOne K cls c = some b ∧ (b = true → ∀ a, H a = none → ts a cls d D σ H) ∧ (b = false → wM K D r cls d σ H)
  | (c, some i, ts) :: r => fun cls d σ H => ∃ b, PySem.W.exmOne K cls c = some b ∧ (b = true → ∀ a, H a = none → ts a cls d { nx := fun σ1 H1 => D.nx (σ1.set i none) H1, rt := D.rt, bk := fun σ1 H1 => D.bk (σ1.set i none) H1, ct := fun σ1 H1 => D.ct (σ1.set i none) H1 } (σ.set i (some (.ref a))) H) ∧
      (b = false → wM K D r cls d σ H)
inductive HdM (X : Cx) : List ExceptHandler → List (Value × Option Nat × (Addr → Value → Option Addr → TS)) → Prop
  | nil : HdM X [] []
  | plain {x : Str} {c : Value} {ts : Addr → Value → Option Addr → TS} {b₀ : Stmt} {su : List Stmt} {p1 p2 : Pos} {hds : List ExceptHandler} {l : List (Value × Option Nat × (Addr → Value → Option Addr → TS))} (nm : Names X x c)
      (hsu : ∀ (a : Addr) (oe : Obj) (cls : Value) (d : Option Addr) (pn : List (Addr × Obj)), Zc cls d oe → (∃ vs, oe.data = .fields vs) → PSs (X.suite a ((a, oe) :: pn)) (b₀ :: su) (ts a cls d)) (r : HdM X hds l) :
      HdM X (.ExceptHandler (some (.Name x p1)) none (b₀ :: su) p2 :: hds) ((c, none, ts) :: l)
  | named {x n : Str} {c : Value} {i : Nat} {ts : Addr → Value → Option Addr → TS} {b₀ : Stmt} {su : List Stmt} {p1 p2 : Pos} {hds : List ExceptHandler} {l : List (Value × Option Nat × (Addr → Value → Option Addr → TS))} (nm : Names X x c) (hi : X.N[i]? = some n) (hln : X.env.kindOf n = some .local)
      (hsu : ∀ (a : Addr) (oe : Obj) (cls : Value) (d : Option Addr) (pn : List (Addr × Obj)), Zc cls d oe → (∃ vs, oe.data = .fields vs) → PSs (X.suite a ((a, oe) :: pn)) (b₀ :: su) (ts a cls d)) (r : HdM X hds l) :
      HdM X (.ExceptHandler (some (.Name x p1)) (some n) (b₀ :: su) p2 :: hds) ((c, some i, ts) :: l)
def tTryM (K : PySem.W.Frag) (n : Nat) (l : List (Value × Option Nat × (Addr → Value → Option Addr → TS))) (tb : XK → TS) : TS := fun D σ H => tb (fun cls d H' => ∀ σ' : L2.St, σ'.length = n → wM K D l cls d σ' H') D σ H
section
variable {X : Cx} {body : List Stmt} {h₀ : ExceptHandler} {hds : List ExceptHandler} {l : List (Value × Option Nat × (Addr → Value → Option Addr → TS))} {pos : Pos} {tb : XK → TS}
theorem ps_tryM (hs : X.stack = X.env :: X.outer) (hf : X.env.frame = some X.env.locals) (hN : X.N.Nodup)
    (hb : ∀ (W : WX) (pn : List (Addr × Obj)) (xe : Value → Shared → Prop), Takes (X.tr pn xe) W → PassesOwn (model X.prog X.w) X.A X.env xe → PSs (X.tr pn xe) body (tb fun cls d H' => ∀ σ' : L2.St, σ'.length = X.N.length → W cls d σ' H'))
    (hh : HdM X (h₀ :: hds) l) : PS X (.Try body (h₀ :: hds) [] [] pos) (tTryM X.K X.N.length l tb) := by
  refine ⟨fun pins s σ H D I h => ?_⟩
  have ok := I.ok
  have frm : X.A.frames = some (X.env :: X.outer) := hs ▸ ok.frames
  refine wpAny_Try_except (wpAny_mono ((hb (wM X.K D l) (X.pn ++ pins) (fun e z₁ => wpAny (model X.prog X.w) X.A (noteFrame e X.env) (fun _ z₂ => wpAny (model X.prog X.w) X.A (setFlight e none)
    (fun _ z₃ => wpAny (model X.prog X.w) X.A (handleBy e X.env (h₀ :: hds)) (SP X pins D) X.xe z₃) X.xe z₂) X.xe z₁) (fun u s' caught => ?_) PassesOwn.looking).run [] s σ H D (I.toTry _) h) (fun fl s1 done => ?_) (fun _ _ z => z))
  · obtain ⟨a, B, sI, pins', σ', H', cls, d, rfl, J0, nb, up, sk, na, os, ag, want⟩ := caught
    have J : Inv X pins σ' H' sI := J0.ofTry ok
    rw [show (X.tr (X.pn ++ pins) _).stack = X.env :: X.outer from hs] at sk
    show wpAny (model X.prog X.w) X.A (noteFrame (.ref a) X.env) _ _ _
    refine Sky.land Zc.steady frm hf sk fun g3 fly3 to3 => ?_
    have K3 : Inv X pins σ' H' { s' with heap := g3 } := J.landed nb fly3.1 (up.trans to3) os ag
    obtain ⟨o3, v3, at3, zc3, dt3⟩ := fly3.there
    have off : a ∉ frs (X.env :: X.outer) := fun hm => by
      obtain ⟨_, o', e', no⟩ := fly3.2.2.1.mem hm
      rw [at3] at e'
      cases e'
      exact no _ dt3
    have nLoc : a ≠ X.env.locals := fun z => off (List.mem_filterMap.mpr ⟨X.env, List.mem_cons_self, by rw [hf, z]⟩)
    have nFs : a ∉ X.fs := fun hm => by
      obtain ⟨ev, m1, m2⟩ := List.mem_filterMap.mp hm
      exact off (List.mem_filterMap.mpr ⟨ev, List.mem_cons_of_mem _ m1, m2⟩)
    have asks : ∀ {x : Str} {c : Value} {np : Pos} {Q E : Value → Shared → Prop}, Names X x c → Q c { s' with heap := g3 } → wpAny (model X.prog X.w) (X.A.mark (some (.ref a))) (eval (.Name x np) X.env) Q E { s' with heap := g3 } := fun {x c np Q E} nm q => by
      have S3 := K3.suite at3 dt3 na nLoc nFs
      obtain ⟨hg, hdbg, hm⟩ := nm
      rcases hm with hm | ⟨hm, hv, hnn⟩
      · exact ld_glob (X := X.suite a ((a, o3) :: (X.pn ++ pins))) S3 hg hm q hdbg
      · exact ld_blt (X := X.suite a ((a, o3) :: (X.pn ++ pins))) S3 hg hm hv q hnn hdbg
    have kind3 : PySem.W.Looks (model X.prog X.w) g3 (typeOf (.ref a)) cls := fun _ _ _ _ k q => wpAny_typeOf_ref (k _ _ at3) (zc3.1.symm ▸ q)
    have again : ∀ {hs' : List ExceptHandler} {l' : List (Value × Option Nat × (Addr → Value → Option Addr → TS))}, HdM X hs' l' → wM X.K D l' cls d σ' H' → wpAny (model X.prog X.w) X.A (handleBy (.ref a) X.env hs') (SP X pins D) X.xe { s' with heap := g3 } := by
      intro hs' l' hk
      induction hk with
      | nil => exact False.elim
      | @plain x c ts b₀ su p1 p2 hds2 l2 nm hsu r ih =>
        rintro ⟨b, eb, yes, no⟩
        refine wpAny_handleBy_cons (codeAny_handlers_test (asks nm ((PySem.W.exm_one (M := model X.prog X.w) K3.kIn kind3 eb).here ?_))) (fun z => by cases z)
        cases b with
        | false => exact ih (no rfl)
        | true =>
          refine codeAny_handlers_suite (HandSPX.lands_againZ fly3 fun g4 fly4 to4 => ?_)
          obtain ⟨o4, v4, at4, zc4, dt4⟩ := fly4.there
          have K4 : Inv X pins σ' H' { s' with heap := g4 } := J.landed nb fly4.1 ((up.trans to3).trans to4) os ag
          refine wpAny_mono ((hsu a o4 cls d (X.pn ++ pins) zc4 ⟨_, dt4⟩).run [] _ _ H' _ (K4.suite at4 dt4 na nLoc nFs) (yes rfl a na)) (fun fl s6 done => ?_) (fun _ _ z => z.elim)
          match fl, done with
          | .next, ⟨σ6, H6, S6, q6⟩ => exact ⟨σ6, H6, S6.unsuite ok, q6⟩
          | .brk, ⟨σ6, H6, S6, q6⟩ => exact ⟨σ6, H6, S6.unsuite ok, q6⟩
          | .cont, ⟨σ6, H6, S6, q6⟩ => exact ⟨σ6, H6, S6.unsuite ok, q6⟩
          | .ret u, ⟨v6, σ6, H6, S6, r6, q6⟩ => exact ⟨v6, σ6, H6, S6.unsuite ok, r6, q6⟩
      | @named x n c i ts b₀ su p1 p2 hds2 l2 nm hi hln hsu r ih =>
        rintro ⟨b, eb, yes, no⟩
        refine wpAny_handleBy_cons (codeAny_handlers_test (asks nm ((PySem.W.exm_one (M := model X.prog X.w) K3.kIn kind3 eb).here ?_))) (fun z => by cases z)
        cases b with
        | false => exact ih (no rfl)
        | true =>
          refine codeAny_handlers_suite_as (HandSPX.lands_againZ fly3 fun g4 fly4 to4 => ?_)
          obtain ⟨o4, v4, at4, zc4, dt4⟩ := fly4.there
          have K4 : Inv X pins σ' H' { s' with heap := g4 } := J.landed nb fly4.1 ((up.trans to3).trans to4) os ag
          refine store_ok (X := X.suite a ((a, o4) :: (X.pn ++ pins))) (v := .ref a) (K4.suite at4 dt4 na nLoc nFs) hN hi (.inl hln) rfl (fun s5 S5 => ?_) (.inr hln)
          refine wpAny_mono ((hsu a o4 cls d (X.pn ++ pins) zc4 ⟨_, dt4⟩).run [] s5 _ H' _ S5 (yes rfl a na)) (fun fl s6 done => ?_) (fun _ _ z => z.elim)
          have gone : ∀ {σ6 : L2.St} {H6 : Hp} {R : Shared → Prop}, Inv (X.suite a ((a, o4) :: (X.pn ++ pins))) [] σ6 H6 s6 → (∀ s7, Inv X pins (σ6.set i none) H6 s7 → R s7) →
              wpAny (model X.prog X.w) X.A (do bindName X.env n .none; unbindBehindTheSuite X.env n p2) (fun _ s7 => R s7) X.xe s6 := fun {σ6 H6 R} S6 hR => gone_ok (S6.unsuite ok) hN hi hln hR
          match fl, done with
          | .next, ⟨σ6, H6, S6, q6⟩ => exact gone S6 fun s7 J7 => ⟨_, _, J7, q6⟩
          | .brk, ⟨σ6, H6, S6, q6⟩ => exact gone S6 fun s7 J7 => ⟨_, _, J7, q6⟩
          | .cont, ⟨σ6, H6, S6, q6⟩ => exact gone S6 fun s7 J7 => ⟨_, _, J7, q6⟩
          | .ret u, ⟨v6, σ6, H6, S6, r6, q6⟩ => exact gone S6 fun s7 J7 => ⟨_, _, _, J7, r6, q6⟩
    exact again hh want
  · match fl, done with
    | .next, ⟨σ6, H6, J6, q6⟩ => exact wpAny_execs_nil ⟨σ6, H6, J6.ofTry ok, q6⟩
    | .brk, ⟨σ6, H6, J6, q6⟩ => exact ⟨σ6, H6, J6.ofTry ok, q6⟩
    | .cont, ⟨σ6, H6, J6, q6⟩ => exact ⟨σ6, H6, J6.ofTry ok, q6⟩
    | .ret u, ⟨v6, σ6, H6, J6, r6, q6⟩ => exact ⟨v6, σ6, H6, J6.ofTry ok, r6, q6⟩
end
end HL1

/-! DLam: lambdas, tables of code objects, tries with several clauses, over data. -/
namespace DD
open PySem L2
open PySem.Spec PyProof.Rows
/-- a table of code objects that all bear the name q -/
def tabM (q : Str) : MO := .gen fun Hb o => ∃ ps, o = .tbl ps ∧ TriplesOk ps.toList ∧ ∀ p cv, codeAmong p ps.toList = some cv → ∃ c', cv = .ref c' ∧ Hb c' = some (LamX.CodeO c' q)
/-- the law's promise where it makes lambdas: its table is empty at the entry -/
def spLawT (K : PySem.W.Frag) (P : Addr) : Sp := fun vs H Q _ => ∃ (a : Addr) (ns : List Int), vs = [.ref a] ∧ SqL K H a (ns.map V.int) ∧ ns.length ≤ 63 ∧ H P = some (.tbl #[]) ∧ ∀ H', Q (.bl true) H'
section
variable {P : Program} {w : World} {K : PySem.W.Frag} {mg : Str → Option Value} {base : Heap} {B F Hb H : Hp} {m : Mem} {ρ : DD.Env}
theorem tab_start {T : Addr} {q : Str} (h : H T = some (.tbl #[])) : Rel K (fun _ => none) (fun b => if b = T then none else H b) H ⟨0, putM (fun _ => none) T (tabM q)⟩ := by
  refine ⟨fun b o e => ?_, (fun _ _ z => nomatch z), fun b mo e => ?_, (fun _ _ z => nomatch z)⟩
  · have e' : (if b = T then none else H b) = some o := e
    by_cases hb : b = T
    · rw [if_pos hb] at e'
      cases e'
    · rw [if_neg hb] at e'
      exact e'
  · have e' : putM (fun _ => none) T (tabM q) b = some mo := e
    by_cases hb : b = T
    · subst hb
      rw [putM_same] at e'
      cases e'
      exact ⟨if_pos rfl, .tbl #[], _, h, Same.refl _, ⟨#[], rfl, True.intro, fun p cv z => by simp [codeAmong] at z⟩, fun xs z => nomatch z⟩
    · rw [putM_ne hb] at e'
      cases e'
theorem okCT {CX : CXT} {x qual : Str} {st : Stmt} {f c : Addr} {fd : FuncData} {N ps : List Str} {k : Nat} {sp : Sp} (Fn : Fun K x qual st f fd) (hfd : fd.code = .ref c) (S : FnScope N ps (defScope st)) (len : ∀ vs H Q E, sp vs H Q E → vs.length = ps.length)
    (hbody : ∀ (A : Around) (outer : List PySem.Env) (s : Shared) (H : Hp) (vs : List V) (Q : VK) (E : XK), Room k (A.deeper (envOfC qual (defScope st) s.heap.objs.size f (.ref c))) → sp vs H Q E →
      ∃ t, PSs (cxOf CX P w K mg base N qual (defScope st) f (.ref c) A outer s H E) (defBody st) t ∧ t { nx := fun _ H' => Q .non H', rt := Q } (L2.start N vs) H) : FnOk P w K mg base CX (k + 1) f fd ps sp := by
  obtain ⟨oc, od, kV, doc, pm, an, cdv, ct, osl, rfl, lk, hcd⟩ := Fn.ex
  have e : cdv = .ref c := hfd
  subst e
  exact fn_of lk hcd S len fun A outer s H vs Q E hr hsp => hbody A outer s H vs Q E hr hsp
theorem ok_lawT {CX : CXT} {x qual : Str} {st : Stmt} {f c T : Addr} {q : Str} {fd : FuncData} {N : List Str} {y : Str} {k : Nat} (Fn : Fun K x qual st f fd) (hfd : fd.code = .ref c) (S : FnScope N [y] (defScope st))
    (hbody : ∀ (A : Around) (outer : List PySem.Env) (s : Shared) (H : Hp) (E : XK), Room k (A.deeper (envOfC qual (defScope st) s.heap.objs.size f (.ref c))) →
      ∃ t, PSs (cxOf CX P w K mg base N qual (defScope st) f (.ref c) A outer s H E) (defBody st) t ∧ ∀ (a : Addr) (ns : List Int) (B : Hp), SqL K B a (ns.map V.int) → ns.length ≤ 63 →
        WS K (fun _ => none) B t (startD N [.s (.ref a)]) ⟨0, putM (fun _ => none) T (tabM q)⟩ { nx := fun _ _ => False, rt := fun d _ => d = .s (.bl true) }) : FnOk P w K mg base CX (k + 1) f fd [y] (spLawT K T) := by
  refine okCT Fn hfd S (fun vs H Q E h => by obtain ⟨a, ns, rfl, _⟩ := h; rfl) fun A outer s H vs Q E hr h => ?_
  obtain ⟨a, ns, rfl, hS, hl, hT, q'⟩ := h
  obtain ⟨t, ht, hw⟩ := hbody A outer s H E hr
  have hS' : SqL K (fun b => if b = T then none else H b) a (ns.map V.int) := by
    by_cases ha : a = T
    · subst ha
      rcases hS with (z | ⟨o, z⟩) | z
      · rw [hT] at z
        cases z
      · rw [hT] at z
        cases z
      · exact .inr z
    · rcases hS with (z | ⟨o, z⟩) | z
      · exact .inl (.inl ((if_neg ha).trans z))
      · exact .inl (.inr ⟨o, (if_neg ha).trans z⟩)
      · exact .inr z
  refine ⟨t, ht, hw a ns _ hS' hl _ H _ _ (Same.refl _) (tab_start hT) (RpS.start (RpL.cons rp_s RpL.nil)) ⟨fun _ _ _ _ _ _ _ _ z => z.elim, fun v H' Hb' d m' e r hd z => ?_, fun _ _ _ _ _ _ _ _ z => z.elim, fun _ _ _ _ _ _ _ _ z => z.elim⟩⟩
  subst z
  unfold Rp at hd
  subst hd
  exact q' _
/-- x(lambda: ..): the def's reading, where asking is the lambda's reading -/
theorem we_lam {T : Addr} {q : Str} {Ng : List Str} {tg : (XK → TE) → TS} {t : XK → TE} {Q : QD} (hT : m.own T = some (tabM q))
    (h : ∀ B' (ask : XK → TE) (f : Addr), Same B B' → (∀ B2 E ρ' m' Q', Same B' B2 → ρ'[0]? = some (some (.s (.ref f))) → WE K F B2 (t E) ρ m' Q' → WE K F B2 (ask E) ρ' m' Q') →
      WS K F B' (tg ask) (startD Ng [.s (.ref f)]) m { nx := fun _ m' => Q (.s .non) m', rt := Q }) : WE K F B (HL1.tLam T q Ng tg t) ρ m Q := fun Hb H σ R hB r hs k => by
  obtain ⟨hn, o, Hc, hTo, hsm, ⟨ps, rfl, tOk, tAll⟩, _⟩ := r.own T _ hT
  have all' : ∀ p cv, codeAmong p ps.toList = some cv → ∃ c', cv = .ref c' ∧ Hb c' = some (LamX.CodeO c' q) := fun p cv z => by
    obtain ⟨c', e1, e2⟩ := tAll p cv z
    exact ⟨c', e1, hsm _ _ e2⟩
  refine ⟨ps, hTo, tOk, fun p cv z => ?_, fun f c' H1 hf hc' gr => ?_⟩
  · obtain ⟨c', e1, e2⟩ := all' p cv z
    exact ⟨c', e1, r.sub _ _ e2⟩
  have key : ∀ Hb1, Same Hb Hb1 → Hb1 c' = some (LamX.CodeO c' q) → Rel K F Hb1 H1 m → tg (fun E σZ HZ Q' => σZ[0]? = some (some (.ref f)) ∧ HZ c' = some (LamX.CodeO c' q) ∧ t E σ HZ Q') { nx := fun _ H' => R .non H', rt := R } (L2.start Ng [.ref f]) H1 := fun Hb1 e1 hco r1 => by
    refine h Hb1 _ f (hB.trans e1) (fun B2 E ρ' m' Q' hB0 h0 hw => fun Hb2 H2 σ2 R2 hB2 r2 hs2 k2 => ?_) Hb1 H1 _ _ (Same.refl _) r1 (RpS.start (RpL.cons rp_s RpL.nil)) ⟨fun σ' H' Hb' ρ' m' e r' hs' q' => k _ _ _ _ _ (e1.trans e) r' rp_s q', fun v H' Hb' d m' e r' hd q' => k _ _ _ _ _ (e1.trans e) r' hd q', fun _ _ _ _ _ _ _ _ z => z.elim, fun _ _ _ _ _ _ _ _ z => z.elim⟩
    obtain ⟨v, hv, hr⟩ := hs2.2 0 _ h0
    unfold Rp at hr
    subst hr
    exact ⟨hv, r2.sub _ _ (hB2 _ _ (hB0 _ _ hco)), hw Hb2 H2 σ R2 hB2 r2 (hs.mono (e1.trans (hB0.trans hB2))) k2⟩
  cases gr with
  | known hp =>
    obtain ⟨p, hp⟩ := hp
    obtain ⟨c2, e1, e2⟩ := all' p _ hp
    cases e1
    exact key Hb (Same.refl _) e2 r
  | fresh more hfr ht ha =>
    have nT : T ≠ c' := ne_of_none hTo hfr
    have r1 : Rel K F (upd Hb c' (LamX.CodeO c' q)) (upd H c' (LamX.CodeO c' q)) m := r.data hfr
    have e1 : Same Hb (upd Hb c' (LamX.CodeO c' q)) := Same.new (r.fresh hfr)
    have r2 := r1.change (o := .tbl (ps ++ more)) (mo' := tabM q) hT ⟨.tbl (ps ++ more), upd Hb c' (LamX.CodeO c' q), upd_same, Same.refl _, ⟨ps ++ more, rfl, ht, fun p cv z => by
      rcases ha p cv z with ⟨p', y⟩ | y
      · obtain ⟨c2, y1, y2⟩ := all' p' cv y
        exact ⟨c2, y1, e1 _ _ y2⟩
      · exact ⟨c', y, upd_same⟩⟩, fun xs z => nomatch z⟩
    have em : ({ m with own := putM m.own T (tabM q) } : Mem) = m := by
      have : putM m.own T (tabM q) = m.own := by
        funext b
        by_cases hb : b = T
        · subst hb
          rw [putM_same, hT]
        · rw [putM_ne hb]
      rw [this]
    rw [em, upd_swap nT.symm] at r2
    exact key _ e1 upd_same r2

/-- list(x), x a tuple of texts -/
theorem wc_listTx {x : D} {ns : List Str} {Q : QD} (hx : TxT x ns) (q : Q (.lst ((ns.map V.str).map D.s)) m) : WC K F B (rListA K) [x] m Q := fun Hb H vs R hB r hv k => by
  obtain ⟨v, rfl, hv1⟩ := rpL1 hv
  exact wc_listT q Hb H [v] R hB r (RpL.cons (Coarse.tx hx K Hb v hv1) RpL.nil) k
/-- what may stand for a place where one is handed in: a tuple of texts, or a list of them -/
def StT (d : D) (ns : List Str) : Prop := TxT d ns ∨ d = .lst ((ns.map V.str).map D.s)
theorem wc_tupSt {x : D} {ns : List Str} {Q : QD} (hx : StT x ns) (q : ∀ y, TxT y ns → Q y m) : WC K F B (rTupA K) [x] m Q := by
  rcases hx with h | rfl
  · exact wc_tupTx h (q x h)
  · exact wc_tupLP (q _ (.inl rfl))

/-! ### a try with several clauses -/
/-- every exception that is let out finds its clause -/
def CatM (K : PySem.W.Frag) (n : Nat) (B : Hp) (E : DE) (C : Addr) (ns : List Str) (ds : List D) (m : Mem) : List (Value × Option Nat × (Addr → Value → Option Addr → TS)) → Prop
  | [] => False
  | (c, none, ts) :: r => ∃ b, PySem.W.exmOne K (.ref C) c = some b ∧ (b = true → ∀ F' B' d vs a, Same B B' → (∀ dd, d = some dd → F' dd = some (.xd (ns.zip vs))) → (d = none → ns = []) → RpL K B' ds vs → ns.length = ds.length → WS K F' B' (ts a (.ref C) d) (List.replicate n none) m E) ∧ (b = false → CatM K n B E C ns ds m r)
  | (c, some i, ts) :: r => ∃ b, PySem.W.exmOne K (.ref C) c = some b ∧ (b = true → ∀ F' B' d vs a, Same B B' → (∀ dd, d = some dd → F' dd = some (.xd (ns.zip vs))) → (d = none → ns = []) → RpL K B' ds vs → ns.length = ds.length →
      WS K F' B' (ts a (.ref C) d) ((List.replicate n none).set i (some (.s (.ref a)))) m { nx := fun ρ m => E.nx (ρ.set i none) m, rt := E.rt, bk := fun ρ m => E.bk (ρ.set i none) m, ct := fun ρ m => E.ct (ρ.set i none) m }) ∧ (b = false → CatM K n B E C ns ds m r)
theorem catM_ok {n : Nat} {E : DE} {R : Ends} {C : Addr} {ns : List Str} {ds : List D} {vs : List V} {d : Option Addr} {Hb' H' : Hp} {m' : Mem} (k : OkE K F Hb E R) (eH : Same Hb Hb') (hB : Same B Hb) (rX : RelX K F Hb' H' m' d ns vs) (hv : RpL K Hb' ds vs) (hl : ns.length = ds.length) (σ' : L2.St) (hσ : σ'.length = n) :
    ∀ l : List (Value × Option Nat × (Addr → Value → Option Addr → TS)), CatM K n B E C ns ds m' l → HL1.wM K R l (.ref C) d σ' H'
  | [], z => z.elim
  | (c, o, ts) :: r, h => by
    have ends : ∀ (F' : Hp), (∀ Hb1 H1 m1, Rel K F' Hb1 H1 m1 → Rel K F Hb1 H1 m1) → OkE K F' Hb' E R ∧ ∀ i, OkE K F' Hb' { nx := fun ρ m => E.nx (ρ.set i none) m, rt := E.rt, bk := fun ρ m => E.bk (ρ.set i none) m, ct := fun ρ m => E.ct (ρ.set i none) m }
        { nx := fun σ1 H1 => R.nx (σ1.set i none) H1, rt := R.rt, bk := fun σ1 H1 => R.bk (σ1.set i none) H1, ct := fun σ1 H1 => R.ct (σ1.set i none) H1 } := fun F' hF => ⟨⟨fun σ1 H1 Hb1 ρ1 m1 e r1 hs1 q => k.nx _ _ _ _ _ (eH.trans e) (hF _ _ _ r1) hs1 q, fun v H1 Hb1 d1 m1 e r1 hd q => k.rt _ _ _ _ _ (eH.trans e) (hF _ _ _ r1) hd q,
        fun σ1 H1 Hb1 ρ1 m1 e r1 hs1 q => k.bk _ _ _ _ _ (eH.trans e) (hF _ _ _ r1) hs1 q, fun σ1 H1 Hb1 ρ1 m1 e r1 hs1 q => k.ct _ _ _ _ _ (eH.trans e) (hF _ _ _ r1) hs1 q⟩, fun i => ⟨fun σ1 H1 Hb1 ρ1 m1 e r1 hs1 q => k.nx _ _ _ _ _ (eH.trans e) (hF _ _ _ r1) hs1.unset q, fun v H1 Hb1 d1 m1 e r1 hd q => k.rt _ _ _ _ _ (eH.trans e) (hF _ _ _ r1) hd q,
        fun σ1 H1 Hb1 ρ1 m1 e r1 hs1 q => k.bk _ _ _ _ _ (eH.trans e) (hF _ _ _ r1) hs1.unset q, fun σ1 H1 Hb1 ρ1 m1 e r1 hs1 q => k.ct _ _ _ _ _ (eH.trans e) (hF _ _ _ r1) hs1.unset q⟩⟩
    have rest : CatM K n B E C ns ds m' r → HL1.wM K R r (.ref C) d σ' H' := catM_ok k eH hB rX hv hl σ' hσ r
    cases d with
    | none =>
      obtain ⟨hns, hvs, rr⟩ := rX
      have hd1 : ∀ dd, (none : Option Addr) = some dd → F dd = some (.xd (ns.zip vs)) := fun dd z => nomatch z
      cases o with
      | none =>
        obtain ⟨b, eb, yes, no⟩ := h
        refine ⟨b, eb, fun hb a ha => ?_, fun hb => rest (no hb)⟩
        exact yes hb F Hb' none vs a (hB.trans eH) hd1 (fun _ => hns) hv hl Hb' H' _ _ (Same.refl _) rr (rpS_none hσ) (ends F fun _ _ _ z => z).1
      | some i =>
        obtain ⟨b, eb, yes, no⟩ := h
        refine ⟨b, eb, fun hb a ha => ?_, fun hb => rest (no hb)⟩
        exact yes hb F Hb' none vs a (hB.trans eH) hd1 (fun _ => hns) hv hl Hb' H' _ _ (Same.refl _) rr ((rpS_none hσ).set rp_s) ((ends F fun _ _ _ z => z).2 i)
    | some dd =>
      obtain ⟨hF, rr⟩ := rX
      have hd1 : ∀ dd', (some dd : Option Addr) = some dd' → upd F dd (.xd (ns.zip vs)) dd' = some (.xd (ns.zip vs)) := fun dd' z => by
        cases z
        exact upd_same
      cases o with
      | none =>
        obtain ⟨b, eb, yes, no⟩ := h
        refine ⟨b, eb, fun hb a ha => ?_, fun hb => rest (no hb)⟩
        exact yes hb (upd F dd (.xd (ns.zip vs))) Hb' (some dd) vs a (hB.trans eH) hd1 (fun z => nomatch z) hv hl Hb' H' _ _ (Same.refl _) rr (rpS_none hσ) (ends _ fun _ _ _ z => z.unframe hF).1
      | some i =>
        obtain ⟨b, eb, yes, no⟩ := h
        refine ⟨b, eb, fun hb a ha => ?_, fun hb => rest (no hb)⟩
        exact yes hb (upd F dd (.xd (ns.zip vs))) Hb' (some dd) vs a (hB.trans eH) hd1 (fun z => nomatch z) hv hl Hb' H' _ _ (Same.refl _) rr ((rpS_none hσ).set rp_s) ((ends _ fun _ _ _ z => z.unframe hF).2 i)
theorem ws_tryM {n : Nat} {l : List (Value × Option Nat × (Addr → Value → Option Addr → TS))} {tb : XK → TS} {X : XD} {E : DE} (hb : ∀ B' EX, Same B B' → OkX K F B' X EX → WS K F B' (tb EX) ρ m E) (hX : ∀ C ns ds m', X C ns ds m' → CatM K n B E C ns ds m' l) :
    WS K F B (HL1.tTryM K n l tb) ρ m E := fun Hb H σ R hB r hs k => by
  refine hb Hb _ hB (fun C d H' Hb' ns ds vs m' eH rX hv hl hx => ?_) Hb H σ R (Same.refl _) r hs k
  intro σ' hσ
  exact catM_ok k eH hB rX hv hl σ' hσ l (hX C ns ds m' hx)
end
end DD

/-! DSolo: an expression that reads owned lists as data, and leaves all as it was. -/
namespace DD
open PySem L2
open PySem.Spec PyProof.Rows
section
variable {K : PySem.W.Frag} {B F Hb H : Hp} {m : Mem} {ρ ρ' : DD.Env}
theorem repM_ntup {cnt : Nat} {a : Addr} {mo : MO} {xs : List V} (h : RepM K Hb H cnt a mo) : H a ≠ some (.tup xs) := fun z => by
  cases mo with
  | lst ds =>
    obtain ⟨vs, q, _⟩ := h
    rw [z] at q
    cases q
  | ins C ns ds =>
    obtain ⟨dx, vs, q, _⟩ := h
    rw [z] at q
    cases q
  | dK ks ds =>
    obtain ⟨vs, q, _⟩ := h
    rw [z] at q
    cases q
  | dT ks ds =>
    obtain ⟨vs, q, _⟩ := h
    rw [z] at q
    cases q
  | stm c =>
    obtain ⟨s1, s2, s3, q, _⟩ := h
    rw [z] at q
    cases q
  | cel =>
    obtain ⟨ns, q, _⟩ := h
    rw [z] at q
    cases q
  | gen φ =>
    obtain ⟨o, Hc, q, _, _, no⟩ := h
    rw [z] at q
    exact no xs (Option.some.inj q).symm
/-- owned lists told as data in the slots -/
def SoloE (as : Addr → Option (List D)) (ρ ρ' : DD.Env) : Prop := ρ'.length = ρ.length ∧ ∀ (i : Nat) (d : D), ρ'[i]? = some (some d) → ρ[i]? = some (some d) ∨ ∃ (a : Addr) (ds : List D), ρ[i]? = some (some (D.s (.ref a))) ∧ as a = some ds ∧ d = D.lst ds
theorem solo_rel {as : Addr → Option (List D)} (has : ∀ a ds, as a = some ds → m.own a = some (.lst ds)) (r : Rel K F Hb H m) :
    ∃ Hb' F', Same Hb Hb' ∧ Rel K F' Hb' H ⟨m.cnt, fun _ => none⟩ ∧ (∀ a ds, as a = some ds → ∃ vs, Hb' a = some (.lst vs) ∧ RpL K Hb ds vs) ∧
      ∀ Hb2 H' m', Same Hb' Hb2 → Rel K F' Hb2 H' m' → Rel K F Hb H' m := by
  classical
  refine ⟨fun b => match as b with | some _ => H b | none => Hb b, fun b => match as b with | some _ => none | none => match m.own b with | some _ => H b | none => F b, fun b o e => ?_, ⟨fun b o e => ?_, fun b o e => ?_, (fun _ _ z => nomatch z), fun b xs e => ?_⟩, fun a ds e => ?_, fun Hb2 H' m' e2 r2 => ⟨fun b o e => ?_, fun b o e => ?_, fun b mo e => ?_, r.nt⟩⟩
  · show (match as b with | some _ => H b | none => Hb b) = some o
    cases ea : as b with
    | none => exact e
    | some ds => exact r.sub b o e
  · have e' : (match as b with | some _ => H b | none => Hb b) = some o := e
    cases ea : as b with
    | none =>
      rw [ea] at e'
      exact r.sub b o e'
    | some ds =>
      rw [ea] at e'
      exact e'
  · have e' : (match as b with | some _ => none | none => match m.own b with | some _ => H b | none => F b) = some o := e
    show H b = some o ∧ (match as b with | some _ => H b | none => Hb b) = none ∧ _
    cases ea : as b with
    | some ds =>
      rw [ea] at e'
      cases e'
    | none =>
      rw [ea] at e'
      cases eo : m.own b with
      | some mo =>
        rw [eo] at e'
        exact ⟨e', (r.own b mo eo).1, rfl⟩
      | none =>
        rw [eo] at e'
        obtain ⟨f1, f2, _⟩ := r.fr b o e'
        exact ⟨f1, f2, rfl⟩
  · have e' : (match as b with | some _ => none | none => match m.own b with | some _ => H b | none => F b) = some (.tup xs) := e
    cases ea : as b with
    | some ds =>
      rw [ea] at e'
      cases e'
    | none =>
      rw [ea] at e'
      cases eo : m.own b with
      | some mo =>
        rw [eo] at e'
        exact repM_ntup (r.own b mo eo).2 e'
      | none =>
        rw [eo] at e'
        exact r.nt b xs e'
  · obtain ⟨h1, vs, h2, h3⟩ := r.own a _ (has a ds e)
    refine ⟨vs, ?_, h3⟩
    show (match as a with | some _ => H a | none => Hb a) = _
    rw [e]
    exact h2
  · refine r2.sub b o (e2 b o ?_)
    show (match as b with | some _ => H b | none => Hb b) = some o
    cases ea : as b with
    | none => exact e
    | some ds => exact r.sub b o e
  · obtain ⟨f1, f2, f3⟩ := r.fr b o e
    have ea : as b = none := by
      cases ea : as b with
      | none => rfl
      | some ds =>
        rw [has b ds ea] at f3
        cases f3
    refine ⟨(r2.fr b o ?_).1, f2, f3⟩
    show (match as b with | some _ => none | none => match m.own b with | some _ => H b | none => F b) = some o
    rw [ea, f3]
    exact e
  · obtain ⟨h1, h2⟩ := r.own b mo e
    refine ⟨h1, h2.mono (Same.refl _) ?_ (Nat.le_refl _)⟩
    obtain ⟨o, ho⟩ := h2.some
    rw [ho]
    cases ea : as b with
    | some ds =>
      refine r2.sub b o (e2 b o ?_)
      show (match as b with | some _ => H b | none => Hb b) = some o
      rw [ea]
      exact ho
    | none =>
      refine (r2.fr b o ?_).1
      show (match as b with | some _ => none | none => match m.own b with | some _ => H b | none => F b) = some o
      rw [ea, e]
      exact ho
theorem we_solo {te : TE} (as : Addr → Option (List D)) (has : ∀ a ds, as a = some ds → m.own a = some (.lst ds)) (hρ : SoloE as ρ ρ') {Q : V → Prop} (h : ∀ F' B', Same B B' → WE K F' B' te ρ' ⟨m.cnt, fun _ => none⟩ fun d _ => ∃ w, d = .s w ∧ Q w) :
    WE K F B te ρ m fun d m' => m' = m ∧ ∃ w, d = .s w ∧ Q w := fun Hb H σ R hB r hs k => by
  obtain ⟨Hb', F', e1, r1, hl, back⟩ := solo_rel has r
  refine h F' Hb' (hB.trans e1) Hb' H σ R (Same.refl _) r1 ⟨by rw [hρ.1]; exact hs.1, fun i d hd => ?_⟩ fun v H' Hb2 d m' e2 r2 hd q => ?_
  · rcases hρ.2 i d hd with z | ⟨a, ds, z1, z2, rfl⟩
    · obtain ⟨v, h1, h2⟩ := hs.2 i d z
      exact ⟨v, h1, h2.mono e1⟩
    · obtain ⟨v, h1, h2⟩ := hs.2 i _ z1
      unfold Rp at h2
      subst h2
      obtain ⟨vs, y1, y2⟩ := hl a ds z2
      refine ⟨.ref a, h1, ?_⟩
      unfold Rp
      exact ⟨a, vs, rfl, y1, y2.mono e1⟩
  · obtain ⟨w, rfl, q⟩ := q
    unfold Rp at hd
    subst hd
    exact k v H' Hb (.s v) m (Same.refl _) (back Hb2 H' m' e2 r2) rp_s ⟨rfl, v, rfl, q⟩
/-- .. the same without slots that change: the memory is let alone -/
theorem we_alone {te : TE} {Q : V → Prop} (h : ∀ F' B', Same B B' → WE K F' B' te ρ ⟨m.cnt, fun _ => none⟩ fun d _ => ∃ w, d = .s w ∧ Q w) : WE K F B te ρ m fun d m' => m' = m ∧ ∃ w, d = .s w ∧ Q w :=
  we_solo (fun _ => none) (fun _ _ z => nomatch z) ⟨rfl, fun i d z => .inl z⟩ h
end
end DD

/-! DLock: a, b, c = x, y, z; walks over a dict with tuple keys, which is locked meanwhile. -/
namespace DD
open PySem L2 HP1
open PySem.Spec PyProof.Rows
section
variable {K : PySem.W.Frag} {B F Hb H : Hp} {m : Mem} {ρ : DD.Env}
theorem ws_par3 {i j l : Nat} {ta : TA} {E : DE} (h : WA K F B ta ρ m fun xs m1 => ∃ x y z, xs = [x, y, z] ∧ E.nx (((ρ.set i (some x)).set j (some y)).set l (some z)) m1) : WS K F B (tPar3 i j l ta) ρ m E := fun Hb H σ R hB r hs k =>
  h Hb H σ _ hB r hs fun vs H1 Hb1 xs m1 e1 r1 hx q1 => by
    obtain ⟨x, y, z, rfl, q⟩ := q1
    unfold RpL at hx
    obtain ⟨v, us, rfl, h1, h2⟩ := hx
    unfold RpL at h2
    obtain ⟨u, us', rfl, h3, h4⟩ := h2
    unfold RpL at h4
    obtain ⟨w, us2, rfl, h5, h6⟩ := h4
    unfold RpL at h6
    subst h6
    exact ⟨v, u, w, rfl, k.nx _ _ _ _ _ e1 r1 ((((hs.mono e1).set h1).set h3).set h5) q⟩
/-- the dict at a, locked, as the frame holds it -/
def LockF (K : PySem.W.Frag) (F B : Hp) (a : Addr) (ks : List (List Str)) (ds : List D) : Prop := ∃ od vs, F a = some (.frz od (.dT ((ks.map inrs).zip vs))) ∧ RpL K B ds vs ∧ ks.length = ds.length
theorem wo_inQF {a : Addr} {ks : List (List Str)} {ds : List D} {x : D} {ns : List Str} {neg : Bool} {Q : QD} (hx : TxT x ns) (ho : LockF K F B a ks ds) (q : Q (.s (.bl (if neg = true then !(lookT ks ds ns).isSome else (lookT ks ds ns).isSome))) m) :
    WO K F B (rInQ K neg) x (.s (.ref a)) m Q := fun Hb H vx vy R hB r hvx hvy k => by
  unfold Rp at hvy
  subst hvy
  obtain ⟨od, vs, h1, h2, h3⟩ := ho
  obtain ⟨b, rfl, hb⟩ := hx.rp hvx
  refine ⟨a, valV ((ks.map inrs).zip vs) (inrs ns), rfl, ⟨_, inrs ns, b, .inr ⟨od, (r.fr a _ h1).1⟩, rfl, by rw [kV_inrs]; exact sameT r.sub hb, rfl⟩, ?_⟩
  have e : (valV ((ks.map inrs).zip vs) (inrs ns)).isSome = (lookT ks ds ns).isSome := by
    obtain ⟨i1, i2⟩ := look_val (K := K) (Hb := Hb) ns (h2.mono hB) h3
    cases q : lookT ks ds ns with
    | none =>
      rw [i2 q]
      rfl
    | some d =>
      obtain ⟨v, e, _⟩ := i1 d q
      rw [e]
      rfl
  rw [e]
  exact k.here r rp_s q
theorem wo_ixQF {a : Addr} {ks : List (List Str)} {ds : List D} {x d : D} {ns : List Str} {Q : QD} (hx : TxT x ns) (ho : LockF K F B a ks ds) (hd : lookT ks ds ns = some d) (q : Q d m) :
    WO K F B (rIxQ K) (.s (.ref a)) x m Q := fun Hb H vx vy R hB r hvx hvy k => by
  unfold Rp at hvx
  subst hvx
  obtain ⟨od, vs, h1, h2, h3⟩ := ho
  obtain ⟨v, e1, e2⟩ := (look_val (K := K) (Hb := Hb) ns (h2.mono hB) h3).1 d hd
  obtain ⟨b, rfl, hb⟩ := hx.rp hvy
  refine ⟨a, v, rfl, ?_, k.here r e2 q⟩
  rw [← e1]
  exact ⟨_, inrs ns, b, .inr ⟨od, (r.fr a _ h1).1⟩, rfl, by rw [kV_inrs]; exact sameT r.sub hb, rfl⟩
theorem Rel.lock {a : Addr} {ks : List (List Str)} {ds : List D} (r : Rel K F Hb H m) (h : m.own a = some (.dT ks ds)) : ∃ vs, H a = some (.dT ((ks.map inrs).zip vs)) ∧ RpL K Hb ds vs ∧ ks.length = ds.length ∧ F a = none ∧
    ∀ od, Rel K (upd F a (.frz od (.dT ((ks.map inrs).zip vs)))) Hb (upd H a (.frz od (.dT ((ks.map inrs).zip vs)))) (offM m a) := by
  obtain ⟨h1, vs, h2, h3, h4⟩ := r.own a _ h
  have hF : F a = none := r.ownF h
  refine ⟨vs, h2, h3, h4, hF, fun od => ⟨fun b o e => ?_, fun b o e => ?_, fun b mo e => ?_, nt_upd r.nt (fun _ z => nomatch z)⟩⟩
  · rw [upd_ne (ne_of_none e h1)]
    exact r.sub b o e
  · by_cases hb : b = a
    · subst hb
      rw [upd_same] at e ⊢
      exact ⟨e, h1, dropM_same⟩
    · rw [upd_ne hb] at e ⊢
      obtain ⟨z1, z2, z3⟩ := r.fr b o e
      exact ⟨z1, z2, (dropM_ne hb).trans z3⟩
  · by_cases hb : b = a
    · subst hb
      have q : (none : Option MO) = some mo := by
        rw [← e]
        exact dropM_same.symm
      cases q
    · obtain ⟨z1, z2⟩ := r.own b mo (by rw [← e]; exact (dropM_ne hb).symm)
      exact ⟨z1, z2.mono (Same.refl _) (upd_ne hb) (Nat.le_refl _)⟩
theorem Rel.unlock {a : Addr} {ks : List (List Str)} {ds : List D} {vs : List V} {od : Obj} (r : Rel K (upd F a (.frz od (.dT ((ks.map inrs).zip vs)))) Hb H m) (hF : F a = none) (h3 : RpL K Hb ds vs) (h4 : ks.length = ds.length) :
    H a = some (.frz od (.dT ((ks.map inrs).zip vs))) ∧ Rel K F Hb (upd H a (.dT ((ks.map inrs).zip vs))) (onM m a (.dT ks ds)) := by
  obtain ⟨f1, f2, f3⟩ := r.fr a _ upd_same
  refine ⟨f1, fun b o e => ?_, fun b o e => ?_, fun b mo e => ?_, nt_of r.nt hF⟩
  · rw [upd_ne (ne_of_none e f2)]
    exact r.sub b o e
  · have hb := ne_fr e hF
    obtain ⟨z1, z2, z3⟩ := r.fr b o (by rw [upd_ne hb]; exact e)
    rw [upd_ne hb]
    exact ⟨z1, z2, (putM_ne hb).trans z3⟩
  · by_cases hb : b = a
    · subst hb
      have e' : putM m.own b (.dT ks ds) b = some mo := e
      rw [putM_same] at e'
      cases e'
      exact ⟨f2, vs, upd_same, h3, h4⟩
    · obtain ⟨z1, z2⟩ := r.own b mo (by rw [← e]; exact (putM_ne hb).symm)
      exact ⟨z1, z2.mono (Same.refl _) (upd_ne hb) (Nat.le_refl _)⟩
/-- for k in d: d a dict with tuple keys -/
theorem ws_forK {j : Nat} {g : TG} {tb : TS} {E : DE} {a : Addr} {ks : List (List Str)} {ds : List D} (hj : ρ[j]? = some (some (.s (.ref a)))) (ho : m.own a = some (.dT ks ds)) (I : Nat → DD.Env → Mem → Prop) (h0 : I 0 ρ (offM m a))
    (ht : ∀ F' B' i k ρ' m', Same B B' → LockF K F' B' a ks ds → ks[i]? = some k → I i ρ' m' → WG K F' B' g (.pl k) ρ' m' fun ρ2 m2 => WS K F' B' tb ρ2 m2 { nx := I (i + 1), ct := I (i + 1), bk := fun ρ m => E.nx ρ (onM m a (.dT ks ds)), rt := fun d m => E.rt d (onM m a (.dT ks ds)) })
    (hd : ∀ ρ' m', I ks.length ρ' m' → E.nx ρ' (onM m' a (.dT ks ds))) : WS K F B (tLock (tFor (iKeys (tVar j)) g tb)) ρ m E := fun Hb H σ R hB r hs k => by
  obtain ⟨vs, h1, h3, h4, hF, hR⟩ := r.lock ho
  refine ⟨a, _, h1, trivial, fun od => ?_⟩
  have rL := hR od
  obtain ⟨v, hv1, hv2⟩ := hs.2 j _ hj
  unfold Rp at hv2
  subst hv2
  have lenK : ((ks.map inrs).zip vs).length = ks.length := by
    rw [List.length_zip, List.length_map, h3.length]
    omega
  refine ⟨.ref a, hv1, a, od, rfl, .inr ⟨_, upd_same, ?_⟩⟩
  refine ⟨fun i n σ' H' => n = ks.length - i ∧ i ≤ ks.length ∧ ∃ Hb' ρ' m', Same Hb Hb' ∧ Rel K (upd F a (.frz od (.dT ((ks.map inrs).zip vs)))) Hb' H' m' ∧ RpS K Hb' ρ' σ' ∧ I i ρ' m', ⟨ks.length, by simp, Nat.zero_le _, Hb, ρ, _, Same.refl _, rL, hs, h0⟩, ?_⟩
  rintro i n σ' H' ⟨rfl, hi, Hb', ρ', m', e', r', hs', hI⟩
  have hL : H' a = some (.frz od (.dT ((ks.map inrs).zip vs))) := (r'.fr a _ upd_same).1
  by_cases hlt : i < ks.length
  · refine .inr ⟨⟨hL, by rw [lenK]; exact hlt⟩, fun σ2 H2 => ∃ Hb2 ρ2 m2, Same Hb Hb2 ∧ Rel K (upd F a (.frz od (.dT ((ks.map inrs).zip vs)))) Hb2 H2 m2 ∧ RpS K Hb2 ρ2 σ2 ∧ I (i + 1) ρ2 m2, fun σ2 H2 q2 => ⟨ks.length - (i + 1), by omega, rfl, hlt, q2⟩, fun x H2 y => ?_⟩
    obtain ⟨rfl, k0, v0, q0, hk0, rfl, hq0⟩ := y
    obtain ⟨z1, z2⟩ := List.getElem?_zip_eq_some.mp hk0
    rw [List.getElem?_map] at z1
    have hki : ks[i]? = some ks[i] := by simp [hlt]
    rw [hki] at z1
    cases z1
    rw [kV_inrs] at hq0
    obtain ⟨Hb2, e2, r2, hq2⟩ := r'.tup1 hq0
    have e12 : Same Hb Hb2 := e'.trans e2
    refine ht (upd F a (.frz od (.dT ((ks.map inrs).zip vs)))) Hb2 i ks[i] ρ' m' (hB.trans e12) ⟨od, vs, upd_same, h3.mono e12, h4⟩ hki hI Hb2 H2 σ' _ _ (Same.refl _) r2 (hs'.mono e2) (by unfold Rp; exact ⟨q0, rfl, hq2⟩) fun σ3 H3 Hb3 ρ3 m3 e3 r3 hs3 q3 => ?_
    have e13 : Same Hb Hb3 := e12.trans e3
    refine q3 Hb3 H3 σ3 _ e3 r3 hs3 ⟨fun σ4 H4 Hb4 ρ4 m4 e4 r4 hs4 q4 => ⟨Hb4, ρ4, m4, e13.trans e4, r4, hs4, q4⟩, fun v4 H4 Hb4 d4 m4 e4 r4 hd4 q4 => ?_, fun σ4 H4 Hb4 ρ4 m4 e4 r4 hs4 q4 => ?_, fun σ4 H4 Hb4 ρ4 m4 e4 r4 hs4 q4 => ⟨Hb4, ρ4, m4, e13.trans e4, r4, hs4, q4⟩⟩
    · obtain ⟨y1, y2⟩ := r4.unlock hF (h3.mono (e13.trans e4)) h4
      exact ⟨y1, k.rt _ _ _ _ _ (e13.trans e4) y2 hd4 q4⟩
    · obtain ⟨y1, y2⟩ := r4.unlock hF (h3.mono (e13.trans e4)) h4
      exact ⟨y1, k.nx _ _ _ _ _ (e13.trans e4) y2 hs4 q4⟩
  · have e : i = ks.length := by omega
    subst e
    obtain ⟨y1, y2⟩ := r'.unlock hF (h3.mono e') h4
    exact .inl ⟨⟨hL, by rw [lenK]; exact Nat.le_refl _⟩, y1, k.nx _ _ _ _ _ e' y2 hs' (hd _ _ hI)⟩
/-- len of a dict with tuple keys -/
theorem wc_lenT {a : Addr} {ks : List (List Str)} {ds : List D} {Q : QD} (ho : m.own a = some (.dT ks ds)) (q : Q (.s (.int ((ks.length : Nat) : Int))) m) : WC K F B rLenT [.s (.ref a)] m Q := fun Hb H vs R hB r hx k => by
  obtain ⟨v, rfl, hv⟩ := rpL1 hx
  unfold Rp at hv
  subst hv
  obtain ⟨hn, vs, h1, h2, h3⟩ := r.own a _ ho
  refine ⟨a, _, rfl, h1, ?_⟩
  have e : ((ks.map inrs).zip vs).length = ks.length := by
    rw [List.length_zip, List.length_map, h2.length]
    omega
  rw [e]
  exact k.here r rp_s q
end
end DD

/-! HDic: dict([(tuple, value), ..]), the keys unlike; a comprehension over a dict with tuple keys. -/
namespace HD1
open PySem PySem.Spec PyProof.Rows L2
theorem tk_ext {P : Program} {w : World} {knd : KeyKind P w Key} {h h' : Heap} {k : List Key} {a : Addr} (x : IsTupleKey knd h k a) (e : ∀ o, h.get? a = some o → h'.get? a = some o) : IsTupleKey knd h' k a :=
  let ⟨o, i, n, ho, r⟩ := x
  ⟨o, i, n, e o ho, r⟩
theorem tk_lt {P : Program} {w : World} {knd : KeyKind P w Key} {h : Heap} {k : List Key} {a : Addr} (x : IsTupleKey knd h k a) : a < h.objs.size :=
  let ⟨_, _, _, ho, _⟩ := x
  Heap.lt_size ho
/-- dict(xs) of pairs whose keys are tuples, all unlike -/
def rDictPT (K : PySem.W.Frag) : List V → Hp → VK → Prop := fun xs H Q => ∃ (a : Addr) (zs : List (Addr × List Key × Addr × V)), xs = [.ref a] ∧ SqL K H a ((zs.map (·.1)).map V.ref) ∧ (∀ z ∈ zs, SqT K H z.1 [.ref z.2.2.1, z.2.2.2] ∧ H z.2.2.1 = some (.tup (z.2.1.map kV))) ∧ (zs.map (·.2.1)).Nodup ∧
  ∀ p, H p = none → Q (.ref p) (upd H p (.dT (zs.map fun z => (z.2.1, z.2.2.2))))
section
variable {X : Cx}
theorem pairs_ofT {pins : List (Addr × Obj)} {σ : L2.St} {H : Hp} {s : Shared} (I : Inv X pins σ H s) : ∀ {zs : List (Addr × List Key × Addr × V)}, (∀ z ∈ zs, SqT X.K H z.1 [.ref z.2.2.1, z.2.2.2] ∧ H z.2.2.1 = some (.tup (z.2.1.map kV))) →
    ∃ ps : List (List Key × Addr × Value), KT H (zs.map fun z => (z.2.1, z.2.2.2)) ps ∧ ps.length = zs.length ∧ ps.map (·.1) = zs.map (·.2.1) ∧ (∀ (j : Nat) (q : List Key × Addr × Value), ps[j]? = some q → ∃ z, zs[j]? = some z ∧ IsTup s.heap z.1 #[.ref q.2.1, q.2.2]) ∧ ∀ x ∈ ps, H x.2.1 = some (.tup (x.1.map kV))
  | [], _ => ⟨[], .nil, rfl, rfl, fun j q e => by simp at e, fun x hx => nomatch hx⟩
  | z :: zs, h => by
    obtain ⟨ps, kt, hl, hk, hp, hh⟩ := pairs_ofT I fun y hy => h y (List.mem_cons_of_mem _ hy)
    obtain ⟨h1, h2⟩ := h z List.mem_cons_self
    obtain ⟨its, rv, ht, _⟩ := I.tuple h1
    obtain ⟨u, y, ei, ru, ry⟩ := vals2 rv
    subst ei
    cases ru
    refine ⟨(z.2.1, z.2.2.1, y) :: ps, .cons ⟨rfl, h2, ry⟩ kt, by rw [List.length_cons, List.length_cons, hl], by rw [List.map_cons, List.map_cons, hk], fun j q e => ?_, fun x hx => ?_⟩
    · cases j with
      | zero =>
        have e' : (z.2.1, z.2.2.1, y) = q := Option.some.inj e
        subst e'
        exact ⟨z, rfl, ht⟩
      | succ j =>
        obtain ⟨z', e1, e2⟩ := hp j q (by simpa using e)
        exact ⟨z', by simpa using e1, e2⟩
    · rcases List.mem_cons.mp hx with e | e
      · rw [e]
        exact h2
      · exact hh x e
theorem call_dictPT (hcalm : X.calm = true) (hu : X.A.units + 64 < cLine) : CallR X (.type "dict") (rDictPT X.K) := by
  intro pins s σ H xs us Q I r q
  obtain ⟨a, zs, ex, hq, hp, hn, q⟩ := q
  subst ex
  obtain ⟨u, eu, rx⟩ := vals1 r
  subst eu
  cases rx
  obtain ⟨its, rv, pl, hz⟩ := I.list hq
  have ei := refs_at rv
  subst ei
  rw [List.length_map, List.length_map] at hz
  obtain ⟨ps, kt, hl, hk1, hat, hkey⟩ := pairs_ofT I hp
  obtain ⟨o, n, ho, hc, hd, hdat⟩ := pl
  have his : ∀ x ∈ ps, IsTupleKey (mixKind X.prog X.w) s.heap x.1 x.2.1 := fun x hx => key_of I.hok (hkey x hx)
  have hnd : (ps.map (·.1)).Nodup := by rw [hk1]; exact hn
  refine call_dict_pairsH (knd := tupleKind (mixKind X.prog X.w)) (ps := ps) (PairArg.list a ((zs.map (·.1)).map Value.ref).toArray (fun j => ((zs.map (·.1))[j]?).getD default) (ps.map fun q => (Value.ref q.2.1, q.2.2))) (I.ok.hd hcalm) (show Around.units _ < cLine from ?_) ⟨⟨o, n, ho, hc, hd, hdat⟩, by simp [hl], fun j k v e => ?_⟩
    ⟨by rw [List.length_map], fun j k v e => ?_⟩ (fun h' hk x hx => tk_ext (his x hx) fun o q => hk _ o (Nat.ne_of_lt (tk_lt (his x hx))) (fun z => nomatch z) q) (by rw [List.length_map, hl]; exact hz) fun h' tk hd' k => ?_
  · show X.A.units + 1 + 1 < cLine
    omega
  · rw [List.getElem?_map] at e
    cases ep : ps[j]? with
    | none => rw [ep] at e; cases e
    | some q' =>
      rw [ep] at e
      cases e
      obtain ⟨z, e1, e2⟩ := hat j q' ep
      refine ⟨by simp [e1], .inl ?_⟩
      have e3 : ((zs.map (·.1))[j]?).getD default = z.1 := by simp [e1]
      show Heap.IsTuple _ (((zs.map (·.1))[j]?).getD default) _
      rw [e3]
      exact e2
  · have e' : (ps.map fun q => (Value.ref q.2.1, q.2.2))[j]? = some (k, v) := e
    rw [List.getElem?_map] at e'
    cases ep : ps[j]? with
    | none => rw [ep] at e'; cases e'
    | some q' =>
      rw [ep] at e'
      cases e'
      exact ⟨q'.1, q'.2.1, rfl, rfl⟩
  · have hm : (s.heap.objs.size == sysModules) = false := beq_eq_false_iff_ne.mpr (Nat.ne_of_gt I.big)
    have hlen : (zs.map fun z => (z.2.1, z.2.2.2)).length ≤ sizeLine := by
      rw [List.length_map]
      exact hz
    rw [storedAllH_nil_of_nodup ps hnd] at hd'
    obtain ⟨o2, es, ep, g1, g2, g3, g4, _, g5⟩ := hd'
    have hnone := I.hok.fresh (Nat.le_refl s.heap.objs.size)
    refine ⟨.ref s.heap.objs.size, upd H s.heap.objs.size (.dT (zs.map fun z => (z.2.1, z.2.2.2))), I.laid (t' := tk) (fun b o e => k b o (fun z => nomatch z) e) (Nat.le_refl _) (show ObjOk X.prog X.w _ _ _ (.dT (zs.map fun z => (z.2.1, z.2.2.2))) from ⟨hlen, hm, ps, kt.keeps fun c ys ec => ?_, o2, es, ep, g1, g2, g3, g4, g5⟩), rfl, q _ hnone⟩
    rw [upd_ne (fun z => by rw [z, hnone] at ec; cases ec)]
    exact ec
end
/-- min of two numbers -/
def rMin2 : List V → Hp → VK → Prop := fun xs H Q => ∃ i j, xs = [.int i, .int j] ∧ Q (.int (if j < i then j else i)) H
theorem call_min2 {X : Cx} (hc : X.calm = true) : CallR X (.builtin "min") rMin2 := L2.call_min2 hc
end HD1
namespace DD
open PySem L2 HP1 HD1
open PySem.Spec PyProof.Rows
section
variable {K : PySem.W.Frag} {B F Hb H : Hp} {m : Mem} {ρ : DD.Env}
theorem rp_pairs : ∀ {l : List (List Str × D)} {vs : List V}, RpL K Hb (l.map fun z => .tup [.pl z.1, z.2]) vs → ∃ zs : List (Addr × List Key × Addr × V), vs = (zs.map (·.1)).map V.ref ∧ zs.map (·.2.1) = l.map (fun z => inrs z.1) ∧ RpL K Hb (l.map (·.2)) (zs.map (·.2.2.2)) ∧
    ∀ z ∈ zs, SqT K Hb z.1 [.ref z.2.2.1, z.2.2.2] ∧ Hb z.2.2.1 = some (.tup (z.2.1.map kV))
  | [], vs, h => by
    rw [List.map_nil] at h
    unfold RpL at h
    subst h
    exact ⟨[], rfl, rfl, RpL.nil, fun z hz => nomatch hz⟩
  | z :: l, vs, h => by
    rw [List.map_cons] at h
    unfold RpL at h
    obtain ⟨v, us, rfl, hv, hu⟩ := h
    obtain ⟨zs, e1, e2, e3, e4⟩ := rp_pairs hu
    unfold Rp at hv
    obtain ⟨p, ws, rfl, h1, h2⟩ := hv
    unfold RpL at h2
    obtain ⟨v1, us1, rfl, hv1, h2⟩ := h2
    unfold RpL at h2
    obtain ⟨v2, us2, rfl, hv2, h2⟩ := h2
    unfold RpL at h2
    subst h2
    unfold Rp at hv1
    obtain ⟨b, rfl, hb⟩ := hv1
    refine ⟨(p, inrs z.1, b, v2) :: zs, by rw [e1]; rfl, by rw [List.map_cons, List.map_cons, e2], ?_, fun y hy => ?_⟩
    · exact RpL.cons hv2 e3
    · rcases List.mem_cons.mp hy with e | e
      · subst e
        exact ⟨h1, by rw [kV_inrs]; exact hb⟩
      · exact e4 y e
theorem inrs_inj {a b : List Str} (h : inrs a = inrs b) : a = b := by rw [← un_in a, ← un_in b, h]
/-- dict([(k, d), ..]) of places, all unlike -/
theorem wc_dictPT {ks : List (List Str)} {ds : List D} {Q : QD} (hn : ks.Nodup) (hl : ks.length = ds.length) (q : ∀ a, m.own a = none → Q (.s (.ref a)) { m with own := putM m.own a (.dT ks ds) }) :
    WC K F B (rDictPT K) [.lst ((ks.zip ds).map fun z => .tup [.pl z.1, z.2])] m Q := fun Hb H vs R hB r hx k => by
  obtain ⟨v, rfl, hv⟩ := rpL1 hx
  unfold Rp at hv
  obtain ⟨p, ws, rfl, h1, h2⟩ := hv
  obtain ⟨zs, e1, e2, e3, e4⟩ := rp_pairs h2
  subst e1
  have k1 : (ks.zip ds).map (fun z => inrs z.1) = ks.map inrs := by
    show (ks.zip ds).map (inrs ∘ Prod.fst) = _
    rw [← List.map_map, List.map_fst_zip (by omega)]
  have k2 : (ks.zip ds).map (·.2) = ds := List.map_snd_zip (by omega)
  rw [k1] at e2
  rw [k2] at e3
  refine ⟨p, zs, rfl, SqL.of (r.sub _ _ h1), fun z hz => ⟨sameT r.sub (e4 z hz).1, r.sub _ _ (e4 z hz).2⟩, ?_, fun a ha => ?_⟩
  · rw [e2]
    exact List.pairwise_map.mpr (hn.imp fun h z => h (inrs_inj z))
  · have ez : (zs.map fun z => (z.2.1, z.2.2.2)) = (ks.map inrs).zip (zs.map (·.2.2.2)) := by
      rw [← e2]
      clear e2 e3 e4 k1 k2 h1 h2 hx
      induction zs with
      | nil => rfl
      | cons z zs ih =>
        show (z.2.1, z.2.2.2) :: (zs.map fun z => (z.2.1, z.2.2.2)) = (z.2.1, z.2.2.2) :: ((zs.map (·.2.1)).zip (zs.map (·.2.2.2)))
        rw [ih]
    rw [ez]
    exact k _ _ _ (.s (.ref a)) _ (Same.refl _) (r.owned (mo := .dT ks ds) ha ⟨_, upd_same, e3, hl⟩) rp_s (q a (r.free ha))
/-- [.. for k in d]: d a dict with tuple keys; what is made is f of the keys -/
theorem we_lcK {j : Nat} {g : TG} {tt : TT} {te : TE} {vs : List Nat} {a : Addr} {ks : List (List Str)} {ds : List D} {Q : QD} (hj : ρ[j]? = some (some (.s (.ref a)))) (ho : m.own a = some (.dT ks ds)) (p : List Str → Bool) (f : List Str → D) (hl : ks.length ≤ sizeLine)
    (hf : ∀ F' B' k, Same B B' → LockF K F' B' a ks ds → k ∈ ks → WGw K F' B' g vs (.pl k) ρ (offM m a) fun ρ2 m2 => m2 = offM m a ∧ WT K F' B' tt ρ2 (offM m a) fun b m3 => b = p k ∧ m3 = offM m a ∧ (b = true → WE K F' B' te ρ2 (offM m a) fun y m4 => y = f k ∧ m4 = offM m a))
    (q : Q (.lst ((ks.filter p).map f)) m) : WE K F B (tLockE (tLc (iKeys (tVar j)) g tt te vs)) ρ m Q := fun Hb H σ R hB r hs k => by
  obtain ⟨vs0, h1, h3, h4, hF, hR⟩ := r.lock ho
  refine ⟨a, _, h1, trivial, fun od => ?_⟩
  have rL := hR od
  obtain ⟨v, hv1, hv2⟩ := hs.2 j _ hj
  unfold Rp at hv2
  subst hv2
  have lenK : ((ks.map inrs).zip vs0).length = ks.length := by
    rw [List.length_zip, List.length_map, h3.length]
    omega
  refine ⟨.ref a, hv1, a, od, rfl, .inr ⟨_, upd_same, ?_⟩⟩
  intro A hA
  have haA : a ≠ A := fun z => by
    rw [← z, upd_same] at hA
    cases hA
  have hFA : upd F a (.frz od (.dT ((ks.map inrs).zip vs0))) A = none := rL.nofr hA
  refine ⟨fun i n H' => n = ks.length - i ∧ i ≤ ks.length ∧ ∃ Hb' acc us, Same Hb Hb' ∧ Rel K (upd (upd F a (.frz od (.dT ((ks.map inrs).zip vs0)))) A (.lst us)) Hb' H' (offM m a) ∧ RpL K Hb' acc us ∧ acc = ((ks.take i).filter p).map f, ⟨ks.length, by simp, Nat.zero_le _, Hb, [], [], Same.refl _, rL.aside hA, RpL.nil, by simp⟩, ?_⟩
  rintro i n H' ⟨rfl, hi, Hb', acc, us, e', r', ha, hacc⟩
  have hL : H' a = some (.frz od (.dT ((ks.map inrs).zip vs0))) := (r'.fr a _ (by rw [upd_ne haA]; exact upd_same)).1
  by_cases hlt : i < ks.length
  · refine .inr ⟨⟨hL, by rw [lenK]; exact hlt⟩, fun H2 => ∃ Hb2 acc2 us2, Same Hb Hb2 ∧ Rel K (upd (upd F a (.frz od (.dT ((ks.map inrs).zip vs0)))) A (.lst us2)) Hb2 H2 (offM m a) ∧ RpL K Hb2 acc2 us2 ∧ acc2 = ((ks.take (i + 1)).filter p).map f, fun H2 ⟨Hb2, acc2, us2, z1, z2, z3, z4⟩ => ⟨ks.length - (i + 1), by omega, rfl, hlt, Hb2, acc2, us2, z1, z2, z3, z4⟩, fun x H2 y => ?_⟩
    obtain ⟨rfl, k0, v0, q0, hk0, rfl, hq0⟩ := y
    obtain ⟨z1, z2⟩ := List.getElem?_zip_eq_some.mp hk0
    rw [List.getElem?_map] at z1
    have hki : ks[i]? = some ks[i] := by simp [hlt]
    rw [hki] at z1
    cases z1
    rw [kV_inrs] at hq0
    obtain ⟨Hb2, e2, r2, hq2⟩ := r'.tup1 hq0
    have e12 : Same Hb Hb2 := e'.trans e2
    refine hf (upd (upd F a (.frz od (.dT ((ks.map inrs).zip vs0)))) A (.lst us)) Hb2 ks[i] (hB.trans e12) ⟨od, vs0, by rw [upd_ne haA]; exact upd_same, h3.mono e12, h4⟩ (List.getElem_mem hlt) Hb2 H2 σ _ _ (Same.refl _) r2 (hs.mono e12) (by unfold Rp; exact ⟨q0, rfl, hq2⟩) fun σ3 H3 Hb3 ρ3 m3 e3 r3 hs3 q3 => ?_
    obtain ⟨em, q3⟩ := q3
    subst em
    refine q3 Hb3 H3 σ3 _ e3 r3 hs3 fun b H4 Hb4 m4 e4 r4 q4 => ?_
    obtain ⟨eb, em, q4⟩ := q4
    subst em
    have e14 : Same Hb Hb4 := (e12.trans e3).trans e4
    have ha4 : RpL K Hb4 acc us := ha.mono ((e2.trans e3).trans e4)
    have hlen : acc.length ≤ i := by
      rw [hacc, List.length_map]
      refine Nat.le_trans (List.length_filter_le _ _) ?_
      rw [List.length_take]
      omega
    cases b with
    | true =>
      refine iteT (q4 rfl Hb4 H4 σ3 _ (e3.trans e4) r4 (hs3.mono e4) fun v H5 Hb5 y5 m5 e5 r5 hy5 q5 => ?_)
      obtain ⟨ey, em⟩ := q5
      subst em
      have hD := (r5.fr A _ upd_same).1
      have ha5 : RpL K Hb5 acc us := ha4.mono e5
      refine ⟨us, hD, by rw [ha5.length]; omega, Hb5, acc ++ [y5], us ++ [v], e14.trans e5, r5.turnA, ha5.app (RpL.cons hy5 RpL.nil), ?_⟩
      rw [List.take_add_one, hki, List.filter_append, List.map_append, hacc, ey]
      simp [← eb]
    | false =>
      refine iteF ⟨Hb4, acc, us, e14, r4, ha4, ?_⟩
      rw [List.take_add_one, hki, List.filter_append, List.map_append, hacc]
      simp [← eb]
  · have e : i = ks.length := by omega
    subst e
    have e4 : Same Hb' (upd Hb' A (.lst us)) := Same.new (r'.fr A _ upd_same).2.1
    refine .inl ⟨⟨hL, by rw [lenK]; exact Nat.le_refl _⟩, hL, ?_⟩
    obtain ⟨_, y2⟩ := (r'.settle hFA).unlock hF (h3.mono (e'.trans e4)) h4
    have em : onM (offM m a) a (.dT ks ds) = m := by
      have e1 : putM (dropM m.own a) a (.dT ks ds) = m.own := by
        funext b
        by_cases hb : b = a
        · rw [hb, putM_same, ho]
        · rw [putM_ne hb, dropM_ne hb]
      show (⟨m.cnt, putM (dropM m.own a) a (.dT ks ds)⟩ : Mem) = m
      rw [e1]
    rw [em] at y2
    refine k _ _ _ (.lst ((ks.filter p).map f)) _ (e'.trans e4) y2 ?_ q
    unfold Rp
    rw [List.take_length] at hacc
    subst hacc
    exact ⟨A, us, rfl, upd_same, ha.mono e4⟩
theorem wc_min2 {i j : Int} {Q : QD} (q : Q (.s (.int (if j < i then j else i))) m) : WC K F B rMin2 [.s (.int i), .s (.int j)] m Q := fun Hb H vs R hB r hx k => by
  unfold RpL at hx
  obtain ⟨v, us, rfl, hv, hx⟩ := hx
  unfold RpL at hx
  obtain ⟨u, us2, rfl, hu, hx⟩ := hx
  unfold RpL at hx
  unfold Rp at hv hu
  subst hv hu hx
  exact ⟨i, j, rfl, k.here r rp_s q⟩
/-- i += b -/
theorem ws_augI {i : Nat} {te : TE} {f : Int → Int → Int} {a : Int} {E : DE} (hi : ρ[i]? = some (some (.s (.int a)))) (h : WE K F B te ρ m fun x m1 => ∃ b : Int, x = .s (.int b) ∧ E.nx (ρ.set i (some (.s (.int (f a b))))) m1) : WS K F B (tAug i te (ipI f)) ρ m E := fun Hb H σ R hB r hs k => by
  obtain ⟨v, hv1, hv2⟩ := hs.2 i _ hi
  unfold Rp at hv2
  subst hv2
  refine ⟨.int a, hv1, h Hb H σ _ hB r hs fun y H1 Hb1 x m1 e1 r1 hx q1 => ?_⟩
  obtain ⟨b, rfl, q⟩ := q1
  unfold Rp at hx
  subst hx
  exact ⟨a, b, rfl, rfl, k.nx _ _ _ _ _ e1 r1 ((hs.mono e1).set rp_s) q⟩
end
end DD

/-! HTk: texts whose tokens are known: none is 0, all are given out. -/
namespace HTk
open PySem PySem.Spec PyProof.Rows L2
/-- a text's token is one of the first n, not the private one -/
def TkV (n : Nat) (u : Value) : Prop := ∀ z t, u = .str z t → t ≠ 0 ∧ t < n
theorem TkV.mono {n m : Nat} {u : Value} (h : TkV n u) (k : n ≤ m) : TkV m u := fun z t e => ⟨(h z t e).1, Nat.lt_of_lt_of_le (h z t e).2 k⟩
theorem TkV.new {n : Nat} {z : Str} (h : 1 ≤ n) : TkV (n + 1) (.str z n) := fun z' t e => by
  cases e
  exact ⟨Nat.pos_iff_ne_zero.mp h, Nat.lt_succ_self n⟩
/-- a list's object, all of its items so -/
def LO (Pv : Value → Prop) (o : Obj) (xs : List V) : Prop := ∃ (its : List Value) (k : Nat), o = { cls := .type "list", data := .seq its.toArray k } ∧ Vals xs its ∧ ∀ u ∈ its, Pv u
theorem LO.mono {P R : Value → Prop} {o : Obj} {xs : List V} (h : LO P o xs) (k : ∀ u, P u → R u) : LO R o xs := by
  obtain ⟨its, n, e, v, a⟩ := h
  exact ⟨its, n, e, v, fun u hu => k u (a u hu)⟩
section
variable {X : Cx} {pins : List (Addr × Obj)} {σ : L2.St} {H : Hp} {s : Shared}
/-- a list is made known to the object -/
theorem Inv.lockL {d : Addr} {xs : List V} {its : List Value} {n : Nat} (I : Inv X pins σ H s) (h : H d = some (.lst xs)) (ho : s.heap.get? d = some { cls := .type "list", data := .seq its.toArray n }) : Inv X pins σ (upd H d (.frz { cls := .type "list", data := .seq its.toArray n } (.lst xs))) s := by
  have x := I.hok d _ h
  have new : ObjOk X.prog X.w (upd H d (.frz { cls := .type "list", data := .seq its.toArray n } (.lst xs))) s.heap d (.frz { cls := .type "list", data := .seq its.toArray n } (.lst xs)) := by
    refine ⟨ho, x.stay (fun b v _ q => q) (fun b q => ?_) fun b xs q => ?_⟩
    · rw [upd_ne (fun z => by rw [z, h] at q; cases q)]
      exact q
    · rw [upd_ne (fun z => by rw [z, h] at q; cases q)]
      exact q
  exact I.write (x := d) (e := d) (t' := s.toks) (h' := s.heap) (by rw [h]; trivial) (.inl rfl) (fun b v _ q => q) ⟨_, ho⟩ new
theorem Inv.frzL {d : Addr} {o : Obj} {xs : List V} (I : Inv X pins σ H s) (h : H d = some (.frz o (.lst xs))) : s.heap.get? d = some o ∧ xs.length ≤ sizeLine ∧ ∃ its n, Vals xs its ∧ s.heap.get? d = some { cls := .type "list", data := .seq its.toArray n } := by
  obtain ⟨e, z, its, n, r, e2⟩ := (show ObjOk X.prog X.w H s.heap d (.frz o (.lst xs)) from I.hok d _ h)
  exact ⟨e, z, its, n, r, e2⟩
/-- append to a list that is known to the object -/
theorem app_frz {E : Value → Shared → Prop} {D : Addr} {o : Obj} {Pv : Value → Prop} {xs : List V} {y : V} {v : Value} {Q : Value → Shared → Prop} (I : Inv X pins σ H s) (hD : H D = some (.frz o (.lst xs))) (hn : ∀ o' u', X.H_0 D ≠ some (.frz o' u')) (ho : LO Pv o xs) (hv : Pv v) (hz : xs.length < sizeLine) (r : RelV y v)
    (h : ∀ s' o', s'.toks = s.toks → LO Pv o' (xs ++ [y]) → Inv X pins σ (upd H D (.frz o' (.lst (xs ++ [y])))) s' → Q .none s') : wpAny (model X.prog X.w) X.A (call (.builtin "list.append") [.ref D, v]) Q E s := by
  have I1 := I.unlock hD hn
  obtain ⟨e, _⟩ := Inv.frzL I hD
  obtain ⟨its, n, rfl, ri, hp⟩ := ho
  have hl := ri.length
  have hD1 : (upd H D (.lst xs)) D = some (.lst xs) := upd_same
  refine append_at (hsz := by rw [List.size_toArray]; omega) e fun h' sb ho' => ?_
  have e' : h'.get? D = some { cls := .type "list", data := .seq (its ++ [v]).toArray (n + 1) } := by
    rw [ho']
    simp
  have I2 : Inv X pins σ (upd (upd H D (.lst xs)) D (.lst (xs ++ [y]))) { s with heap := h' } := I1.write (t' := s.toks) (by rw [hD1]; trivial) (.inl rfl) (fun b u hb q => (sb.2 b hb).trans q) ⟨_, e'⟩ ⟨by rw [List.length_append]; exact hz, its ++ [v], n + 1, ri.append (.cons r .nil), e'⟩
  have I3 := Inv.lockL I2 upd_same e'
  have eH : upd (upd (upd H D (.lst xs)) D (.lst (xs ++ [y]))) D (.frz { cls := .type "list", data := .seq (its ++ [v]).toArray (n + 1) } (.lst (xs ++ [y]))) = upd H D (.frz { cls := .type "list", data := .seq (its ++ [v]).toArray (n + 1) } (.lst (xs ++ [y]))) := by
    funext b
    by_cases hb : b = D
    · rw [hb, upd_same, upd_same]
    · rw [upd_ne hb, upd_ne hb, upd_ne hb, upd_ne hb]
  rw [eH] at I3
  refine h { s with heap := h' } _ rfl ⟨its ++ [v], n + 1, rfl, ri.append (.cons r .nil), fun u hu => ?_⟩ I3
  rcases List.mem_append.mp hu with z | z
  · exact hp u z
  · rw [List.mem_singleton.mp z]
    exact hv
theorem thnT {α : Type} {t : Sem α} {Q Q' : α → Shared → Prop} {M : Model} {A : Around} {E : Value → Shared → Prop} {s : Shared} (h : wpAny M A t Q (fun _ _ => False) s) (hQ : ∀ a s', s.toks ≤ s'.toks → Q a s' → Q' a s') : wpAny M A t Q' E s :=
  wpAny_mono (PySem.wpAny_toks h) (fun a s' z => hQ a s' z.1 z.2) fun _ _ z => z.2.elim
theorem thnS {α : Type} {t : Sem α} {Q Q' : α → Shared → Prop} {M : Model} {A : Around} {E : Value → Shared → Prop} {s : Shared} (h : wpAny M A t Q E s) (hQ : ∀ a s', s.toks ≤ s'.toks → Q a s' → Q' a s') : wpAny M A t Q' E s :=
  wpAny_mono (PySem.wpAny_toks h) (fun a s' z => hQ a s' z.1 z.2) fun _ _ z => z.2
/-- [elt for target in iter if ..]: the new list is known to the object throughout -/
def tLcT (wi : TI) (g : TG) (tt : TT) (te : TE) (vs : List Nat) : L2.St → Hp → (Addr → Obj → List V → Hp → Prop) → Prop := fun σ H Q => wi σ H fun J H1 => ∀ D o0, H1 D = none → ∃ W : Nat → Nat → Hp → Prop, (∃ m, W 0 m (upd H1 D (.frz o0 (.lst [])))) ∧ ∀ i m H, W i m H →
  (J.stop i H ∧ ∃ o acc, H D = some (.frz o (.lst acc)) ∧ Q D o acc H) ∨ (J.go i H ∧ ∃ o acc, H D = some (.frz o (.lst acc)) ∧ acc.length < sizeLine ∧ ∃ Nx : Obj → List V → Hp → Prop, (∀ o' acc' H', H' D = some (.frz o' (.lst acc')) → Nx o' acc' H' → ∃ m', m' < m ∧ W (i + 1) m' H') ∧
    ∀ x H', J.yld i H x H' → g x (wipe σ vs) H' fun σ2 H2 => wipe σ2 vs = wipe σ vs ∧ tt σ2 H2 fun b H3 =>
      if b = true then te σ2 H3 fun y H4 => H4 D = some (.frz o (.lst acc)) ∧ ∀ o', Nx o' (acc ++ [y]) (upd H4 D (.frz o' (.lst (acc ++ [y])))) else H3 D = some (.frz o (.lst acc)) ∧ Nx o acc H3)
theorem pe_lcT {Pv : Nat → Value → Prop} (mono : ∀ n m u, n ≤ m → Pv n u → Pv m u) {n0 : Nat} {elt tg iter : Expr} {ifs : List Expr} {scope : Scope} {own : List (Str × Nat)} {pos : Pos} {wi : TI} {g : TG} {tt : TT} {te : TE} {Q : Addr → Obj → List V → Hp → Prop} (hc : X.calm = true) (hN : X.N.Nodup) (hi : PI X tg iter wi) (ok : BlkOk X.N X.env.scope scope own)
    (hg : ∀ (s : Shared) (H : Hp) (C : Addr) (cl : List (Str × Addr)) (fp : List Addr), PG (X.blk s H scope (compEnvC scope cl C X.env) fp) tg g) (ht : ∀ (s : Shared) (H : Hp) (C : Addr) (cl : List (Str × Addr)) (fp : List Addr), PTs (X.blk s H scope (compEnvC scope cl C X.env) fp) ifs tt)
    (he : ∀ (sb : Shared) (Hb : Hp) (C : Addr) (cl : List (Str × Addr)) (fp : List Addr) (ps : List (Addr × Obj)) (s' : Shared) (σ' : L2.St) (H' : Hp) (R : VK), n0 ≤ s'.toks → Inv (X.blk sb Hb scope (compEnvC scope cl C X.env) fp) ps σ' H' s' → te σ' H' R →
      wpAny (model X.prog X.w) X.A (eval elt (compEnvC scope cl C X.env)) (fun u s'' => Pv s''.toks u ∧ EP (X.blk sb Hb scope (compEnvC scope cl C X.env) fp) ps σ' R u s'') (X.blk sb Hb scope (compEnvC scope cl C X.env) fp).xe s')
    (hs : ∀ x, foldedSetIterable iter X.env x = pure x) (hn0 : n0 ≤ s.toks) (I : Inv X pins σ H s) (h : tLcT wi g tt te (own.map (·.2)) σ H Q) :
    wpAny (model X.prog X.w) X.A (eval (.ListComp elt [⟨tg, iter, ifs, 0⟩] scope pos) X.env) (fun v s' => ∃ D o acc H', v = .ref D ∧ LO (Pv s'.toks) o acc ∧ H' D = some (.frz o (.lst acc)) ∧ (∀ o' u', X.H_0 D ≠ some (.frz o' u')) ∧ Inv X pins σ H' s' ∧ Q D o acc H') X.xe s := by
  rw [eval_ListComp]
  have hfree : ∀ y ∈ scope.names, y.2 = .free → ∃ c, X.env.cells.lookup y.1 = some c := fun y hy e => by
    rcases ok.free y hy e with k | k
    · exact I.ok.has _ (.inl k)
    · exact I.ok.has _ (.inr k)
  refine wpAny_comprehension_free (use := none) rfl hs (closure_ok hfree) ok.kind (fun y hy e => by rw [ok.uniq y hy, e]) ?_
  refine wpAny_mono (PySem.wpAny_toks_of hn0 (hi.run pins s σ H _ I h)) (fun xv s1 hx => ?_) fun _ _ z => z.2
  refine wpAny_mono (PySem.wpAny_toks_of hx.1 hx.2) (fun itv s2 h2 => ?_) fun _ _ z => z.2
  obtain ⟨hn2, it, fp, tn, J, H2, e, I2, T, st2, f2, q⟩ := h2
  subst e
  refine wpAny_newObj_type (newEnv_comp ?_) (by show 0 ≤ sizeLine; decide)
  generalize hD : s2.heap.objs.size = D
  have hDn : H2 D = none := I2.hok.fresh (Nat.le_of_eq hD)
  generalize hs3 : ({ s2 with heap := s2.heap.push { cls := .type "list", data := .seq ([] : List Value).toArray } } : Shared) = s3
  have hn3 : n0 ≤ s3.toks := by rw [← hs3]; exact hn2
  have eD : s3.heap.get? D = some { cls := .type "list", data := .seq ([] : List Value).toArray 0 } := by
    rw [← hs3, ← hD]
    exact Heap.get?_push_size _ rfl
  obtain ⟨W, ⟨m0, w0⟩, turn⟩ := q D { cls := .type "list", data := .seq ([] : List Value).toArray 0 } hDn
  have I3 : Inv X pins σ (upd H2 D (.lst [])) s3 := by
    rw [← hs3]
    refine I2.laid (t' := s2.toks) (fun b o e => Heap.get?_push_of_some _ e) (Nat.le_of_eq hD) ⟨Nat.zero_le _, [], 0, .nil, ?_⟩
    rw [← hs3] at eD
    exact eD
  have nfX : ∀ o' u', X.H_0 D ≠ some (.frz o' u') := I3.nofrz upd_same trivial
  have h3 : s3.heap = s2.heap.push { cls := .type "list", data := .seq ([] : List Value).toArray } := by rw [← hs3]
  have sz : ∀ b ∈ fp, b < s2.heap.objs.size := fun b hb => by
    obtain ⟨o, e, _⟩ := T.obj _ _ st2 b hb
    exact Heap.lt_size e
  have f3 : ∀ b ∈ fp, FpOk X pins (upd H2 D (.lst [])) b ∧ b < s3.heap.objs.size := fun b hb => by
    have hlt := sz b hb
    refine ⟨⟨?_, (f2 b hb).2⟩, by rw [h3, Heap.size_push]; exact Nat.lt_succ_of_lt hlt⟩
    rw [upd_ne (by rw [← hD]; exact Nat.ne_of_lt hlt)]
    exact (f2 b hb).1
  have st3 : tn 0 s3.heap := T.keep _ _ _ st2 fun b _ o e => by rw [h3]; exact Heap.get?_push_of_some _ e
  have I4 := block_start I3 ok hN f3
  have pg := hg s3 (upd H2 D (.lst [])) s3.heap.objs.size (cellsFrom (s3.heap.objs.size + 1) scope.names (cloFrom X.env.cells scope.names [])) fp
  have pt := ht s3 (upd H2 D (.lst [])) s3.heap.objs.size (cellsFrom (s3.heap.objs.size + 1) scope.names (cloFrom X.env.cells scope.names [])) fp
  have pe := he s3 (upd H2 D (.lst [])) s3.heap.objs.size (cellsFrom (s3.heap.objs.size + 1) scope.names (cloFrom X.env.cells scope.names [])) fp
  generalize hQf : (fun (v : Value) (s' : Shared) => ∃ D o acc H', v = .ref D ∧ LO (Pv s'.toks) o acc ∧ H' D = some (.frz o (.lst acc)) ∧ (∀ o' u', X.H_0 D ≠ some (.frz o' u')) ∧ Inv X pins σ H' s' ∧ Q D o acc H') = Qf
  show codeAny _ _ (.compStart (.ListComp elt [⟨tg, iter, ifs, 0⟩] scope pos) 0 (.ref it) (.ref D) (compEnvC scope (cellsFrom (s3.heap.objs.size + 1) scope.names (cloFrom X.env.cells scope.names [])) s3.heap.objs.size X.env)) (compPost (model X.prog X.w) X.A X.xe none Qf (.ref D) s3.heap.objs.size) { s3 with heap := pushCells (s3.heap.push { cls := .type "dict", data := .dict #[] }) scope.names }
  have nfp : ∀ b ∈ fp, (upd H2 D (.lst [])) b = none := fun b hb => (f3 b hb).1.1
  have nDfp : D ∉ fp := fun z => absurd (sz D z) (by rw [hD]; exact Nat.lt_irrefl _)
  generalize hce : compEnvC scope (cellsFrom (s3.heap.objs.size + 1) scope.names (cloFrom X.env.cells scope.names [])) s3.heap.objs.size X.env = ce at I4 pg pt pe ⊢
  have cL : ce.locals = s3.heap.objs.size := by subst hce; rfl
  have hH3D : (upd H2 D (.lst [])) D = some (.lst []) := upd_same
  have w0' : W 0 m0 (upd (upd H2 D (.lst [])) D (.frz { cls := .type "list", data := .seq ([] : List Value).toArray 0 } (.lst []))) := by
    have e : upd (upd H2 D (.lst [])) D (.frz { cls := .type "list", data := .seq ([] : List Value).toArray 0 } (.lst [])) = upd H2 D (.frz { cls := .type "list", data := .seq ([] : List Value).toArray 0 } (.lst [])) := by
      funext b
      by_cases hb : b = D
      · rw [hb, upd_same, upd_same]
      · rw [upd_ne hb, upd_ne hb, upd_ne hb]
    rw [e]
    exact w0
  generalize hH3 : upd H2 D (.lst []) = H3 at I3 I4 pg pt pe w0' nfp f3 hH3D
  generalize hs4 : ({ s3 with heap := pushCells (s3.heap.push { cls := .type "dict", data := .dict #[] }) scope.names } : Shared) = s4 at I4 ⊢
  have hn4 : n0 ≤ s4.toks := by rw [← hs4]; exact hn3
  have eD4 : s4.heap.get? D = some { cls := .type "list", data := .seq ([] : List Value).toArray 0 } := by
    rw [← hs4]
    exact pushCells_keeps _ _ _ _ (Heap.get?_push_of_some _ eD)
  have I4' := Inv.lockL I4 hH3D eD4
  have nfB : ∀ o' u', (X.blk s3 H3 scope ce fp).H_0 D ≠ some (.frz o' u') := fun o' u' z => by
    have z' : H3 D = some (.frz o' u') := z
    rw [hH3D] at z'
    cases z'
  have st4 : tn 0 s4.heap := T.keep _ _ _ st3 fun b _ o e => by rw [← hs4]; exact pushCells_keeps _ _ _ _ (Heap.get?_push_of_some _ e)
  have stat : ∀ {σ' : L2.St} {H' : Hp} {s' : Shared}, Inv (X.blk s3 H3 scope ce fp) [] σ' H' s' → (∀ b ∈ fp, H' b = none) → ∀ b ∈ fp, FpOk (X.blk s3 H3 scope ce fp) [] H' b := fun {σ' H' s'} I' hn b hb =>
    ⟨hn b hb, (I'.ok.exf b hb).1, I'.ok.exfs b hb, .inl hb, fun x c e => (I'.ok.exf b hb).2 x c e, fun p hp => absurd (show p ∈ ([] : List (Addr × Obj)) ++ [] from hp) (by simp)⟩
  have loop : codeAny (model X.prog X.w) X.A (.compLoop (.ListComp elt [⟨tg, iter, ifs, 0⟩] scope pos) 0 (.ref it) (.ref D) ce) (compPost (model X.prog X.w) X.A X.xe none Qf (.ref D) s3.heap.objs.size) s4 := by
    refine compLoop_any (fun n s' => ∃ i H', n0 ≤ s'.toks ∧ (∃ o acc, H' D = some (.frz o (.lst acc)) ∧ LO (Pv s'.toks) o acc) ∧ Inv (X.blk s3 H3 scope ce fp) [] (wipe σ (own.map (·.2))) H' s' ∧ tn i s'.heap ∧ (∀ b ∈ fp, H' b = none) ∧ W i n H') ?_ m0 ⟨0, _, hn4, ⟨_, _, upd_same, [], 0, rfl, .nil, fun u hu => nomatch hu⟩, I4', st4, fun b hb => ?_, w0'⟩
    rotate_left
    · rw [upd_ne (fun z => nDfp (by rw [← z]; exact hb))]
      exact nfp b hb
    rintro n s5 ⟨i, H5, hn5, ⟨o5, a5, hD5, lo5⟩, I5, st5, n5, w5⟩
    rcases turn i n H5 w5 with ⟨stop, o, acc, hDq, qq⟩ | ⟨go, o, acc, hDq, hz, Nx, hNx, step⟩
    · have td := T.done (X.blk s3 H3 scope ce fp) rfl rfl rfl hc i [] s5 _ H5 (fun _ _ => False) I5 (stat I5 n5) st5 stop
      refine thnT td fun r s6 ht6 ⟨hr, I6⟩ => ?_
      subst hr
      have I7 : Inv X pins σ H5 s6 := I3.call' (ch := fp) I6.os I6.base I6.hok I6.bare fun b hb => ⟨(f3 b hb).1.2.2.2.1, (f3 b hb).1.2.1, (f3 b hb).1.2.2.2.2.1, (f3 b hb).1.2.2.2.2.2⟩
      have nC : H5 s3.heap.objs.size = none := by
        have z : H5 ce.locals = none := I6.free
        rw [cL] at z
        exact z
      obtain ⟨m, hn, _⟩ := I6.loc
      have hn : s6.heap.Ns ce.locals m := hn
      rw [cL] at hn
      obtain ⟨g0, g1, g2, g3, g4, g5⟩ := I3.fpOk (Nat.le_refl _) nC
      rw [hD5] at hDq
      cases hDq
      refine ⟨m, hn, fun h'' sb => ?_⟩
      rw [← hQf]
      exact ⟨D, o5, a5, H5, rfl, lo5.mono fun u hu => mono _ _ u ht6 hu, hD5, nfX, I7.turned (t' := s6.toks) (fun b o hb e => (sb.2 b hb).trans e) g0 g1 g3 g4 g5, qq⟩
    · rw [hD5] at hDq
      cases hDq
      have ti := T.item (X.blk s3 H3 scope ce fp) rfl rfl rfl hc i [] s5 _ H5 (fun _ _ => False) I5 (stat I5 n5) st5 go
      refine thnT ti fun r s6 ht6 ⟨u, hr, h6⟩ => ?_
      subst hr
      refine thnT h6 fun _ s7 ht7 ⟨x, H7, I7, r7, y7, st7, n7⟩ => ?_
      have I7' := I7.pinned (stat I7 n7) (T.obj _ _ st7)
      refine thnT (pg.run _ s7 _ H7 x u _ I7' r7 (step x H7 y7)) fun _ s8 ht8 ⟨σ8, H8, I8, hw8, q8⟩ => ?_
      refine thnT (pt.run _ s8 σ8 H8 _ I8 q8) fun b s9 ht9 ⟨H9, I9, q9⟩ => ?_
      have t59 : s5.toks ≤ s9.toks := Nat.le_trans ht6 (Nat.le_trans ht7 (Nat.le_trans ht8 ht9))
      have fin : ∀ {s' : Shared} {H' : Hp} {o' : Obj} {acc' : List V}, n0 ≤ s'.toks → H' D = some (.frz o' (.lst acc')) → LO (Pv s'.toks) o' acc' → Inv (X.blk s3 H3 scope ce fp) ([] ++ pinsAt fp s7.heap) σ8 H' s' → Nx o' acc' H' → ∃ m, m < n ∧ ∃ i H', n0 ≤ s'.toks ∧ (∃ o acc, H' D = some (.frz o (.lst acc)) ∧ LO (Pv s'.toks) o acc) ∧ Inv (X.blk s3 H3 scope ce fp) [] (wipe σ (own.map (·.2))) H' s' ∧ tn i s'.heap ∧ (∀ b ∈ fp, H' b = none) ∧ W i m H' := fun {s' H' o' acc'} hn' hD' lo' I' nx => by
        obtain ⟨m', hm, w'⟩ := hNx o' acc' H' hD' nx
        have pin' : ∀ b ∈ fp, ∀ o, s7.heap.get? b = some o → s'.heap.get? b = some o ∧ H' b = none := fun b hb o e =>
          let z := I'.pin (b, o) (List.mem_append_right _ (List.mem_append_right _ (mem_pinsAt hb e)))
          ⟨z.1, z.2.1⟩
        have hl : (wipe σ (own.map (·.2))).length = σ8.length := by rw [← hw8, wipe_length]
        refine ⟨m', hm, i + 1, H', hn', ⟨o', acc', hD', lo'⟩, (I'.unpinned (pins := [])).weak hl (fun j v e => ?_), T.keep _ _ _ st7 fun b hb o e => (pin' b hb o e).1, fun b hb => ?_, w'⟩
        · rw [← hw8] at e
          exact (wipe_some e).1
        · obtain ⟨o, e, _⟩ := T.obj _ _ st7 b hb
          exact (pin' b hb o e).2
      cases b with
      | false =>
        simp only [Bool.false_eq_true, if_false] at q9 ⊢
        exact fin (Nat.le_trans hn5 t59) q9.1 (lo5.mono fun u hu => mono _ _ u t59 hu) I9 q9.2
      | true =>
        simp only [if_true] at q9 ⊢
        have ew := pe _ s9 σ8 H9 _ (Nat.le_trans hn5 t59) I9 q9
        refine thnT ew fun z s10 ht10 ⟨hpz, yv, H10, I10, r10, hD10, nx⟩ => ?_
        have t5 : s5.toks ≤ s10.toks := Nat.le_trans t59 ht10
        exact app_frz (X := X.blk s3 H3 scope ce fp) I10 hD10 nfB (lo5.mono fun u hu => mono _ _ u t5 hu) hpz hz r10 fun s11 o' e11 lo11 I11 => fin (by rw [e11]; exact Nat.le_trans hn5 t5) upd_same (by rw [e11]; exact lo11) I11 (nx o')
  exact codeAny_compStart_list loop (T.self X.A 0 _ _ _ st4 loop)
end
end HTk
namespace HTk
open PySem PySem.Spec PyProof.Rows L2
/-! ### defs of which more is known: the value they return -/
def CRt (Pst : Value → Shared → Prop) (CX : CXT) (outer : List PySem.Env) (P : Program) (w : World) (H : Hp) (s : Shared) (Q : VK) (E : XK) (r : Result) (s' : Shared) : Prop := CR CX outer P w H s Q E r s' ∧ ∀ u, r = .ok (.ret u) → Pst u s'
/-- a def's promise, and what is true of the value itself; a token is out -/
def FnT (Pst : Value → Shared → Prop) (P : Program) (w : World) (K : PySem.W.Frag) (mg : Str → Option Value) (base : Heap) (CX : CXT) (k : Nat) (f : Addr) (fd : FuncData) (ps : List Str) (sp : Sp) : Prop :=
  (∀ vs H Q E, sp vs H Q E → vs.length = ps.length) ∧ ∀ (A : Around) (outer : List PySem.Env) (s : Shared) (H : Hp) (args : Args) (us : List Value) (vs : List V) (Q : VK) (E : XK), 1 ≤ s.toks → Room k A → Env0 P w K mg base A outer s H → BindsTo s fd args (ps.zip us) → Vals vs us → sp vs H Q E →
    codeAny (model P w) A (.call (.ref f) args) (CRt Pst CX outer P w H s Q E) s
/-- statements of which more is known: what they return -/
def PSsR (Pst : Value → Shared → Prop) (X : Cx) (sts : List Stmt) (t : TS) : Prop := ∀ (pins : List (Addr × Obj)) (s : Shared) (σ : L2.St) (H : Hp) (D : Ends), 1 ≤ s.toks → Inv X pins σ H s → t D σ H →
  wpAny (model X.prog X.w) X.A (execs sts X.env) (fun fl s' => SP X pins D fl s' ∧ ∀ u, fl = .ret u → Pst u s') X.xe s
theorem pssr_cons {Pst : Value → Shared → Prop} {X : Cx} {st : Stmt} {rest : List Stmt} {t u : TS} (h1 : PS X st t) (h0 : ∀ D σ H, t D σ H → t { D with rt := fun _ _ => False } σ H) (h2 : PSsR Pst X rest u) : PSsR Pst X (st :: rest) (tSeq t u) := by
  intro pins s σ H D hn I h
  have h' := h0 _ _ _ h
  refine wpAny_execs_cons (thnS (h1.run pins s σ H _ I h') fun fl s1 hk q => ?_)
  cases fl with
  | next =>
    obtain ⟨σ', H', I', q⟩ := q
    exact h2 pins s1 σ' H' D (Nat.le_trans hn hk) I' q
  | ret v =>
    obtain ⟨_, _, _, _, _, q⟩ := q
    exact q.elim
  | brk => exact ⟨q, fun u e => nomatch e⟩
  | cont => exact ⟨q, fun u e => nomatch e⟩
/-- return e -/
theorem pssr_ret {Pst : Value → Shared → Prop} {X : Cx} {e : Expr} {te : TE} {pos : Pos} (he : ∀ (pins : List (Addr × Obj)) (s : Shared) (σ : L2.St) (H : Hp) (Q : VK), 1 ≤ s.toks → Inv X pins σ H s → te σ H Q → wpAny (model X.prog X.w) X.A (eval e X.env) (fun u s' => Pst u s' ∧ EP X pins σ Q u s') X.xe s) :
    PSsR Pst X [.Return (some e) pos] (tRet te) := by
  intro pins s σ H D hn I h
  refine wpAny_execs_cons (wpAny_Return_some (thn (he pins s σ H D.rt hn I h) fun u s1 ⟨hp, x, H1, I1, r1, q1⟩ => ?_))
  exact ⟨⟨x, σ, H1, I1, r1, q1⟩, fun v ev => by cases ev; exact hp⟩
theorem newEnvT {M : Model} {A : Around} {E : Value → Shared → Prop} {s : Shared} {scope : Scope} {globals : Addr} {binds : List (Str × Value)} {qual : Str} {func : Option Addr} {code : Value} {builtins : Addr} {Q : PySem.Env → Shared → Prop} {n : Nat} (hn : n ≤ s.toks)
    (hk : scope.kind = .function)
    (hkind : ∀ x ∈ binds, scope.names.lookup x.1 = some .local ∨ (scope.names.lookup x.1 = some .cell ∧ ((cellsFrom (s.heap.objs.size + 1) scope.names []).lookup x.1).isSome = true))
    (hQ : ∀ env, env = newEnv scope s.heap.objs.size globals (cellsFrom (s.heap.objs.size + 1) scope.names []) qual func code none builtins →
      ∀ s', n ≤ s'.toks → InCallC s env.locals (bindL env.kindOf binds fun _ => none) env.cells (bindC env.kindOf binds fun _ => none) s' → Q env s') :
    wpAny M A (newFunctionEnv scope globals [] binds qual func code none builtins) Q E s :=
  wpAny_mono (PySem.wpAny_toks_of hn (wpAny_newFunctionEnv_cells (Q := fun env s' => n ≤ s'.toks → Q env s') hk hkind fun env he s' x hn' => hQ env he s' hn' x)) (fun _ _ z => z.2 z.1) fun _ _ z => z.2
theorem fnT_of {Pst : Value → Shared → Prop} {CX : CXT} {P : Program} {w : World} {K : PySem.W.Frag} {mg : Str → Option Value} {base : Heap} {k : Nat} {f : Addr} {name qual : Str} {params : Arguments} {body : List Stmt} {scope : Scope} {dV kV doc pm cdv ct oc : Value} {an od : Option Addr}
    {osl : Array (Option Value)} {N ps : List Str} {sp : Sp} (lk : K.lookup f = some ⟨oc, od, .func (PySem.W.fnOf name qual params body scope dV kV doc pm an cdv ct), osl⟩) (hcd : PySem.W.codeIn K cdv qual = true) (S : FnScope N ps scope)
    (len : ∀ vs H Q E, sp vs H Q E → vs.length = ps.length)
    (hbody : ∀ (A : Around) (outer : List PySem.Env) (s : Shared) (H : Hp) (vs : List V) (Q : VK) (E : XK), Room k (A.deeper (envOfC qual scope s.heap.objs.size f cdv)) → sp vs H Q E →
      ∃ t, PSsR Pst (cxOf CX P w K mg base N qual scope f cdv A outer s H E) body t ∧ t { nx := fun _ _ => False, rt := Q } (L2.start N vs) H) :
    FnT Pst P w K mg base CX (k + 1) f (PySem.W.fnOf name qual params body scope dV kV doc pm an cdv ct) ps sp := by
  refine ⟨len, fun A outer s H args us vs Q E hn hr e0 hb r hsp => ?_⟩
  have hl := len _ _ _ _ hsp
  have KX : K.In s.heap := e0.mod.kin.keeps fun b o e => (e0.bs b o e).1
  have lim : s.heap.NoLimit := e0.mod.nolimit.keeps fun b o e => (e0.bs b o e).1
  have hkind : ∀ y ∈ ps.zip us, scope.names.lookup y.1 = some .local ∨ (scope.names.lookup y.1 = some .cell ∧ ((cellsFrom (s.heap.objs.size + 1) scope.names []).lookup y.1).isSome = true) := fun ⟨n, v⟩ hy => by
    rcases S.par n (List.of_mem_zip hy).1 with q | q
    · exact .inl q
    · exact .inr ⟨q, PySem.W.cellsFrom_some _ _ _ (.inl q)⟩
  refine codeAny_call_function hr.depth (KX _ _ lk) rfl S.co S.gen rfl (PySem.W.codeRec_of KX hcd) (hb _ _ _ _ ?_)
  refine newEnvT hn S.kind hkind fun env he s1 hn1 x => ?_
  subst he
  refine ⟨lim.keeps x.toInCall.keep, codeAny_func ?_⟩
  obtain ⟨t, ht, hq⟩ := hbody A outer s H vs Q E (hr.deeper _) hsp
  have I : Inv (cxOf CX P w K mg base N qual scope f cdv A outer s H E) [] (L2.start N vs) H s1 := inv_start S hr.hd e0 hl r x
  refine wpAny_mono (ht [] s1 (L2.start N vs) H _ hn1 I hq) (fun fl s' hs => ?_) fun e s' hs => ?_
  · obtain ⟨hs, hp⟩ := hs
    have fin : ∀ {σ' : L2.St} {H' : Hp} {v : V} {u : Value}, Inv (cxOf CX P w K mg base N qual scope f cdv A outer s H E) [] σ' H' s' → RelV v u → Q v H' → CE outer P w H s Q u s' :=
      fun {σ' H' v u} J rv q => ⟨v, H', J.os, J.bare, J.base, J.hok, rv, q⟩
    cases fl with
    | ret u =>
      obtain ⟨v, σ', H', J, rv, q⟩ := hs
      exact ⟨fin J rv q, fun u' e => by cases e; exact hp u rfl⟩
    | next =>
      obtain ⟨_, _, _, q⟩ := hs
      exact False.elim q
    | brk =>
      obtain ⟨_, _, _, q⟩ := hs
      exact False.elim q
    | cont =>
      obtain ⟨_, _, _, q⟩ := hs
      exact False.elim q
  · exact wpAny_mono hs (fun _ s'' z => ⟨z, fun u h => nomatch h⟩) fun _ s'' z => ⟨z, fun u h => nomatch h⟩
end HTk
namespace HTk
open PySem PySem.Spec PyProof.Rows L2
section
variable {X : Cx} {CX : CXT} {k : Nat} {f : Addr} {fd : FuncData} {ps : List Str} {sp : Sp} {dvs : List V} {ds : List Value} {E : XK} {x : Str} {p pos : Pos} {e : Expr} {es : List Expr} {t : TA} {Pst : Value → Shared → Prop}
theorem run_fnT {pins : List (Addr × Obj)} {σ : L2.St} {H : Hp} {s : Shared} {Q : VK} {us : List Value} {vs : List V} (F : FnT Pst X.prog X.w X.K X.mg X.base CX k f fd ps sp) (hr : Room k X.A) (hb : Binds X.K fd ps ds) (hd : Vals dvs ds) (hx : Passes CX X E)
    (hn : 1 ≤ s.toks) (I : Inv X pins σ H s) (r : Vals vs us) (h : sp (vs ++ dvs) H Q E) : wpAny (model X.prog X.w) X.A (call (.ref f) us) (fun u s' => Pst u s' ∧ EP X pins σ Q u s') X.xe s := by
  have r2 : Vals (vs ++ dvs) (us ++ ds) := r.append hd
  have hl : (us ++ ds).length = ps.length := by rw [← r2.length]; exact F.1 _ _ _ _ h
  refine wpAny_call (codeAny_mono (F.2 X.A X.stack s H ⟨us, []⟩ (us ++ ds) (vs ++ dvs) Q E hn hr I.env0 (hb s us I.kIn hl) r2 h) fun r s' hq => ?_)
  obtain ⟨hq, hp⟩ := hq
  cases r with
  | error e => exact hx pins σ H s e s' I hq
  | ok fl =>
    cases fl with
    | ret u => exact ⟨hp u rfl, I.after hq⟩
    | next => exact False.elim hq
    | brk => exact False.elim hq
    | cont => exact False.elim hq
theorem pe_callT (F : FnT Pst X.prog X.w X.K X.mg X.base CX k f fd ps sp) (hr : Room k X.A) (hg : Gl X x) (hm : X.mg x = some (.ref f)) (hk : PySem.W.keepIn X.K (.ref f) = true) (hb : Binds X.K fd ps ds) (hd : Vals dvs ds) (hx : Passes CX X E)
    (ha : PA X (e :: es) t) {pins : List (Addr × Obj)} {s : Shared} {σ : L2.St} {H : Hp} {Q : VK} (hn : 1 ≤ s.toks) (I : Inv X pins σ H s) (h : tCall sp dvs E t σ H Q)
    (hdb : (x == ("__debug__" : Str)) = false := by decide) (he : starEach (e :: es) X.env = (false, eval e X.env) :: starEach es X.env := by rfl) (hpl : (backTo pos (starEach es X.env)).any (·.1) = false := by rfl) :
    wpAny (model X.prog X.w) X.A (eval (.Call (.Name x p) (e :: es) [] pos) X.env) (fun u s' => Pst u s' ∧ EP X pins σ Q u s') X.xe s := by
  refine wpAny_Call_Name_kw (ld_glob I hg hm ?_ hdb)
  refine PySem.W.callWith_K (h₀ := X.base) I.ok.mod.kin hk (thnS (ha.run pos pins s σ H _ I h) fun us s1 hk1 ⟨vs, H1, I1, r, q⟩ => ⟨I1.kIn, ?_⟩) he hpl
  exact run_fnT F hr hb hd hx (Nat.le_trans hn hk1) I1 r q
end
section
variable {X : Cx} {a b : Expr} {ta tb : TE} {pos : Pos} {pins : List (Addr × Obj)} {σ : L2.St} {H : Hp} {s : Shared} {Q : VK}
/-- an item of a text: a new text -/
theorem pe_ixS (ha : PE X a ta) (hb : PE X b tb) (hs : PlainIx b) (hn : 1 ≤ s.toks) (I : Inv X pins σ H s) (h : tOp rIxS ta tb σ H Q) : wpAny (model X.prog X.w) X.A (eval (.Subscript a b pos) X.env) (fun u s' => TkV s'.toks u ∧ EP X pins σ Q u s') X.xe s := by
  refine Subscript_ (thnS (ha.run pins s σ H _ I h) fun v s1 h1 ⟨x, H1, I1, rx, q1⟩ => ?_)
  refine thnS (hb.run pins s1 σ H1 _ I1 q1) fun u s2 h2 ⟨y, H2, I2, ry, q2⟩ => ?_
  obtain ⟨z, i, c, rfl, rfl, hz, he, q⟩ := q2
  obtain ⟨t, rfl⟩ := rx
  obtain ⟨t', rfl⟩ := ry
  obtain ⟨j, k1, k2, k3, k4, k5⟩ := atI_get he
  have hl : z.cps.toList.length = z.length := by simp [Str.length]
  rw [hl] at k1 k4 k5
  have h63 := line63
  exact tail_any (typeIs_str s2 z t) slot_str_getitem.lookup (getItem_str (c := c) (by
    have e1 : decide (i < -(2 ^ 63 : Int)) = false := decide_eq_false (by omega)
    have e2 : decide (i ≥ 2 ^ 63) = false := decide_eq_false (by omega)
    rw [e1, e2, Bool.or_false]) (by rw [k1]; simpa using k2) ⟨TkV.new (by omega), .str ⟨#[c]⟩, H2, I2.tok _, ⟨_, rfl⟩, q⟩) (hs _ _)
end
end HTk
namespace HTk
open PySem PySem.Spec PyProof.Rows L2
section
variable {prog : Program} {w : World} {A : Around} {E : Value → Shared → Prop} {s : Shared} {x : Str} {t : Tok} {Q : Value → Shared → Prop}
/-- texts joined: their text's token is known, too -/
theorem join_T {D : Addr} {items : Array Value} {ys : List Str} (hl : s.heap.IsList D items) (hi : StrsAre items.toList ys) (hok : (ys.map (·.length)).sum + ys.length * x.length ≤ 16777216) (hn : 1 ≤ s.toks) (hT : ∀ u ∈ items.toList, TkV s.toks u)
    (h : ∀ t' k, TkV k (.str (Txt.join x ys) t') → Q (.str (Txt.join x ys) t') { s with toks := k }) : wpAny (model prog w) A (call (.builtin "str.join") [.str x t, .ref D]) Q E s := by
  obtain ⟨l, hv, ht⟩ := strsAre_values hi
  have e : items = (strValues l).toArray := by rw [← hv]
  subst e
  subst ht
  have hok' := joinOk_of hok
  unfold JoinOk at hok'
  rw [Bool.not_eq_true'] at hok'
  refine call_meets F.slot_str_join (typeIs_str _ _ _) F.entry_str_join (F.args_str_join_2 _ _) (meets_str_join_list x t D l hok') ⟨hl, ?_⟩
  have hz : (Txt.join x (l.map (·.1))).length ≤ sizeLine := joinFit_length hok'
  match l, hz, h, hT with
  | [], hz, h, _ => exact ⟨hz, h _ _ (TkV.new hn)⟩
  | [q], hz, h, hT => exact h q.2 s.toks (hT _ (by show Value.str q.1 q.2 ∈ [Value.str q.1 q.2]; simp))
  | _ :: _ :: _, hz, h, _ => exact ⟨hz, h _ _ (TkV.new hn)⟩
end
/-- what a comprehension whose list is known gives -/
def PL (X : Cx) (e : Expr) (tl : L2.St → Hp → (Addr → Obj → List V → Hp → Prop) → Prop) : Prop := ∀ (pins : List (Addr × Obj)) (s : Shared) (σ : L2.St) (H : Hp) (Q : Addr → Obj → List V → Hp → Prop), 1 ≤ s.toks → Inv X pins σ H s → tl σ H Q →
  wpAny (model X.prog X.w) X.A (eval e X.env) (fun v s' => ∃ D o acc H', v = .ref D ∧ LO (TkV s'.toks) o acc ∧ H' D = some (.frz o (.lst acc)) ∧ (∀ o' u', X.H_0 D ≠ some (.frz o' u')) ∧ Inv X pins σ H' s' ∧ Q D o acc H') X.xe s
def tJoinL (z : Str) (tl : L2.St → Hp → (Addr → Obj → List V → Hp → Prop) → Prop) : TE := fun σ H Q => tl σ H fun _ _ acc H1 => ∃ ys : List Str, acc = ys.map V.str ∧ (ys.map (·.length)).sum + ys.length * z.length ≤ 16777216 ∧ Q (.str (Txt.join z ys)) H1
theorem pe_joinT {X : Cx} {e : Expr} {tl : L2.St → Hp → (Addr → Obj → List V → Hp → Prop) → Prop} {z : Str} {j : Nat} {c apos pos : Pos} (hl : PL X e tl) {pins : List (Addr × Obj)} {σ : L2.St} {H : Hp} {s : Shared} {Q : VK} (hn : 1 ≤ s.toks) (I : Inv X pins σ H s) (h : tJoinL z tl σ H Q)
    (hs : starEach [e] X.env = [(false, eval e X.env)] := by rfl) (hbase : attributeBase (.Constant (.str z) j c) "join" X.env (eval (.Constant (.str z) j c) X.env) = eval (.Constant (.str z) j c) X.env := by rfl) (hline : (apos.endLine == pos.line) = true := by rfl) :
    wpAny (model X.prog X.w) X.A (eval (.Call (.Attribute (.Constant (.str z) j c) "join" apos) [e] [] pos) X.env) (fun u s' => TkV s'.toks u ∧ EP X pins σ Q u s') X.xe s := by
  refine PySem.Call_method1 hbase hs hline (Calls.Constant_str ?_)
  refine ⟨"str", _, F.plainAttrs_str, F.slot_str_join, F.type_str_join, typeIs_str _ _ _, (fun _ e => nomatch e), Calls.callWith_builtin rfl (Calls.evalArgs_plain (Calls.spliced_cons ?_))⟩
  refine thnS (hl pins _ σ H _ (by show 1 ≤ s.toks + 1; omega) (I.tok (s.toks + 1)) h) fun v s2 h2 ⟨D, o, acc, H2, ev, lo, hD, nf, I2, ys, ea, hb, q⟩ => Calls.spliced_nil ?_
  subst ev ea
  obtain ⟨its, n, rfl, rv, ht⟩ := lo
  obtain ⟨hg, _⟩ := Inv.frzL I2 hD
  have hn2 : 1 ≤ s2.toks := Nat.le_trans (by show 1 ≤ s.toks + 1; omega) h2
  refine join_T (items := its.toArray) ⟨_, hg, rfl, n, rfl⟩ (by rw [List.toList_toArray]; exact strs_of_vals rv) hb hn2 (by rw [List.toList_toArray]; exact ht) fun t' k hk => ⟨hk, .str _, H2, I2.tok k, ⟨t', rfl⟩, q⟩
end HTk
namespace HTk
open PySem PySem.Spec PyProof.Rows L2
/-! ### the first item of a list that is in no other one -/
def notIn (ys : List Str) (v : Value) : Bool := match v with
  | .str z _ => !inV (.str z) (ys.map V.str)
  | _ => true
theorem str_items : ∀ {zs : List Str} {its : List Value}, Vals (zs.map V.str) its → ∀ v ∈ its, ∃ z t, v = .str z t ∧ z ∈ zs
  | [], _, .nil, _, hv => nomatch hv
  | z :: zs, _, .cons r t, v, hv => by
    rcases List.mem_cons.mp hv with rfl | hv
    · obtain ⟨k, rfl⟩ := r
      exact ⟨z, k, rfl, List.mem_cons_self⟩
    · obtain ⟨z', k, e, hm⟩ := str_items t v hv
      exact ⟨z', k, e, List.mem_cons_of_mem _ hm⟩
theorem filter_vals (ys : List Str) : ∀ {zs : List Str} {its : List Value}, Vals (zs.map V.str) its → Vals ((zs.filter fun z => !inV (.str z) (ys.map V.str)).map V.str) (its.filter (notIn ys))
  | [], _, .nil => .nil
  | z :: zs, _, .cons r t => by
    obtain ⟨k, rfl⟩ := r
    have ih := filter_vals ys t
    cases e : (!inV (.str z) (ys.map V.str)) with
    | true =>
      rw [List.filter_cons_of_pos (by exact e), List.filter_cons_of_pos (by exact e)]
      exact .cons ⟨k, rfl⟩ ih
    | false =>
      rw [List.filter_cons_of_neg (by rw [e]; exact Bool.false_ne_true), List.filter_cons_of_neg (by show ¬ (!inV (.str z) (ys.map V.str)) = true; rw [e]; exact Bool.false_ne_true)]
      exact ih
theorem flat_strs (ys : List Str) : (ys.map V.str).all flatV = true := by
  rw [List.all_map, List.all_eq_true]
  intro z _
  rfl
theorem keeps_refl (s : Shared) : Keeps s s := ⟨s.heap, s.toks, rfl, fun _ _ e => e⟩
theorem paired_eq : ∀ {xs ys : List Value}, Paired (fun v y : Value => y = v) xs ys → ys = xs
  | [], _, .nil => rfl
  | x :: xs, _, .cons r t => by rw [r, paired_eq t]
theorem first_T {X : Cx} {pins : List (Addr × Obj)} {σ : L2.St} {H : Hp} {s : Shared} {Q : VK} (hc : X.calm = true) {sp fo x w : Str} {i j j0 : Nat} {S a : Addr} {oS o : Obj} {zs ys : List Str} {scope : Scope} {p1 px p2 p3 p4 p5 p6 p7 pos : Pos} (I : Inv X pins σ H s)
    (hNs : X.N[i]? = some sp) (hvs : Vis X.env.scope sp) (hσs : σ[i]? = some (some (.ref S))) (hS : H S = some (.frz oS (.lst (zs.map V.str)))) (loS : LO (TkV s.toks) oS (zs.map V.str))
    (hNf : X.N[j]? = some fo) (hvf : X.env.scope.names.lookup fo = some .cell) (hσf : σ[j]? = some (some (.ref a))) (ha : H a = some (.frz o (.lst (ys.map V.str))))
    (hsf : (fo, NameKind.free) ∈ scope.names) (hcell : ∀ y ∈ scope.names, y.2 ≠ .cell) (hkind : scope.kind = .function) (hnames : ∀ y ∈ scope.names, y.2 = .local → scope.names.lookup y.1 = some .local) (hx : scope.names.lookup x = some .local)
    (hfree : ∀ y ∈ scope.names, y.2 = .free → X.env.scope.names.lookup y.1 = some .cell ∨ X.env.scope.names.lookup y.1 = some .free)
    (hkx : ∀ C cl, (compEnvC scope cl C X.env).kindOf x = some .local) (hkf : ∀ C cl, (compEnvC scope cl C X.env).kindOf fo = some .cell)
    (hw : (zs.filter fun z => !inV (.str z) (ys.map V.str)).head? = some w) (q : Q (.str w) H)
    (hds : (sp == ("__debug__" : Str)) = false := by decide) (hcs : (sp == ("__classdict__" : Str)) = false := by decide) (hdx : (x == ("__debug__" : Str)) = false := by decide) (hdf : (fo == ("__debug__" : Str)) = false := by decide)
    (hs : ∀ y, foldedSetIterable (.Name sp p2) X.env y = pure y := by intro _; rfl) :
    wpAny (model X.prog X.w) X.A (eval (.Subscript (.ListComp (.Name x p1) [⟨.Name x px, .Name sp p2, [.Compare (.Name x p3) [.NotIn] [.Name fo p4] p5], 0⟩] scope p6) (.Constant (.int 0) j0 p7) pos) X.env) (fun u s' => TkV s'.toks u ∧ EP X pins σ Q u s') X.xe s := by
  have hfr : ∀ y ∈ scope.names, y.2 = .free → ∃ c, X.env.cells.lookup y.1 = some c := fun y hy e => by
    rcases hfree y hy e with k | k
    · exact I.ok.has _ (.inl k)
    · exact I.ok.has _ (.inr k)
  obtain ⟨itsS, nS, rfl, rvS, tS⟩ := loS
  obtain ⟨hgS, hzS, _⟩ := Inv.frzL I hS
  obtain ⟨hga', _, itsA, nA, rvA, hga⟩ := Inv.frzL I ha
  have hh : X.A.handled = none := I.ok.hd hc
  -- the other list's name
  obtain ⟨m, hn, hl⟩ := I.loc
  obtain ⟨ua, ra, la⟩ := hl j fo (.ref a) hNf hσf (by
    first
    | exact .inr (.inl hvf)
    | exact .inr hvf
    | exact .inl hvf)
  cases ra
  obtain ⟨c, hcl, hca⟩ : ∃ c, X.env.cells.lookup fo = some c ∧ s.heap.IsCell c (some (.ref a)) := by
    rcases la with ⟨hk, _⟩ | ⟨_, c, h1, h2⟩
    · rw [show X.env.kindOf fo = some .cell from hvf] at hk
      cases hk
    · exact ⟨c, h1, h2⟩
  have hclo : (cloFrom X.env.cells scope.names []).lookup fo = some c := by
    obtain ⟨c', e'⟩ := mem_lookup (cloFrom_has (cells := X.env.cells) (acc := []) hsf)
    rw [e']
    rcases cloFrom_mem (PySem.mem_of_lookup e') with z | ⟨_, z⟩
    · cases z
    · rw [z, hcl]
      rfl
  refine Subscript_ (thnS (Q := fun v s1 => ∃ (D : Addr) (its : Array Value) (u : Value), v = .ref D ∧ s1.heap.IsList D its ∧ Inv X pins σ H s1 ∧ its[0]? = some u ∧ RelV (.str w) u ∧ u ∈ itsS) ?_ fun v s1 hk1 ⟨D, its, u, ev, hl1, I1, h0, ru, hu⟩ => ?_)
  rotate_left
  · subst ev
    refine wpAny_Constant_int ?_
    exact item_listR (s := { s1 with toks := s1.toks + 1 }) hl1 (by omega) (by omega) h0 ⟨(tS u hu).mono (by show s.toks ≤ s1.toks + 1; omega), .str w, H, I1.tok _, ru, q⟩ (by rfl)
  refine wpAny_ListComp_free (notIn ys) (fun v y => y = v) (closure_ok hfr) hcell hkind hnames hx (raw_name hNs hvs I hσs (fun v r => ?_) hds hcs) hs
  have er : v = Value.ref S := r
  subst er
  have hlS : s.heap.IsList S itsS.toArray := ⟨_, hgS, rfl, nS, rfl⟩
  have nSz : S ≠ s.heap.objs.size := Nat.ne_of_lt (Heap.lt_size hgS)
  have push : ∀ b o', s.heap.get? b = some o' → (s.heap.push { cls := .type "list_iterator", data := .fields #[.ref S, .int 0 0] }).get? b = some o' := fun b o' e => Heap.get?_push_of_some _ e
  refine wpAny_pyIter_list hlS ?_
  refine ⟨s.heap.objs.size, [s.heap.objs.size, S], [s.heap.objs.size], itsS.toArray.size, _, _, rfl, Walks.list hh s.heap.objs.size S nSz itsS.toArray, by rw [List.size_toArray, ← rvS.length]; exact hzS, ⟨⟨_, Heap.get?_push_size _ rfl, rfl, rfl⟩, ⟨_, push _ _ hgS, rfl, nS, rfl⟩⟩, fun b hb => ?_, ⟨fun C i v s₃ m₃ E' hC hP hn3 hm hk ht => ?_, fun C i v s₃ m₃ E' hC hP hp hn3 hm hk ht => ?_⟩, fun D h' tk ys' vs hD hl' hpl hlen hPv hF hk => ?_⟩
  · rw [Heap.size_push]
    have : b = s.heap.objs.size ∨ b = S := by simpa using hb
    rcases this with z | z
    · rw [z]
      exact Nat.lt_succ_self _
    · rw [z]
      exact Nat.lt_succ_of_lt (Heap.lt_size hgS)
  · have hP' : itsS[i]? = some v := by simpa using hP
    obtain ⟨z, t, rfl, hz⟩ := str_items rvS v (List.mem_of_getElem? hP')
    have old : ∀ b o', s.heap.get? b = some o' → s₃.heap.get? b = some o' := fun b o' e => hk b o' (by
      have := Heap.lt_size e
      simp only [List.mem_singleton]
      exact Nat.ne_of_lt this) (push b o' e)
    have hc3 : s₃.heap.IsCell c (some (.ref a)) := by
      obtain ⟨oc, e1, e2⟩ := hca
      exact ⟨oc, old _ _ e1, e2⟩
    refine wpAny_tests_one (wpAny_isTrue_Compare1 (wpAny_Name (wpAny_loadName_local hkind (hkx _ _) hn3 hm ?_) hdx))
    refine wpAny_Name (wpAny_loadName_cell hkind (hkf _ _) hclo hc3 ?_) hdf
    refine SeqAt.notIn_listAt (eqU (.str z)) ⟨_, old _ _ hga, rfl, nA, rfl⟩ (fun y hy => mem_eqAt (x := .str z) ⟨t, rfl⟩ rfl rvA (flat_strs ys) y (by simpa using hy)) (wpAny_truthy_bool ⟨?_, keeps_refl s₃⟩)
    rw [show itsA.toArray.any (eqU (.str z)) = itsA.any (eqU (.str z)) by simp, any_eqU rvA (flat_strs ys)]
    rfl
  · exact wpAny_Name (wpAny_loadName_local hkind (hkx _ _) hn3 hm ⟨rfl, keeps_refl s₃⟩) hdx
  · have hvs : vs = itsS := by
      refine List.ext_getElem? fun n => ?_
      have hlen' : vs.length = itsS.length := by rw [hlen, List.size_toArray]
      cases e : vs[n]? with
      | none =>
        rw [List.getElem?_eq_none_iff] at e
        exact (List.getElem?_eq_none_iff.mpr (by omega)).symm
      | some v =>
        have := hPv n v e
        simpa using this.symm
    subst hvs
    have eys := paired_eq hF
    have fv := filter_vals ys rvS
    rw [← eys] at fv
    obtain ⟨r, er⟩ : ∃ r, (zs.filter fun z => !inV (.str z) (ys.map V.str)) = w :: r := by
      cases e : zs.filter fun z => !inV (.str z) (ys.map V.str) with
      | nil =>
        rw [e] at hw
        cases hw
      | cons z r =>
        rw [e] at hw
        cases hw
        exact ⟨r, rfl⟩
    rw [er] at fv
    obtain ⟨u, us, eu, ru, _⟩ : ∃ u us, ys'.toList = u :: us ∧ RelV (.str w) u ∧ True := by
      generalize ys'.toList = l at fv
      cases fv with
      | cons r1 _ => exact ⟨_, _, rfl, r1, trivial⟩
    have hu : u ∈ vs := (List.mem_filter.mp (by rw [← eys, eu]; exact List.mem_cons_self)).1
    refine ⟨D, ys', u, rfl, hl', ?_, ?_, ru, hu⟩
    · exact I.kept (t' := tk) fun b o' e => hk b o' (by
        have := Heap.lt_size e
        simp only [List.mem_singleton]
        exact Nat.ne_of_lt this) (push b o' e)
    · have : ys'.toList[0]? = some u := by rw [eu]; rfl
      simpa using this
end HTk
namespace HTk
open PySem PySem.Spec PyProof.Rows L2
/-- a value whose token is known -/
def PEt (X : Cx) (e : Expr) (te : TE) : Prop := ∀ (pins : List (Addr × Obj)) (s : Shared) (σ : L2.St) (H : Hp) (Q : VK), 1 ≤ s.toks → Inv X pins σ H s → te σ H Q → wpAny (model X.prog X.w) X.A (eval e X.env) (fun u s' => TkV s'.toks u ∧ EP X pins σ Q u s') X.xe s
theorem frz_new {X : Cx} {pins : List (Addr × Obj)} {σ : L2.St} {H : Hp} {s : Shared} {xs : List V} {its : List Value} (I : Inv X pins σ H s) (r : Vals xs its) (hz : xs.length ≤ sizeLine) :
    Inv X pins σ (upd H s.heap.objs.size (.frz { cls := .type "list", data := .seq its.toArray } (.lst xs))) { s with heap := s.heap.push { cls := .type "list", data := .seq its.toArray } } ∧ H s.heap.objs.size = none ∧ ∀ o' u', X.H_0 s.heap.objs.size ≠ some (.frz o' u') := by
  have hn : H s.heap.objs.size = none := I.hok.fresh (Nat.le_refl _)
  have e : (s.heap.push { cls := .type "list", data := .seq its.toArray }).get? s.heap.objs.size = some { cls := .type "list", data := .seq its.toArray 0 } := Heap.get?_push_size _ rfl
  have I1 : Inv X pins σ (upd H s.heap.objs.size (.lst xs)) { s with heap := s.heap.push { cls := .type "list", data := .seq its.toArray } } := I.laid (t' := s.toks) (fun b o e => Heap.get?_push_of_some _ e) (Nat.le_refl _) ⟨hz, its, 0, r, e⟩
  have nf := I1.nofrz upd_same trivial
  have I2 := Inv.lockL I1 upd_same e
  have eH : upd (upd H s.heap.objs.size (.lst xs)) s.heap.objs.size (.frz { cls := .type "list", data := .seq its.toArray 0 } (.lst xs)) = upd H s.heap.objs.size (.frz { cls := .type "list", data := .seq its.toArray } (.lst xs)) := by
    funext b
    by_cases hb : b = s.heap.objs.size
    · rw [hb, upd_same, upd_same]
    · rw [upd_ne hb, upd_ne hb, upd_ne hb]
  rw [eH] at I2
  exact ⟨I2, hn, nf⟩
/-- [e] + a list that is known -/
def tSpare (te : TE) (tl : L2.St → Hp → (Addr → Obj → List V → Hp → Prop) → Prop) : L2.St → Hp → (Addr → Obj → List V → Hp → Prop) → Prop := fun σ H Q => te σ H fun x H1 => ∀ L oL, H1 L = none → tl σ (upd H1 L (.frz oL (.lst [x]))) fun _ _ acc H2 => H2 L = some (.frz oL (.lst [x])) ∧ acc.length < sizeLine ∧
  ∀ S oS, H2 S = none → Q S oS (x :: acc) (upd H2 S (.frz oS (.lst (x :: acc))))
theorem pl_spare {X : Cx} {e lc : Expr} {te : TE} {tl : L2.St → Hp → (Addr → Obj → List V → Hp → Prop) → Prop} {p1 pos : Pos} (he : PEt X e te) (hl : PL X lc tl) (hs : starEach [e] X.env = [(false, eval e X.env)] := by rfl) :
    PL X (.BinOp (.List [e] p1) .Add lc pos) (tSpare te tl) := by
  intro pins s σ H Q hn I h
  refine wpAny_BinOp (wpAny_List_spliced ?_)
  rw [hs]
  show wpAny _ _ (spliced ((false, eval e X.env) :: backTo p1 [])) _ _ s
  refine Calls.spliced_cons (thnS (he pins s σ H _ hn I h) fun u s1 hk1 ⟨tu, x, H1, I1, ru, q1⟩ => Calls.spliced_nil ⟨(show 1 ≤ sizeLine by decide), ?_⟩)
  obtain ⟨I2, hn1, nf1⟩ := frz_new (xs := [x]) (its := [u]) I1 (.cons ru .nil) (show 1 ≤ sizeLine by decide)
  have hk2 : 1 ≤ s1.toks := Nat.le_trans hn hk1
  refine thnS (hl pins _ σ _ _ hk2 I2 (q1 s1.heap.objs.size _ hn1)) fun v s3 hk3 ⟨D, o, acc, H3, ev, lo, hD, nf, I3, hL3, hz, q3⟩ => ?_
  subst ev
  obtain ⟨its, n, rfl, rv, tv⟩ := lo
  obtain ⟨gL, _⟩ := Inv.frzL I3 hL3
  obtain ⟨gD, _⟩ := Inv.frzL I3 hD
  have hvl := rv.length
  refine PySem.P.add_list (items := [u].toArray) (items2 := its.toArray) gL gD ?_ (by rw [List.size_toArray, List.size_toArray]; show 1 + its.length ≤ sizeLine; omega)
  have ei : [u].toArray ++ its.toArray = (u :: its).toArray := by simp
  rw [ei]
  obtain ⟨I4, hn4, nf4⟩ := frz_new (xs := x :: acc) (its := u :: its) I3 (.cons ru rv) (by rw [List.length_cons]; omega)
  exact ⟨s3.heap.objs.size, _, x :: acc, _, rfl, ⟨u :: its, 0, rfl, .cons ru rv, fun y hy => (List.mem_cons.mp hy).elim (fun z => z ▸ tu.mono hk3) fun z => tv y z⟩, upd_same, nf4, I4, q3 _ _ hn4⟩
end HTk
namespace HTk
open PySem PySem.Spec PyProof.Rows L2
/-- the list at a, its object known, its texts' tokens too -/
def JF (a : Addr) (n : Nat) (H : Hp) : Prop := ∃ (o : Obj) (ys : List Str), H a = some (.frz o (.lst (ys.map V.str))) ∧ LO (TkV n) o (ys.map V.str)
theorem JF.mono {a : Addr} {n m : Nat} {H : Hp} (h : JF a n H) (k : n ≤ m) : JF a m H := by
  obtain ⟨o, ys, e, lo⟩ := h
  exact ⟨o, ys, e, lo.mono fun u hu => hu.mono k⟩
/-- spare = [e] + ..; found.append([x for x in spare if x not in found][0]) -/
def tTurn (tl : L2.St → Hp → (Addr → Obj → List V → Hp → Prop) → Prop) (isp ifo : Nat) (a : Addr) : L2.St → Hp → (L2.St → Hp → Prop) → Prop := fun σ H Nx => ∃ (o : Obj) (ys : List Str), H a = some (.frz o (.lst (ys.map V.str))) ∧ (σ.set isp none)[ifo]? = some (some (.ref a)) ∧ ys.length < sizeLine ∧
  tl σ H fun S _ acc H1 => H1 a = some (.frz o (.lst (ys.map V.str))) ∧ ∃ (zs : List Str) (w : Str), acc = zs.map V.str ∧ (zs.filter fun z => !inV (.str z) (ys.map V.str)).head? = some w ∧ ∀ o', Nx (σ.set isp (some (.ref S))) (upd H1 a (.frz o' (.lst ((ys ++ [w]).map V.str))))
theorem turn_T {X : Cx} {pins : List (Addr × Obj)} {σ : L2.St} {H : Hp} {s : Shared} {Nx : L2.St → Hp → Prop} (hc : X.calm = true) (hN : X.N.Nodup) {sp fo x : Str} {i j j0 : Nat} {a : Addr} {scope : Scope} {eS : Expr} {tl : L2.St → Hp → (Addr → Obj → List V → Hp → Prop) → Prop} {p1 px p2 p3 p4 p5 p6 p7 pn pa apos cpos pos pos1 pos2 : Pos}
    (hn : 1 ≤ s.toks) (I : Inv X pins σ H s) (jf : JF a s.toks H) (nfa : ∀ o' u', X.H_0 a ≠ some (.frz o' u')) (hl : PL X eS tl) (h : tTurn tl i j a σ H Nx)
    (hNs : X.N[i]? = some sp) (hvs : X.env.scope.names.lookup sp = some .local) (hNf : X.N[j]? = some fo) (hvf : X.env.scope.names.lookup fo = some .cell) (hij : i ≠ j) (hil : i < X.N.length)
    (hsf : (fo, NameKind.free) ∈ scope.names) (hcell : ∀ y ∈ scope.names, y.2 ≠ .cell) (hkind : scope.kind = .function) (hnames : ∀ y ∈ scope.names, y.2 = .local → scope.names.lookup y.1 = some .local) (hx : scope.names.lookup x = some .local)
    (hfree : ∀ y ∈ scope.names, y.2 = .free → X.env.scope.names.lookup y.1 = some .cell ∨ X.env.scope.names.lookup y.1 = some .free)
    (hkx : ∀ C cl, (compEnvC scope cl C X.env).kindOf x = some .local) (hkf : ∀ C cl, (compEnvC scope cl C X.env).kindOf fo = some .cell)
    (hds : (sp == ("__debug__" : Str)) = false) (hcs : (sp == ("__classdict__" : Str)) = false) (hdx : (x == ("__debug__" : Str)) = false) (hdf : (fo == ("__debug__" : Str)) = false) (hcf : (fo == ("__classdict__" : Str)) = false)
    (hs : ∀ y, foldedSetIterable (.Name sp p2) X.env y = pure y)
    (hsw : swapsWith eS (some (.Name sp pn)) pos1.line X.env = pure false)
    (hsw2 : swapsWith (.Call (.Attribute (.Name fo pa) "append" apos) [.Subscript (.ListComp (.Name x p1) [⟨.Name x px, .Name sp p2, [.Compare (.Name x p3) [.NotIn] [.Name fo p4] p5], 0⟩] scope p6) (.Constant (.int 0) j0 p7) pos] [] cpos) none pos2.line X.env = pure false)
    (hbase : attributeBase (.Name fo pa) "append" X.env (eval (.Name fo pa) X.env) = eval (.Name fo pa) X.env)
    (hfew : ((backTo cpos (starEach [Expr.Subscript (.ListComp (.Name x p1) [⟨.Name x px, .Name sp p2, [.Compare (.Name x p3) [.NotIn] [.Name fo p4] p5], 0⟩] scope p6) (.Constant (.int 0) j0 p7) pos] X.env)).all (fun x => !x.1) && (backToKw cpos (keywordEach [] X.env)).all (fun x => x.1.isSome)
      && decide ([Expr.Subscript (.ListComp (.Name x p1) [⟨.Name x px, .Name sp p2, [.Compare (.Name x p3) [.NotIn] [.Name fo p4] p5], 0⟩] scope p6) (.Constant (.int 0) j0 p7) pos].length + ([] : List Keyword).length + (if ([] : List Keyword).isEmpty then 0 else 1) < 30)) = true)
    (hline : (apos.endLine == cpos.line) = true) (hst : starEach [Expr.Subscript (.ListComp (.Name x p1) [⟨.Name x px, .Name sp p2, [.Compare (.Name x p3) [.NotIn] [.Name fo p4] p5], 0⟩] scope p6) (.Constant (.int 0) j0 p7) pos] X.env = [(false, eval (.Subscript (.ListComp (.Name x p1) [⟨.Name x px, .Name sp p2, [.Compare (.Name x p3) [.NotIn] [.Name fo p4] p5], 0⟩] scope p6) (.Constant (.int 0) j0 p7) pos) X.env)]) :
    wpAny (model X.prog X.w) X.A (execs [.Assign [.Name sp pn] eS pos1, .Expr (.Call (.Attribute (.Name fo pa) "append" apos) [.Subscript (.ListComp (.Name x p1) [⟨.Name x px, .Name sp p2, [.Compare (.Name x p3) [.NotIn] [.Name fo p4] p5], 0⟩] scope p6) (.Constant (.int 0) j0 p7) pos] [] cpos) pos2] X.env)
      (fun f s' => f = .next ∧ ∃ σ' H', Inv X pins σ' H' s' ∧ Nx σ' H' ∧ JF a s'.toks H') X.xe s := by
  obtain ⟨o, ys, ha, hσf, hys, q⟩ := h
  refine wpAny_execs_cons (wpAny_Assign_Name (thnS (hl pins s σ H _ hn I q) fun v s1 hk1 ⟨S, oS, acc, H1, ev, loS, hS, nfS, I1, ha1, zs, w, ez, hw, q1⟩ => ?_) hsw)
  subst ev ez
  refine thnS (store_ok (v := V.ref S) (Q := fun _ s2 => Inv X pins (σ.set i (some (.ref S))) H1 s2) I1 hN hNs (.inl hvs) rfl (fun s2 I2 => I2) (.inr hvs)) fun _ s2 hk2 I2 => ?_
  have hlen := I.len
  have hσs : (σ.set i (some (.ref S)))[i]? = some (some (.ref S)) := by
    rw [List.getElem?_set_self (by rw [hlen]; exact hil)]
  have hσf2 : (σ.set i (some (.ref S)))[j]? = some (some (.ref a)) := by
    rw [List.getElem?_set_ne hij] at hσf ⊢
    exact hσf
  obtain ⟨o2, ys2, e2, lo2⟩ := jf
  rw [ha] at e2
  have e3 := Option.some.inj e2
  injection e3 with e4 e5
  injection e5 with e6
  subst e4
  rw [← e6] at lo2
  refine wpAny_execs_cons (wpAny_Expr_any ?_ I2.quiet hsw2)
  refine wpAny_Call_method_late hbase hfew hline rfl (raw_name hNf (.inr (.inl hvf)) I2 hσf2 (fun v r => ?_) hdf hcf)
  obtain ⟨h1, h2⟩ := tyV_is (T := "list") I2 r (.inl ⟨rfl, _, .inl (.inr ⟨o, ha1⟩)⟩)
  have er : v = Value.ref a := r
  subst er
  refine ⟨"list", _, F.plainAttrs_list, F.slot_list_append, F.type_list_append, h1, h2, ?_⟩
  rw [hst]
  refine Calls.callWith_builtin (by rfl) (Calls.evalArgs_plain (Calls.spliced_cons ?_))
  refine thnS (first_T (Q := fun x H2 => x = .str w ∧ H2 = H1) hc I2 hNs (.inl hvs) hσs hS (loS.mono fun u hu => hu.mono hk2) hNf hvf hσf2 ha1 hsf hcell hkind hnames hx hfree hkx hkf hw ⟨rfl, rfl⟩ hds hcs hdx hdf hs) fun u s3 hk3 ⟨tu, x3, H3, I3, r3, e3, eH⟩ => Calls.spliced_nil ?_
  subst e3 eH
  have tk : s.toks ≤ s3.toks := Nat.le_trans hk1 (Nat.le_trans hk2 hk3)
  refine app_frz (xs := ys.map V.str) I3 ha1 nfa (lo2.mono fun u hu => hu.mono tk) tu (by rw [List.length_map]; exact hys) r3 fun s4 o' e4 lo4 I4 => ?_
  have em : ys.map V.str ++ [V.str w] = (ys ++ [w]).map V.str := by rw [List.map_append]; rfl
  rw [em] at I4 lo4
  exact wpAny_execs_nil ⟨rfl, _, _, I4, q1 o', o', ys ++ [w], upd_same, by rw [e4]; exact lo4⟩
end HTk
namespace HTk
open PySem PySem.Spec PyProof.Rows L2
/-- for, the list at a known throughout -/
def tForT (a : Addr) (wi : TI) (g : TG) (tb : L2.St → Hp → (L2.St → Hp → Prop) → Prop) : L2.St → Hp → (L2.St → Hp → Prop) → Prop := fun σ H Nx => wi σ H fun J H1 => H1 a = H a ∧ ∃ W : Nat → Nat → L2.St → Hp → Prop, (∃ m, W 0 m σ H1) ∧ ∀ i m σ H, W i m σ H →
  (J.stop i H ∧ Nx σ H) ∨ (J.go i H ∧ ∃ N : L2.St → Hp → Prop, (∀ σ' H', N σ' H' → ∃ m', m' < m ∧ W (i + 1) m' σ' H') ∧ ∀ x H', J.yld i H x H' → H' a = H a ∧ g x σ H' fun σ2 H2 => H2 a = H' a ∧ tb σ2 H2 N)
theorem JF.of {a : Addr} {n : Nat} {H H' : Hp} (h : JF a n H) (e : H' a = H a) : JF a n H' := by
  obtain ⟨o, ys, e1, lo⟩ := h
  exact ⟨o, ys, e.trans e1, lo⟩
theorem for_T {X : Cx} {pins : List (Addr × Obj)} {σ : L2.St} {H : Hp} {s : Shared} {a : Addr} {tg iter : Expr} {body : List Stmt} {wi : TI} {g : TG} {tb : L2.St → Hp → (L2.St → Hp → Prop) → Prop} {Nx : L2.St → Hp → Prop} {pos : Pos} (hp : PassesOwn (model X.prog X.w) X.A X.env X.xe) (hc : X.calm = true) (hi : PI X tg iter wi) (hg : PG X tg g)
    (hb : ∀ (ps : List (Addr × Obj)) (s' : Shared) (σ' : L2.St) (H' : Hp) (N : L2.St → Hp → Prop), 1 ≤ s'.toks → Inv X ps σ' H' s' → JF a s'.toks H' → tb σ' H' N → wpAny (model X.prog X.w) X.A (execs body X.env) (fun f s2 => f = .next ∧ ∃ σ2 H2, Inv X ps σ2 H2 s2 ∧ N σ2 H2 ∧ JF a s2.toks H2) X.xe s')
    (hs : ∀ x, foldedSetIterable iter X.env x = pure x) (hn : 1 ≤ s.toks) (I : Inv X pins σ H s) (jf : JF a s.toks H) (h : tForT a wi g tb σ H Nx) :
    wpAny (model X.prog X.w) X.A (exec (.For tg iter body [] pos) X.env) (fun f s2 => f = .next ∧ ∃ σ2 H2, Inv X pins σ2 H2 s2 ∧ Nx σ2 H2 ∧ JF a s2.toks H2) X.xe s := by
  refine wpAny_For (thnS (hi.run pins s σ H _ I h) fun v s1 hk1 h1 => thnS h1 fun itv s2 hk2 h2 => ?_) hs
  obtain ⟨it, fp, tn, J, H2, e, I2, T, st2, f2, eH, W, ⟨m0, w0⟩, turn⟩ := h2
  subst e
  have stat : ∀ {H' : Hp}, (∀ b ∈ fp, H' b = none) → ∀ b ∈ fp, FpOk X pins H' b := fun hn b hb => ⟨hn b hb, (f2 b hb).2⟩
  have hk : s.toks ≤ s2.toks := Nat.le_trans hk1 hk2
  refine codeAny_forLoop_any (fun n s' => ∃ i σ' H', 1 ≤ s'.toks ∧ JF a s'.toks H' ∧ Inv X pins σ' H' s' ∧ tn i s'.heap ∧ (∀ b ∈ fp, H' b = none) ∧ W i n σ' H') ?_ m0 ⟨0, σ, H2, Nat.le_trans hn hk, (jf.of eH).mono hk, I2, st2, fun b hb => (f2 b hb).1, w0⟩
  rintro n s3 ⟨i, σ3, H3, hn3, jf3, I3, st3, fr3, w3⟩
  rcases turn i n σ3 H3 w3 with ⟨stop, qn⟩ | ⟨go, N, hN, step⟩
  · refine wpAny_passesOwn hp (thnS (T.done X rfl rfl rfl hc i pins s3 σ3 H3 X.xe I3 (stat fr3) st3 stop) fun r s4 k4 ⟨hr, I4⟩ => ?_)
    subst hr
    exact wpAny_execs_nil ⟨rfl, σ3, H3, I4, qn, jf3.mono k4⟩
  · refine wpAny_passesOwn hp (thnS (T.item X rfl rfl rfl hc i pins s3 σ3 H3 X.xe I3 (stat fr3) st3 go) fun r s4 k4 ⟨u, hr, h4⟩ => ?_)
    subst hr
    refine wpAny_passesOwn hp (thnS h4 fun _ s5 k5 ⟨x, H5, I5, r5, y5, st5, fr5⟩ => ?_)
    have I5' := I5.pinned (stat fr5) (T.obj _ _ st5)
    obtain ⟨e5, q5⟩ := step x H5 y5
    refine wpAny_passesOwn hp (thnS (hg.run _ s5 σ3 H5 x u _ I5' r5 q5) fun _ s6 k6 ⟨σ6, H6, I6, e6, q6⟩ => ?_)
    have k36 : s3.toks ≤ s6.toks := Nat.le_trans k4 (Nat.le_trans k5 k6)
    refine wpAny_passesOwn hp (thnS (hb _ s6 σ6 H6 _ (Nat.le_trans hn3 k36) I6 ((jf3.of (e6.trans e5)).mono k36) q6) fun f s7 k7 ⟨ef, σ7, H7, I7, n7, jf7⟩ => ?_)
    subst ef
    obtain ⟨m', hm, w7⟩ := hN σ7 H7 n7
    refine ⟨m', hm, i + 1, σ7, H7, Nat.le_trans hn3 (Nat.le_trans k36 k7), jf7, I7.unpinned, T.keep _ _ _ st5 fun b hb o e => (I7.pin (b, o) (List.mem_append_right _ (List.mem_append_right _ (mem_pinsAt hb e)))).1, fun b hb => ?_, w7⟩
    obtain ⟨o, e, d⟩ := T.obj _ _ st5 b hb
    exact (I7.pin (b, o) (List.mem_append_right _ (List.mem_append_right _ (mem_pinsAt hb e)))).2.1
/-- what is true of a list that is told: its texts' tokens are known -/
def PLst (u : Value) (s : Shared) : Prop := ∃ (D : Addr) (its : List Value) (k : Nat), u = .ref D ∧ s.heap.get? D = some { cls := .type "list", data := .seq its.toArray k } ∧ ∀ v ∈ its, TkV s.toks v
/-- found = []; for ..; return found -/
def tNamesT (wi : TI) (g : TG) (tb : Addr → L2.St → Hp → (L2.St → Hp → Prop) → Prop) (j : Nat) : TS := fun D σ H => ∀ a o, H a = none → tForT a wi g (tb a) (σ.set j (some (.ref a))) (upd H a (.frz o (.lst []))) fun σ' H' => σ'[j]? = some (some (.ref a)) ∧ D.rt (.ref a) H'
theorem names_T {X : Cx} {fo : Str} {j : Nat} {tg iter : Expr} {body : List Stmt} {wi : TI} {g : TG} {tb : Addr → L2.St → Hp → (L2.St → Hp → Prop) → Prop} {pn pl pf pr ps0 pos : Pos} (hp : PassesOwn (model X.prog X.w) X.A X.env X.xe) (hc : X.calm = true) (hN : X.N.Nodup) (hi : PI X tg iter wi) (hg : PG X tg g) (hNf : X.N[j]? = some fo) (hvf : X.env.scope.names.lookup fo = some .cell) (hfn : X.fn fo = true)
    (hb : ∀ (a : Addr) (ps : List (Addr × Obj)) (s' : Shared) (σ' : L2.St) (H' : Hp) (N : L2.St → Hp → Prop), (∀ o' u', X.H_0 a ≠ some (.frz o' u')) → 1 ≤ s'.toks → Inv X ps σ' H' s' → JF a s'.toks H' → tb a σ' H' N → wpAny (model X.prog X.w) X.A (execs body X.env) (fun f s2 => f = .next ∧ ∃ σ2 H2, Inv X ps σ2 H2 s2 ∧ N σ2 H2 ∧ JF a s2.toks H2) X.xe s')
    (hs : ∀ x, foldedSetIterable iter X.env x = pure x) (hsw : swapsWith (.List [] pl) (some (.Name fo pn)) ps0.line X.env = pure false) (hdf : (fo == ("__debug__" : Str)) = false) (hcf : (fo == ("__classdict__" : Str)) = false) :
    PSsR PLst X [.Assign [.Name fo pn] (.List [] pl) ps0, .For tg iter body [] pf, .Return (some (.Name fo pr)) pos] (tNamesT wi g tb j) := by
  intro pins s σ H D hn I h
  refine wpAny_execs_cons (wpAny_Assign_Name (wpAny_List_spliced (Calls.spliced_nil ⟨Nat.zero_le _, ?_⟩)) hsw)
  obtain ⟨I2, hn1, nf1⟩ := frz_new (xs := []) (its := []) I .nil (Nat.zero_le _)
  refine thnS (store_ok (v := V.ref s.heap.objs.size) (Q := fun _ s2 => Inv X pins (σ.set j (some (.ref s.heap.objs.size))) _ s2) I2 hN hNf (.inr hvf) rfl (fun s2 I3 => I3) (.inl hfn)) fun _ s2 hk2 I3 => ?_
  have hk : 1 ≤ s2.toks := Nat.le_trans hn hk2
  refine wpAny_execs_cons (thn (for_T hp hc hi hg (fun ps s' σ' H' N => hb _ ps s' σ' H' N nf1) hs hk I3 ⟨_, [], upd_same, [], 0, rfl, .nil, fun u hu => nomatch hu⟩ (h _ _ hn1)) fun f s3 ⟨ef, σ3, H3, I4, ⟨hσ, q⟩, jf⟩ => ?_)
  subst ef
  refine wpAny_execs_cons (wpAny_Return_some (raw_name hNf (.inr (.inl hvf)) I4 hσ (fun v r => ?_) hdf hcf))
  have er : v = Value.ref s.heap.objs.size := r
  subst er
  refine ⟨⟨.ref s.heap.objs.size, σ3, H3, I4, rfl, q⟩, fun u eu => ?_⟩
  cases eu
  obtain ⟨o, ys, e, its, k, rfl, rv, ht⟩ := jf
  obtain ⟨hg, _⟩ := Inv.frzL I4 e
  exact ⟨_, its, k, rfl, hg, ht⟩
end HTk
namespace HTk
open PySem PySem.Spec PyProof.Rows L2
/-! ### n tokens are out -/
def PEK (X : Cx) (n : Nat) (e : Expr) (te : TE) : Prop := ∀ (pins : List (Addr × Obj)) (s : Shared) (σ : L2.St) (H : Hp) (Q : VK), n ≤ s.toks → Inv X pins σ H s → te σ H Q → wpAny (model X.prog X.w) X.A (eval e X.env) (EP X pins σ Q) X.xe s
def PSK (X : Cx) (n : Nat) (st : Stmt) (t : TS) : Prop := ∀ (pins : List (Addr × Obj)) (s : Shared) (σ : L2.St) (H : Hp) (D : Ends), n ≤ s.toks → Inv X pins σ H s → t D σ H → wpAny (model X.prog X.w) X.A (exec st X.env) (SP X pins D) X.xe s
def PSsK (X : Cx) (n : Nat) (sts : List Stmt) (t : TS) : Prop := ∀ (pins : List (Addr × Obj)) (s : Shared) (σ : L2.St) (H : Hp) (D : Ends), n ≤ s.toks → Inv X pins σ H s → t D σ H → wpAny (model X.prog X.w) X.A (execs sts X.env) (SP X pins D) X.xe s
section
variable {X : Cx} {n : Nat} {st : Stmt} {rest : List Stmt} {t u : TS} {e : Expr} {te : TE} {pos : Pos}
theorem PEK.of (h : PE X e te) : PEK X n e te := fun pins s σ H Q _ I q => h.run pins s σ H Q I q
theorem PSK.of (h : PS X st t) : PSK X n st t := fun pins s σ H D _ I q => h.run pins s σ H D I q
theorem PSsK.of (h : PSs X rest t) : PSsK X n rest t := fun pins s σ H D _ I q => h.run pins s σ H D I q
theorem psk_cons (h1 : PSK X n st t) (h2 : PSsK X n rest u) : PSsK X n (st :: rest) (tSeq t u) := by
  intro pins s σ H D hn I h
  refine wpAny_execs_cons (thnS (h1 pins s σ H { D with nx := u D } hn I h) fun f s1 hk q => ?_)
  cases f with
  | next =>
    obtain ⟨σ', H', I', q⟩ := q
    exact h2 pins s1 σ' H' D (Nat.le_trans hn hk) I' q
  | ret v => exact q
  | brk => exact q
  | cont => exact q
theorem psk_one (h : PSK X n st t) : PSsK X n [st] t := by
  intro pins s σ H D hn I h'
  refine wpAny_execs_cons (thn (h pins s σ H D hn I h') fun f s1 q => ?_)
  cases f with
  | next => exact wpAny_execs_nil q
  | ret v => exact q
  | brk => exact q
  | cont => exact q
theorem psk_if {c : Expr} {a b : List Stmt} {tc : TT} (hc : PT X c tc) (ha : PSsK X n a t) (hb : PSsK X n b u) : PSK X n (.If c a b pos) (tIfS tc t u) := by
  intro pins s σ H D hn I h
  refine wpAny_If (thnS (hc.run pins s σ H _ I h) fun d s1 hk ⟨H1, I1, q1⟩ => ?_)
  cases d with
  | true => exact ha pins s1 σ H1 D (Nat.le_trans hn hk) I1 q1
  | false => exact hb pins s1 σ H1 D (Nat.le_trans hn hk) I1 q1
/-- names = f(..): the list's object is known from now on -/
def tNm (tc : TE) (i : Nat) (u : Nat → TS) : TS := fun D σ H => tc σ H fun v H1 => ∃ (a : Addr) (o : Obj) (ys : List Str), v = .ref a ∧ H1 a = some (.frz o (.lst (ys.map V.str))) ∧ ∀ n, LO (TkV n) o (ys.map V.str) → u n D (σ.set i (some (.ref a))) H1
theorem pss_nm {tc : TE} {i : Nat} {x : Str} {px : Pos} {v : Nat → TS} (hN : X.N.Nodup) (hi : X.N[i]? = some x) (hx : Loc X.env.scope x) (hf : X.fn x = true ∨ X.env.scope.names.lookup x = some .local)
    (he : ∀ (pins : List (Addr × Obj)) (s : Shared) (σ : L2.St) (H : Hp) (Q : VK), Inv X pins σ H s → tc σ H Q → wpAny (model X.prog X.w) X.A (eval e X.env) (fun u s' => PLst u s' ∧ EP X pins σ Q u s') X.xe s)
    (h : ∀ n, PSsK X n rest (v n)) (hs : swapsWith e (some (.Name x px)) pos.line X.env = pure false) : PSs X (.Assign [.Name x px] e pos :: rest) (tNm tc i v) := by
  refine ⟨fun pins s σ H D I hq => ?_⟩
  refine wpAny_execs_cons (wpAny_Assign_Name (thn (he pins s σ H _ I hq) fun w s1 ⟨hp, y, H1, I1, r1, a, o, ys, ey, ha, q1⟩ => ?_) hs)
  subst ey
  have ew : w = Value.ref a := r1
  subst ew
  obtain ⟨D', its, k, eD, hg, ht⟩ := hp
  cases eD
  obtain ⟨hg2, _, its2, k2, rv, hg3⟩ := Inv.frzL I1 ha
  rw [hg] at hg2 hg3
  have eo := Option.some.inj hg2
  have e3 := Option.some.inj hg3
  injection e3 with _ _ e4
  injection e4 with e5 _
  have e6 : its = its2 := by simpa using e5
  subst e6
  have lo : LO (TkV s1.toks) o (ys.map V.str) := ⟨its, k, eo.symm, rv, ht⟩
  refine thnS (store_ok (v := V.ref a) (Q := fun _ s2 => Inv X pins (σ.set i (some (.ref a))) H1 s2) I1 hN hi hx r1 (fun s2 I2 => I2) hf) fun _ s2 hk I2 => ?_
  exact h s1.toks pins s2 _ H1 D hk I2 (q1 _ lo)
/-- e.replace(a written text, names[k]) -/
def tReplN (n : Nat) (to : TE) (old : Str) (i k : Nat) : TE := fun σ H Q => to σ H fun x H1 => ∃ (z : Str) (a : Addr) (o : Obj) (ys : List Str) (w : Str), x = .str z ∧ σ[i]? = some (some (.ref a)) ∧ H1 a = some (.frz o (.lst (ys.map V.str))) ∧ LO (TkV n) o (ys.map V.str) ∧ ys[k]? = some w ∧ (old == w) = false ∧
  z.length + (z.length + 1) * w.length ≤ 16777216 ∧ Q (.str (Txt.replace z old w)) H1
theorem pek_repl (i k : Nat) {o : Expr} {to : TE} {old px : Str} {j0 j1 : Nat} {c0 c1 q1 p3 apos : Pos} (ho : PEK X n o to) (hNp : X.N[i]? = some px := by rfl) (hvp : Vis X.env.scope px := by first | exact Or.inl rfl | exact Or.inr (Or.inl rfl) | exact Or.inr (Or.inr rfl)) (hk : (k : Int) < 2 ^ 63 := by decide)
    (hst : starEach [.Constant (.str old) j0 c0, .Subscript (.Name px p3) (.Constant (.int (k : Nat)) j1 c1) q1] X.env = [(false, eval (.Constant (.str old) j0 c0) X.env), (false, eval (.Subscript (.Name px p3) (.Constant (.int (k : Nat)) j1 c1) q1) X.env)] := by rfl)
    (hbase : attributeBase o "replace" X.env (eval o X.env) = eval o X.env := by rfl) (hline : (apos.endLine == pos.line) = true := by rfl) (hdp : (px == ("__debug__" : Str)) = false := by decide) (hcp : (px == ("__classdict__" : Str)) = false := by decide) :
    PEK X n (.Call (.Attribute o "replace" apos) [.Constant (.str old) j0 c0, .Subscript (.Name px p3) (.Constant (.int (k : Nat)) j1 c1) q1] [] pos) (tReplN n to old i k) := by
  intro pins s σ H Q hn I h
  refine PySem.Call_method2 hbase hst hline (thnS (ho pins s σ H _ hn I h) fun v s1 hk1 ⟨x, H1, I1, r1, z, a, ob, ys, w, ex, hσ, ha, lo, hw, hne, hb, q⟩ => ?_)
  subst ex
  obtain ⟨tx, ev⟩ := r1
  subst ev
  obtain ⟨its, m, rfl, rv, ht⟩ := lo
  obtain ⟨hg, _⟩ := Inv.frzL I1 ha
  obtain ⟨u, hu, ru⟩ := rv.get (i := k) (x := .str w) (by rw [List.getElem?_map, hw]; rfl)
  obtain ⟨tu, rfl⟩ := ru
  obtain ⟨u0, un⟩ := ht _ (List.mem_of_getElem? hu) w tu rfl
  have hnt : n ≤ s1.toks := Nat.le_trans hn hk1
  refine ⟨"str", _, F.plainAttrs_str, F.slot_str_replace, F.type_str_replace, typeIs_str _ _ _, (fun _ e => nomatch e), Calls.callWith_builtin rfl (Calls.evalArgs_plain (Calls.spliced_cons (Calls.Constant_str ?_)))⟩
  refine Calls.spliced_cons (raw_ix hNp hvp (I1.tok (s1.toks + 1)) hσ (its := its.toArray) ⟨_, hg, rfl, m, rfl⟩ (by omega) hk (by simpa using hu) (fun k2 => Calls.spliced_nil ?_) (fun _ _ => rfl) hdp hcp)
  have h1 : s1.toks ≠ 0 := fun z => by
    have : tu < 0 := z ▸ Nat.lt_of_lt_of_le un hnt
    exact absurd this (Nat.not_lt_zero _)
  have h2 : s1.toks ≠ tu := fun z => absurd (Nat.lt_of_lt_of_le un hnt) (by rw [z]; exact Nat.lt_irrefl _)
  exact PySem.SC.replace h1 u0 h2 hne hb fun t' k3 => ⟨.str (Txt.replace z old w), H1, I1.tok k3, ⟨t', rfl⟩, q⟩
/-- a list whose object is known, n tokens being out -/
def PLK (X : Cx) (n : Nat) (e : Expr) (tl : L2.St → Hp → (Addr → Obj → List V → Hp → Prop) → Prop) : Prop := ∀ (pins : List (Addr × Obj)) (s : Shared) (σ : L2.St) (H : Hp) (Q : Addr → Obj → List V → Hp → Prop), n ≤ s.toks → Inv X pins σ H s → tl σ H Q →
  wpAny (model X.prog X.w) X.A (eval e X.env) (fun v s' => ∃ D o acc H', v = .ref D ∧ H' D = some (.frz o (.lst acc)) ∧ Inv X pins σ H' s' ∧ Q D o acc H') X.xe s
def tAsgL (tl : L2.St → Hp → (Addr → Obj → List V → Hp → Prop) → Prop) (g : TG) : TS := fun D σ H => tl σ H fun A _ _ H1 => g (.ref A) σ H1 D.nx
theorem psk_asgL {tg : Expr} {tl : L2.St → Hp → (Addr → Obj → List V → Hp → Prop) → Prop} {g : TG} (hl : PLK X n e tl) (hg : PG X tg g) (hs : swapsWithSole [tg] e pos.line X.env = pure false := by rfl) (hw : swappedStores [tg] e X.env = pure none := by rfl)
    (h1 : (assignEach [tg] X.env).map (·.2) = [assign tg X.env] := by rfl) : PSK X n (.Assign [tg] e pos) (tAsgL tl g) := by
  intro pins s σ H D hn I h
  refine wpAny_Assign_stores (thn (hl pins s σ H _ hn I h) fun v s1 ⟨A, o, acc, H1, ev, hA, I1, q1⟩ => ?_) hs hw
  rw [h1]
  exact thn (hg.run pins s1 σ H1 (.ref A) v _ I1 ev q1) fun _ s2 q => q
end
end HTk
namespace HTk
open PySem PySem.Spec PyProof.Rows L2
section
variable {X : Cx} {elt tg iter : Expr} {ifs : List Expr} {scope : Scope} {own : List (Str × Nat)} {pos : Pos} {wi : TI} {g : TG} {tt : TT} {te : TE}
theorem pl_lc (hc : X.calm = true) (hN : X.N.Nodup) (hi : PI X tg iter wi) (ok : BlkOk X.N X.env.scope scope own)
    (hg : ∀ (s : Shared) (H : Hp) (C : Addr) (cl : List (Str × Addr)) (fp : List Addr), PG (X.blk s H scope (compEnvC scope cl C X.env) fp) tg g) (ht : ∀ (s : Shared) (H : Hp) (C : Addr) (cl : List (Str × Addr)) (fp : List Addr), PTs (X.blk s H scope (compEnvC scope cl C X.env) fp) ifs tt)
    (he : ∀ (s : Shared) (H : Hp) (C : Addr) (cl : List (Str × Addr)) (fp : List Addr), PEt (X.blk s H scope (compEnvC scope cl C X.env) fp) elt te) (hs : ∀ x, foldedSetIterable iter X.env x = pure x := by intro _; rfl) :
    PL X (.ListComp elt [⟨tg, iter, ifs, 0⟩] scope pos) (tLcT wi g tt te (own.map (·.2))) := fun pins s σ H Q hn I h =>
  pe_lcT (Pv := TkV) (fun _ _ _ k h => h.mono k) hc hN hi ok hg ht (fun sb Hb C cl fp ps s' σ' H' R hn' I' h' => he sb Hb C cl fp ps s' σ' H' R hn' I' h') hs hn I h
theorem plk_lc {n : Nat} (hc : X.calm = true) (hN : X.N.Nodup) (hi : PI X tg iter wi) (ok : BlkOk X.N X.env.scope scope own)
    (hg : ∀ (s : Shared) (H : Hp) (C : Addr) (cl : List (Str × Addr)) (fp : List Addr), PG (X.blk s H scope (compEnvC scope cl C X.env) fp) tg g) (ht : ∀ (s : Shared) (H : Hp) (C : Addr) (cl : List (Str × Addr)) (fp : List Addr), PTs (X.blk s H scope (compEnvC scope cl C X.env) fp) ifs tt)
    (he : ∀ (s : Shared) (H : Hp) (C : Addr) (cl : List (Str × Addr)) (fp : List Addr), PEK (X.blk s H scope (compEnvC scope cl C X.env) fp) n elt te) (hs : ∀ x, foldedSetIterable iter X.env x = pure x := by intro _; rfl) :
    PLK X n (.ListComp elt [⟨tg, iter, ifs, 0⟩] scope pos) (tLcT wi g tt te (own.map (·.2))) := fun pins s σ H Q hn I h =>
  thn (pe_lcT (Pv := fun _ _ => True) (fun _ _ _ _ h => h) hc hN hi ok hg ht (fun sb Hb C cl fp ps s' σ' H' R hn' I' h' => thn (he sb Hb C cl fp ps s' σ' H' R hn' I' h') fun _ _ q => ⟨trivial, q⟩) hs hn I h) fun v s' ⟨A, o, acc, H', e, _, hA, _, I', q⟩ => ⟨A, o, acc, H', e, hA, I', q⟩
end
section
variable {X : Cx} {a b : Expr} {ta tb : TE} {pos : Pos}
/-- two texts, not empty, joined by +: a new text -/
def rAddN : R2 := fun x y H Q => ∃ i j : Str, x = .str i ∧ y = .str j ∧ (i.length == 0) = false ∧ (j.length == 0) = false ∧ i.length + j.length ≤ sizeLine ∧ Q (.str (i ++ j)) H
theorem pe_addS (ha : PE X a ta) (hb : PE X b tb) : PEt X (.BinOp a .Add b pos) (tOp rAddN ta tb) := by
  intro pins s σ H Q hn I h
  refine wpAny_BinOp (thnS (ha.run pins s σ H _ I h) fun v s1 h1 ⟨x, H1, I1, rx, q1⟩ => thnS (hb.run pins s1 σ H1 _ I1 q1) fun u s2 h2 ⟨y, H2, I2, ry, i, j, ex, ey, hi, hj, hz, q⟩ => ?_)
  subst ex ey
  obtain ⟨t, rfl⟩ := rx
  obtain ⟨t', rfl⟩ := ry
  refine PySem.P.add_str ?_
  rw [hi, hj]
  have hlen : (i ++ j).length ≤ sizeLine := by rw [Str.length_append]; exact hz
  exact ⟨hlen, TkV.new (Nat.le_trans hn (Nat.le_trans h1 h2)), .str (i ++ j), H2, I2.tok _, ⟨_, rfl⟩, q⟩
theorem pe_ixT (ha : PE X a ta) (hb : PE X b tb) (hs : PlainIx b) : PEt X (.Subscript a b pos) (tOp rIxS ta tb) := fun _ _ _ _ _ hn I h => pe_ixS ha hb hs hn I h
end
end HTk
namespace HTk
open PySem PySem.Spec PyProof.Rows L2
section
variable {X : Cx} {CX : CXT} {k : Nat} {f : Addr} {fd : FuncData} {ps : List Str} {sp : Sp} {dvs : List V} {ds : List Value} {E : XK} {x : Str} {p pos cp : Pos} {e : Expr} {te : TE} {Pst : Value → Shared → Prop} {c : Int} {j : Nat}
/-- f(e, a written number): a token is out when it is called -/
theorem pe_callTc (F : FnT Pst X.prog X.w X.K X.mg X.base CX k f fd ps sp) (hr : Room k X.A) (hg : Gl X x) (hm : X.mg x = some (.ref f)) (hk : PySem.W.keepIn X.K (.ref f) = true) (hb : Binds X.K fd ps ds) (hd : Vals dvs ds) (hx : Passes CX X E)
    (he : PE X e te) {pins : List (Addr × Obj)} {s : Shared} {σ : L2.St} {H : Hp} {Q : VK} (I : Inv X pins σ H s) (h : tCall sp dvs E (tCons te (tCons (tC (.int c)) tNil)) σ H Q)
    (hdb : (x == ("__debug__" : Str)) = false := by decide) (hs : starEach [e, .Constant (.int c) j cp] X.env = (false, eval e X.env) :: starEach [.Constant (.int c) j cp] X.env := by rfl) (hs2 : starEach [.Constant (.int c) j cp] X.env = [(false, eval (.Constant (.int c) j cp) X.env)] := by rfl) (hpl : (backTo pos (starEach [.Constant (.int c) j cp] X.env)).any (·.1) = false := by rfl) :
    wpAny (model X.prog X.w) X.A (eval (.Call (.Name x p) [e, .Constant (.int c) j cp] [] pos) X.env) (fun u s' => Pst u s' ∧ EP X pins σ Q u s') X.xe s := by
  refine wpAny_Call_Name_kw (ld_glob I hg hm ?_ hdb)
  refine PySem.W.callWith_K (h₀ := X.base) I.ok.mod.kin hk ?_ hs hpl
  rw [hs, hs2]
  show wpAny _ _ (spliced ((false, eval e X.env) :: backTo pos [(false, eval (.Constant (.int c) j cp) X.env)])) _ _ s
  refine Calls.spliced_cons (thn (he.run pins s σ H _ I h) fun u s1 ⟨v, H1, I1, r, q⟩ => ?_)
  show wpAny _ _ (spliced ((false, eval (.Constant (.int c) j cp) X.env) :: backTo pos [])) _ _ s1
  refine Calls.spliced_cons (wpAny_Constant_int (Calls.spliced_nil ⟨(I1.tok (s1.toks + 1)).kIn, ?_⟩))
  exact run_fnT (vs := [v, .int c]) F hr hb hd hx (by show 1 ≤ s1.toks + 1; omega) (I1.tok (s1.toks + 1)) (.cons r (.cons ⟨s1.toks, rfl⟩ .nil)) q
end
end HTk
namespace HTk
open PySem PySem.Spec PyProof.Rows L2
/-- a list whose object is known times an int -/
def rRepF : R2 := fun x y H Q => ∃ l k xs o, x = .ref l ∧ y = .int k ∧ H l = some (.frz o (.lst xs)) ∧ -(2 ^ 63) ≤ k ∧ k < 2 ^ 63 ∧ xs.length * k.toNat ≤ sizeLine ∧
  ∀ p, H p = none → Q (.ref p) (upd H p (.lst (List.replicate k.toNat xs).flatten))
theorem op_repF {X : Cx} : OpR X (binaryOp .Mult) rRepF := by
  intro pins s σ H x y v u Q I rx ry h
  obtain ⟨l, k, xs, o, rfl, rfl, hH, h1, h2, hz, q⟩ := h
  cases rx
  obtain ⟨t, rfl⟩ := ry
  obtain ⟨_, z, its, n, r, e⟩ := Inv.frzL I hH
  have hl := r.length
  have hlen : its.toArray.size * k.toNat ≤ sizeLine := by rw [List.size_toArray, ← hl]; exact hz
  have hcap : ¬ its.toArray.size * k.toNat > (2 ^ 63 - 1) / 8 := by
    have : (sizeLine : Nat) ≤ (2 ^ 63 - 1) / 8 := by decide
    omega
  have hfit : ¬ (!Builtin.List.listFitsIndex k) = true := by
    rw [fitsIndex_both h1 h2]
    exact Bool.false_ne_true
  have hlong : ¬ Builtin.List.listTooLong (its.toArray.size * k.toNat) = true := by
    rw [notLongL hlen]
    exact Bool.false_ne_true
  have hnew : List.foldl (fun x1 x2 => x1 ++ x2) #[] (List.replicate (if its.toArray.isEmpty = true then 0 else k.toNat) its.toArray) = (List.replicate k.toNat its).flatten.toArray := by
    have f0 : ∀ m : Nat, List.foldl (fun x1 x2 => x1 ++ x2) #[] (List.replicate m its.toArray) = (List.replicate m its).flatten.toArray := fun m => by
      have := foldl_rep its m []
      rw [List.nil_append] at this
      exact this
    rw [f0]
    cases its with
    | nil => simp
    | cons a r' => rw [if_neg (by simp)]
  refine wpAny_binaryOp_repeat_ref (T := "list") (U := "int") (by decide) ⟨_, e, rfl⟩ (fun s' => typeIs_int s' k t) noFill_list_mul F.fills_int_mul F.slot_int_rmul repeat_list F.slot_int_index.lookup
    (call_meets F.slot_int_rmul (typeIs_int s k t) F.entry_int_rmul (F.args_int_rmul_2 _ _) (int___rmul___int_list k t l its.toArray n)
      ⟨e, rfl, ⟨_, e, rfl⟩, call_meets F.slot_list_mul ⟨_, e, rfl⟩ F.entry_list_mul (F.args_list_mul_2 _ _) (AutoListH.list___mul___list_int_3 l its.toArray n k t hfit hcap hlong) ⟨e, ?_⟩⟩)
  rw [hnew]
  exact ⟨.ref _, _, I.lnew (t' := s.toks) (r.rep k.toNat) (by rw [PyProof.Rows.lm_len_rep_flat, Nat.mul_comm]; exact hz), rfl, q _ I.fresh⟩
end HTk
namespace HTk
open PySem PySem.Spec PyProof.Rows L2
section
variable {X : Cx} {CX : CXT} {k : Nat} {f : Addr} {fd : FuncData} {ps : List Str} {sp : Sp} {dvs : List V} {ds : List Value} {E : XK} {x : Str} {p pos cp : Pos} {e : Expr} {es : List Expr} {t : TA} {te : TE} {c : Int} {j : Nat}
theorem pssr_retT (he : PEt X e te) : PSsR (fun u s => TkV s.toks u) X [.Return (some e) pos] (tRet te) := pssr_ret he
theorem pet_call (F : FnT (fun u s => TkV s.toks u) X.prog X.w X.K X.mg X.base CX k f fd ps sp) (hr : Room k X.A) (hg : Gl X x) (hm : X.mg x = some (.ref f)) (hk : PySem.W.keepIn X.K (.ref f) = true) (hb : Binds X.K fd ps ds) (hd : Vals dvs ds) (hx : Passes CX X E)
    (ha : PA X (e :: es) t) (hdb : (x == ("__debug__" : Str)) = false := by decide) (he : starEach (e :: es) X.env = (false, eval e X.env) :: starEach es X.env := by rfl) (hpl : (backTo pos (starEach es X.env)).any (·.1) = false := by rfl) :
    PEt X (.Call (.Name x p) (e :: es) [] pos) (tCall sp dvs E t) := fun _ _ _ _ _ hn I h => pe_callT F hr hg hm hk hb hd hx ha hn I h hdb he hpl
theorem pet_join {tl : L2.St → Hp → (Addr → Obj → List V → Hp → Prop) → Prop} {z : Str} {c apos : Pos} (hl : PL X e tl)
    (hs : starEach [e] X.env = [(false, eval e X.env)] := by rfl) (hbase : attributeBase (.Constant (.str z) j c) "join" X.env (eval (.Constant (.str z) j c) X.env) = eval (.Constant (.str z) j c) X.env := by rfl) (hline : (apos.endLine == pos.line) = true := by rfl) :
    PEt X (.Call (.Attribute (.Constant (.str z) j c) "join" apos) [e] [] pos) (tJoinL z tl) := fun _ _ _ _ _ hn I h => pe_joinT hl hn I h hs hbase hline
def PEl (X : Cx) (e : Expr) (te : TE) : Prop := ∀ (pins : List (Addr × Obj)) (s : Shared) (σ : L2.St) (H : Hp) (Q : VK), Inv X pins σ H s → te σ H Q → wpAny (model X.prog X.w) X.A (eval e X.env) (fun u s' => PLst u s' ∧ EP X pins σ Q u s') X.xe s
theorem pel_call (F : FnT PLst X.prog X.w X.K X.mg X.base CX k f fd ps sp) (hr : Room k X.A) (hg : Gl X x) (hm : X.mg x = some (.ref f)) (hk : PySem.W.keepIn X.K (.ref f) = true) (hb : Binds X.K fd ps ds) (hd : Vals dvs ds) (hx : Passes CX X E)
    (he : PE X e te) (hdb : (x == ("__debug__" : Str)) = false := by decide) (hs : starEach [e, .Constant (.int c) j cp] X.env = (false, eval e X.env) :: starEach [.Constant (.int c) j cp] X.env := by rfl) (hs2 : starEach [.Constant (.int c) j cp] X.env = [(false, eval (.Constant (.int c) j cp) X.env)] := by rfl) (hpl : (backTo pos (starEach [.Constant (.int c) j cp] X.env)).any (·.1) = false := by rfl) :
    PEl X (.Call (.Name x p) [e, .Constant (.int c) j cp] [] pos) (tCall sp dvs E (tCons te (tCons (tC (.int c)) tNil))) := fun _ _ _ _ _ I h => pe_callTc F hr hg hm hk hb hd hx he I h hdb hs hs2 hpl
end
end HTk

/-! DTk: texts whose tokens are known, over data. -/
namespace DD
open PySem L2 HTk
open PySem.Spec PyProof.Rows
section
variable {K : PySem.W.Frag} {B F Hb H : Hp} {m : Mem} {ρ : DD.Env}
/-- a list whose object is known; what it holds is data -/
def WLT (K : PySem.W.Frag) (F B : Hp) (tl : L2.St → Hp → (Addr → Obj → List V → Hp → Prop) → Prop) (ρ : DD.Env) (m : Mem) (Q : List D → Mem → Prop) : Prop := ∀ (Hb H : Hp) (σ : L2.St) (R : Addr → Obj → List V → Hp → Prop), Same B Hb → Rel K F Hb H m → RpS K Hb ρ σ →
  (∀ A o us H1 Hb1 ds m1, Same Hb Hb1 → Rel K F Hb1 H1 m1 → Hb1 A = some (.frz o (.lst us)) → RpL K Hb1 ds us → Q ds m1 → R A o us H1) → tl σ H R
theorem wlt_lc {wi : TI} {g : TG} {tt : TT} {te : TE} {vs : List Nat} {Q : List D → Mem → Prop} (h : WI K F B wi ρ m fun xs m1 => ∃ I : Nat → List D → Mem → Prop, I 0 [] m1 ∧ (∀ i acc m', i < xs.length → I i acc m' → acc.length < sizeLine) ∧
      (∀ F' i d acc m', xs[i]? = some d → I i acc m' → WGw K F' B g vs d ρ m' fun ρ2 m2 => WT K F' B tt ρ2 m2 fun b m3 =>
        (b = true → WE K F' B te ρ2 m3 fun y m4 => I (i + 1) (acc ++ [y]) m4) ∧ (b = false → I (i + 1) acc m3)) ∧ (∀ acc m', I xs.length acc m' → Q acc m')) :
    WLT K F B (tLcT wi g tt te vs) ρ m Q := fun Hb H σ R hB r hs k =>
  h Hb H σ _ hB r hs fun J H1 Hb1 xs m1 e1 r1 hj q1 => by
    obtain ⟨I, h0, hz, ht, hd⟩ := q1
    intro A o0 hA
    have hF : F A = none := r1.nofr hA
    refine ⟨fun i n H' => n = xs.length - i ∧ i ≤ xs.length ∧ ∃ Hb' acc o us m', Same Hb1 Hb' ∧ Rel K (upd F A (.frz o (.lst us))) Hb' H' m' ∧ RpL K Hb' acc us ∧ I i acc m', ⟨xs.length, by simp, Nat.zero_le _, Hb1, [], o0, [], m1, Same.refl _, r1.aside hA, RpL.nil, h0⟩, ?_⟩
    rintro i n H' ⟨rfl, hi, Hb', acc, o, us, m', e', r', ha, hI⟩
    have hA' : H' A = some (.frz o (.lst us)) := (r'.fr A _ upd_same).1
    by_cases hlt : i < xs.length
    · obtain ⟨hgo, hy⟩ := (hj i _ Hb' H' m' e' r').2 xs[i] (by simp [hlt])
      refine .inr ⟨hgo, o, us, hA', by rw [ha.length]; exact hz i acc m' hlt hI, fun o2 us2 H2 => ∃ Hb2 acc2 m2, Same Hb1 Hb2 ∧ Rel K (upd F A (.frz o2 (.lst us2))) Hb2 H2 m2 ∧ RpL K Hb2 acc2 us2 ∧ I (i + 1) acc2 m2, fun o2 us2 H2 h2 ⟨Hb2, acc2, m2, q1, q2, q3, q4⟩ => ⟨xs.length - (i + 1), by omega, rfl, hlt, Hb2, acc2, o2, us2, m2, q1, q2, q3, q4⟩, fun x H2 y => ?_⟩
      obtain ⟨Hb2, e2, r2, hx⟩ := hy x H2 y
      have eB : Same B Hb2 := (hB.trans e1).trans (e'.trans e2)
      refine ht (upd F A (.frz o (.lst us))) i xs[i] acc m' (by simp [hlt]) hI Hb2 H2 σ x _ eB r2 (hs.mono ((e1.trans e').trans e2)) hx fun σ3 H3 Hb3 ρ3 m3 e3 r3 hs3 q3 => ?_
      refine q3 Hb3 H3 σ3 _ (eB.trans e3) r3 hs3 fun b H4 Hb4 m4 e4 r4 q4 => ?_
      have e14 : Same Hb1 Hb4 := ((e'.trans e2).trans e3).trans e4
      cases b with
      | true =>
        refine iteT (q4.1 rfl Hb4 H4 σ3 _ ((eB.trans e3).trans e4) r4 (hs3.mono e4) fun v H5 Hb5 y5 m5 e5 r5 hy5 q5 => ?_)
        have hD := (r5.fr A _ upd_same).1
        have ha5 : RpL K Hb5 acc us := ha.mono (((e2.trans e3).trans e4).trans e5)
        exact ⟨hD, fun o' => ⟨Hb5, acc ++ [y5], m5, e14.trans e5, r5.turnA, ha5.app (RpL.cons hy5 RpL.nil), q5⟩⟩
      | false => exact iteF ⟨(r4.fr A _ upd_same).1, Hb4, acc, m4, e14, r4, ha.mono ((e2.trans e3).trans e4), q4.2 rfl⟩
    · have e : i = xs.length := by omega
      subst e
      have e4 : Same Hb' (upd Hb' A (.frz o (.lst us))) := Same.new (r'.fr A _ upd_same).2.1
      exact .inl ⟨(hj _ _ Hb' H' m' e' r').1 (Nat.le_refl _), o, us, hA', k A o us H' _ acc m' ((e1.trans e').trans e4) (r'.settle hF) upd_same (ha.mono e4) (hd _ _ hI)⟩
theorem rpL_strs : ∀ {ys : List Str} {us : List V}, RpL K Hb (ys.map fun y => D.s (.str y)) us → us = ys.map V.str
  | [], us, h => by
    unfold RpL at h
    exact h
  | y :: ys, us, h => by
    rw [List.map_cons] at h
    unfold RpL at h
    obtain ⟨v, us', rfl, hv, ht⟩ := h
    unfold Rp at hv
    rw [hv, rpL_strs ht]
    rfl
theorem we_joinL {z : Str} {tl : L2.St → Hp → (Addr → Obj → List V → Hp → Prop) → Prop} {Q : QD} (h : WLT K F B tl ρ m fun ds m1 => ∃ ys : List Str, ds = ys.map (fun y => D.s (.str y)) ∧ (ys.map (·.length)).sum + ys.length * z.length ≤ 16777216 ∧ Q (.s (.str (Txt.join z ys))) m1) :
    WE K F B (tJoinL z tl) ρ m Q := fun Hb H σ R hB r hs k =>
  h Hb H σ _ hB r hs fun A o us H1 Hb1 ds m1 e1 r1 hA hds ⟨ys, e, hb, q⟩ => by
    subst e
    exact ⟨ys, rpL_strs hds, hb, k _ _ _ _ _ e1 r1 rp_s q⟩
theorem wlt_spare {te : TE} {tl : L2.St → Hp → (Addr → Obj → List V → Hp → Prop) → Prop} {Q : List D → Mem → Prop} (h : WE K F B te ρ m fun x m1 => ∀ F', WLT K F' B tl ρ m1 fun ds m2 => ds.length < sizeLine ∧ Q (x :: ds) m2) : WLT K F B (tSpare te tl) ρ m Q := fun Hb H σ R hB r hs k =>
  h Hb H σ _ hB r hs fun v H1 Hb1 x m1 e1 r1 hx q1 => by
    intro L oL hL
    have hF : F L = none := r1.nofr hL
    refine q1 (upd F L (.frz oL (.lst [v]))) Hb1 (upd H1 L (.frz oL (.lst [v]))) σ _ (hB.trans e1) (r1.aside hL) (hs.mono e1) fun A o us H2 Hb2 ds m2 e2 r2 hA hds ⟨hz, q2⟩ => ?_
    refine ⟨(r2.fr L _ upd_same).1, by rw [hds.length]; exact hz, fun S oS hS => ?_⟩
    have r3 := r2.settle hF
    have e3 : Same Hb2 (upd Hb2 L (.frz oL (.lst [v]))) := Same.new (r2.fr L _ upd_same).2.1
    have r4 := r3.data (o := .frz oS (.lst (v :: us))) hS
    have e4 : Same (upd Hb2 L (.frz oL (.lst [v]))) (upd (upd Hb2 L (.frz oL (.lst [v]))) S (.frz oS (.lst (v :: us)))) := Same.new (r3.fresh hS)
    exact k S oS (v :: us) _ _ (x :: ds) m2 (((e1.trans e2).trans e3).trans e4) r4 upd_same (RpL.cons (((hx.mono e2).mono e3).mono e4) ((hds.mono e3).mono e4)) q2
theorem rps_unset {i : Nat} {v : Option V} {σ : L2.St} (h : RpS K Hb ρ σ) : RpS K Hb (ρ.set i none) (σ.set i v) := by
  refine ⟨by rw [List.length_set, List.length_set]; exact h.1, fun j d q => ?_⟩
  by_cases hij : i = j
  · subst hij
    by_cases hl : i < ρ.length
    · rw [List.getElem?_set_self hl] at q
      cases q
    · rw [List.getElem?_eq_none_iff.mpr (by rw [List.length_set]; omega)] at q
      cases q
  · rw [List.getElem?_set_ne hij] at q ⊢
    exact h.2 j d q
/-- the names within a turn: found's list stands in the frame -/
def WNm (K : PySem.W.Frag) (F B : Hp) (tb : Addr → L2.St → Hp → (L2.St → Hp → Prop) → Prop) (ρ : DD.Env) (m : Mem) (ys : List Str) (j : Nat) (Q : List Str → DD.Env → Mem → Prop) : Prop := ∀ (a : Addr) (o : Obj) (Hb H : Hp) (σ : L2.St) (R : L2.St → Hp → Prop), Same B Hb → F a = none → Rel K (upd F a (.frz o (.lst (ys.map V.str)))) Hb H m → RpS K Hb ρ σ → σ[j]? = some (some (.ref a)) →
  (∀ σ1 H1 Hb1 o1 ys1 ρ1 m1, Same Hb Hb1 → Rel K (upd F a (.frz o1 (.lst (ys1.map V.str)))) Hb1 H1 m1 → RpS K Hb1 ρ1 σ1 → σ1[j]? = some (some (.ref a)) → Q ys1 ρ1 m1 → R σ1 H1) → tb a σ H R
theorem wnm_turn {tl : L2.St → Hp → (Addr → Obj → List V → Hp → Prop) → Prop} {ys : List Str} {i j : Nat} {Q : List Str → DD.Env → Mem → Prop} (hij : i ≠ j) (hz : ys.length < sizeLine)
    (h : ∀ F', WLT K F' B tl ρ m fun ds m1 => ∃ (zs : List Str) (w : Str), ds = zs.map (fun y => D.s (.str y)) ∧ (zs.filter fun z => !inV (.str z) (ys.map V.str)).head? = some w ∧ Q (ys ++ [w]) (ρ.set i none) m1) : WNm K F B (tTurn tl i j) ρ m ys j Q := fun a o Hb H σ R hB hF r hs hσ k => by
  refine ⟨o, ys, (r.fr a _ upd_same).1, by rw [List.getElem?_set_ne hij]; exact hσ, hz, ?_⟩
  refine h _ Hb H σ _ hB r hs fun A oA us H1 Hb1 ds m1 e1 r1 hA hds ⟨zs, w, e, hw, q⟩ => ?_
  subst e
  refine ⟨(r1.fr a _ upd_same).1, zs, w, rpL_strs hds, hw, fun o' => ?_⟩
  exact k (σ.set i (some (.ref A))) _ Hb1 o' (ys ++ [w]) (ρ.set i none) m1 e1 r1.turnA (rps_unset (hs.mono e1)) (by rw [List.getElem?_set_ne hij]; exact hσ) q
/-- the list of names, told -/
def nmE (zs : List Str) : D := .gen fun Hc v => ∃ a o, v = .ref a ∧ Hc a = some (.frz o (.lst (zs.map V.str)))
theorem ws_names {wi : TI} {i j : Nat} {tb : Addr → L2.St → Hp → (L2.St → Hp → Prop) → Prop} {E : DE} (hjl : j < ρ.length) (hij : i ≠ j)
    (h : ∀ F', WI K F' B wi (ρ.set j none) m fun xs m1 => ∃ I : Nat → List Str → DD.Env → Mem → Prop, I 0 [] (ρ.set j none) m1 ∧
      (∀ n d ys ρ' m', xs[n]? = some d → I n ys ρ' m' → WNm K F B tb (ρ'.set i (some d)) m' ys j fun ys1 ρ1 m2 => I (n + 1) ys1 ρ1 m2) ∧ (∀ ys ρ' m', I xs.length ys ρ' m' → E.rt (nmE ys) m')) :
    WS K F B (tNamesT wi (gName i) tb j) ρ m E := fun Hb H σ R hB r hs k => by
  intro a o hA
  have hF : F a = none := r.nofr hA
  have hlen : j < σ.length := by rw [← hs.1]; exact hjl
  refine h (upd F a (.frz o (.lst []))) Hb (upd H a (.frz o (.lst []))) (σ.set j (some (.ref a))) _ hB (r.aside hA) (rps_unset hs) fun J H1 Hb1 xs m1 e1 r1 hj q1 => ?_
  obtain ⟨I, h0, ht, hd⟩ := q1
  refine ⟨(r1.fr a _ upd_same).1.trans upd_same.symm, fun n mm σ' H' => mm = xs.length - n ∧ n ≤ xs.length ∧ ∃ Hb' ρ' m' o' ys, Same Hb1 Hb' ∧ Rel K (upd F a (.frz o' (.lst (ys.map V.str)))) Hb' H' m' ∧ RpS K Hb' ρ' σ' ∧ σ'[j]? = some (some (.ref a)) ∧ I n ys ρ' m', ⟨xs.length, by simp, Nat.zero_le _, Hb1, _, m1, o, [], Same.refl _, r1, (rps_unset hs).mono e1, List.getElem?_set_self hlen, h0⟩, ?_⟩
  rintro n mm σ' H' ⟨rfl, hn, Hb', ρ', m', o', ys, e', r', hs', hσ, hI⟩
  by_cases hlt : n < xs.length
  · obtain ⟨hgo, hy⟩ := (hj n _ Hb' H' m' e' r').2 xs[n] (by simp [hlt])
    refine .inr ⟨hgo, fun σ2 H2 => ∃ Hb2 ρ2 m2 o2 ys2, Same Hb1 Hb2 ∧ Rel K (upd F a (.frz o2 (.lst (ys2.map V.str)))) Hb2 H2 m2 ∧ RpS K Hb2 ρ2 σ2 ∧ σ2[j]? = some (some (.ref a)) ∧ I (n + 1) ys2 ρ2 m2, fun σ2 H2 q2 => ⟨xs.length - (n + 1), by omega, rfl, hlt, q2⟩, fun x H2 y => ?_⟩
    obtain ⟨Hb2, e2, r2, hx⟩ := hy x H2 y
    refine ⟨(r2.fr a _ upd_same).1.trans (r'.fr a _ upd_same).1.symm, rfl, ?_⟩
    refine ht n xs[n] ys ρ' m' (by simp [hlt]) hI a o' Hb2 H2 (σ'.set i (some x)) _ (hB.trans (e1.trans (e'.trans e2))) hF r2 ((hs'.mono e2).set hx) (by rw [List.getElem?_set_ne hij]; exact hσ) fun σ3 H3 Hb3 o3 ys3 ρ3 m3 e3 r3 hs3 hσ3 q3 => ?_
    exact ⟨Hb3, ρ3, m3, o3, ys3, (e'.trans e2).trans e3, r3, hs3, hσ3, q3⟩
  · have e : n = xs.length := by omega
    subst e
    have e4 : Same Hb' (upd Hb' a (.frz o' (.lst (ys.map V.str)))) := Same.new (r'.fr a _ upd_same).2.1
    refine .inl ⟨(hj _ _ Hb' H' m' e' r').1 (Nat.le_refl _), hσ, k.rt _ H' _ (nmE ys) m' ((e1.trans e').trans e4) (r'.settle hF) ?_ (hd _ _ _ hI)⟩
    unfold nmE Rp
    exact ⟨_, Same.refl _, a, o', rfl, upd_same⟩
end
section
variable {P : Program} {w : World} {K : PySem.W.Frag} {mg : Str → Option Value} {base : Heap}
def BodyOkT (K : PySem.W.Frag) (φ : Phi) (N : List Str) (E : XK) (t : TS) : Prop := ∀ ds m nx X F B, φ ds m nx X → OkX K F B X E → WS K F B t (startD N ds) m { nx := fun _ _ => False, rt := nx }
theorem okT {Pst : Value → Shared → Prop} {CX : CXT} {x qual : Str} {st : Stmt} {f : Addr} {fd : FuncData} {N ps : List Str} {k : Nat} {φ : Phi} (F : Fun K x qual st f fd) (S : FnScope N ps (defScope st)) (hl : ∀ ds m nx X, φ ds m nx X → ds.length = ps.length)
    (hbody : ∀ (cdv : Value) (A : Around) (outer : List PySem.Env) (s : Shared) (H : Hp) (E : XK), Room k (A.deeper (envOfC qual (defScope st) s.heap.objs.size f cdv)) →
      ∃ t, PSsR Pst (cxOf CX P w K mg base N qual (defScope st) f cdv A outer s H E) (defBody st) t ∧ BodyOkT K φ N E t) : FnT Pst P w K mg base CX (k + 1) f fd ps (spOf K φ) := by
  obtain ⟨oc, od, kV, doc, pm, an, cdv, ct, osl, rfl, lk, hcd⟩ := F.ex
  refine fnT_of lk hcd S (spOf_len hl) fun A outer s H vs Q E hr h => ?_
  obtain ⟨ds, m, F', Hb, nx, X, h1, h2, h3, h4, h5⟩ := h
  obtain ⟨t, ht, hw⟩ := hbody cdv A outer s H E hr
  exact ⟨t, ht, hw ds m nx X F' Hb h3 h5 Hb H _ _ (Same.refl _) h2 (RpS.start h1) ⟨fun _ _ _ _ _ _ _ _ z => z.elim, h4, fun _ _ _ _ _ _ _ _ z => z.elim, fun _ _ _ _ _ _ _ _ z => z.elim⟩⟩
end
end DD
namespace DD
open PySem L2 HTk
open PySem.Spec PyProof.Rows
section
variable {K : PySem.W.Frag} {B F Hb H : Hp} {m : Mem} {ρ : DD.Env}
/-- the list of names, told: its object's tokens, too -/
def nmT (n : Nat) (zs : List Str) : D := .gen fun Hc v => ∃ a o, v = .ref a ∧ Hc a = some (.frz o (.lst (zs.map V.str))) ∧ LO (TkV n) o (zs.map V.str)
theorem rp_nmE {zs : List Str} {v : V} (h : Rp K H (nmE zs) v) : ∃ a o, v = .ref a ∧ H a = some (.frz o (.lst (zs.map V.str))) := by
  unfold nmE Rp at h
  obtain ⟨Hc, e, a, o, h1, h2⟩ := h
  exact ⟨a, o, h1, e _ _ h2⟩
theorem rp_nmT {n : Nat} {zs : List Str} {v : V} (h : Rp K H (nmT n zs) v) : ∃ a o, v = .ref a ∧ H a = some (.frz o (.lst (zs.map V.str))) ∧ LO (TkV n) o (zs.map V.str) := by
  unfold nmT Rp at h
  obtain ⟨Hc, e, a, o, h1, h2, h3⟩ := h
  exact ⟨a, o, h1, e _ _ h2, h3⟩
theorem nmT_E {n : Nat} {zs : List Str} {v : V} (h : Rp K H (nmT n zs) v) : Rp K H (nmE zs) v := by
  obtain ⟨a, o, h1, h2, _⟩ := rp_nmT h
  unfold nmE Rp
  exact ⟨H, Same.refl _, a, o, h1, h2⟩
/-- the names seen without their tokens -/
theorem we_nm {i n : Nat} {zs : List Str} {Q : QD} (h : ρ[i]? = some (some (nmT n zs))) (q : Q (nmE zs) m) : WE K F B (tVar i) ρ m Q := fun Hb H σ R hB r hs k => by
  obtain ⟨v, h1, h2⟩ := hs.2 i _ h
  exact ⟨v, h1, k.here r (nmT_E h2) q⟩
theorem wo_repF {zs : List Str} {n : Int} {Q : QD} (h1 : -(2 ^ 63) ≤ n) (h2 : n < 2 ^ 63) (hz : zs.length * n.toNat ≤ sizeLine) (q : Q (.lst ((List.replicate n.toNat zs).flatten.map fun z => .s (.str z))) m) : WO K F B rRepF (nmE zs) (.s (.int n)) m Q := fun Hb H vx vy R hB r hx hy k => by
  unfold Rp at hy
  obtain ⟨p, o, rfl, h3⟩ := rp_nmE hx
  refine ⟨p, n, zs.map V.str, o, rfl, hy, r.sub _ _ h3, h1, h2, by rw [List.length_map]; exact hz, fun a ha => ?_⟩
  have e := Same.new (o := .lst (List.replicate n.toNat (zs.map V.str)).flatten) (r.fresh ha)
  refine k _ _ _ (.lst ((List.replicate n.toNat zs).flatten.map fun z => .s (.str z))) _ e (r.data ha) ?_ q
  unfold Rp
  refine ⟨a, _, rfl, upd_same, ?_⟩
  have ev : (List.replicate n.toNat (zs.map V.str)).flatten = (List.replicate n.toNat zs).flatten.map V.str := by
    rw [List.map_flatten, List.map_replicate]
  rw [ev, show ((List.replicate n.toNat zs).flatten.map fun z => D.s (.str z)) = ((List.replicate n.toNat zs).flatten.map V.str).map D.s from by rw [List.map_map]; rfl]
  exact RpL.ofScal _
theorem wo_ixF {zs : List Str} {i : Int} {z : Str} {Q : QD} (h : atI zs i = some z) (q : Q (.s (.str z)) m) : WO K F B (rIx K) (nmE zs) (.s (.int i)) m Q := fun Hb H vx vy R hB r hx hy k => by
  unfold Rp at hy
  obtain ⟨p, o, rfl, h3⟩ := rp_nmE hx
  refine .inl ⟨p, zs.map V.str, i, .str z, rfl, hy, .inl (.inr ⟨o, r.sub _ _ h3⟩), ?_, k.here r rp_s q⟩
  unfold atI at h ⊢
  rw [List.length_map]
  cases hj : ixN zs.length i with
  | none =>
    rw [hj] at h
    cases h
  | some j =>
    rw [hj] at h
    show (zs.map V.str)[j]? = _
    rw [List.getElem?_map, show zs[j]? = some z from h]
    rfl
/-- names = f(..), n tokens being out -/
theorem ws_nm {tc : TE} {i : Nat} {u : Nat → TS} {E : DE} (h : WE K F B tc ρ m fun x m1 => ∃ zs, x = nmE zs ∧ ∀ n, WS K F B (u n) (ρ.set i (some (nmT n zs))) m1 E) : WS K F B (tNm tc i u) ρ m E := fun Hb H σ R hB r hs k =>
  h Hb H σ _ hB r hs fun v H1 Hb1 x m1 e1 r1 hx ⟨zs, ex, q⟩ => by
    subst ex
    obtain ⟨a, o, rfl, h3⟩ := rp_nmE hx
    refine ⟨a, o, zs, rfl, r1.sub _ _ h3, fun n lo => ?_⟩
    refine q n Hb1 H1 _ _ (hB.trans e1) r1 ((hs.mono e1).set ?_) (k.mono e1)
    unfold nmT Rp
    exact ⟨Hb1, Same.refl _, a, o, rfl, h3, lo⟩
/-- x.replace(old, names[k]) -/
theorem we_replN {n i k : Nat} {to : TE} {old : Str} {zs : List Str} {w : Str} {Q : QD} (hi : ρ[i]? = some (some (nmT n zs))) (hw : zs[k]? = some w) (hne : (old == w) = false)
    (h : WE K F B to ρ m fun x m1 => ∃ z, x = .s (.str z) ∧ z.length + (z.length + 1) * w.length ≤ 16777216 ∧ Q (.s (.str (Txt.replace z old w))) m1) : WE K F B (tReplN n to old i k) ρ m Q := fun Hb H σ R hB r hs kk =>
  h Hb H σ _ hB r hs fun v H1 Hb1 x m1 e1 r1 hx ⟨z, ex, hz, q⟩ => by
    subst ex
    unfold Rp at hx
    obtain ⟨u, h1, h2⟩ := hs.2 i _ hi
    obtain ⟨a, o, rfl, h3, lo⟩ := rp_nmT h2
    exact ⟨z, a, o, zs, w, hx, h1, r1.sub _ _ (e1 _ _ h3), lo, hw, hne, hz, kk _ _ _ _ _ e1 r1 rp_s q⟩
theorem ws_asgL {tl : L2.St → Hp → (Addr → Obj → List V → Hp → Prop) → Prop} {g : TG} {E : DE} (h : WLT K F B tl ρ m fun ds m1 => ∀ a o us, WG K F B g (.gen fun Hc v => v = .ref a ∧ Hc a = some (.frz o (.lst us)) ∧ RpL K Hc ds us) ρ m1 E.nx) : WS K F B (tAsgL tl g) ρ m E := fun Hb H σ R hB r hs k =>
  h Hb H σ _ hB r hs fun a o us H1 Hb1 ds m1 e1 r1 hA hds q => by
    refine q a o us Hb1 H1 σ (.ref a) R.nx (hB.trans e1) r1 (hs.mono e1) ?_ (k.nx.mono e1)
    unfold Rp
    exact ⟨Hb1, Same.refl _, rfl, hA, hds⟩
theorem wg_lstF {n : Nat} {gs : TGs} {xs : List D} {a : Addr} {o : Obj} {us : List V} {Q : DD.Env → Mem → Prop} (hn : xs.length = n) (h : WGs K F B gs xs ρ m Q) : WG K F B (gLst K n gs) (.gen fun Hc v => v = .ref a ∧ Hc a = some (.frz o (.lst us)) ∧ RpL K Hc xs us) ρ m Q := fun Hb H σ v R hB r hs hx k => by
  unfold Rp at hx
  obtain ⟨Hc, e, rfl, h1, h2⟩ := hx
  have h2 := h2.mono e
  exact ⟨a, us, rfl, .inl (.inr ⟨o, r.sub _ _ (e _ _ h1)⟩), by rw [h2.length, hn], h Hb H σ us R hB r hs h2 k⟩
end
end DD

namespace My
open PySem L2 DD
open PySem.Spec PyProof.Rows
/-! ### the text by places -/
def topS (i : Nat) : Stmt := PySem.Challenge.pw_unwalked_k36_paths_cut.main.body.getD i (.Pass ⟨0, 0, 0, 0⟩)
abbrev s_NotBegun___init__ : Stmt := inClass (topS 3) 0
abbrev N_NotBegun___init__ : List Str := ["self", "other"]
theorem sc_NotBegun___init__ : FnScope N_NotBegun___init__ ["self", "other"] (defScope s_NotBegun___init__) := ⟨rfl, rfl, rfl, by decide +kernel, rfl, by decide +kernel, by decide +kernel⟩
abbrev s_NoRelative___init__ : Stmt := inClass (topS 4) 0
abbrev N_NoRelative___init__ : List Str := ["self", "path"]
theorem sc_NoRelative___init__ : FnScope N_NoRelative___init__ ["self", "path"] (defScope s_NoRelative___init__) := ⟨rfl, rfl, rfl, by decide +kernel, rfl, by decide +kernel, by decide +kernel⟩
abbrev s_is_name : Stmt := topS 8
abbrev N_is_name : List Str := ["thing", "sign"]
theorem sc_is_name : FnScope N_is_name ["thing"] (defScope s_is_name) := ⟨rfl, rfl, rfl, by decide +kernel, rfl, by decide +kernel, by decide +kernel⟩
abbrev s_is_path_text : Stmt := topS 9
abbrev N_is_path_text : List Str := ["thing", "piece"]
theorem sc_is_path_text : FnScope N_is_path_text ["thing"] (defScope s_is_path_text) := ⟨rfl, rfl, rfl, by decide +kernel, rfl, by decide +kernel, by decide +kernel⟩
abbrev s_Path___init__ : Stmt := inClass (topS 10) 0
abbrev N_Path___init__ : List Str := ["self", "text"]
theorem sc_Path___init__ : FnScope N_Path___init__ ["self", "text"] (defScope s_Path___init__) := ⟨rfl, rfl, rfl, by decide +kernel, rfl, by decide +kernel, by decide +kernel⟩
abbrev s_Path___eq__ : Stmt := inClass (topS 10) 1
abbrev N_Path___eq__ : List Str := ["self", "other"]
theorem sc_Path___eq__ : FnScope N_Path___eq__ ["self", "other"] (defScope s_Path___eq__) := ⟨rfl, rfl, rfl, by decide +kernel, rfl, by decide +kernel, by decide +kernel⟩
abbrev s_Path___len__ : Stmt := inClass (topS 10) 2
abbrev N_Path___len__ : List Str := ["self"]
theorem sc_Path___len__ : FnScope N_Path___len__ ["self"] (defScope s_Path___len__) := ⟨rfl, rfl, rfl, by decide +kernel, rfl, by decide +kernel, by decide +kernel⟩
abbrev s_Path_steps : Stmt := inClass (topS 10) 4
abbrev N_Path_steps : List Str := ["self", "piece"]
theorem sc_Path_steps : FnScope N_Path_steps ["self"] (defScope s_Path_steps) := ⟨rfl, rfl, rfl, by decide +kernel, rfl, by decide +kernel, by decide +kernel⟩
abbrev s_Path_begins : Stmt := inClass (topS 10) 7
abbrev N_Path_begins : List Str := ["self", "other"]
theorem sc_Path_begins : FnScope N_Path_begins ["self", "other"] (defScope s_Path_begins) := ⟨rfl, rfl, rfl, by decide +kernel, rfl, by decide +kernel, by decide +kernel⟩
abbrev s_Path_cut : Stmt := inClass (topS 10) 8
abbrev N_Path_cut : List Str := ["self", "other", "steps"]
theorem sc_Path_cut : FnScope N_Path_cut ["self", "other"] (defScope s_Path_cut) := ⟨rfl, rfl, rfl, by decide +kernel, rfl, by decide +kernel, by decide +kernel⟩
abbrev s_Path_relative : Stmt := inClass (topS 10) 9
abbrev N_Path_relative : List Str := ["self", "other", "path", "step", "mine", "theirs", "same", "steps"]
theorem sc_Path_relative : FnScope N_Path_relative ["self", "other"] (defScope s_Path_relative) := ⟨rfl, rfl, rfl, by decide +kernel, rfl, by decide +kernel, by decide +kernel⟩
abbrev s__law_p_steps : Stmt := topS 12
abbrev N__law_p_steps : List Str := ["_law_written", "_law_piece"]
theorem sc__law_p_steps : FnScope N__law_p_steps ["_law_written"] (defScope s__law_p_steps) := ⟨rfl, rfl, rfl, by decide +kernel, rfl, by decide +kernel, by decide +kernel⟩
abbrev s__law_p_written : Stmt := topS 13
abbrev N__law_p_written : List Str := ["_law_stream", "_law_names_here", "_law_most", "_law_many", "_law_steps", "_law_k", "_law_bars", "_law_found", "_law_step"]
theorem sc__law_p_written : FnScope N__law_p_written ["_law_stream", "_law_names_here", "_law_most"] (defScope s__law_p_written) := ⟨rfl, rfl, rfl, by decide +kernel, rfl, by decide +kernel, by decide +kernel⟩
abbrev s__law_p_plain : Stmt := topS 14
abbrev N__law_p_plain : List Str := ["_law_steps", "_law_rooted", "_law_ended", "_law_found"]
theorem sc__law_p_plain : FnScope N__law_p_plain ["_law_steps", "_law_rooted", "_law_ended"] (defScope s__law_p_plain) := ⟨rfl, rfl, rfl, by decide +kernel, rfl, by decide +kernel, by decide +kernel⟩
abbrev s__law_start : Stmt := topS 15
abbrev N__law_start : List Str := ["_law_script"]
theorem sc__law_start : FnScope N__law_start ["_law_script"] (defScope s__law_start) := ⟨rfl, rfl, rfl, by decide +kernel, rfl, by decide +kernel, by decide +kernel⟩
abbrev s__law_draw : Stmt := topS 16
abbrev N__law_draw : List Str := ["_law_stream", "_law_many", "_law_cell", "_law_digit", "_law_mixed"]
theorem sc__law_draw : FnScope N__law_draw ["_law_stream", "_law_many"] (defScope s__law_draw) := ⟨rfl, rfl, rfl, by decide +kernel, rfl, by decide +kernel, by decide +kernel⟩
abbrev s__law_pick : Stmt := topS 17
abbrev N__law_pick : List Str := ["_law_stream", "_law_some"]
theorem sc__law_pick : FnScope N__law_pick ["_law_stream", "_law_some"] (defScope s__law_pick) := ⟨rfl, rfl, rfl, by decide +kernel, rfl, by decide +kernel, by decide +kernel⟩
abbrev s__law_same : Stmt := topS 18
abbrev N__law_same : List Str := ["_law_found", "_law_due", "_law_x", "_law_y"]
theorem sc__law_same : FnScope N__law_same ["_law_found", "_law_due"] (defScope s__law_same) := ⟨rfl, rfl, rfl, by decide +kernel, rfl, by decide +kernel, by decide +kernel⟩
abbrev s__law_name : Stmt := topS 19
abbrev N__law_name : List Str := ["_law_stream", "_law_size", "_law_k"]
theorem sc__law_name : FnScope N__law_name ["_law_stream"] (defScope s__law_name) := ⟨rfl, rfl, rfl, by decide +kernel, rfl, by decide +kernel, by decide +kernel⟩
abbrev s__law_names : Stmt := topS 20
abbrev N__law_names : List Str := ["_law_stream", "_law_many", "_law_found", "_law_k", "_law_spare", "_law_letter", "_law_x"]
theorem sc__law_names : FnScope N__law_names ["_law_stream", "_law_many"] (defScope s__law_names) := ⟨rfl, rfl, rfl, by decide +kernel, rfl, by decide +kernel, by decide +kernel⟩
abbrev s__law_tried : Stmt := topS 21
abbrev N__law_tried : List Str := ["_law_ask", "_law_found", "e"]
theorem sc__law_tried : FnScope N__law_tried ["_law_ask"] (defScope s__law_tried) := ⟨rfl, rfl, rfl, by decide +kernel, rfl, by decide +kernel, by decide +kernel⟩
abbrev s__law_due_cut : Stmt := topS 22
abbrev N__law_due_cut : List Str := ["_law_mine", "_law_theirs", "_law_ones", "_law_others", "_law_rest"]
theorem sc__law_due_cut : FnScope N__law_due_cut ["_law_mine", "_law_theirs"] (defScope s__law_due_cut) := ⟨rfl, rfl, rfl, by decide +kernel, rfl, by decide +kernel, by decide +kernel⟩
abbrev s__law_due_relative : Stmt := topS 23
abbrev N__law_due_relative : List Str := ["_law_mine", "_law_theirs", "_law_written", "_law_step", "_law_ones", "_law_others"]
theorem sc__law_due_relative : FnScope N__law_due_relative ["_law_mine", "_law_theirs"] (defScope s__law_due_relative) := ⟨rfl, rfl, rfl, by decide +kernel, rfl, by decide +kernel, by decide +kernel⟩
abbrev s_law : Stmt := topS 24
abbrev N_law : List Str := ["_law_script", "_law_stream", "_law_turn", "_law_names_here", "_law_mine", "_law_theirs", "_law_steps", "_law_ahead", "_law_found", "_law_one", "_law_two", "_law_due"]
theorem sc_law : FnScope N_law ["_law_script"] (defScope s_law) := ⟨rfl, rfl, rfl, by decide +kernel, rfl, by decide +kernel, by decide +kernel⟩
theorem st_NotBegun___init__ (d0 d1 : D) : startD N_NotBegun___init__ [d0, d1] = [some d0, some d1] := rfl
theorem st_NoRelative___init__ (d0 d1 : D) : startD N_NoRelative___init__ [d0, d1] = [some d0, some d1] := rfl
theorem st_is_name (d0 : D) : startD N_is_name [d0] = [some d0, none] := rfl
theorem st_is_path_text (d0 : D) : startD N_is_path_text [d0] = [some d0, none] := rfl
theorem st_Path___init__ (d0 d1 : D) : startD N_Path___init__ [d0, d1] = [some d0, some d1] := rfl
theorem st_Path___eq__ (d0 d1 : D) : startD N_Path___eq__ [d0, d1] = [some d0, some d1] := rfl
theorem st_Path___len__ (d0 : D) : startD N_Path___len__ [d0] = [some d0] := rfl
theorem st_Path_steps (d0 : D) : startD N_Path_steps [d0] = [some d0, none] := rfl
theorem st_Path_begins (d0 d1 : D) : startD N_Path_begins [d0, d1] = [some d0, some d1] := rfl
theorem st_Path_cut (d0 d1 : D) : startD N_Path_cut [d0, d1] = [some d0, some d1, none] := rfl
theorem st_Path_relative (d0 d1 : D) : startD N_Path_relative [d0, d1] = [some d0, some d1, none, none, none, none, none, none] := rfl
theorem st__law_p_steps (d0 : D) : startD N__law_p_steps [d0] = [some d0, none] := rfl
theorem st__law_p_written (d0 d1 d2 : D) : startD N__law_p_written [d0, d1, d2] = [some d0, some d1, some d2, none, none, none, none, none, none] := rfl
theorem st__law_p_plain (d0 d1 d2 : D) : startD N__law_p_plain [d0, d1, d2] = [some d0, some d1, some d2, none] := rfl
theorem st__law_start (d0 : D) : startD N__law_start [d0] = [some d0] := rfl
theorem st__law_draw (d0 d1 : D) : startD N__law_draw [d0, d1] = [some d0, some d1, none, none, none] := rfl
theorem st__law_pick (d0 d1 : D) : startD N__law_pick [d0, d1] = [some d0, some d1] := rfl
theorem st__law_same (d0 d1 : D) : startD N__law_same [d0, d1] = [some d0, some d1, none, none] := rfl
theorem st__law_name (d0 : D) : startD N__law_name [d0] = [some d0, none, none] := rfl
theorem st__law_names (d0 d1 : D) : startD N__law_names [d0, d1] = [some d0, some d1, none, none, none, none, none] := rfl
theorem st__law_tried (d0 : D) : startD N__law_tried [d0] = [some d0, none, none] := rfl
theorem st__law_due_cut (d0 d1 : D) : startD N__law_due_cut [d0, d1] = [some d0, some d1, none, none, none] := rfl
theorem st__law_due_relative (d0 d1 : D) : startD N__law_due_relative [d0, d1] = [some d0, some d1, none, none, none, none] := rfl
theorem st_law (d0 : D) : startD N_law [d0] = [some d0, none, none, none, none, none, none, none, none, none, none, none] := rfl
/-! ### what the top has written -/
structure Txt (K : PySem.W.Frag) (mg : Str → Option Value) where
  c_Path : Addr
  c_PathError : Addr
  c_NoRelative : Addr
  c_NotBegun : Addr
  a_NotBegun___init__ : Addr
  d_NotBegun___init__ : FuncData
  F_NotBegun___init__ : Fun K "__init__" "NotBegun.__init__" s_NotBegun___init__ a_NotBegun___init__ d_NotBegun___init__
  b_NotBegun___init__ : Binds K d_NotBegun___init__ ["self", "other"] []
  m_NotBegun___init__ : Meth K c_NotBegun "__init__" a_NotBegun___init__
  a_NoRelative___init__ : Addr
  d_NoRelative___init__ : FuncData
  F_NoRelative___init__ : Fun K "__init__" "NoRelative.__init__" s_NoRelative___init__ a_NoRelative___init__ d_NoRelative___init__
  b_NoRelative___init__ : Binds K d_NoRelative___init__ ["self", "path"] []
  m_NoRelative___init__ : Meth K c_NoRelative "__init__" a_NoRelative___init__
  a_is_name : Addr
  d_is_name : FuncData
  F_is_name : Fun K "is_name" "is_name" s_is_name a_is_name d_is_name
  b_is_name : Binds K d_is_name ["thing"] []
  g_is_name : mg "is_name" = some (.ref a_is_name)
  a_is_path_text : Addr
  d_is_path_text : FuncData
  F_is_path_text : Fun K "is_path_text" "is_path_text" s_is_path_text a_is_path_text d_is_path_text
  b_is_path_text : Binds K d_is_path_text ["thing"] []
  g_is_path_text : mg "is_path_text" = some (.ref a_is_path_text)
  a_Path___init__ : Addr
  d_Path___init__ : FuncData
  F_Path___init__ : Fun K "__init__" "Path.__init__" s_Path___init__ a_Path___init__ d_Path___init__
  b_Path___init__ : Binds K d_Path___init__ ["self", "text"] []
  m_Path___init__ : Meth K c_Path "__init__" a_Path___init__
  a_Path___eq__ : Addr
  d_Path___eq__ : FuncData
  F_Path___eq__ : Fun K "__eq__" "Path.__eq__" s_Path___eq__ a_Path___eq__ d_Path___eq__
  b_Path___eq__ : Binds K d_Path___eq__ ["self", "other"] []
  m_Path___eq__ : Meth K c_Path "__eq__" a_Path___eq__
  a_Path___len__ : Addr
  d_Path___len__ : FuncData
  F_Path___len__ : Fun K "__len__" "Path.__len__" s_Path___len__ a_Path___len__ d_Path___len__
  b_Path___len__ : Binds K d_Path___len__ ["self"] []
  m_Path___len__ : Meth K c_Path "__len__" a_Path___len__
  a_Path_steps : Addr
  d_Path_steps : FuncData
  F_Path_steps : Fun K "steps" "Path.steps" s_Path_steps a_Path_steps d_Path_steps
  b_Path_steps : Binds K d_Path_steps ["self"] []
  m_Path_steps : Meth K c_Path "steps" a_Path_steps
  a_Path_begins : Addr
  d_Path_begins : FuncData
  F_Path_begins : Fun K "begins" "Path.begins" s_Path_begins a_Path_begins d_Path_begins
  b_Path_begins : Binds K d_Path_begins ["self", "other"] []
  m_Path_begins : Meth K c_Path "begins" a_Path_begins
  a_Path_cut : Addr
  d_Path_cut : FuncData
  F_Path_cut : Fun K "cut" "Path.cut" s_Path_cut a_Path_cut d_Path_cut
  b_Path_cut : Binds K d_Path_cut ["self", "other"] []
  m_Path_cut : Meth K c_Path "cut" a_Path_cut
  a_Path_relative : Addr
  d_Path_relative : FuncData
  F_Path_relative : Fun K "relative" "Path.relative" s_Path_relative a_Path_relative d_Path_relative
  b_Path_relative : Binds K d_Path_relative ["self", "other"] []
  m_Path_relative : Meth K c_Path "relative" a_Path_relative
  a__law_p_steps : Addr
  d__law_p_steps : FuncData
  F__law_p_steps : Fun K "_law_p_steps" "_law_p_steps" s__law_p_steps a__law_p_steps d__law_p_steps
  b__law_p_steps : Binds K d__law_p_steps ["_law_written"] []
  g__law_p_steps : mg "_law_p_steps" = some (.ref a__law_p_steps)
  a__law_p_written : Addr
  d__law_p_written : FuncData
  F__law_p_written : Fun K "_law_p_written" "_law_p_written" s__law_p_written a__law_p_written d__law_p_written
  b__law_p_written : Binds K d__law_p_written ["_law_stream", "_law_names_here", "_law_most"] []
  g__law_p_written : mg "_law_p_written" = some (.ref a__law_p_written)
  a__law_p_plain : Addr
  d__law_p_plain : FuncData
  F__law_p_plain : Fun K "_law_p_plain" "_law_p_plain" s__law_p_plain a__law_p_plain d__law_p_plain
  b__law_p_plain : Binds K d__law_p_plain ["_law_steps", "_law_rooted", "_law_ended"] []
  g__law_p_plain : mg "_law_p_plain" = some (.ref a__law_p_plain)
  a__law_start : Addr
  d__law_start : FuncData
  F__law_start : Fun K "_law_start" "_law_start" s__law_start a__law_start d__law_start
  b__law_start : Binds K d__law_start ["_law_script"] []
  g__law_start : mg "_law_start" = some (.ref a__law_start)
  a__law_draw : Addr
  d__law_draw : FuncData
  F__law_draw : Fun K "_law_draw" "_law_draw" s__law_draw a__law_draw d__law_draw
  b__law_draw : Binds K d__law_draw ["_law_stream", "_law_many"] []
  g__law_draw : mg "_law_draw" = some (.ref a__law_draw)
  a__law_pick : Addr
  d__law_pick : FuncData
  F__law_pick : Fun K "_law_pick" "_law_pick" s__law_pick a__law_pick d__law_pick
  b__law_pick : Binds K d__law_pick ["_law_stream", "_law_some"] []
  g__law_pick : mg "_law_pick" = some (.ref a__law_pick)
  a__law_same : Addr
  d__law_same : FuncData
  F__law_same : Fun K "_law_same" "_law_same" s__law_same a__law_same d__law_same
  b__law_same : Binds K d__law_same ["_law_found", "_law_due"] []
  g__law_same : mg "_law_same" = some (.ref a__law_same)
  a__law_name : Addr
  d__law_name : FuncData
  F__law_name : Fun K "_law_name" "_law_name" s__law_name a__law_name d__law_name
  b__law_name : Binds K d__law_name ["_law_stream"] []
  g__law_name : mg "_law_name" = some (.ref a__law_name)
  a__law_names : Addr
  d__law_names : FuncData
  F__law_names : Fun K "_law_names" "_law_names" s__law_names a__law_names d__law_names
  b__law_names : Binds K d__law_names ["_law_stream", "_law_many"] []
  g__law_names : mg "_law_names" = some (.ref a__law_names)
  a__law_tried : Addr
  d__law_tried : FuncData
  F__law_tried : Fun K "_law_tried" "_law_tried" s__law_tried a__law_tried d__law_tried
  b__law_tried : Binds K d__law_tried ["_law_ask"] []
  g__law_tried : mg "_law_tried" = some (.ref a__law_tried)
  a__law_due_cut : Addr
  d__law_due_cut : FuncData
  F__law_due_cut : Fun K "_law_due_cut" "_law_due_cut" s__law_due_cut a__law_due_cut d__law_due_cut
  b__law_due_cut : Binds K d__law_due_cut ["_law_mine", "_law_theirs"] []
  g__law_due_cut : mg "_law_due_cut" = some (.ref a__law_due_cut)
  a__law_due_relative : Addr
  d__law_due_relative : FuncData
  F__law_due_relative : Fun K "_law_due_relative" "_law_due_relative" s__law_due_relative a__law_due_relative d__law_due_relative
  b__law_due_relative : Binds K d__law_due_relative ["_law_mine", "_law_theirs"] []
  g__law_due_relative : mg "_law_due_relative" = some (.ref a__law_due_relative)
  a_law : Addr
  d_law : FuncData
  F_law : Fun K "law" "law" s_law a_law d_law
  b_law : Binds K d_law ["_law_script"] []
  g_law : mg "law" = some (.ref a_law)
  cc_law : Addr
  tb_law : Addr
  cr_law : d_law.code = .ref cc_law
  g_Path : mg "Path" = some (.ref c_Path)
  y_Path : InsTy K c_Path
  mk_Path : Mk K c_Path a_Path___init__
  n_Path_text : NoAttr K c_Path "text"
  n_Path_rooted : NoAttr K c_Path "rooted"
  n_Path_ended : NoAttr K c_Path "ended"
  kt_Path_Path : PySem.W.kitOne K (.ref c_Path) (.ref c_Path) = some true
  g_PathError : mg "PathError" = some (.ref c_PathError)
  er_PathError : PySem.W.readsIn K c_PathError (.type "type") = true
  ea_PathError : PySem.W.specialIn K (.ref c_PathError) "__getattribute__" = some (some (.builtin "type.__getattribute__"))
  ev_PathError : PySem.W.findCls K (.ref c_PathError) (.type "type") "__init__" = some (.val (.builtin "ValueError.__init__"))
  g_NoRelative : mg "NoRelative" = some (.ref c_NoRelative)
  oe_NoRelative : OexC K c_NoRelative
  ex_NoRelative : XfC K c_NoRelative
  ef_NoRelative : PySem.W.findIn K (.ref c_NoRelative) "path" = some none
  ei_NoRelative : PySem.W.findIn K (.ref c_NoRelative) "__init__" = some (some (.ref a_NoRelative___init__))
  et_NoRelative : PySem.W.typeIn K (.ref a_NoRelative___init__) = some (.type "function")
  em_NoRelative : PySem.W.exmOne K (.ref c_NoRelative) (.ref c_NoRelative) = some true
  g_NotBegun : mg "NotBegun" = some (.ref c_NotBegun)
  oe_NotBegun : OexC K c_NotBegun
  ex_NotBegun : XfC K c_NotBegun
  ef_NotBegun : PySem.W.findIn K (.ref c_NotBegun) "other" = some none
  ei_NotBegun : PySem.W.findIn K (.ref c_NotBegun) "__init__" = some (some (.ref a_NotBegun___init__))
  et_NotBegun : PySem.W.typeIn K (.ref a_NotBegun___init__) = some (.type "function")
  em_NotBegun : PySem.W.exmOne K (.ref c_NotBegun) (.ref c_NotBegun) = some true
  xm_NoRelative_NoRelative : PySem.W.exmOne K (.ref c_NoRelative) (.ref c_NoRelative) = some true
  xm_NotBegun_NoRelative : PySem.W.exmOne K (.ref c_NotBegun) (.ref c_NoRelative) = some false
  xm_NoRelative_NotBegun : PySem.W.exmOne K (.ref c_NoRelative) (.ref c_NotBegun) = some false
  xm_NotBegun_NotBegun : PySem.W.exmOne K (.ref c_NotBegun) (.ref c_NotBegun) = some true
  op_Path___len__ : PySem.W.findIn K (.ref c_Path) ("__len__") = some (some (.ref a_Path___len__))
  z_all : mg "all" = none
  z_bool : mg "bool" = none
  z_enumerate : mg "enumerate" = none
  z_int : mg "int" = none
  z_isinstance : mg "isinstance" = none
  z_len : mg "len" = none
  z_list : mg "list" = none
  z_min : mg "min" = none
  z_range : mg "range" = none
  z_str : mg "str" = none
  z_tuple : mg "tuple" = none
  z_zip : mg "zip" = none
  u_LETTERS : Value
  g_LETTERS : mg "LETTERS" = some u_LETTERS
  r_LETTERS : RelV (.str "abcdefghijklmnopqrstuvwxyz") u_LETTERS
  u_LONGEST : Value
  g_LONGEST : mg "LONGEST" = some u_LONGEST
  r_LONGEST : RelV (.int 8) u_LONGEST
/-! ### data of this program -/
abbrev strD (z : Str) : D := .s (.str z)
abbrev intD (i : Int) : D := .s (.int i)
abbrev blD (b : Bool) : D := .s (.bl b)
abbrev nonD : D := .s .non
def strsD (zs : List Str) : D := .lst (zs.map strD)
def sz : Nat := 1000000
def pN : List Str := ["text", "rooted", "ended"]
def pV (z : Str) : List D := [strD z, blD (DT.rooted z), blD (DT.ended z)]
/-- any object that is no text -/
def NoText (K : PySem.W.Frag) (m : Mem) (d : D) : Prop := ∃ t, TyD K m d t ∧ PySem.W.kitOne K t (.type "str") = some false
def pathD (C : Addr) (z : Str) : D := .ins C pN (pV z)
def Stream (m : Mem) (p : Addr) : Prop := ∃ c, m.own p = some (.stm c) ∧ m.own c = some .cel ∧ p ≠ c
def more (m : Mem) (n : Nat) : Mem := { m with cnt := m.cnt + n }
def sepOf (a : Str) : Str := if DT.tlLast a = some 47 then ("" : Str) else ("/" : Str)
def joinP (a b : Str) : Str := if DT.rooted b = true then b else a ++ sepOf a ++ b
def lastD (z : Str) : D := match (DT.steps z).getLast? with
  | some p => strD p
  | none => nonD
def wordsAll : List Str := ["dot", "up", "root up", "end bar"]
def heldOf (ws : List Str) : List Str := wordsAll.filter fun w => decide (w ∈ ws)
def strkD (C : Addr) (hs : List Str) : D := .ins C ["held"] [strsD hs]
def hasW (w : Str) (hs : List Str) : Bool := decide (w ∈ hs)
def tidiedT (hs : List Str) (z : Str) : Str := DT.plainT (DT.tidyS (hasW "dot" hs) (hasW "up" hs) (hasW "root up" hs && DT.rooted z) (DT.steps z)) (DT.rooted z) (DT.ended z && !(hasW "end bar" hs))
def strikeD (pr : Nat × Nat) : D := .tup [intD pr.1, intD pr.2]
def comN : List Str → List Str → Nat
  | x :: xs, y :: ys => if x = y then comN xs ys + 1 else 0
  | _, _ => 0
def relS (a b : List Str) : List Str := List.replicate (b.length - comN a b) (".." : Str) ++ a.drop (comN a b)
def relT (z w : Str) : Str := DT.plainT (relS (DT.steps z) (DT.steps w)) false false
def begunB (z w : Str) : Bool := decide (DT.rooted z = DT.rooted w) && decide ((DT.steps z).take (DT.steps w).length = DT.steps w)
def cutT (z w : Str) : Str := if (DT.steps z).drop (DT.steps w).length = [] then "." else Txt.join "/" ((DT.steps z).drop (DT.steps w).length) ++ (if DT.tlLast z = some 47 then ("/" : Str) else "")
def namesB (z : Str) : Bool := (DT.steps z).all DT.isName
def cutD36 (z w : Str) : D := if begunB z w = true then .tup [strD "told", strD (cutT z w)] else .tup [strD "begun", strD w]
def relD36 (z w : Str) : D := if namesB z = true then (if namesB w = true then (if DT.rooted z = DT.rooted w then .tup [strD "told", strD (relT z w)] else .tup [strD "relative", strD w]) else .tup [strD "relative", strD w]) else .tup [strD "relative", strD z]
/-- a path that is not too long -/
def Pth (z : Str) : Prop := DT.isPath z = true ∧ z.length ≤ 50000
def φ_is_name {K : PySem.W.Frag} {mg : Str → Option Value} (T : Txt K mg) : Phi := fun ds m nx _ => ∃ d, ds = [d] ∧ ((∃ z, d = strD z ∧ z.length ≤ sz ∧ nx (blD (DT.isName z)) m) ∨ (NoText K m d ∧ nx (blD false) m))
def φ_is_path_text {K : PySem.W.Frag} {mg : Str → Option Value} (T : Txt K mg) : Phi := fun ds m nx _ => ∃ d, ds = [d] ∧ ((∃ z, d = strD z ∧ z.length ≤ sz ∧ nx (blD (DT.isPath z)) m) ∨ (NoText K m d ∧ nx (blD false) m))
def φ_Path___init__ {K : PySem.W.Frag} {mg : Str → Option Value} (T : Txt K mg) : Phi := fun ds m nx _ => ∃ x z, ds = [.s (.ref x), strD z] ∧ DT.isPath z = true ∧ z.length ≤ sz ∧ m.own x = some (.ins T.c_Path [] []) ∧ nx nonD { m with own := putM m.own x (.ins T.c_Path pN (pV z)) }
def φ_Path___eq__ {K : PySem.W.Frag} {mg : Str → Option Value} (T : Txt K mg) : Phi := fun ds m nx _ => ∃ z y, ds = [pathD T.c_Path z, pathD T.c_Path y] ∧ nx (blD (decide (z = y))) m
def φ_Path___len__ {K : PySem.W.Frag} {mg : Str → Option Value} (T : Txt K mg) : Phi := fun ds m nx _ => ∃ z, ds = [pathD T.c_Path z] ∧ z.length ≤ sz ∧ nx (intD ((DT.steps z).length : Nat)) m
def φ_Path_steps {K : PySem.W.Frag} {mg : Str → Option Value} (T : Txt K mg) : Phi := fun ds m nx _ => ∃ z, ds = [pathD T.c_Path z] ∧ z.length ≤ sz ∧ nx (strsD (DT.steps z)) m
def φ_Path_begins {K : PySem.W.Frag} {mg : Str → Option Value} (T : Txt K mg) : Phi := fun ds m nx _ => ∃ z w, ds = [pathD T.c_Path z, pathD T.c_Path w] ∧ Pth z ∧ Pth w ∧ nx (blD (begunB z w)) m
def φ_Path_cut {K : PySem.W.Frag} {mg : Str → Option Value} (T : Txt K mg) : Phi := fun ds m nx X => ∃ z w, ds = [pathD T.c_Path z, pathD T.c_Path w] ∧ Pth z ∧ Pth w ∧ (begunB z w = true → nx (pathD T.c_Path (cutT z w)) m) ∧ (begunB z w = false → X T.c_NotBegun ["other"] [pathD T.c_Path w] m)
def φ_Path_relative {K : PySem.W.Frag} {mg : Str → Option Value} (T : Txt K mg) : Phi := fun ds m nx X => ∃ z w, ds = [pathD T.c_Path z, pathD T.c_Path w] ∧ Pth z ∧ Pth w ∧ (namesB z = true → namesB w = true → DT.rooted z = DT.rooted w → nx (pathD T.c_Path (relT z w)) m) ∧
  (namesB z = false → X T.c_NoRelative ["path"] [pathD T.c_Path z] m) ∧ (namesB z = true → namesB w = false → X T.c_NoRelative ["path"] [pathD T.c_Path w] m) ∧ (namesB z = true → namesB w = true → DT.rooted z ≠ DT.rooted w → X T.c_NoRelative ["path"] [pathD T.c_Path w] m)
def φ__law_p_steps {K : PySem.W.Frag} {mg : Str → Option Value} (T : Txt K mg) : Phi := fun ds m nx _ => ∃ z, ds = [strD z] ∧ z.length ≤ sz ∧ nx (strsD (DT.steps z)) m
def φ__law_p_written {K : PySem.W.Frag} {mg : Str → Option Value} (T : Txt K mg) : Phi := fun ds m nx _ => ∃ p zs n, ds = [.s (.ref p), nmE zs, intD n] ∧ Stream m p ∧ m.cnt < 800000000 ∧ zs.length ≤ 10 ∧ (∀ z ∈ zs, DT.isName z = true) ∧ 0 ≤ n ∧ n ≤ 20 ∧ ∀ z, DT.isPath z = true → z.length ≤ 500 → nx (strD z) (more m 100)
def φ__law_p_plain {K : PySem.W.Frag} {mg : Str → Option Value} (T : Txt K mg) : Phi := fun ds m nx _ => ∃ st rt en, ds = [strsD st, blD rt, blD en] ∧ (∀ s ∈ st, DT.isStep s) ∧ st.length ≤ 10000 ∧ nx (strD (DT.plainT st rt en)) m
def φ__law_draw {K : PySem.W.Frag} {mg : Str → Option Value} (T : Txt K mg) : Phi := fun ds m nx _ => ∃ p n, ds = [.s (.ref p), intD n] ∧ Stream m p ∧ 0 < n ∧ n < 1073741824 ∧ m.cnt < 1000000000 ∧ ∀ r, 0 ≤ r → r < n → nx (intD r) (more m 1)
def φ__law_pick {K : PySem.W.Frag} {mg : Str → Option Value} (T : Txt K mg) : Phi := fun ds m nx _ => ∃ p x xs, ds = [.s (.ref p), x] ∧ Stream m p ∧ m.cnt < 1000000000 ∧ DD.seqD x = some xs ∧ xs ≠ [] ∧ xs.length ≤ sz ∧ ∀ d ∈ xs, nx d (more m 1)
def φ__law_pickT {K : PySem.W.Frag} {mg : Str → Option Value} (T : Txt K mg) : Phi := fun ds m nx _ => ∃ p z, ds = [.s (.ref p), strD z] ∧ Stream m p ∧ m.cnt < 1000000000 ∧ TL.tl z ≠ [] ∧ z.length ≤ 1000 ∧ ∀ c ∈ TL.tl z, nx (strD ⟨#[c]⟩) (more m 1)
def φ__law_same {K : PySem.W.Frag} {mg : Str → Option Value} (T : Txt K mg) (n : Nat) : Phi := fun ds m nx _ => ∃ x, ds = [x, x] ∧ SameOk n x ∧ nx (blD true) m
def φ__law_name {K : PySem.W.Frag} {mg : Str → Option Value} (T : Txt K mg) : Phi := fun ds m nx _ => ∃ p, ds = [.s (.ref p)] ∧ Stream m p ∧ m.cnt < 900000000 ∧ ∀ z, DT.isName z = true → nx (strD z) (more m 10)
def φ__law_namesT {K : PySem.W.Frag} {mg : Str → Option Value} (T : Txt K mg) : Phi := fun ds m nx _ => ∃ p n, ds = [.s (.ref p), intD n] ∧ Stream m p ∧ m.cnt < 800000000 ∧ 0 ≤ n ∧ n ≤ 10 ∧ ∀ zs : List Str, (zs.length : Int) = n → (∀ z ∈ zs, DT.isName z = true) → nx (nmE zs) (more m 100)
def φ__law_due_cut {K : PySem.W.Frag} {mg : Str → Option Value} (T : Txt K mg) : Phi := fun ds m nx _ => ∃ z w, ds = [strD z, strD w] ∧ Pth z ∧ Pth w ∧ nx (cutD36 z w) m
def φ__law_due_relative {K : PySem.W.Frag} {mg : Str → Option Value} (T : Txt K mg) : Phi := fun ds m nx _ => ∃ z w, ds = [strD z, strD w] ∧ Pth z ∧ Pth w ∧ nx (relD36 z w) m
def t_NotBegun___init__ {K : PySem.W.Frag} {mg : Str → Option Value} (T : Txt K mg) (E : XK) : TS :=
    (tSeq (tDrop (tVeI K (tCons (tVar 0) (tCons (tC (.str "a path does not begin with another one")) tNil)))) (tOst K "other" (tVar 0) (tVar 1)))
def t_NoRelative___init__ {K : PySem.W.Frag} {mg : Str → Option Value} (T : Txt K mg) (E : XK) : TS :=
    (tSeq (tDrop (tVeI K (tCons (tVar 0) (tCons (tC (.str "a path has steps that are no names, or one path alone is rooted")) tNil)))) (tOst K "path" (tVar 0) (tVar 1)))
def t_is_name {K : PySem.W.Frag} {mg : Str → Option Value} (T : Txt K mg) (E : XK) : TS :=
    (tRet (tAndV (tCB (rIsiA K) (tCons (tVar 0) (tCons (tC (.ty "str")) tNil))) (tAndV (tChain rLeI rLeI (tC (.int 1)) (tCB (rLenA K) (tCons (tVar 0) tNil)) (tC (.int 8))) (tCB (rAll K) (tCons (tLc (iAny K (tVar 0)) (gName 1) tYes (tOp (rInA K) (tVar 1) (tC (.str "abcdefghijklmnopqrstuvwxyz"))) [1]) tNil)))))
def t_is_path_text {K : PySem.W.Frag} {mg : Str → Option Value} (T : Txt K mg) (E : XK) : TS :=
    (tSeq (tIfS (tOr (tNot (tB (tCB (rIsiA K) (tCons (tVar 0) (tCons (tC (.ty "str")) tNil))))) (tTest (tOp (rEqA K) (tVar 0) (tC (.str ""))))) (tRet (tC (.bl false))) tNext)
    (tRet (tCB (rAll K) (tCons (tLc (iAny K (tM1 rSplit (tVar 0) (tC (.str "/")))) (gName 1) tYes (tOrV (tOp (rInA K) (tVar 1) (tTup (tCons (tC (.str "")) (tCons (tC (.str ".")) (tCons (tC (.str "..")) tNil))))) (tCall (spOf K (φ_is_name T)) [] E0 (tCons (tVar 1) tNil))) [1]) tNil))))
def t_Path___init__ {K : PySem.W.Frag} {mg : Str → Option Value} (T : Txt K mg) (E : XK) : TS :=
    (tSeq (tIfS (tNot (tB (tCall (spOf K (φ_is_path_text T)) [] E0 (tCons (tVar 1) tNil)))) tNever tNext)
    (tSeq (sFld K (tVar 0) (tVar 1) "text")
    (tSeq (sFld K (tVar 0) (tOp (rEqA K) (tOp (rIx K) (tVar 1) (tC (.int 0))) (tC (.str "/"))) "rooted")
    (sFld K (tVar 0) (tOp (rInA K) (tOp (rIx K) (tM1 rSplit (tVar 1) (tC (.str "/"))) (tUn rNeg (tC (.int 1)))) (tTup (tCons (tC (.str "")) (tCons (tC (.str ".")) (tCons (tC (.str "..")) tNil))))) "ended"))))
def t_Path___eq__ {K : PySem.W.Frag} {mg : Str → Option Value} (T : Txt K mg) (E : XK) : TS :=
    (tRet (tAndV (tCB (rIsiA K) (tCons (tVar 1) (tCons (tC (.ref T.c_Path)) tNil))) (tOp (rEqA K) (tFld K (tVar 0) "text") (tFld K (tVar 1) "text"))))
def t_Path___len__ {K : PySem.W.Frag} {mg : Str → Option Value} (T : Txt K mg) (E : XK) : TS :=
    (tRet (tCB (rLenA K) (tCons (tMeth T.c_Path "steps" (spOf K (φ_Path_steps T)) [] E0 (tVar 0) tNil) tNil)))
def t_Path_steps {K : PySem.W.Frag} {mg : Str → Option Value} (T : Txt K mg) (E : XK) : TS :=
    (tRet (tLc (iAny K (tM1 rSplit (tFld K (tVar 0) "text") (tC (.str "/")))) (gName 1) (tTest (tOp (rNeA K) (tVar 1) (tC (.str "")))) (tVar 1) [1]))
def t_Path_begins {K : PySem.W.Frag} {mg : Str → Option Value} (T : Txt K mg) (E : XK) : TS :=
    (tRet (tAndV (tOp (rEqA K) (tFld K (tVar 0) "rooted") (tFld K (tVar 1) "rooted")) (tOp (rEqA K) (tSl (DD.rSlA K) (tMeth T.c_Path "steps" (spOf K (φ_Path_steps T)) [] E0 (tVar 0) tNil) tNoPart (tPart (tCB (HO1.rLenO T.c_Path (spOf K (φ_Path___len__ T)) E0) (tCons (tVar 1) tNil)))) (tMeth T.c_Path "steps" (spOf K (φ_Path_steps T)) [] E0 (tVar 1) tNil))))
def t_Path_cut {K : PySem.W.Frag} {mg : Str → Option Value} (T : Txt K mg) (E : XK) : TS :=
    (tSeq (tIfS (tNot (tB (tMeth T.c_Path "begins" (spOf K (φ_Path_begins T)) [] E0 (tVar 0) (tCons (tVar 1) tNil)))) (HX1.tRaise T.c_NotBegun (HX1.spExc T.c_NotBegun "other") (tCons (tVar 1) tNil) E) tNext)
    (tSeq (tAsg (tSl (DD.rSlA K) (tMeth T.c_Path "steps" (spOf K (φ_Path_steps T)) [] E0 (tVar 0) tNil) (tPart (tCB (HO1.rLenO T.c_Path (spOf K (φ_Path___len__ T)) E0) (tCons (tVar 1) tNil))) tNoPart) (gName 2))
    (tSeq (tIfS (tTest (tOp (rEqA K) (tVar 2) (tLst tNil))) (tRet (tMake T.c_Path (spOf K (φ_Path___init__ T)) [] E0 (tCons (tC (.str ".")) tNil))) tNext)
    (tRet (tMake T.c_Path (spOf K (φ_Path___init__ T)) [] E0 (tCons (tOp (rAddA K) (tM1 (rJoin K) (tC (.str "/")) (tVar 2)) (tIf (tTest (tOp (rEqA K) (tOp (rIx K) (tFld K (tVar 0) "text") (tUn rNeg (tC (.int 1)))) (tC (.str "/")))) (tC (.str "/")) (tC (.str "")))) tNil))))))
def t_Path_relative {K : PySem.W.Frag} {mg : Str → Option Value} (T : Txt K mg) (E : XK) : TS :=
    (tSeq (tFor (iAny K (tTup (tCons (tVar 0) (tCons (tVar 1) tNil)))) (gName 2) (tIfS (tNot (tB (tCB (rAll K) (tCons (tLc (iAny K (tMeth T.c_Path "steps" (spOf K (φ_Path_steps T)) [] E0 (tVar 2) tNil)) (gName 3) tYes (tCall (spOf K (φ_is_name T)) [] E0 (tCons (tVar 3) tNil)) [3]) tNil)))) (HX1.tRaise T.c_NoRelative (HX1.spExc T.c_NoRelative "path") (tCons (tVar 2) tNil) E) tNext))
    (tSeq (tIfS (tTest (tOp (rNeA K) (tFld K (tVar 0) "rooted") (tFld K (tVar 1) "rooted"))) (HX1.tRaise T.c_NoRelative (HX1.spExc T.c_NoRelative "path") (tCons (tVar 1) tNil) E) tNext)
    (tSeq (tPar 4 5 (tCons (tMeth T.c_Path "steps" (spOf K (φ_Path_steps T)) [] E0 (tVar 0) tNil) (tCons (tMeth T.c_Path "steps" (spOf K (φ_Path_steps T)) [] E0 (tVar 1) tNil) tNil)))
    (tSeq (tAsg (tC (.int 0)) (gName 6))
    (tSeq (tWhile (tAnd (tTest (tOp rLtI (tVar 6) (tCB HD1.rMin2 (tCons (tCB (rLenA K) (tCons (tVar 4) tNil)) (tCons (tCB (rLenA K) (tCons (tVar 5) tNil)) tNil))))) (tTest (tOp (rEqA K) (tOp (rIx K) (tVar 4) (tVar 6)) (tOp (rIx K) (tVar 5) (tVar 6))))) (tAug 6 (tC (.int 1)) (ipI fun i j => i + j)))
    (tSeq (tAsg (tOp (rAddA K) (tOp rMulA (tLst (tCons (tC (.str "..")) tNil)) (tOp rSubI (tCB (rLenA K) (tCons (tVar 5) tNil)) (tVar 6))) (tSl (DD.rSlA K) (tVar 4) (tPart (tVar 6)) tNoPart)) (gName 7))
    (tRet (tMake T.c_Path (spOf K (φ_Path___init__ T)) [] E0 (tCons (tIf (tTest (tOp (rNeA K) (tVar 7) (tLst tNil))) (tM1 (rJoin K) (tC (.str "/")) (tVar 7)) (tC (.str "."))) tNil)))))))))
def t__law_p_steps {K : PySem.W.Frag} {mg : Str → Option Value} (T : Txt K mg) (E : XK) : TS :=
    (tRet (tLc (iAny K (tM1 rSplit (tVar 0) (tC (.str "/")))) (gName 1) (tTest (tOp (rNeA K) (tVar 1) (tC (.str "")))) (tVar 1) [1]))
def t__law_p_written {K : PySem.W.Frag} {mg : Str → Option Value} (T : Txt K mg) (E : XK) : TS :=
    (tSeq (tAsg (tCall (spOf K (φ__law_draw T)) [] E0 (tCons (tVar 0) (tCons (tOp (rAddA K) (tVar 2) (tC (.int 1))) tNil))) (gName 3))
    (tSeq (tAsg (tLc (iRng1 (tCons (tVar 3) tNil)) (gName 5) tYes (tCall (spOf K (φ__law_pick T)) [] E0 (tCons (tVar 0) (tCons (tOp (rAddA K) (tOp HTk.rRepF (tVar 1) (tC (.int 2))) (tLst (tCons (tC (.str ".")) (tCons (tC (.str "..")) (tCons (tC (.str "..")) tNil))))) tNil))) [5]) (gName 4))
    (tSeq (tAsg (tLc (iRng1 (tCons (tOp (rAddA K) (tVar 3) (tC (.int 1))) tNil)) (gName 5) tYes (tOp rMulA (tC (.str "/")) (tCall (spOf K (φ__law_pick T)) [] E0 (tCons (tVar 0) (tCons (tLst (tCons (tC (.int 1)) (tCons (tC (.int 1)) (tCons (tC (.int 1)) (tCons (tC (.int 2)) (tCons (tC (.int 3)) tNil)))))) tNil)))) [5]) (gName 6))
    (tSeq (tAsg (tIf (tOr (tTest (tOp (rEqA K) (tVar 3) (tC (.int 0)))) (tTest (tOp (rEqA K) (tCall (spOf K (φ__law_draw T)) [] E0 (tCons (tVar 0) (tCons (tC (.int 3)) tNil))) (tC (.int 0))))) (tOp (rIx K) (tVar 6) (tC (.int 0))) (tC (.str ""))) (gName 7))
    (tSeq (tFor (iEnum K (tCons (tVar 4) tNil)) (gTup K 2 (gCons (gName 5) (gCons (gName 8) gNil))) (tAsg (tOp (rAddA K) (tOp (rAddA K) (tVar 7) (tIf (tTest (tOp rGtI (tVar 5) (tC (.int 0)))) (tOp (rIx K) (tVar 6) (tVar 5)) (tC (.str "")))) (tVar 8)) (gName 7)))
    (tRet (tOp (rAddA K) (tVar 7) (tIf (tAnd (tTest (tOp rGtI (tVar 3) (tC (.int 0)))) (tTest (tOp (rEqA K) (tCall (spOf K (φ__law_draw T)) [] E0 (tCons (tVar 0) (tCons (tC (.int 4)) tNil))) (tC (.int 0))))) (tOp (rIx K) (tVar 6) (tUn rNeg (tC (.int 1)))) (tC (.str ""))))))))))
def t__law_p_plain {K : PySem.W.Frag} {mg : Str → Option Value} (T : Txt K mg) (E : XK) : TS :=
    (tSeq (tAsg (tOp (rAddA K) (tIf (tB (tVar 1)) (tC (.str "/")) (tC (.str ""))) (tM1 (rJoin K) (tC (.str "/")) (tVar 0))) (gName 3))
    (tSeq (tIfS (tTest (tOp (rEqA K) (tVar 3) (tC (.str "")))) (tRet (tC (.str "."))) tNext)
    (tRet (tOp (rAddA K) (tVar 3) (tIf (tAnd (tB (tVar 2)) (tAnd (tTest (tOp (rNeA K) (tVar 0) (tLst tNil))) (tTest (tOp (rNInA K) (tOp (rIx K) (tVar 0) (tUn rNeg (tC (.int 1)))) (tTup (tCons (tC (.str ".")) (tCons (tC (.str "..")) tNil))))))) (tC (.str "/")) (tC (.str "")))))))
def t__law_start {K : PySem.W.Frag} {mg : Str → Option Value} (T : Txt K mg) (E : XK) : TS :=
    (tRet (tLst (tCons (tCB (rListA K) (tCons (tVar 0) tNil)) (tCons (tC (.int 0)) (tCons (tC (.int 0)) (tCons (tC (.int 11)) tNil))))))
def t__law_draw {K : PySem.W.Frag} {mg : Str → Option Value} (T : Txt K mg) (E : XK) : TS :=
    (tSeq (tAsg (tOp (rAddA K) (tOp (rIx K) (tVar 0) (tC (.int 2))) (tC (.int 1))) (gSub (tVar 0) (tC (.int 2)) rSetL))
    (tSeq (tIfS (tAnd (tTest (tOp (rEqA K) (tOp (rIx K) (tVar 0) (tC (.int 1))) (tC (.int 0)))) (tTest (tOp (rNeA K) (tOp (rIx K) (tVar 0) (tC (.int 0))) (tLst tNil)))) (tSeq (tAsg (tBM K "list" rPopAt (tOp (rIx K) (tVar 0) (tC (.int 0))) (tCons (tC (.int 0)) tNil)) (gName 2))
    (tSeq (tAsg (tOp rModI (tCB rInt1 (tCons (tOp (rAddA K) (tOp (rAddA K) (tOp rMulA (tOp (rIx K) (tVar 0) (tC (.int 3))) (tC (.int 8191))) (tVar 2)) (tC (.int 3))) tNil)) (tC (.int 2147483647))) (gSub (tVar 0) (tC (.int 3)) rSetL))
    (tAsg (tIf (tTest (tOp rGeI (tVar 2) (tOp rPowI (tC (.int 10)) (tC (.int 18))))) (tVar 2) (tC (.int 0))) (gSub (tVar 0) (tC (.int 1)) rSetL)))) tNext)
    (tSeq (tIfS (tTest (tOp rGtI (tOp (rIx K) (tVar 0) (tC (.int 1))) (tC (.int 0)))) (tSeq (tAsg (tOp rModI (tCB rInt1 (tCons (tOp (rIx K) (tVar 0) (tC (.int 1))) tNil)) (tVar 1)) (gName 3))
    (tSeq (tAsg (tOp rDivI (tOp (rIx K) (tVar 0) (tC (.int 1))) (tVar 1)) (gSub (tVar 0) (tC (.int 1)) rSetL))
    (tRet (tVar 3)))) tNext)
    (tSeq (tAsg (tOp rModI (tCB rInt1 (tCons (tOp rPowI (tOp (rAddA K) (tOp (rAddA K) (tOp (rIx K) (tVar 0) (tC (.int 3))) (tOp rMulA (tC (.int 7919)) (tOp (rIx K) (tVar 0) (tC (.int 2))))) (tC (.int 104729))) (tC (.int 5))) tNil)) (tC (.int 2147483629))) (gName 4))
    (tRet (tOp rModI (tOp rModI (tCB rInt1 (tCons (tOp rPowI (tOp (rAddA K) (tOp (rAddA K) (tOp rMulA (tVar 4) (tC (.int 48271))) (tOp rMulA (tC (.int 30011)) (tOp (rIx K) (tVar 0) (tC (.int 2))))) (tC (.int 29))) (tC (.int 3))) tNil)) (tC (.int 1000000007))) (tVar 1)))))))
def t__law_pick {K : PySem.W.Frag} {mg : Str → Option Value} (T : Txt K mg) (E : XK) : TS :=
    (tRet (tOp (rIx K) (tVar 1) (tCall (spOf K (φ__law_draw T)) [] E0 (tCons (tVar 0) (tCons (tCB (rLenA K) (tCons (tVar 1) tNil)) tNil)))))
def t__law_same {K : PySem.W.Frag} {mg : Str → Option Value} (T : Txt K mg) (φ : Phi) (E : XK) : TS :=
    (tSeq (tIfS (tB (tCB (rIsiA K) (tCons (tVar 1) (tCons (tTup (tCons (tC (.ty "list")) (tCons (tC (.ty "tuple")) tNil))) tNil)))) (tSeq (tIfS (tOr (tTest (tOp (rNeA K) (tCB (rIsiA K) (tCons (tVar 0) (tCons (tC (.ty "list")) tNil))) (tCB (rIsiA K) (tCons (tVar 1) (tCons (tC (.ty "list")) tNil))))) (tTest (tOp (rNeA K) (tCB (rIsiA K) (tCons (tVar 0) (tCons (tC (.ty "tuple")) tNil))) (tCB (rIsiA K) (tCons (tVar 1) (tCons (tC (.ty "tuple")) tNil)))))) (tRet (tC (.bl false))) tNext)
    (tRet (tAndV (tOp (rEqA K) (tCB (rLenA K) (tCons (tVar 0) tNil)) (tCB (rLenA K) (tCons (tVar 1) tNil))) (tCB (rAll K) (tCons (tLc (RZ.iZipA K (tCons (tVar 0) (tCons (tVar 1) tNil))) (gTup K 2 (gCons (gName 2) (gCons (gName 3) gNil))) tYes (tCall (spOf K φ) [] E0 (tCons (tVar 2) (tCons (tVar 3) tNil))) [2, 3]) tNil))))) tNext)
    (tSeq (tIfS (tB (tCB (rIsiA K) (tCons (tVar 1) (tCons (tC (.ty "int")) tNil)))) (tRet (tAndV (tCB (rIsiA K) (tCons (tVar 0) (tCons (tC (.ty "int")) tNil))) (tAndV (tOp (rEqA K) (tCB (rIsiA K) (tCons (tVar 0) (tCons (tC (.ty "bool")) tNil))) (tCB (rIsiA K) (tCons (tVar 1) (tCons (tC (.ty "bool")) tNil)))) (tOp (rEqA K) (tVar 0) (tVar 1))))) tNext)
    (tRet (tAndV (tOp rIsB (tCB (rIsiA K) (tCons (tVar 0) (tCons (tTup (tCons (tC (.ty "int")) (tCons (tC (.ty "list")) (tCons (tC (.ty "tuple")) tNil)))) tNil))) (tC (.bl false))) (tOp (rEqA K) (tVar 0) (tVar 1))))))
def t__law_name {K : PySem.W.Frag} {mg : Str → Option Value} (T : Txt K mg) (E : XK) : TS :=
    (tSeq (tAsg (tOp (rIx K) (tLst (tCons (tC (.int 1)) (tCons (tC (.int 1)) (tCons (tC (.int 2)) (tCons (tC (.int 3)) (tCons (tC (.int 5)) (tCons (tC (.int 8)) tNil))))))) (tCall (spOf K (φ__law_draw T)) [] E0 (tCons (tVar 0) (tCons (tC (.int 6)) tNil)))) (gName 1))
    (tRet (tM1 (rJoin K) (tC (.str "")) (tLc (iRng1 (tCons (tVar 1) tNil)) (gName 2) tYes (tCall (spOf K (φ__law_pick T)) [] E0 (tCons (tVar 0) (tCons (tC (.str "abcdefghijklmnopqrstuvwxyz")) tNil))) [2]))))
def t__law_names {K : PySem.W.Frag} {mg : Str → Option Value} (T : Txt K mg) (E : XK) : TS :=
    (tSeq (tAsg (tLst tNil) (gName 2))
    (tSeq (tFor (iRng1 (tCons (tVar 1) tNil)) (gName 3) (tSeq (tAsg (tOp (rAddA K) (tLst (tCons (tCall (spOf K (φ__law_name T)) [] E0 (tCons (tVar 0) tNil)) tNil)) (tLc (iAny K (tC (.str "abcdefghijklmnop"))) (gName 5) tYes (tOp (rAddA K) (tVar 5) (tC (.str "jq"))) [5])) (gName 4))
    (tDrop (tBM K "list" rAppend (tVar 2) (tCons (tOp (rIx K) (tLc (iAny K (tVar 4)) (gName 6) (tTest (tOp (rNInA K) (tVar 6) (tVar 2))) (tVar 6) [6]) (tC (.int 0))) tNil)))))
    (tRet (tVar 2))))
def tg__law_tried {K : PySem.W.Frag} {mg : Str → Option Value} (T : Txt K mg) (ask : XK → TE) : TS :=
    (tSeq (tAsg (tTup (tCons (tC (.str "odd")) tNil)) (gName 1))
    (tSeq (HL1.tTryM K 3 [(.ref T.c_NotBegun, some 2, fun ea cls ed => (tAsg (tTup (tCons (tC (.str "begun")) (tCons (tFld K (tXf ea cls ed T.c_NotBegun "other" (tVar 2)) "text") tNil))) (gName 1))), (.ref T.c_NoRelative, some 2, fun ea cls ed => (tAsg (tTup (tCons (tC (.str "relative")) (tCons (tFld K (tXf ea cls ed T.c_NoRelative "path" (tVar 2)) "text") tNil))) (gName 1)))] (fun EX => (tAsg (tTup (tCons (tC (.str "told")) (tCons (tFld K (ask EX) "text") tNil))) (gName 1))))
    (tRet (tVar 1))))
def t__law_due_cut {K : PySem.W.Frag} {mg : Str → Option Value} (T : Txt K mg) (E : XK) : TS :=
    (tSeq (tPar 2 3 (tCons (tCall (spOf K (φ__law_p_steps T)) [] E0 (tCons (tVar 0) tNil)) (tCons (tCall (spOf K (φ__law_p_steps T)) [] E0 (tCons (tVar 1) tNil)) tNil)))
    (tSeq (tIfS (tOr (tTest (tOp (rNeA K) (tOp (rEqA K) (tOp (rIx K) (tVar 0) (tC (.int 0))) (tC (.str "/"))) (tOp (rEqA K) (tOp (rIx K) (tVar 1) (tC (.int 0))) (tC (.str "/"))))) (tTest (tOp (rNeA K) (tSl (DD.rSlA K) (tVar 2) tNoPart (tPart (tCB (rLenA K) (tCons (tVar 3) tNil)))) (tVar 3)))) (tRet (tTup (tCons (tC (.str "begun")) (tCons (tVar 1) tNil)))) tNext)
    (tSeq (tAsg (tM1 (rJoin K) (tC (.str "/")) (tSl (DD.rSlA K) (tVar 2) (tPart (tCB (rLenA K) (tCons (tVar 3) tNil))) tNoPart)) (gName 4))
    (tRet (tTup (tCons (tC (.str "told")) (tCons (tIf (tTest (tOp (rNeA K) (tVar 4) (tC (.str "")))) (tOp (rAddA K) (tVar 4) (tIf (tTest (tOp (rEqA K) (tOp (rIx K) (tVar 0) (tUn rNeg (tC (.int 1)))) (tC (.str "/")))) (tC (.str "/")) (tC (.str "")))) (tC (.str "."))) tNil)))))))
def t__law_due_relative {K : PySem.W.Frag} {mg : Str → Option Value} (T : Txt K mg) (E : XK) : TS :=
    (tSeq (tFor (iAny K (tTup (tCons (tVar 0) (tCons (tVar 1) tNil)))) (gName 2) (tIfS (tTest (tOp (rNeA K) (tLc (iAny K (tCall (spOf K (φ__law_p_steps T)) [] E0 (tCons (tVar 2) tNil))) (gName 3) (tTest (tOp (rInA K) (tVar 3) (tTup (tCons (tC (.str ".")) (tCons (tC (.str "..")) tNil))))) (tVar 3) [3]) (tLst tNil))) (tRet (tTup (tCons (tC (.str "relative")) (tCons (tVar 2) tNil)))) tNext))
    (tSeq (tIfS (tTest (tOp (rNeA K) (tOp (rEqA K) (tOp (rIx K) (tVar 0) (tC (.int 0))) (tC (.str "/"))) (tOp (rEqA K) (tOp (rIx K) (tVar 1) (tC (.int 0))) (tC (.str "/"))))) (tRet (tTup (tCons (tC (.str "relative")) (tCons (tVar 1) tNil)))) tNext)
    (tSeq (tPar 4 5 (tCons (tCall (spOf K (φ__law_p_steps T)) [] E0 (tCons (tVar 0) tNil)) (tCons (tCall (spOf K (φ__law_p_steps T)) [] E0 (tCons (tVar 1) tNil)) tNil)))
    (tSeq (tWhile (tAnd (tTest (tOp (rNeA K) (tVar 4) (tLst tNil))) (tAnd (tTest (tOp (rNeA K) (tVar 5) (tLst tNil))) (tTest (tOp (rEqA K) (tOp (rIx K) (tVar 4) (tC (.int 0))) (tOp (rIx K) (tVar 5) (tC (.int 0))))))) (tPar 4 5 (tCons (tSl (DD.rSlA K) (tVar 4) (tPart (tC (.int 1))) tNoPart) (tCons (tSl (DD.rSlA K) (tVar 5) (tPart (tC (.int 1))) tNoPart) tNil))))
    (tRet (tTup (tCons (tC (.str "told")) (tCons (tIf (tTest (tOp (rNeA K) (tOp (rAddA K) (tVar 4) (tVar 5)) (tLst tNil))) (tM1 (rJoin K) (tC (.str "/")) (tOp (rAddA K) (tOp rMulA (tLst (tCons (tC (.str "..")) tNil)) (tCB (rLenA K) (tCons (tVar 5) tNil))) (tVar 4))) (tC (.str "."))) tNil))))))))
def t_law {K : PySem.W.Frag} {mg : Str → Option Value} (T : Txt K mg) (E : XK) : TS :=
    (tSeq (tAsg (tCall (spStart K) [] E0 (tCons (tVar 0) tNil)) (gName 1))
    (tSeq (tFor (iRng1 (tCons (tC (.int 8)) tNil)) (gName 2) (HTk.tNm (tCall (spOf K (φ__law_namesT T)) [] E0 (tCons (tVar 1) (tCons (tC (.int 2)) tNil))) 3 (fun n_ => (tSeq (tAsg (tCall (spOf K (φ__law_p_written T)) [] E0 (tCons (tVar 1) (tCons (tVar 3) (tCons (tC (.int 6)) tNil)))) (gName 4))
    (tSeq (tAsg (tCall (spOf K (φ__law_p_written T)) [] E0 (tCons (tVar 1) (tCons (tVar 3) (tCons (tC (.int 5)) tNil)))) (gName 5))
    (tSeq (tIfS (tTest (tOp (rEqA K) (tCall (spOf K (φ__law_draw T)) [] E0 (tCons (tVar 1) (tCons (tC (.int 2)) tNil))) (tC (.int 0)))) (tSeq (tAsg (tCall (spOf K (φ__law_p_steps T)) [] E0 (tCons (tVar 4) tNil)) (gName 6))
    (tSeq (tAsg (tOp (rAddA K) (tSl (DD.rSlA K) (tVar 6) tNoPart (tPart (tCall (spOf K (φ__law_draw T)) [] E0 (tCons (tVar 1) (tCons (tOp (rAddA K) (tCB (rLenA K) (tCons (tVar 6) tNil)) (tC (.int 1))) tNil))))) (tCall (spOf K (φ__law_pick T)) [] E0 (tCons (tVar 1) (tCons (tLst (tCons (tLst tNil) (tCons (tLst tNil) (tCons (tLst (tCons (tOp (rIx K) (tVar 3) (tC (.int 0))) tNil)) tNil)))) tNil)))) (gName 7))
    (tAsg (tCall (spOf K (φ__law_p_plain T)) [] E0 (tCons (tVar 7) (tCons (tOp (rEqA K) (tOp (rIx K) (tVar 4) (tC (.int 0))) (tC (.str "/"))) (tCons (tOp (rEqA K) (tCall (spOf K (φ__law_draw T)) [] E0 (tCons (tVar 1) (tCons (tC (.int 2)) tNil))) (tC (.int 0))) tNil)))) (gName 5)))) tNext)
    (tSeq (tIfS (tTest (tOp (rEqA K) (tCall (spOf K (φ__law_draw T)) [] E0 (tCons (tVar 1) (tCons (tC (.int 2)) tNil))) (tC (.int 0)))) (HTk.tAsgL (HTk.tLcT (iAny K (tTup (tCons (tVar 4) (tCons (tVar 5) tNil)))) (gName 8) tYes (HTk.tReplN n_ (HTk.tReplN n_ (tVar 8) ".." 3 1) "." 3 0) [8]) (gLst K 2 (gCons (gName 4) (gCons (gName 5) gNil)))) tNext)
    (tSeq (tAsg (tTup (tCons (tMake T.c_Path (spOf K (φ_Path___init__ T)) [] E0 (tCons (tVar 4) tNil)) (tCons (tMake T.c_Path (spOf K (φ_Path___init__ T)) [] E0 (tCons (tVar 5) tNil)) tNil))) (gTup K 2 (gCons (gName 9) (gCons (gName 10) gNil))))
    (tSeq (tAsg (tCall (spOf K (φ__law_due_cut T)) [] E0 (tCons (tVar 4) (tCons (tVar 5) tNil))) (gName 11))
    (tSeq (tIfS (tOr (tNot (tB (tCall (spOf K (φ__law_same T 4)) [] E0 (tCons (tMeth T.c_Path "begins" (spOf K (φ_Path_begins T)) [] E0 (tVar 9) (tCons (tVar 10) tNil)) (tCons (tOp (rEqA K) (tOp (rIx K) (tVar 11) (tC (.int 0))) (tC (.str "told"))) tNil))))) (tNot (tB (tCall (spOf K (φ__law_same T 4)) [] E0 (tCons (HL1.tLam T.tb_law "law.<locals>.<lambda>" N__law_tried (tg__law_tried T) (fun E => (tMeth T.c_Path "cut" (spOf K (φ_Path_cut T)) [] E (tVar 9) (tCons (tVar 10) tNil)))) (tCons (tVar 11) tNil)))))) (tRet (tC (.bl false))) tNext)
    (tSeq (tIfS (tNot (tB (tCall (spOf K (φ__law_same T 4)) [] E0 (tCons (HL1.tLam T.tb_law "law.<locals>.<lambda>" N__law_tried (tg__law_tried T) (fun E => (tMeth T.c_Path "relative" (spOf K (φ_Path_relative T)) [] E (tVar 9) (tCons (tVar 10) tNil)))) (tCons (tCall (spOf K (φ__law_due_relative T)) [] E0 (tCons (tVar 4) (tCons (tVar 5) tNil))) tNil))))) (tRet (tC (.bl false))) tNext)
    (tIfS (tOr (tNot (tB (tMeth T.c_Path "begins" (spOf K (φ_Path_begins T)) [] E0 (tVar 9) (tCons (tVar 9) tNil)))) (tOr (tTest (tOp (rNeA K) (tFld K (tMeth T.c_Path "cut" (spOf K (φ_Path_cut T)) [] E0 (tVar 9) (tCons (tVar 9) tNil)) "text") (tC (.str ".")))) (tTest (tOp (rNeA K) (tLst (tCons (tFld K (tVar 9) "text") (tCons (tFld K (tVar 10) "text") tNil))) (tLst (tCons (tVar 4) (tCons (tVar 5) tNil))))))) (tRet (tC (.bl false))) tNext))))))))))))
    (tRet (tC (.bl true)))))
end My

namespace My
open PySem L2 DD
open PySem.Spec PyProof.Rows
theorem pcs_len : ∀ l : List Nat, (DT.pcs l).length ≤ l.length + 1
  | [] => by simp [DT.pcs]
  | c :: r => by
    have ih := pcs_len r
    have hne := DT.pcs_ne r
    by_cases hc : c = 47
    · subst hc
      rw [DT.pcs_bar]
      simp only [List.length_cons]
      omega
    · rw [DT.pcs_cons _ hc]
      simp only [List.length_cons, List.length_tail]
      omega
theorem pcs_each : ∀ {l p : List Nat}, p ∈ DT.pcs l → p.length ≤ l.length
  | [], p, h => by
    have e : p = [] := by simpa [DT.pcs] using h
    subst e
    exact Nat.le_refl _
  | c :: r, p, h => by
    by_cases hc : c = 47
    · subst hc
      rw [DT.pcs_bar] at h
      rcases List.mem_cons.mp h with z | z
      · subst z
        exact Nat.zero_le _
      · have := pcs_each z
        simp only [List.length_cons]
        omega
    · rw [DT.pcs_cons _ hc] at h
      have e := DT.pcs_head r
      rcases List.mem_cons.mp h with z | z
      · have := pcs_each (l := r) (p := (DT.pcs r).headD []) (by rw [← e]; exact List.mem_cons_self)
        subst z
        simp only [List.length_cons]
        omega
      · have := pcs_each (l := r) (p := p) (by rw [← e]; exact List.mem_cons_of_mem _ z)
        simp only [List.length_cons]
        omega
theorem pieces_len (z : Str) : (DT.pieces z).length ≤ z.length + 1 := by
  unfold DT.pieces
  rw [List.length_map, TL.len_tl]
  exact pcs_len _
theorem pieces_each {z p : Str} (h : p ∈ DT.pieces z) : p.length ≤ z.length := by
  unfold DT.pieces at h
  obtain ⟨q, hq, rfl⟩ := List.mem_map.mp h
  rw [TL.len_tl z]
  exact pcs_each hq
theorem pieces_line {z : Str} (h : z.length ≤ sz) : (DT.pieces z).length ≤ sizeLine := by
  have h1 := pieces_len z
  have h2 : z.length ≤ 1000000 := h
  rw [sizeLine_eq]
  omega
theorem split_line {z : Str} (h : z.length ≤ sz) : z.length + 2 ≤ sizeLine := by
  have h2 : z.length ≤ 1000000 := h
  rw [sizeLine_eq]
  omega
theorem bar1 : (("/" : Str).length == 0) = false := by decide +kernel
theorem inDots (p : Str) : inV (.str p) [.str "", .str ".", .str ".."] = DT.dotty p := rfl
theorem path_ne {z : Str} (h : DT.isPath z = true) : TL.tl z ≠ [] := fun e => (DT.isPath_iff.mp h).1 (DT.tl_ext (l := []) e |>.trans DT.mk_nil)
theorem first_of {z : Str} (h : TL.tl z ≠ []) : ∃ c, atI z.cps.toList 0 = some c ∧ (TL.tl z).head? = some c := by
  cases e : TL.tl z with
  | nil => exact absurd e h
  | cons c r => exact ⟨c, atI_zero (by rw [show z.cps.toList = c :: r from e]; rfl), rfl⟩
theorem last_of {z : Str} (h : TL.tl z ≠ []) : ∃ c, atI z.cps.toList (-1) = some c ∧ (TL.tl z).getLast? = some c := by
  cases e : (TL.tl z).getLast? with
  | none => exact absurd (List.getLast?_eq_none_iff.mp e) h
  | some c => exact ⟨c, atI_last e, rfl⟩
theorem one_eq (c d : Nat) : decide ((V.str ⟨#[c]⟩) = V.str ⟨#[d]⟩) = decide (c = d) := by
  rw [Bool.eq_iff_iff]
  simp
theorem bar_eq (c : Nat) : decide ((V.str ⟨#[c]⟩) = V.str ("/" : Str)) = decide (c = 47) := by
  rw [show ("/" : Str) = ⟨#[47]⟩ by decide +kernel]
  exact one_eq c 47
theorem bar_is : ("/" : Str) = ⟨#[47]⟩ := by decide +kernel
theorem pieces_last (z : Str) : (DT.pieces z).getLast? = some (DT.lastP z) := by
  unfold DT.pieces DT.lastP
  rw [List.getLast?_map]
  cases e : (DT.pcs (TL.tl z)).getLast? with
  | none => exact absurd (List.getLast?_eq_none_iff.mp e) (DT.pcs_ne _)
  | some p =>
    rw [List.getLastD_eq_getLast?, e]
    rfl
theorem steps_ok' {z : Str} (h : DT.isPath z = true) : ∀ p ∈ DT.steps z, PyData.strOk p = true := DT.steps_ok h
theorem join_path {a b : Str} (ha : DT.isPath a = true) (hb : DT.isPath b = true) : DT.isPath (joinP a b) = true := by
  unfold joinP
  by_cases h : DT.rooted b = true
  · rw [if_pos h]
    exact hb
  · rw [if_neg h]
    obtain ⟨a1, a2⟩ := DT.isPath_iff.mp ha
    obtain ⟨b1, b2⟩ := DT.isPath_iff.mp hb
    have hbn := path_ne hb
    have e1 : TL.tl ("/" : Str) = [47] := by decide +kernel
    have e0 : TL.tl ("" : Str) = [] := by decide +kernel
    refine DT.isPath_iff.mpr ⟨fun z => ?_, ?_⟩
    · have z2 := congrArg TL.tl z
      rw [TL.tl_append, e0] at z2
      exact hbn (List.append_eq_nil_iff.mp z2).2
    · rw [TL.tl_append, TL.tl_append]
      unfold sepOf
      by_cases hl : DT.tlLast a = some 47
      · rw [if_pos hl, e0, List.append_nil]
        unfold DT.tlLast at hl
        obtain ⟨a', ha'⟩ : ∃ a', TL.tl a = a' ++ [47] := by
          have := List.getLast?_eq_some_iff.mp hl
          exact this
        rw [ha'] at a2 ⊢
        rw [List.append_assoc]
        exact DT.good_cat (DT.good_cut (b := []) a2).1 b2
      · rw [if_neg hl, e1, List.append_assoc]
        exact DT.good_cat a2 b2
theorem len2 (x y : D) : [x, y].length ≤ sizeLine := le_line (by show 2 ≤ 1000000; decide)
theorem eq_emp (z : Str) : decide (V.str z = V.str ("" : Str)) = decide (z = "") := by
  rw [Bool.eq_iff_iff]
  simp
theorem fst_bar {z : Str} (h : TL.tl z ≠ []) : ∃ c, atI z.cps.toList 0 = some c ∧ DT.rooted z = decide (c = 47) := by
  obtain ⟨c, h1, h2⟩ := first_of h
  refine ⟨c, h1, ?_⟩
  unfold DT.rooted
  rw [h2, Bool.eq_iff_iff]
  simp
theorem strs_of (qs : List (List Nat)) : (qs.map DT.mk).map (fun y => D.s (.str y)) = qs.map fun q => strD (DT.mk q) := by
  rw [List.map_map]
  rfl
theorem strs_scal (zs : List Str) : zs.map strD = (zs.map V.str).map D.s := by
  rw [List.map_map]
  rfl
theorem inV_strs (x : Str) (zs : List Str) : inV (.str x) (zs.map V.str) = decide (x ∈ zs) := by
  unfold inV
  rw [List.any_map, Bool.eq_iff_iff, List.any_eq_true]
  constructor
  · rintro ⟨y, hy, e⟩
    have e2 : (y == x) = true := e
    have e3 : y = x := by simpa using e2
    subst e3
    exact decide_eq_true hy
  · intro h
    refine ⟨x, of_decide_eq_true h, ?_⟩
    show (x == x) = true
    simp
theorem flat_strs (zs : List Str) : (zs.map V.str).all flatV = true := by
  rw [List.all_map, List.all_eq_true]
  intro _ _
  rfl
theorem make_path {K : PySem.W.Frag} {mg : Str → Option Value} (T : Txt K mg) {F B : Hp} {ρ : DD.Env} {m : Mem} {te : TE} {Q : QD} (h : WE K F B te ρ m fun d m1 => ∃ z, d = strD z ∧ DT.isPath z = true ∧ z.length ≤ sz ∧ Q (pathD T.c_Path z) m1) :
    WE K F B (tMake T.c_Path (spOf K (φ_Path___init__ T)) [] E0 (tCons te tNil)) ρ m Q :=
  we_make (dds := []) okx0 RpL.nil (wa_cons (we_imp h fun d m1 ⟨z, e, hp, hz, q⟩ => by
    subst e
    refine wa_nil fun x hx => ?_
    first
      | (refine ⟨x, z, rfl, hp, hz, putM_same, rfl, pN, _, putM_same, ?_⟩; rw [putM_put, dropM_put hx]; exact q)
      | (refine Or.inl ⟨x, z, rfl, hp, hz, putM_same, rfl, pN, _, putM_same, ?_⟩; rw [putM_put, dropM_put hx]; exact q)))
theorem more_more (m : Mem) (a b : Nat) : more (more m a) b = more m (a + b) := by
  unfold more
  rw [Nat.add_assoc]
theorem len_twice {α : Type} (xs : List α) : (List.replicate (2 : Int).toNat xs).flatten.length = 2 * xs.length := by
  show (xs ++ (xs ++ [])).length = _
  rw [List.append_nil, List.length_append]
  omega
theorem lc_draws {K : PySem.W.Frag} {F B : Hp} {ρ : DD.Env} {m : Mem} {wi : TI} {te : TE} {i N : Nat} {Q : QD} (P : Str → Prop) (hN : N ≤ 1000000) (hw : ∀ Q', Q' (rngD 0 N) m → WI K F B wi ρ m Q')
    (ht : ∀ F' k d, k < N → WE K F' B te ((wipeD ρ [i]).set i (some d)) (more m k) fun y m' => ∃ z, y = strD z ∧ P z ∧ m' = more m (k + 1))
    (q : ∀ zs : List Str, zs.length = N → (∀ z ∈ zs, P z) → Q (strsD zs) (more m N)) : WE K F B (tLc wi (gName i) tYes te [i]) ρ m Q := by
  refine we_lc (hw _ ⟨fun k acc m' => ∃ zs : List Str, acc = zs.map strD ∧ zs.length = k ∧ (∀ z ∈ zs, P z) ∧ m' = more m k, ⟨[], rfl, rfl, (fun _ z => nomatch z), rfl⟩, fun F' k d acc m' hd ⟨zs, e1, e2, e3, e4⟩ => ?_, fun acc m' ⟨zs, e1, e2, e3, e4⟩ => ?_⟩)
  · subst e1 e4
    have hk := (rngD_get hd).1
    refine wgw_name List.mem_cons_self (wt_yes ⟨fun _ => we_imp (ht F' k d hk) fun y m4 ⟨z, ey, hz, em⟩ => ?_, fun z => nomatch z⟩)
    subst ey em
    refine ⟨by rw [List.length_map]; exact Nat.lt_of_lt_of_le (by omega) (le_line hN), zs ++ [z], by simp, by simp [e2], fun x hx => ?_, rfl⟩
    rcases List.mem_append.mp hx with w | w
    · exact e3 x w
    · have e : x = z := by simpa using w
      subst e
      exact hz
  · subst e1 e4
    rw [rngD_length] at e2 ⊢
    exact q zs e2 e3
theorem sum_le {b : Nat} : ∀ {zs : List Str}, (∀ z ∈ zs, z.length ≤ b) → (zs.map (·.length)).sum ≤ zs.length * b
  | [], _ => Nat.zero_le _
  | z :: zs, h => by
    have ih := sum_le (zs := zs) fun y hy => h y (List.mem_cons_of_mem _ hy)
    have h1 := h z List.mem_cons_self
    rw [List.map_cons, List.sum_cons, List.length_cons, Nat.succ_mul]
    omega
theorem name_of : ∀ {zs : List Str}, (∀ z ∈ zs, ∃ c, c ∈ DT.letters ∧ z = ⟨#[c]⟩) → (TL.tl (Txt.join "" zs)).length = zs.length ∧ ∀ c ∈ TL.tl (Txt.join "" zs), c ∈ DT.letters := fun {zs} h => by
  rw [DT.tl_join0]
  induction zs with
  | nil => exact ⟨rfl, fun c hc => by cases hc⟩
  | cons z zs ih =>
    obtain ⟨i1, i2⟩ := ih fun y hy => h y (List.mem_cons_of_mem _ hy)
    obtain ⟨c, hc, rfl⟩ := h z List.mem_cons_self
    rw [List.map_cons, List.flatten_cons]
    refine ⟨?_, fun d hd => ?_⟩
    · rw [List.length_append, i1]
      show 1 + zs.length = zs.length + 1
      omega
    · rcases List.mem_append.mp hd with w | w
      · have e : d = c := by simpa [TL.tl] using w
        subst e
        exact hc
      · exact i2 d w
theorem chr_of {z : Str} {d : D} (h : d ∈ chrs z) : ∃ c, c ∈ TL.tl z ∧ d = strD ⟨#[c]⟩ := by
  unfold chrs at h
  obtain ⟨c, hc, rfl⟩ := List.mem_map.mp h
  exact ⟨c, hc, rfl⟩
theorem steps_count {z : Str} {n : Nat} (h : z.length ≤ n) : (DT.steps z).length ≤ n + 1 := by
  unfold DT.steps
  have h1 := List.length_filter_le (fun p : Str => !decide (p = "")) (DT.pieces z)
  have h2 := pieces_len z
  omega
theorem join_ok {st : List Str} (h : ∀ s ∈ st, DT.isStep s) (hl : st.length ≤ 10000) : (st.map (·.length)).sum + st.length * ("/" : Str).length ≤ 16777216 := by
  have h1 := sum_le (b := 8) (zs := st) fun s hs => DT.isStep_len (h s hs)
  have hb : ("/" : Str).length = 1 := by decide +kernel
  rw [hb]
  omega
theorem join_mk (st : List Str) : Txt.join "/" st = DT.mk (DT.jn (st.map TL.tl)) := by
  apply TL.ext_tl
  have := DT.tl_joinB (st.map TL.tl)
  rw [DT.map_mk_tl] at this
  rw [this]
  rfl
theorem jn_len9 {st : List Str} (h : ∀ s ∈ st, DT.isStep s) (hl : st.length ≤ 10000) : (DT.mk (DT.jn (st.map TL.tl))).length ≤ 90000 := by
  have h1 := DT.jn_le (b := 8) (st := st) fun s hs => DT.isStep_len (h s hs)
  rw [TL.len_tl]
  show (DT.jn (st.map TL.tl)).length ≤ _
  omega
theorem mk_app (a b : List Nat) : DT.mk a ++ DT.mk b = DT.mk (a ++ b) := by
  apply TL.ext_tl
  rw [TL.tl_append]
  rfl
theorem bar_mk : ("/" : Str) = DT.mk [47] := by decide +kernel
theorem dot_mk : ("." : Str) = DT.mk [46] := by decide +kernel
theorem lastN_get {st : List Str} {x : Str} (h : st.getLast? = some x) : DT.lastN st = DT.isName x := by
  unfold DT.lastN
  rw [h]
theorem last_strs {st : List Str} {x : Str} (h : st.getLast? = some x) : (st.map strD).getLast? = some (strD x) := by
  rw [List.getLast?_map, h]
  rfl
theorem st_last {st : List Str} (h : st ≠ []) : ∃ x, st.getLast? = some x ∧ x ∈ st := ⟨_, List.getLast?_eq_some_getLast h, List.getLast_mem h⟩
theorem stepsOk {st : List Str} (h : ∀ s ∈ st, DT.isStep s) : ∀ z ∈ st, PyData.strOk z = true := fun z hz => DT.isStep_ok (h z hz)
theorem com_le : ∀ a b : List Str, comN a b ≤ a.length ∧ comN a b ≤ b.length
  | x :: xs, y :: ys => by
    show (if x = y then comN xs ys + 1 else 0) ≤ _ ∧ (if x = y then comN xs ys + 1 else 0) ≤ _
    have := com_le xs ys
    split <;> simp only [List.length_cons] <;> omega
  | [], _ => ⟨Nat.zero_le _, Nat.zero_le _⟩
  | _ :: _, [] => ⟨Nat.zero_le _, Nat.zero_le _⟩
theorem com_lt : ∀ {a b : List Str} {k : Nat}, k < comN a b → ∃ s, a[k]? = some s ∧ b[k]? = some s
  | x :: xs, y :: ys, k, h => by
    have h' : k < (if x = y then comN xs ys + 1 else 0) := h
    by_cases e : x = y
    · rw [if_pos e] at h'
      cases k with
      | zero => exact ⟨x, rfl, by rw [e]; rfl⟩
      | succ k => exact com_lt (k := k) (by omega)
    · rw [if_neg e] at h'
      cases h'
  | [], _, k, h => nomatch h
  | _ :: _, [], k, h => nomatch h
theorem com_at : ∀ {a b : List Str} {s t : Str}, a[comN a b]? = some s → b[comN a b]? = some t → s ≠ t
  | x :: xs, y :: ys, s, t, h, h' => by
    by_cases e : x = y
    · have ec : comN (x :: xs) (y :: ys) = comN xs ys + 1 := if_pos e
      rw [ec] at h h'
      exact com_at (a := xs) (b := ys) h h'
    · have ec : comN (x :: xs) (y :: ys) = 0 := if_neg e
      rw [ec] at h h'
      cases h
      cases h'
      exact e
  | [], _, s, t, h, h' => by cases h
  | _ :: _, [], s, t, h, h' => by cases h'
theorem rel_steps {a b : List Str} (ha : ∀ s ∈ a, DT.isName s = true) : ∀ s ∈ relS a b, DT.isStep s := fun s hs => by
  rcases List.mem_append.mp hs with z | z
  · exact .inr (.inl (List.eq_of_mem_replicate z))
  · exact .inr (.inr (ha s (List.mem_of_mem_drop z)))
theorem rel_len {a b : List Str} : (relS a b).length ≤ a.length + b.length := by
  unfold relS
  rw [List.length_append, List.length_replicate, List.length_drop]
  omega
theorem plain_ff {st : List Str} (h : ∀ s ∈ st, DT.isStep s) (h0 : st ≠ []) : DT.plainT st false false = Txt.join "/" st := by
  rw [join_mk]
  have hb : DT.bodyL st false = DT.jn (st.map TL.tl) := rfl
  have hne : DT.jn (st.map TL.tl) ≠ [] := DT.jn_ne (fun s hs => by
    obtain ⟨x, hx, rfl⟩ := List.mem_map.mp hs
    exact (DT.isStep_ne (h x hx)).1) (by simpa using h0)
  unfold DT.plainT DT.plainL
  rw [hb, if_neg hne, if_neg (fun z => nomatch z.1), List.append_nil]
theorem plain_rf {st : List Str} {rt : Bool} (h : ∀ s ∈ st, DT.isStep s) (h0 : st ≠ []) : DT.plainT st rt false = (if rt = true then "/" else "") ++ Txt.join "/" st := by
  rw [join_mk]
  have hne : DT.jn (st.map TL.tl) ≠ [] := DT.jn_ne (fun s hs => by
    obtain ⟨x, hx, rfl⟩ := List.mem_map.mp hs
    exact (DT.isStep_ne (h x hx)).1) (by simpa using h0)
  have hb : DT.bodyL st rt ≠ [] := fun z => hne (List.append_eq_nil_iff.mp z).2
  unfold DT.plainT DT.plainL
  rw [if_neg hb, if_neg (fun z => nomatch z.1), List.append_nil]
  unfold DT.bodyL
  cases rt with
  | true =>
    show DT.mk ([47] ++ _) = ("/" : Str) ++ _
    rw [bar_mk, mk_app]
  | false =>
    show DT.mk ([] ++ _) = ("" : Str) ++ _
    rw [List.nil_append]
    exact TL.ext_tl (by rw [TL.tl_append, show TL.tl ("" : Str) = [] from by decide +kernel, List.nil_append])
theorem flat_rep (x : D) : ∀ n : Nat, (List.replicate n [x]).flatten = List.replicate n x
  | 0 => rfl
  | n + 1 => by
    rw [List.replicate_succ, List.flatten_cons, flat_rep x n]
    rfl
theorem cut_drop {xs : List D} {k : Nat} (h : k ≤ xs.length) : DD.cutD xs (some (k : Int)) none = xs.drop k := by
  unfold DD.cutD
  rw [HT.sIx_nat, HT.sIx_none, Nat.min_eq_left h]
  exact List.take_of_length_le (by rw [List.length_drop]; exact Nat.le_refl _)
theorem rel_data {a b : List Str} : List.replicate (b.length - comN a b) (strD "..") ++ (a.map strD).drop (comN a b) = (relS a b).map strD := by
  unfold relS
  rw [List.map_append, List.map_replicate, List.map_drop]
theorem len0K : ([] : List D).length ≤ sizeLine := Nat.zero_le _
theorem join_okB {st : List Str} (h : ∀ s ∈ st, DT.isStep s) (hl : st.length ≤ 1000000) : (st.map (·.length)).sum + st.length * ("/" : Str).length ≤ 16777216 := by
  have h1 := sum_le (b := 8) (zs := st) fun s hs => DT.isStep_len (h s hs)
  have hb : ("/" : Str).length = 1 := by decide +kernel
  rw [hb]
  omega
theorem Pth.sz {z : Str} (h : Pth z) : z.length ≤ sz := Nat.le_trans h.2 (by decide)
theorem Pth.st {z : Str} (h : Pth z) : ∀ s ∈ DT.steps z, DT.isStep s := DT.steps_isStep h.1
theorem Pth.n {z : Str} (h : Pth z) : (DT.steps z).length ≤ 50001 := steps_count h.2
theorem dec_str (a b : Str) : decide (V.str a = V.str b) = decide (a = b) := by
  rw [Bool.eq_iff_iff]
  simp
theorem dec_bl (a b : Bool) : decide (V.bl a = V.bl b) = decide (a = b) := by
  rw [Bool.eq_iff_iff]
  simp
theorem cut_take {xs : List D} {k : Nat} : DD.cutD xs none (some (k : Int)) = xs.take k := by
  unfold DD.cutD
  rw [HT.sIx_nat, HT.sIx_none]
  show (xs.drop 0).take (min k xs.length - 0) = xs.take k
  rw [List.drop_zero, Nat.sub_zero]
  rcases Nat.le_total k xs.length with h | h
  · rw [Nat.min_eq_left h]
  · rw [Nat.min_eq_right h, List.take_of_length_le (Nat.le_refl _), List.take_of_length_le h]
theorem cut_drop' {xs : List D} {k : Nat} : DD.cutD xs (some (k : Int)) none = xs.drop k := by
  rcases Nat.le_total k xs.length with h | h
  · exact cut_drop h
  · unfold DD.cutD
    rw [HT.sIx_nat, HT.sIx_none, Nat.min_eq_right h, List.drop_eq_nil_of_le (Nat.le_refl _), List.drop_eq_nil_of_le h, List.take_nil]
theorem cut_path {z w : Str} (h : DT.isPath z = true) : DT.isPath (cutT z w) = true := by
  have hst : ∀ s ∈ (DT.steps z).drop (DT.steps w).length, DT.isStep s := fun s hs => DT.steps_isStep h s (List.mem_of_mem_drop hs)
  unfold cutT
  generalize (DT.steps z).drop (DT.steps w).length = st at *
  by_cases h0 : st = []
  · rw [if_pos h0]
    decide +kernel
  · rw [if_neg h0]
    have hp := DT.plain_path (rt := false) (en := false) hst
    rw [plain_ff hst h0] at hp
    have e0 : ("" : Str) = DT.mk [] := by decide +kernel
    have ej : Txt.join "/" st = DT.mk (TL.tl (Txt.join "/" st)) := (DT.mk_tl' _).symm
    split
    · obtain ⟨a1, a2⟩ := DT.isPath_iff.mp hp
      refine DT.isPath_iff.mpr ⟨fun e => ?_, ?_⟩
      · have e2 := congrArg TL.tl e
        rw [TL.tl_append] at e2
        exact path_ne hp (List.append_eq_nil_iff.mp (e2.trans (by decide +kernel))).1
      · rw [TL.tl_append, show TL.tl ("/" : Str) = [47] from by decide +kernel]
        exact DT.good_cat a2 DT.good_nil
    · rw [show Txt.join "/" st ++ ("" : Str) = Txt.join "/" st from TL.ext_tl (by rw [TL.tl_append, show TL.tl ("" : Str) = [] from by decide +kernel, List.append_nil])]
      exact hp
/-! ### names in the place of dots -/
section
open PySem.StrLaws
theorem repl_free {y z : List Nat} {c : Nat} {t : List Nat} (hy : y = c :: t) : ∀ {p s : List Nat}, c ∉ p → replL y z (p ++ s) = p ++ replL y z s
  | [], s, _ => rfl
  | d :: p, s, h => by
    have hd : d ≠ c := fun e => h (e ▸ List.mem_cons_self)
    have ih := repl_free (z := z) hy (p := p) (s := s) fun e => h (List.mem_cons_of_mem _ e)
    rw [List.cons_append, replL_miss, ih]
    · rfl
    · subst hy
      rw [List.length_cons, List.take_succ_cons]
      intro e
      injection e with e1 e2
      exact hd e1
theorem repl_freeE {y z : List Nat} {c : Nat} {t : List Nat} (hy : y = c :: t) {p : List Nat} (h : c ∉ p) : replL y z p = p := by
  have e := repl_free (z := z) hy (p := p) (s := []) h
  rw [List.append_nil, replL_nil, List.append_nil] at e
  exact e
def RpOk (y z : List Nat) (f : List Nat → List Nat) (p : List Nat) : Prop := replL y z p = f p ∧ ∀ s, replL y z (p ++ 47 :: s) = f p ++ 47 :: replL y z s
theorem repl_bar {c : Nat} {t z s : List Nat} (hc : c ≠ 47) : replL (c :: t) z (47 :: s) = 47 :: replL (c :: t) z s := by
  rw [replL_miss]
  rw [List.length_cons, List.take_succ_cons]
  intro e
  injection e with e1 e2
  exact hc e1.symm
def up1 (w p : List Nat) : List Nat := if p = [46, 46] then w else p
def dot1 (w p : List Nat) : List Nat := if p = [46] then w else p
theorem rp_up {w p : List Nat} (h : p = [46] ∨ p = [46, 46] ∨ 46 ∉ p) : RpOk [46, 46] w (up1 w) p := by
  rcases h with rfl | rfl | h
  · refine ⟨?_, fun s => ?_⟩
    · rw [replL_miss (by decide), replL_nil]
      rfl
    · show replL [46, 46] w (46 :: 47 :: s) = 46 :: 47 :: _
      rw [replL_miss (by simp), repl_bar (by decide)]
  · refine ⟨?_, fun s => ?_⟩
    · rw [replL_hit (by simp) (by decide)]
      show w ++ replL [46, 46] w [] = _
      rw [replL_nil, List.append_nil]
      rfl
    · show replL [46, 46] w (46 :: 46 :: 47 :: s) = _
      rw [replL_hit (by simp) (by simp)]
      show w ++ replL [46, 46] w (47 :: s) = _
      rw [repl_bar (by decide)]
      rfl
  · have hn : p ≠ [46, 46] := fun e => h (by rw [e]; simp)
    have e : up1 w p = p := if_neg hn
    unfold RpOk
    rw [e]
    refine ⟨repl_freeE rfl h, fun s => ?_⟩
    rw [repl_free rfl h, repl_bar (by decide)]
theorem rp_dot {w p : List Nat} (h : p = [46] ∨ 46 ∉ p) : RpOk [46] w (dot1 w) p := by
  rcases h with rfl | h
  · refine ⟨?_, fun s => ?_⟩
    · rw [replL_hit (by simp) (by decide)]
      show w ++ replL [46] w [] = _
      rw [replL_nil, List.append_nil]
      rfl
    · show replL [46] w (46 :: 47 :: s) = _
      rw [replL_hit (by simp) (by simp)]
      show w ++ replL [46] w (47 :: s) = _
      rw [repl_bar (by decide)]
      rfl
  · have hn : p ≠ [46] := fun e => h (by rw [e]; simp)
    have e : dot1 w p = p := if_neg hn
    unfold RpOk
    rw [e]
    refine ⟨repl_freeE rfl h, fun s => ?_⟩
    rw [repl_free rfl h, repl_bar (by decide)]
theorem repl_jn {y w : List Nat} {f : List Nat → List Nat} : ∀ {ps : List (List Nat)}, (∀ p ∈ ps, RpOk y w f p) → replL y w (DT.jn ps) = DT.jn (ps.map f)
  | [], _ => replL_nil
  | [p], h => (h p List.mem_cons_self).1
  | p :: q :: r, h => by
    show replL y w (p ++ 47 :: DT.jn (q :: r)) = f p ++ 47 :: DT.jn ((q :: r).map f)
    rw [(h p List.mem_cons_self).2, repl_jn fun x hx => h x (List.mem_cons_of_mem _ hx)]
theorem name_46 {p : List Nat} (h : DT.isName (DT.mk p) = true) : 46 ∉ p ∧ 47 ∉ p ∧ p ≠ [] ∧ p.length ≤ 8 := by
  have hb := DT.name_bar h
  unfold DT.isName at h
  simp only [Bool.and_eq_true, decide_eq_true_eq, List.all_eq_true] at h
  have e : (DT.mk p).length = p.length := by rw [TL.len_tl]; rfl
  rw [e] at h
  refine ⟨fun hm => ?_, hb, fun z => ?_, h.2.1⟩
  · exact absurd (h.2.2 46 hm) (by decide)
  · rw [z] at h
    exact absurd h.1 (by decide)
theorem piece_cases {z : Str} (h : DT.isPath z = true) : ∀ p ∈ DT.pcs (TL.tl z), p = [] ∨ p = [46] ∨ p = [46, 46] ∨ DT.isName (DT.mk p) = true := fun p hp => by
  have := (DT.isPath_iff.mp h).2 p hp
  rcases (Bool.or_eq_true _ _).mp this with q | q
  · rw [DT.dotty_iff] at q
    simp only [Bool.or_eq_true, decide_eq_true_eq] at q
    rcases q with q | q | q
    · exact .inl (DT.mk_eq_nil.mp q)
    · exact .inr (.inl (DT.mk_inj (q.trans (show ("." : Str) = DT.mk [46] by decide +kernel))))
    · exact .inr (.inr (.inl (DT.mk_inj (q.trans (show (".." : Str) = DT.mk [46, 46] by decide +kernel)))))
  · exact .inr (.inr (.inr q))
theorem jn_len9' : ∀ {ps : List (List Nat)}, (∀ p ∈ ps, p.length ≤ 8) → (DT.jn ps).length ≤ ps.length * 9
  | [], _ => Nat.zero_le _
  | [p], h => by
    have := h p List.mem_cons_self
    show p.length ≤ _
    simp only [List.length_cons, List.length_nil]
    omega
  | p :: q :: r, h => by
    have h1 := h p List.mem_cons_self
    have ih := jn_len9' (ps := q :: r) fun x hx => h x (List.mem_cons_of_mem _ hx)
    show (p ++ 47 :: DT.jn (q :: r)).length ≤ _
    rw [List.length_append, List.length_cons]
    simp only [List.length_cons] at ih ⊢
    omega
theorem dots_gone {z w0 w1 : Str} (h : DT.isPath z = true) (h0 : DT.isName w0 = true) (h1 : DT.isName w1 = true) : DT.isPath (Txt.replace (Txt.replace z ".." w1) "." w0) = true ∧ (Txt.replace (Txt.replace z ".." w1) "." w0).length ≤ 9 * (z.length + 1) := by
  have hc := piece_cases h
  have eup : TL.tl (".." : Str) = [46, 46] := by decide +kernel
  have edot : TL.tl ("." : Str) = [46] := by decide +kernel
  have e1 : TL.tl (Txt.replace z ".." w1) = replL [46, 46] (TL.tl w1) (TL.tl z) := by
    rw [← eup]
    exact replace_list (by decide +kernel)
  have e2 : ∀ x : Str, TL.tl (Txt.replace x "." w0) = replL [46] (TL.tl w0) (TL.tl x) := fun x => by
    rw [← edot]
    exact replace_list (by decide +kernel)
  have n0 := name_46 (p := TL.tl w0) (by rw [DT.mk_tl']; exact h0)
  have n1 := name_46 (p := TL.tl w1) (by rw [DT.mk_tl']; exact h1)
  have a1 : replL [46, 46] (TL.tl w1) (TL.tl z) = DT.jn ((DT.pcs (TL.tl z)).map (up1 (TL.tl w1))) := by
    rw [← repl_jn (ps := DT.pcs (TL.tl z)) fun p hp => rp_up ?_, DT.jn_pcs]
    rcases hc p hp with q | q | q | q
    · rw [q]
      exact .inr (.inr (fun z => nomatch z))
    · exact .inl q
    · exact .inr (.inl q)
    · exact .inr (.inr (name_46 q).1)
  have c2 : ∀ p ∈ (DT.pcs (TL.tl z)).map (up1 (TL.tl w1)), p = [] ∨ p = [46] ∨ DT.isName (DT.mk p) = true := fun p hp => by
    obtain ⟨q, hq, rfl⟩ := List.mem_map.mp hp
    unfold up1
    split
    · right; right
      rw [DT.mk_tl']
      exact h1
    · rename_i hne
      rcases hc q hq with y | y | y | y
      · exact .inl y
      · exact .inr (.inl y)
      · exact absurd y hne
      · exact .inr (.inr y)
  have a2 : TL.tl (Txt.replace (Txt.replace z ".." w1) "." w0) = DT.jn (((DT.pcs (TL.tl z)).map (up1 (TL.tl w1))).map (dot1 (TL.tl w0))) := by
    rw [e2, e1, a1]
    refine repl_jn fun p hp => rp_dot ?_
    rcases c2 p hp with q | q | q
    · rw [q]
      exact .inr (fun z => nomatch z)
    · exact .inl q
    · exact .inr (name_46 q).1
  have c3 : ∀ p ∈ ((DT.pcs (TL.tl z)).map (up1 (TL.tl w1))).map (dot1 (TL.tl w0)), p = [] ∨ DT.isName (DT.mk p) = true := fun p hp => by
    obtain ⟨q, hq, rfl⟩ := List.mem_map.mp hp
    unfold dot1
    split
    · right
      rw [DT.mk_tl']
      exact h0
    · rename_i hne
      rcases c2 q hq with y | y | y
      · exact .inl y
      · exact absurd y hne
      · exact .inr y
  have ln : (((DT.pcs (TL.tl z)).map (up1 (TL.tl w1))).map (dot1 (TL.tl w0))).length ≤ z.length + 1 := by
    rw [List.length_map, List.length_map, TL.len_tl]
    exact pcs_len _
  have ne : ((DT.pcs (TL.tl z)).map (up1 (TL.tl w1))).map (dot1 (TL.tl w0)) ≠ [] := fun e => DT.pcs_ne _ (List.map_eq_nil_iff.mp (List.map_eq_nil_iff.mp e))
  have emp : ∀ p, p ∈ DT.pcs (TL.tl z) → dot1 (TL.tl w0) (up1 (TL.tl w1) p) = [] → p = [] := fun p hp e => by
    unfold dot1 at e
    split at e
    · exact absurd e n0.2.2.1
    · unfold up1 at e
      split at e
      · exact absurd e n1.2.2.1
      · exact e
  have no47 : ∀ p ∈ ((DT.pcs (TL.tl z)).map (up1 (TL.tl w1))).map (dot1 (TL.tl w0)), 47 ∉ p := fun p hp => by
    rcases c3 p hp with q | q
    · rw [q]
      exact fun z => nomatch z
    · exact (name_46 q).2.1
  have pj := DT.pcs_jn _ ne no47
  refine ⟨DT.isPath_iff.mpr ⟨fun e => ?_, ?_⟩, ?_⟩
  · have e' : DT.jn (((DT.pcs (TL.tl z)).map (up1 (TL.tl w1))).map (dot1 (TL.tl w0))) = [] := by
      rw [← a2, e]
      decide +kernel
    rw [e'] at pj
    have hz : DT.pcs (TL.tl z) = [[]] := by
      have pj' : (DT.pcs (TL.tl z)).map (fun p => dot1 (TL.tl w0) (up1 (TL.tl w1) p)) = [[]] := by
        rw [List.map_map] at pj
        exact pj.symm
      have hl := congrArg List.length pj'
      rw [List.length_map] at hl
      match hm : DT.pcs (TL.tl z), hl with
      | [p], _ =>
        rw [hm] at pj'
        have : dot1 (TL.tl w0) (up1 (TL.tl w1) p) = [] := by
          injection pj'
        rw [emp p (by rw [hm]; exact List.mem_cons_self) this]
    have hj := DT.jn_pcs (TL.tl z)
    rw [hz] at hj
    exact path_ne h hj.symm
  · intro p hp
    rw [a2, pj] at hp
    rcases c3 p hp with q | q
    · rw [q]
      decide +kernel
    · rw [q, Bool.or_true]
  · rw [TL.len_tl, a2]
    have := jn_len9' (ps := ((DT.pcs (TL.tl z)).map (up1 (TL.tl w1))).map (dot1 (TL.tl w0))) fun p hp => by
      rcases c3 p hp with q | q
      · rw [q]
        exact Nat.zero_le _
      · exact (name_46 q).2.2.2
    omega
end
/-- is a step, told as data, a name -/
def nmB : D → Bool
  | .s (.str s) => DT.isName s
  | _ => false
/-- is it made of dots -/
def dtB : D → Bool
  | .s (.str s) => decide (s ∈ [("." : Str), ".."])
  | _ => false
theorem names_all {v : Str} : ((DT.steps v).map DT.isName).all id = namesB v := by
  unfold namesB
  rw [List.all_map]
  rfl
theorem names_mem {v : Str} (h : namesB v = true) : ∀ s ∈ DT.steps v, DT.isName s = true := List.all_eq_true.mp h
theorem names_dots {v : Str} (h : DT.isPath v = true) : decide ((DT.steps v).filter (fun s => decide (s ∈ [("." : Str), ".."])) = []) = namesB v := by
  rw [Bool.eq_iff_iff, decide_eq_true_eq, List.filter_eq_nil_iff]
  unfold namesB
  rw [List.all_eq_true]
  constructor
  · intro g s hs
    have g1 : s ∉ [("." : Str), ".."] := by simpa using g s hs
    rcases DT.steps_isStep h s hs with q | q | q
    · exact absurd (by rw [q]; simp) g1
    · exact absurd (by rw [q]; simp) g1
    · exact q
  · intro g s hs hm
    obtain ⟨w1, w2⟩ := DT.name_nd (g s hs)
    have q4 := of_decide_eq_true hm
    simp only [List.mem_cons, List.not_mem_nil, or_false] at q4
    rcases q4 with y | y
    · exact w1 y
    · exact w2 y
theorem join_len {st : List Str} (h : ∀ s ∈ st, DT.isStep s) (h0 : st ≠ []) : (Txt.join "/" st).length ≤ st.length * 9 + 2 := by
  have := DT.plain_len (rt := false) (en := false) h
  rw [plain_ff h h0] at this
  exact this
theorem join_ne {st : List Str} (h : ∀ s ∈ st, DT.isStep s) : decide (Txt.join "/" st = "") = decide (st = []) := by
  rw [Bool.eq_iff_iff, decide_eq_true_eq, decide_eq_true_eq]
  constructor
  · intro e
    refine Classical.byContradiction fun h0 => ?_
    have hp := DT.plain_path (rt := false) (en := false) h
    rw [plain_ff h h0, e] at hp
    exact absurd hp (by decide +kernel)
  · rintro rfl
    decide +kernel
theorem begun_self (z : Str) : begunB z z = true := by
  unfold begunB
  rw [decide_eq_true rfl, List.take_length, decide_eq_true rfl]
  rfl
theorem cut_self (z : Str) : cutT z z = "." := by
  unfold cutT
  rw [List.drop_length, if_pos rfl]
theorem cutD_eq (z w : Str) : cutD36 z w = .tup [strD (if begunB z w = true then "told" else "begun"), strD (if begunB z w = true then cutT z w else w)] := by
  unfold cutD36
  split <;> rfl
theorem told_eq (b : Bool) : decide (V.str (if b = true then ("told" : Str) else "begun") = V.str ("told" : Str)) = b := by
  cases b <;> decide +kernel
theorem same_strK (n : Nat) (z : Str) : SameOk n (strD z) := by cases n <;> (unfold SameOk; trivial)
theorem same_blK (n : Nat) (b : Bool) : SameOk n (blD b) := by cases n <;> (unfold SameOk; trivial)
theorem same_twoK (n : Nat) (x y : Str) : SameOk (n + 1) (.tup [strD x, strD y]) := by
  unfold SameOk
  refine ⟨by show 2 ≤ 1000000; decide, fun d hd => ?_⟩
  rcases List.mem_cons.mp hd with q | q
  · rw [q]
    exact same_strK _ _
  · rw [List.mem_singleton.mp q]
    exact same_strK _ _
theorem same_cutD (n : Nat) (z w : Str) : SameOk (n + 1) (cutD36 z w) := by
  rw [cutD_eq]
  exact same_twoK _ _ _
theorem same_relD (n : Nat) (z w : Str) : SameOk (n + 1) (relD36 z w) := by
  unfold relD36
  split
  · split
    · split
      · exact same_twoK _ _ _
      · exact same_twoK _ _ _
    · exact same_twoK _ _ _
  · exact same_twoK _ _ _
/-- both replaced -/
def rplD (w0 w1 : Str) : D → D
  | .s (.str z) => strD (Txt.replace (Txt.replace z ".." w1) "." w0)
  | d => d
theorem rd_is_name {K : PySem.W.Frag} {mg : Str → Option Value} (T : Txt K mg) (E : XK) : BodyOk K (φ_is_name T) N_is_name E (t_is_name T E) := by
  intro ds m nx X F B h hE
  obtain ⟨d, rfl, h⟩ := h
  rw [st_is_name]
  unfold t_is_name
  refine ws_ret (we_andV ?_)
  refine we_cb (wa_cons (we_var rfl (wa_cons (we_c (wa_nil ?_)))))
  rcases h with ⟨z, rfl, hz, h⟩ | ⟨⟨t, ht, hk⟩, h⟩
  · refine wc_isi (.str z) rfl (kit_ty (by decide +kernel)) ⟨true, rfl, fun _ => ?_, (fun q => nomatch q)⟩
    refine we_andV ?_
    refine we_chain (we_c (we_cb (wa_cons (we_var rfl (wa_nil ?_)))))
    refine wc_len ⟨le_line hz, rfl⟩ (wo_I0 ⟨_, rfl, fun h1 => ?_, fun h1 => ?_⟩)
    · refine we_c (wo_I0 ⟨_, rfl, fun h2 => ?_, fun h2 => ?_⟩)
      · refine we_cb (wa_cons ?_)
        refine we_lcMap (wi_any (we_var rfl ⟨_, rfl, fun d => blD (match d with | .s (.str c) => decide ((c.cps.toList.headD 0) ∈ DT.letters) | _ => false), ?_, fun F' d hd => ?_, ?_⟩))
        · rw [chrs_length]
          exact le_line hz
        · obtain ⟨c, hc, rfl⟩ := List.mem_map.mp hd
          refine wgw_name List.mem_cons_self ⟨rfl, ?_⟩
          exact we_op (we_var rfl (we_c (wo_inC ⟨rfl, rfl⟩)))
        · refine wa_nil ?_
          have e : (chrs z).map (fun d => blD (match d with | .s (.str c) => decide ((c.cps.toList.headD 0) ∈ DT.letters) | _ => false)) = (((TL.tl z).map fun c => decide (c ∈ DT.letters))).map fun b => .s (.bl b) := by
            unfold chrs
            rw [List.map_map, List.map_map]
            rfl
          rw [e]
          refine wc_all ?_
          have e2 : DT.isName z = ((TL.tl z).map fun c => decide (c ∈ DT.letters)).all id := by
            unfold DT.isName
            have a1 : (1 : Int) ≤ (z.length : Nat) := of_decide_eq_true h1
            have a2 : ((z.length : Nat) : Int) ≤ 8 := of_decide_eq_true h2
            rw [decide_eq_true (show 1 ≤ z.length by omega), decide_eq_true (show z.length ≤ 8 by omega), List.all_map]
            rfl
          rw [← e2]
          exact h
      · have e2 : DT.isName z = false := by
          unfold DT.isName
          have a2 : ¬ ((z.length : Nat) : Int) ≤ 8 := of_decide_eq_false h2
          rw [decide_eq_false (show ¬ z.length ≤ 8 by omega)]
          simp
        rw [e2] at h
        exact h
    · have e2 : DT.isName z = false := by
        unfold DT.isName
        have a2 : ¬ (1 : Int) ≤ ((z.length : Nat) : Int) := of_decide_eq_false h1
        rw [decide_eq_false (show ¬ 1 ≤ z.length by omega)]
        rfl
      rw [e2] at h
      exact ⟨false, rfl, (fun q => nomatch q), fun _ => h⟩
  · exact wc_isi ht rfl hk ⟨false, rfl, (fun q => nomatch q), fun _ => h⟩
theorem rd_is_path_text {K : PySem.W.Frag} {mg : Str → Option Value} (T : Txt K mg) (E : XK) : BodyOk K (φ_is_path_text T) N_is_path_text E (t_is_path_text T E) := by
  intro ds m nx X F B h hE
  obtain ⟨d, rfl, h⟩ := h
  rw [st_is_path_text]
  unfold t_is_path_text
  refine ws_seq (ws_if (wt_or (wt_not (wt_B (we_cb (wa_cons (we_var rfl (wa_cons (we_c (wa_nil ?_))))))))))
  rcases h with ⟨z, rfl, hz, h⟩ | ⟨⟨t, ht, hk⟩, h⟩
  · refine wc_isi (.str z) rfl (kit_ty (by decide +kernel)) ⟨true, rfl, fun _ => ?_, (fun q => nomatch q)⟩
    refine wt_test (we_op (we_var rfl (we_c (wo_eqS rfl ⟨_, rfl, fun q => ?_, fun q => ?_⟩))))
    · refine ws_ret (we_c ?_)
      have e : z = "" := by simpa using of_decide_eq_true q
      have e2 : DT.isPath z = false := by
        unfold DT.isPath
        rw [decide_eq_true e]
        rfl
      rw [e2] at h
      exact h
    · have e : ¬ z = "" := by simpa using of_decide_eq_false q
      refine ws_next (ws_ret (we_cb (wa_cons ?_)))
      refine we_lcMap (wi_any (we_m1 (we_var rfl ⟨⟨_, rfl⟩, we_c (wm_split bar1 (split_line hz) ⟨_, rfl, fun d => blD (match d with | .s (.str p) => DT.dotty p || DT.isName p | _ => false), ?_, fun F' d hd => ?_, ?_⟩)⟩)))
      · rw [List.length_map, DT.split_eq]
        exact pieces_line hz
      · rw [DT.split_eq] at hd
        obtain ⟨p, hp, rfl⟩ := List.mem_map.mp hd
        refine wgw_name List.mem_cons_self ⟨rfl, ?_⟩
        refine we_orV (we_op (we_var rfl (we_tup (wa_cons (we_c (wa_cons (we_c (wa_cons (we_c (wa_nil ⟨by decide, ?_⟩))))))))))
        refine wo_inT (xs := [.str "", .str ".", .str ".."]) rfl rfl ⟨_, rfl, fun q => ?_, fun q => ?_⟩
        · rw [inDots] at q
          refine we_call okx0 (wa_cons (we_var rfl (wa_nil ⟨_, rfl, .inl ⟨p, rfl, Nat.le_trans (pieces_each hp) hz, ?_, rfl⟩⟩)))
          show blD (DT.isName p) = blD (DT.dotty p || DT.isName p)
          rw [q]
          rfl
        · rw [inDots] at q
          refine ⟨?_, rfl⟩
          show blD true = blD (DT.dotty p || DT.isName p)
          rw [q]
          rfl
      · refine wa_nil ?_
        rw [DT.split_eq, List.map_map]
        have e1 : (DT.pieces z).map ((fun d => blD (match d with | .s (.str p) => DT.dotty p || DT.isName p | _ => false)) ∘ fun y => D.s (.str y)) = ((DT.pieces z).map fun p => DT.dotty p || DT.isName p).map fun b => .s (.bl b) := by
          rw [List.map_map]
          rfl
        rw [e1]
        refine wc_all ?_
        have e2 : DT.isPath z = ((DT.pieces z).map fun p => DT.dotty p || DT.isName p).all id := by
          unfold DT.isPath
          rw [decide_eq_false e, List.all_map]
          rfl
        rw [← e2]
        exact h
  · exact wc_isi ht rfl hk ⟨false, rfl, (fun q => nomatch q), fun _ => ⟨fun _ => ws_ret (we_c h), fun q => nomatch q⟩⟩
theorem rd_Path___init__ {K : PySem.W.Frag} {mg : Str → Option Value} (T : Txt K mg) (E : XK) : BodyOk K (φ_Path___init__ T) N_Path___init__ E (t_Path___init__ T E) := by
  intro ds m nx X F B h hE
  obtain ⟨x, z, rfl, hp, hz, ho, h⟩ := h
  rw [st_Path___init__]
  unfold t_Path___init__
  refine ws_seq (ws_if (wt_not (wt_B (we_call okx0 (wa_cons (we_var rfl (wa_nil ⟨_, rfl, .inl ⟨z, rfl, hz, _, rfl, ?_⟩⟩)))))))
  rw [hp]
  refine ⟨(fun q => nomatch q), fun _ => ws_next (ws_seq (ws_fld (we_var rfl (we_var rfl ⟨x, T.c_Path, [], [], rfl, T.y_Path.cl, T.n_Path_text, ho, by decide, ?_⟩))))⟩
  obtain ⟨c, hc, hc2⟩ := first_of (path_ne hp)
  refine ws_seq (ws_fld (we_op (we_op (we_var rfl (we_c (wo_ixS (le_line hz) hc (we_c ?_)))))))
  refine wo_eqS rfl ?_
  rw [bar_eq]
  refine we_var rfl ⟨x, T.c_Path, _, _, rfl, T.y_Path.cl, T.n_Path_rooted, putM_same, by decide, ?_⟩
  refine ws_fld (we_op (we_op (we_m1 (we_var rfl ⟨⟨_, rfl⟩, we_c (wm_split bar1 (split_line hz) (we_un (we_c (wu_neg ?_))))⟩))))
  rw [DT.split_eq]
  refine wo_ixL (d := strD (DT.lastP z)) (atI_last ?_) (we_tup (wa_cons (we_c (wa_cons (we_c (wa_cons (we_c (wa_nil ⟨by decide, ?_⟩))))))))
  · rw [List.getLast?_map, pieces_last]
    rfl
  refine wo_inT (xs := [.str "", .str ".", .str ".."]) rfl rfl (we_var rfl ⟨x, T.c_Path, _, _, rfl, T.y_Path.cl, T.n_Path_ended, putM_same, by decide, ?_⟩)
  have e : DT.rooted z = decide (c = 47) := by
    unfold DT.rooted
    rw [hc2]
    rw [Bool.eq_iff_iff]
    simp
  have h' := h
  unfold pV at h'
  rw [e] at h'
  simp only [putM_put]
  exact h'
theorem rd_Path___eq__ {K : PySem.W.Frag} {mg : Str → Option Value} (T : Txt K mg) (E : XK) : BodyOk K (φ_Path___eq__ T) N_Path___eq__ E (t_Path___eq__ T E) := by
  intro ds m nx X F B h hE
  obtain ⟨z, y, rfl, h⟩ := h
  rw [st_Path___eq__]
  unfold t_Path___eq__
  refine ws_ret (we_andV (we_cb (wa_cons (we_var rfl (wa_cons (we_c (wa_nil ?_)))))))
  refine wc_isi (.ins T.y_Path _ _) rfl T.kt_Path_Path ⟨true, rfl, (fun _ => ?_), fun q => nomatch q⟩
  refine we_op (we_fld (we_var rfl ⟨T.c_Path, strD z, T.y_Path.cl, T.n_Path_text, ⟨rfl, rfl⟩, we_fld (we_var rfl ⟨T.c_Path, strD y, T.y_Path.cl, T.n_Path_text, ⟨rfl, rfl⟩, wo_eqS rfl ?_⟩)⟩))
  have e : decide (V.str z = V.str y) = decide (z = y) := by
    rw [Bool.eq_iff_iff]
    simp
  rw [e]
  exact h
theorem rd_Path___len__ {K : PySem.W.Frag} {mg : Str → Option Value} (T : Txt K mg) (E : XK) : BodyOk K (φ_Path___len__ T) N_Path___len__ E (t_Path___len__ T E) := by
  intro ds m nx X F B h hE
  obtain ⟨z, rfl, hz, h⟩ := h
  rw [st_Path___len__]
  unfold t_Path___len__
  refine ws_ret (we_cb (wa_cons (we_meth okx0 (we_var rfl ⟨⟨rfl, by decide +kernel⟩, wa_nil ⟨z, rfl, hz, wa_nil (wc_len (n := (DT.steps z).length) ?_ h)⟩⟩))))
  show (DT.steps z).length = ((DT.steps z).map strD).length
  rw [List.length_map]
theorem steps_rd {K : PySem.W.Frag} {F B : Hp} {ρ : DD.Env} {m : Mem} {z : Str} {Q : QD} {te : TE} (hz : z.length ≤ sz) (ht : ∀ Q', Q' (strD z) m → WE K F B te ρ m Q') (h1 : 1 < ρ.length) (h : Q (strsD (DT.steps z)) m) :
    WE K F B (tLc (iAny K (tM1 rSplit te (tC (.str "/")))) (gName 1) (tTest (tOp (rNeA K) (tVar 1) (tC (.str "")))) (tVar 1) [1]) ρ m Q := by
  refine we_lcFilter (wi_any (we_m1 (ht _ ⟨⟨_, rfl⟩, we_c (wm_split bar1 (split_line hz) ⟨_, rfl, fun d => (match d with | .s (.str p) => !decide (p = "") | _ => false), id, ?_, fun F' d hd => ?_, ?_⟩)⟩)))
  · rw [List.length_map, DT.split_eq]
    exact pieces_line hz
  · rw [DT.split_eq] at hd
    obtain ⟨p, hp, rfl⟩ := List.mem_map.mp hd
    have hg : ((wipeD ρ [1]).set 1 (some (strD p)))[1]? = some (some (strD p)) := by
      rw [List.getElem?_set_self]
      show 1 < ((wipeD ρ []).set 1 none).length
      rw [List.length_set]
      exact h1
    refine wgw_name List.mem_cons_self ⟨rfl, ?_⟩
    refine wt_test (we_op (we_var hg (we_c (wo_neS rfl ⟨_, rfl, ?_, rfl, fun q => we_var hg ⟨rfl, rfl⟩⟩))))
    show (!decide (V.str p = V.str "")) = !decide (p = "")
    congr 1
    rw [Bool.eq_iff_iff]
    simp
  · rw [DT.split_eq, List.map_id]
    have e : ((DT.pieces z).map fun y => D.s (.str y)).filter (fun d => (match d with | .s (.str p) => !decide (p = "") | _ => false)) = (DT.steps z).map strD := by
      unfold DT.steps
      rw [List.filter_map]
      rfl
    rw [e]
    exact h
theorem rd_Path_steps {K : PySem.W.Frag} {mg : Str → Option Value} (T : Txt K mg) (E : XK) : BodyOk K (φ_Path_steps T) N_Path_steps E (t_Path_steps T E) := by
  intro ds m nx X F B h hE
  obtain ⟨z, rfl, hz, h⟩ := h
  rw [st_Path_steps]
  unfold t_Path_steps
  exact ws_ret (steps_rd hz (fun Q' q => we_fld (we_var rfl ⟨T.c_Path, strD z, T.y_Path.cl, T.n_Path_text, ⟨rfl, rfl⟩, q⟩)) (by show 1 < 2; decide) h)
theorem rd_Path_begins {K : PySem.W.Frag} {mg : Str → Option Value} (T : Txt K mg) (E : XK) : BodyOk K (φ_Path_begins T) N_Path_begins E (t_Path_begins T E) := by
  intro ds m nx X F B h hE
  obtain ⟨z, w, rfl, pz, pw, h⟩ := h
  rw [st_Path_begins]
  unfold t_Path_begins
  have nw := pw.n
  unfold begunB at h
  refine ws_ret (we_andV (we_op (we_fld (we_var rfl ⟨T.c_Path, blD (DT.rooted z), T.y_Path.cl, T.n_Path_rooted, ⟨rfl, rfl⟩, we_fld (we_var rfl ⟨T.c_Path, blD (DT.rooted w), T.y_Path.cl, T.n_Path_rooted, ⟨rfl, rfl⟩, wo_eqS rfl ⟨_, rfl, fun q => ?_, fun q => ?_⟩⟩)⟩))))
  · refine we_op (we_sl (we_meth okx0 (we_var rfl ⟨⟨rfl, by decide +kernel⟩, wa_nil ⟨z, rfl, pz.sz, wpt_no (wpt_some (we_cb (wa_cons (we_var rfl (wa_nil (wc_lenO okx0 rfl ⟨w, rfl, pw.sz, ((DT.steps w).length : Nat), rfl, Int.natCast_nonneg _, by omega, ?_⟩))))))⟩⟩)))
    refine ⟨_, rfl, wsl_L ?_⟩
    rw [cut_take, ← List.map_take]
    refine we_meth okx0 (we_var rfl ⟨⟨rfl, by decide +kernel⟩, wa_nil ⟨w, rfl, pw.sz, wo_eqStrs (xs := (DT.steps z).take (DT.steps w).length) (ys := DT.steps w) (stepsOk fun s hs => pz.st s (List.mem_of_mem_take hs)) (stepsOk pw.st) ?_⟩⟩)
    rw [dec_bl] at q
    rw [q, Bool.true_and] at h
    exact h
  · rw [dec_bl] at q
    rw [q, Bool.false_and] at h
    first
      | exact h
      | (rw [dec_bl, q]; exact h)
theorem rd_Path_cut {K : PySem.W.Frag} {mg : Str → Option Value} (T : Txt K mg) (E : XK) : BodyOk K (φ_Path_cut T) N_Path_cut E (t_Path_cut T E) := by
  intro ds m nx X F B h hE
  obtain ⟨z, w, rfl, pz, pw, h, hx⟩ := h
  rw [st_Path_cut]
  unfold t_Path_cut
  have nw := pw.n
  have nz := pz.n
  refine ws_seq (ws_if (wt_not (wt_B (we_meth okx0 (we_var rfl ⟨⟨rfl, by decide +kernel⟩, wa_cons (we_var rfl (wa_nil ⟨z, w, rfl, pz, pw, begunB z w, rfl, fun q => ?_, fun q => ?_⟩))⟩)))))
  · have q' : begunB z w = false := by simpa using q
    refine ws_raise hE (wa_cons (we_var rfl (wa_nil ?_)))
    exact ⟨_, rfl, hx q'⟩
  have h := h (by simpa using q)
  refine ws_next (ws_seq (ws_asg (we_sl (we_meth okx0 (we_var rfl ⟨⟨rfl, by decide +kernel⟩, wa_nil ⟨z, rfl, pz.sz, wpt_some (we_cb (wa_cons (we_var rfl (wa_nil (wc_lenO okx0 rfl ⟨w, rfl, pw.sz, ((DT.steps w).length : Nat), rfl, Int.natCast_nonneg _, by omega, ?_⟩)))))⟩⟩)))))
  refine ⟨_, rfl, wpt_no (wsl_L ?_)⟩
  rw [cut_drop', ← List.map_drop]
  have hst : ∀ s ∈ (DT.steps z).drop (DT.steps w).length, DT.isStep s := fun s hs => pz.st s (List.mem_of_mem_drop hs)
  have hsl : ((DT.steps z).drop (DT.steps w).length).length ≤ 50001 := by
    rw [List.length_drop]
    omega
  have hcp := cut_path (w := w) pz.1
  unfold cutT at h hcp
  generalize (DT.steps z).drop (DT.steps w).length = st at *
  refine ws_seq (ws_if (wt_test (we_op (we_var rfl (we_lst (wa_nil ⟨len0K, wo_eqStrs (xs := st) (ys := []) (stepsOk hst) (fun y hy => nomatch hy) ⟨_, rfl, fun q => ?_, fun q => ws_next ?_⟩⟩))))))
  · have e : st = [] := of_decide_eq_true q
    rw [if_pos e] at h
    exact ws_ret (make_path T (we_c ⟨_, rfl, by decide +kernel, by decide +kernel, h⟩))
  have hne : st ≠ [] := of_decide_eq_false q
  rw [if_neg hne] at h hcp
  have hjl := join_len hst hne
  obtain ⟨c, hc, hc2⟩ := last_of (path_ne pz.1)
  have et : DT.tlLast z = some c := hc2
  rw [et] at h hcp
  refine ws_ret (make_path T (we_op (we_m1 (we_c ⟨⟨_, rfl⟩, we_var rfl (wm_join (join_okB hst (by omega)) ?_)⟩))))
  refine we_if (wt_test (we_op (we_op (we_fld (we_var rfl ⟨T.c_Path, strD z, T.y_Path.cl, T.n_Path_text, ⟨rfl, rfl⟩, we_un (we_c (wu_neg (wo_ixS (le_line pz.sz) hc (we_c ?_))))⟩)))))
  refine wo_eqS rfl ⟨_, rfl, ?_⟩
  rw [bar_eq]
  have hb1 : ("/" : Str).length = 1 := by decide +kernel
  have hb0 : ("" : Str).length = 0 := by decide +kernel
  refine ⟨fun q2 => ?_, fun q2 => ?_⟩
  · rw [if_pos (congrArg some (of_decide_eq_true q2))] at h hcp
    refine we_c (wo_addS (le_line (by rw [hb1]; omega)) ⟨_, rfl, hcp, ?_, h⟩)
    show _ ≤ 1000000
    rw [Str.length_append, hb1]
    omega
  · rw [if_neg fun e => of_decide_eq_false q2 (Option.some.inj e)] at h hcp
    refine we_c (wo_addS (le_line (by rw [hb0]; omega)) ⟨_, rfl, hcp, ?_, h⟩)
    show _ ≤ 1000000
    rw [Str.length_append, hb0]
    omega
theorem rd_Path_relative {K : PySem.W.Frag} {mg : Str → Option Value} (T : Txt K mg) (E : XK) : BodyOk K (φ_Path_relative T) N_Path_relative E (t_Path_relative T E) := by
  intro ds m nx X F B h hE
  obtain ⟨z, w, rfl, pz, pw, h, hx1, hx2, hx3⟩ := h
  rw [st_Path_relative]
  unfold t_Path_relative
  have nz := pz.n
  have nw := pw.n
  refine ws_seq (ws_for (wi_any (we_tup (wa_cons (we_var rfl (wa_cons (we_var rfl (wa_nil ⟨len2 _ _, [pathD T.c_Path z, pathD T.c_Path w], rfl, fun i ρ1 m1 => m1 = m ∧ (1 ≤ i → namesB z = true) ∧ (2 ≤ i → namesB w = true) ∧ ∃ x2 x3, ρ1 = [some (pathD T.c_Path z), some (pathD T.c_Path w), x2, x3, none, none, none, none], ?_, ?_, ?_⟩))))))))
  · exact ⟨rfl, fun q => absurd q (by decide), fun q => absurd q (by decide), _, _, rfl⟩
  · rintro i d ρ1 m1 hd ⟨rfl, i1, i2, x2, x3, rfl⟩
    obtain ⟨v, rfl, pv, v1, v2⟩ : ∃ v, d = pathD T.c_Path v ∧ Pth v ∧ (namesB v = false → X T.c_NoRelative ["path"] [pathD T.c_Path v] m1) ∧ (namesB v = true → (1 ≤ i + 1 → namesB z = true) ∧ (2 ≤ i + 1 → namesB w = true)) := by
      rcases i with _ | _ | i
      · cases hd
        exact ⟨z, rfl, pz, hx1, fun q => ⟨fun _ => q, fun y => absurd y (by decide)⟩⟩
      · cases hd
        exact ⟨w, rfl, pw, hx2 (i1 (by decide)), fun q => ⟨fun _ => i1 (by decide), fun _ => q⟩⟩
      · cases hd
    refine wg_name (ws_if (wt_not (wt_B (we_cb (wa_cons (we_lcMap (wi_any (we_meth okx0 (we_var rfl ⟨⟨rfl, by decide +kernel⟩, wa_nil ⟨v, rfl, pv.sz, (DT.steps v).map strD, rfl, fun d => blD (nmB d), ?_, fun F' d hd => ?_, ?_⟩⟩)))))))))
    · rw [List.length_map]
      exact le_line (Nat.le_trans pv.n (by decide))
    · obtain ⟨s, hs, rfl⟩ := List.mem_map.mp hd
      exact wgw_name List.mem_cons_self ⟨rfl, we_call okx0 (wa_cons (we_var rfl (wa_nil ⟨_, rfl, .inl ⟨s, rfl, Nat.le_trans (DT.isStep_len (pv.st s hs)) (by decide), rfl, rfl⟩⟩)))⟩
    · have e : ((DT.steps v).map strD).map (fun d => blD (nmB d)) = ((DT.steps v).map DT.isName).map fun b => D.s (.bl b) := by
        rw [List.map_map, List.map_map]
        rfl
      rw [e]
      refine wa_nil (wc_all ⟨_, rfl, fun q => ?_, fun q => ?_⟩)
      · rw [names_all] at q
        have q' : namesB v = false := by simpa using q
        refine ws_raise hE (wa_cons (we_var rfl (wa_nil ?_)))
        exact ⟨_, rfl, v1 q'⟩
      · rw [names_all] at q
        have q' : namesB v = true := by simpa using q
        exact ws_next ⟨rfl, (v2 q').1, (v2 q').2, _, _, rfl⟩
  rintro ρ1 m1 ⟨rfl, i1, i2, x2, x3, rfl⟩
  have n1 := i1 (by show 1 ≤ 2; decide)
  have n2 := i2 (by show 2 ≤ 2; decide)
  refine ws_seq (ws_if (wt_test (we_op (we_fld (we_var rfl ⟨T.c_Path, blD (DT.rooted z), T.y_Path.cl, T.n_Path_rooted, ⟨rfl, rfl⟩, we_fld (we_var rfl ⟨T.c_Path, blD (DT.rooted w), T.y_Path.cl, T.n_Path_rooted, ⟨rfl, rfl⟩, wo_neS rfl ⟨_, rfl, fun q => ?_, fun q => ws_next ?_⟩⟩)⟩)))))
  · rw [dec_bl] at q
    exact ws_raise hE (wa_cons (we_var rfl (wa_nil ⟨_, rfl, hx3 n1 n2 (by simpa using q)⟩)))
  rw [dec_bl] at q
  have h := h n1 n2 (by simpa using q)
  refine ws_seq (ws_par (wa_cons (we_meth okx0 (we_var rfl ⟨⟨rfl, by decide +kernel⟩, wa_nil ⟨z, rfl, pz.sz, wa_cons (we_meth okx0 (we_var rfl ⟨⟨rfl, by decide +kernel⟩, wa_nil ⟨w, rfl, pw.sz, wa_nil ⟨_, _, rfl, ?_⟩⟩⟩))⟩⟩))))
  unfold relT at h
  have hst := rel_steps (b := DT.steps w) (names_mem n1)
  have hrl : (relS (DT.steps z) (DT.steps w)).length ≤ 100002 := Nat.le_trans rel_len (by omega)
  generalize ea : DT.steps z = a at *
  generalize eb : DT.steps w = b at *
  obtain ⟨ca, cb⟩ := com_le a b
  refine ws_seq (ws_asg (we_c ?_))
  refine ws_seqI (fun ρ2 m2 => m2 = m1 ∧ ρ2 = [some (pathD T.c_Path z), some (pathD T.c_Path w), x2, x3, some (strsD a), some (strsD b), some (intD (comN a b : Nat)), none]) (ws_while (fun n ρ2 m2 => ∃ k : Nat, k ≤ comN a b ∧ n = comN a b - k ∧ m2 = m1 ∧ ρ2 = [some (pathD T.c_Path z), some (pathD T.c_Path w), x2, x3, some (strsD a), some (strsD b), some (intD (k : Nat)), none]) (n := comN a b) ⟨0, Nat.zero_le _, rfl, rfl, rfl⟩ ?_) ?_
  · rintro n ρ2 m2 ⟨k, hk, rfl, rfl, rfl⟩
    refine wt_and (wt_test (we_op (we_var rfl (we_cb (wa_cons (we_cb (wa_cons (we_var rfl (wa_nil (wc_len (n := a.length) (by show _ = _; exact (List.length_map _).symm) (wa_cons (we_cb (wa_cons (we_var rfl (wa_nil (wc_len (n := b.length) (by show _ = _; exact (List.length_map _).symm) (wa_nil (wc_min2 (wo_I0 ⟨_, rfl, fun q => ?_, fun q => ?_⟩)))))))))))))))))))
    · have q' : (k : Int) < (if (b.length : Int) < (a.length : Int) then (b.length : Int) else a.length) := of_decide_eq_true q
      have h1 : k < a.length := by split at q' <;> omega
      have h2 : k < b.length := by split at q' <;> omega
      have e1 : a[k]? = some a[k] := by simp [h1]
      have e2 : b[k]? = some b[k] := by simp [h2]
      refine wt_test (we_op (we_op (we_var rfl (we_var rfl (wo_ixL (d := strD a[k]) (DD.atI_nat (by rw [List.getElem?_map, e1]; rfl)) (we_op (we_var rfl (we_var rfl (wo_ixL (d := strD b[k]) (DD.atI_nat (by rw [List.getElem?_map, e2]; rfl)) (wo_eqS rfl ⟨_, rfl, fun q2 => ?_, fun q2 => ?_⟩))))))))))
      · have hab : a[k] = b[k] := V.str.inj (of_decide_eq_true q2)
        have hlt : k < comN a b := by
          rcases Nat.lt_or_ge k (comN a b) with y | y
          · exact y
          · have ek : k = comN a b := by omega
            have e3 : a[comN a b]? = some a[k] := by rw [← ek]; exact e1
            have e4 : b[comN a b]? = some b[k] := by rw [← ek]; exact e2
            exact absurd hab (com_at e3 e4)
        refine ws_augI rfl (we_c ⟨1, rfl, comN a b - (k + 1), by omega, k + 1, hlt, rfl, rfl, ?_⟩)
        rfl
      · have hab : a[k] ≠ b[k] := fun y => of_decide_eq_false q2 (by rw [y])
        have ek : k = comN a b := by
          rcases Nat.lt_or_ge k (comN a b) with y | y
          · obtain ⟨s, s1, s2⟩ := com_lt y
            rw [e1] at s1
            rw [e2] at s2
            exact absurd ((Option.some.inj s1).trans (Option.some.inj s2).symm) hab
          · omega
        exact ⟨rfl, by rw [ek]⟩
    · have q' : ¬ (k : Int) < (if (b.length : Int) < (a.length : Int) then (b.length : Int) else a.length) := of_decide_eq_false q
      have ek : k = comN a b := by split at q' <;> omega
      exact ⟨(fun y => nomatch y), fun _ => ⟨rfl, by rw [ek]⟩⟩
  rintro ρ2 m2 ⟨rfl, rfl⟩
  refine ws_seq (ws_asg (we_op (we_op (we_lst (wa_cons (we_c (wa_nil ⟨le_line (by show 1 ≤ 1000000; decide), we_op (we_cb (wa_cons (we_var rfl (wa_nil (wc_len (n := b.length) (by show _ = _; exact (List.length_map _).symm) (we_var rfl (wo_I0 (wo_repL ?_ ?_ ?_ ?_))))))))⟩)))))))
  · omega
  · omega
  · refine le_line ?_
    show 1 * _ ≤ 1000000
    omega
  refine we_sl (we_var rfl (wpt_some (we_var rfl ⟨_, rfl, wpt_no (wsl_L ?_)⟩)))
  have en : ((b.length : Int) - (comN a b : Int)).toNat = b.length - comN a b := by omega
  rw [en, flat_rep, cut_drop (by rw [List.length_map]; exact ca)]
  refine wo_addL ?_ ?_
  · rw [List.length_replicate, List.length_drop, List.length_map]
    exact le_line (by omega)
  rw [rel_data]
  generalize relS a b = st at *
  have hpath := DT.plain_path (rt := false) (en := false) hst
  have hplen := DT.plain_len (rt := false) (en := false) hst
  refine ws_ret (make_path T (we_if (wt_test (we_op (we_var rfl (we_lst (wa_nil ⟨len0K, wo_neNilS (stepsOk hst) ⟨_, rfl, fun q2 => ?_, fun q2 => ?_⟩⟩)))))))
  · have hne : st ≠ [] := by simpa using q2
    refine we_m1 (we_c ⟨⟨_, rfl⟩, we_var rfl (wm_join (join_okB hst (by omega)) ?_)⟩)
    rw [← plain_ff hst hne]
    exact ⟨_, rfl, hpath, by show _ ≤ 1000000; omega, h⟩
  · have hne : st = [] := by simpa using q2
    refine we_c ⟨_, rfl, by decide +kernel, by decide +kernel, ?_⟩
    rw [hne] at h
    exact h
theorem rd__law_p_steps {K : PySem.W.Frag} {mg : Str → Option Value} (T : Txt K mg) (E : XK) : BodyOk K (φ__law_p_steps T) N__law_p_steps E (t__law_p_steps T E) := by
  intro ds m nx X F B h hE
  obtain ⟨z, rfl, hz, h⟩ := h
  rw [st__law_p_steps]
  unfold t__law_p_steps
  exact ws_ret (steps_rd hz (fun Q' q => we_var rfl q) (by show 1 < 2; decide) h)
def pieceOk (z : Str) : Prop := TL.tl z ≠ [] ∧ (DT.dotty z || DT.isName z) = true
theorem name_ne {z : Str} (h : DT.isName z = true) : TL.tl z ≠ [] := fun e => by
  unfold DT.isName at h
  simp only [Bool.and_eq_true, decide_eq_true_eq] at h
  rw [TL.len_tl, e] at h
  exact absurd h.1 (by decide)
theorem tl_rep (j : Nat) : TL.tl (repS "/" j) = List.replicate j 47 := by
  have e : TL.tl ("/" : Str) = [47] := by decide +kernel
  show (List.replicate j (TL.tl ("/" : Str))).flatten = _
  rw [e]
  induction j with
  | zero => rfl
  | succ j ih => rw [List.replicate_succ, List.flatten_cons, ih]; rfl
theorem good_piece {z : Str} (h : pieceOk z) : DT.Good (TL.tl z) := by
  have hb : 47 ∉ TL.tl z := by
    rcases (Bool.or_eq_true _ _).mp h.2 with q | q
    · intro c
      have := DT.dotty_lt q 47 c
      omega
    · exact DT.name_bar q
  intro p hp
  rw [DT.pcs_one _ hb] at hp
  have e : p = TL.tl z := by simpa using hp
  rw [e, DT.mk_tl']
  exact h.2
theorem piece_len {z : Str} (h : pieceOk z) : z.length ≤ 8 := by
  rcases (Bool.or_eq_true _ _).mp h.2 with q | q
  · rw [DT.dotty_iff] at q
    simp only [Bool.or_eq_true, decide_eq_true_eq] at q
    rcases q with rfl | rfl | rfl <;> decide +kernel
  · unfold DT.isName at q
    simp only [Bool.and_eq_true, decide_eq_true_eq] at q
    exact q.2.1
theorem good_add {a b : List Nat} {j : Nat} (ha : DT.Good a) (hb : DT.Good b) (hj : 1 ≤ j) : DT.Good (a ++ List.replicate j 47 ++ b) := by
  obtain ⟨i, rfl⟩ : ∃ i, j = i + 1 := ⟨j - 1, by omega⟩
  exact DT.good_bars ha hb i
/-- what is told of the text that grows -/
def Grown (k i : Nat) (s : Str) : Prop := s.length ≤ 3 + 11 * i ∧ DT.Good (TL.tl s) ∧ ((∃ j, TL.tl s = List.replicate j 47 ∧ j ≤ 3 ∧ (k = 0 → 1 ≤ j)) ∨ 0 < i) ∧ (0 < i → TL.tl s ≠ [])
theorem enum_get {n i : Nat} {xs : List D} {d : D} (h : (enumD n xs)[i]? = some d) : ∃ x, xs[i]? = some x ∧ d = .tup [.s (.int ((n + i : Nat) : Int)), x] := by
  induction xs generalizing n i with
  | nil => cases h
  | cons y ys ih =>
    cases i with
    | zero =>
      have e : d = .tup [.s (.int (n : Int)), y] := by simpa [enumD] using h.symm
      exact ⟨y, rfl, e⟩
    | succ i =>
      have h' : (enumD (n + 1) ys)[i]? = some d := by simpa [enumD] using h
      obtain ⟨x, h1, h2⟩ := ih h'
      refine ⟨x, by simpa using h1, ?_⟩
      rw [h2, show n + 1 + i = n + (i + 1) by omega]
theorem rd__law_p_written {K : PySem.W.Frag} {mg : Str → Option Value} (T : Txt K mg) (E : XK) : BodyOk K (φ__law_p_written T) N__law_p_written E (t__law_p_written T E) := by
  intro ds m nx X F B h hE
  obtain ⟨p, zs, n, rfl, hS, hm, hl, hz, n0, n1, h⟩ := h
  rw [st__law_p_written]
  unfold t__law_p_written
  refine ws_seq (ws_asg (we_call okx0 (wa_cons (we_var rfl (wa_cons (we_op (we_var rfl (we_c (wo_addI (wa_nil ⟨p, _, rfl, hS, by omega, by omega, by omega, fun r r0 r1 => ?_⟩))))))))))
  obtain ⟨k, rfl⟩ : ∃ k : Nat, r = (k : Int) := ⟨r.toNat, by omega⟩
  have hk : k ≤ 20 := by omega
  refine ws_seq (ws_asg (lc_draws (m := more m 1) (N := k) pieceOk (by omega) (fun Q' q => wi_rng1 (wa_cons (we_var rfl (wa_nil ⟨(k : Int), rfl, by omega, by omega, by rw [Int.toNat_natCast]; exact q⟩)))) (fun F' j d hj => ?_) fun ss h1 h2 => ?_))
  · refine we_call okx0 (wa_cons (we_var rfl (wa_cons (we_op (we_op (we_var rfl (we_c (wo_repF (by decide) (by decide) ?_ (we_lst (wa_cons (we_c (wa_cons (we_c (wa_cons (we_c (wa_nil ⟨by decide, wo_addL ?_ (wa_nil ⟨p, _, _, rfl, hS, ?_, rfl, by simp, ?_, fun d hd => ?_⟩)⟩))))))))))))))))
    · refine le_line ?_
      show zs.length * 2 ≤ _
      omega
    · rw [List.length_map, len_twice]
      refine le_line ?_
      show 2 * zs.length + 3 ≤ _
      omega
    · show m.cnt + 1 + j < _
      omega
    · rw [List.length_append, List.length_map, len_twice]
      show 2 * zs.length + 3 ≤ 1000000
      omega
    · rcases List.mem_append.mp hd with q | q
      · obtain ⟨z, hz0, rfl⟩ := List.mem_map.mp q
        obtain ⟨l, hl1, hl2⟩ := List.mem_flatten.mp hz0
        rw [(List.mem_replicate.mp hl1).2] at hl2
        have hz1 := hl2
        refine ⟨z, rfl, ⟨name_ne (hz z hz1), ?_⟩, rfl⟩
        rw [hz z hz1, Bool.or_true]
      · simp only [List.mem_cons, List.not_mem_nil, or_false] at q
        rcases q with rfl | rfl | rfl
        · exact ⟨_, rfl, ⟨by decide +kernel, by decide +kernel⟩, rfl⟩
        · exact ⟨_, rfl, ⟨by decide +kernel, by decide +kernel⟩, rfl⟩
        · exact ⟨_, rfl, ⟨by decide +kernel, by decide +kernel⟩, rfl⟩
  refine ws_seq (ws_asg (lc_draws (m := more (more m 1) k) (N := k + 1) (fun z => ∃ j, 1 ≤ j ∧ j ≤ 3 ∧ z = repS "/" j) (by omega) (fun Q' q => wi_rng1 (wa_cons (we_op (we_var rfl (we_c (wo_addI (wa_nil ⟨(k : Int) + 1, rfl, by omega, by omega, by rw [show ((k : Int) + 1).toNat = k + 1 by omega]; exact q⟩))))))) (fun F' j d hj => ?_) fun bs b1 b2 => ?_))
  · refine we_op (we_c (we_call okx0 (wa_cons (we_var rfl (wa_cons (we_lst (wa_cons (we_c (wa_cons (we_c (wa_cons (we_c (wa_cons (we_c (wa_cons (we_c (wa_nil ⟨by decide, wa_nil ⟨p, _, _, rfl, hS, ?_, rfl, by simp, by show 5 ≤ 1000000; decide, fun d hd => ?_⟩⟩)))))))))))))))))
    · show m.cnt + 1 + k + j < _
      omega
    · simp only [List.mem_cons, List.not_mem_nil, or_false] at hd
      have hd' : ∃ j : Nat, d = intD j ∧ 1 ≤ j ∧ j ≤ 3 := by
        rcases hd with rfl | rfl | rfl | rfl | rfl
        · exact ⟨1, rfl, by decide, by decide⟩
        · exact ⟨1, rfl, by decide, by decide⟩
        · exact ⟨1, rfl, by decide, by decide⟩
        · exact ⟨2, rfl, by decide, by decide⟩
        · exact ⟨3, rfl, by decide, by decide⟩
      obtain ⟨i, rfl, i1, i3⟩ := hd'
      refine wo_repS (by omega) (by omega) (by decide +kernel) ⟨_, rfl, ⟨i, i1, i3, ?_⟩, rfl⟩
      rw [Int.toNat_natCast]
  have bar : ∀ i : Nat, i < k + 1 → ∃ j, bs[i]? = some (repS "/" j) ∧ 1 ≤ j ∧ j ≤ 3 := fun i hi => by
    have hi' : i < bs.length := by omega
    obtain ⟨j, j1, j3, e⟩ := b2 bs[i] (List.getElem_mem hi')
    exact ⟨j, by rw [List.getElem?_eq_getElem hi', e], j1, j3⟩
  have blen : ∀ j, (repS "/" j).length = j := fun j => by rw [TL.len_tl, tl_rep, List.length_replicate]
  show WS K F B _ _ (more (more (more m 1) k) (k + 1)) _
  rw [more_more, more_more]
  refine ws_seqI (fun ρ1 m1 => ∃ s q, ρ1 = [some (.s (.ref p)), some (nmE zs), some (intD n), some (intD k), some (strsD ss), none, some (strsD bs), some (strD s), none] ∧ m1 = more m q ∧ q ≤ 60 ∧ Grown k 0 s) ?_ ?_
  · have first : ∀ q, q ≤ 60 → WE K F B (tOp (rIx K) (tVar 6) (tC (.int 0))) [some (.s (.ref p)), some (nmE zs), some (intD n), some (intD k), some (strsD ss), none, some (strsD bs), none, none] (more m q) fun x m1 => ∃ s, x = strD s ∧ m1 = more m q ∧ Grown k 0 s := fun q hq => by
      obtain ⟨j, e, j1, j3⟩ := bar 0 (by omega)
      refine we_op (we_var rfl (we_c (wo_ixL (d := strD (repS "/" j)) (atI_zero ?_) ⟨_, rfl, rfl, ?_⟩)))
      · rw [List.head?_map, List.head?_eq_getElem?, e]
        rfl
      · refine ⟨by rw [blen]; omega, ?_, .inl ⟨j, tl_rep j, j3, fun _ => j1⟩, (fun z => nomatch z)⟩
        rw [tl_rep]
        have := good_add DT.good_nil DT.good_nil j1
        simpa using this
    have fin : ∀ {ρ0 : DD.Env} {x : D} {m1 : Mem} {q : Nat}, q ≤ 60 → ρ0 = [some (.s (.ref p)), some (nmE zs), some (intD n), some (intD k), some (strsD ss), none, some (strsD bs), none, none] → (∃ s, x = strD s ∧ m1 = more m q ∧ Grown k 0 s) → (∃ s q, ρ0.set 7 (some x) = [some (.s (.ref p)), some (nmE zs), some (intD n), some (intD k), some (strsD ss), none, some (strsD bs), some (strD s), none] ∧ m1 = more m q ∧ q ≤ 60 ∧ Grown k 0 s) := fun {ρ0 x m1 q} hq e ⟨s, e1, e2, e3⟩ => by
      subst e e1 e2
      exact ⟨s, q, rfl, rfl, hq, e3⟩
    refine ws_asg (we_if (wt_or (wt_test (we_op (we_var rfl (we_c (wo_eqS rfl ⟨_, rfl, fun q => ?_, fun q => ?_⟩)))))))
    · have k0 : k ≠ 0 := by
        have := of_decide_eq_false q
        simpa using this
      refine wt_test (we_op (we_call okx0 (wa_cons (we_var rfl (wa_cons (we_c (wa_nil ⟨p, 3, rfl, hS, by decide, by decide, ?_, fun r r0 r1 => we_c (wo_eqS rfl ⟨_, rfl, fun q2 => ?_, fun q2 => ?_⟩)⟩)))))))
      · show m.cnt + (1 + (k + (k + 1))) < _
        omega
      · exact we_imp (first (1 + (k + (k + 1)) + 1) (by omega)) fun d m' z => fin (q := 1 + (k + (k + 1)) + 1) (by omega) rfl z
      · refine we_c ⟨"", 1 + (k + (k + 1)) + 1, rfl, rfl, by omega, by decide +kernel, ?_, .inl ⟨0, by decide +kernel, by decide, fun z => absurd z k0⟩, (fun z => nomatch z)⟩
        have e0 : TL.tl ("" : Str) = [] := by decide +kernel
        rw [e0]
        exact DT.good_nil
    · refine ⟨fun _ => ?_, fun z => nomatch z⟩
      exact we_imp (first (1 + (k + (k + 1))) (by omega)) fun d m' z => fin (q := 1 + (k + (k + 1))) (by omega) rfl z
  rintro ρ1 m1 ⟨s, q, rfl, rfl, hq, hg⟩
  refine ws_seq (ws_for (wi_enum (wa_cons (we_var rfl (wa_nil ⟨_, rfl, fun i ρ2 m2 => ∃ s x y, ρ2 = [some (.s (.ref p)), some (nmE zs), some (intD n), some (intD k), some (strsD ss), x, some (strsD bs), some (strD s), y] ∧ m2 = more m q ∧ Grown k i s, ?_, ?_, ?_⟩)))))
  · exact ⟨s, none, none, rfl, rfl, hg⟩
  · rintro i d ρ2 m2 hd ⟨s, x, y, rfl, rfl, g1, g2, g3, g4⟩
    obtain ⟨u, hu, rfl⟩ := enum_get hd
    rw [List.getElem?_map] at hu
    cases hv : ss[i]? with
    | none =>
      rw [hv] at hu
      cases hu
    | some v =>
      rw [hv] at hu
      cases hu
      have hik : i < k := by
        have := (List.getElem?_eq_some_iff.mp hv).1
        omega
      have hvp := h2 v (List.mem_of_getElem? hv)
      have hvl := piece_len hvp
      refine wg_tup rfl (wgs_cons (wg_name (wgs_cons (wg_name (wgs_nil ?_)))))
      rw [Nat.zero_add]
      have last : ∀ t : Str, t.length ≤ 3 → (∃ j, TL.tl t = List.replicate j 47 ∧ (0 < i → 1 ≤ j) ∧ (i = 0 → j = 0)) → WO K F B (rAddA K) (strD s) (strD t) (more m q) fun x m1 => WE K F B (tVar 8) [some (.s (.ref p)), some (nmE zs), some (intD n), some (intD k), some (strsD ss), some (intD i), some (strsD bs), some (strD s), some (strD v)] m1 fun y m2 => WO K F B (rAddA K) x y m2 fun x m1 => ∃ s' x' y', ([some (.s (.ref p)), some (nmE zs), some (intD n), some (intD k), some (strsD ss), some (intD i), some (strsD bs), some (strD s), some (strD v)] : DD.Env).set 7 (some x) = [some (.s (.ref p)), some (nmE zs), some (intD n), some (intD k), some (strsD ss), x', some (strsD bs), some (strD s'), y'] ∧ m1 = more m q ∧ Grown k (i + 1) s' := fun t tl3 ⟨j, e, j1, j0⟩ => by
        refine wo_addS (le_line (by omega)) (we_var rfl (wo_addS ?_ ⟨s ++ t ++ v, _, _, rfl, rfl, ?_, ?_, .inr (Nat.succ_pos _), fun _ => ?_⟩))
        · rw [Str.length_append]
          exact le_line (by omega)
        · rw [Str.length_append, Str.length_append]
          omega
        · rw [TL.tl_append, TL.tl_append, e]
          rcases Nat.eq_zero_or_pos i with i0 | i0
          · rw [j0 i0, List.replicate_zero, List.append_nil]
            rcases g3 with ⟨j', e', _⟩ | z
            · rw [e']
              rcases Nat.eq_zero_or_pos j' with z | z
              · rw [z]
                exact good_piece hvp
              · have := good_add DT.good_nil (good_piece hvp) z
                simpa using this
            · omega
          · exact good_add g2 (good_piece hvp) (j1 i0)
        · rw [TL.tl_append, TL.tl_append]
          rcases Nat.eq_zero_or_pos i with i0 | i0
          · intro z
            have z2 := (List.append_eq_nil_iff.mp z).2
            exact hvp.1 z2
          · intro z
            have z2 := (List.append_eq_nil_iff.mp (List.append_eq_nil_iff.mp z).1).1
            exact g4 i0 z2
      refine ws_asg (we_op (we_op (we_var rfl (we_if (wt_test (we_op (we_var rfl (we_c (wo_I0 ⟨_, rfl, fun q => ?_, fun q => ?_⟩)))))))))
      · obtain ⟨j, e, j1, j3⟩ := bar i (by omega)
        refine we_op (we_var rfl (we_var rfl (wo_ixL (d := strD (repS "/" j)) (L2.atI_nat ?_) (last _ (by rw [blen]; exact j3) ⟨j, tl_rep j, fun _ => j1, fun z => ?_⟩))))
        · rw [List.getElem?_map, e]
          rfl
        · have := of_decide_eq_true q
          omega
      · have i0 : ¬ (0 : Int) < (i : Int) := of_decide_eq_false q
        exact we_c (last _ (by decide +kernel) ⟨0, by decide +kernel, fun z => absurd z (by omega), fun _ => rfl⟩)
  · rintro ρ2 m2 ⟨s, x, y, rfl, rfl, g1, g2, g3, g4⟩
    rw [enumD_length, List.length_map, h1] at g1 g3 g4
    have hs0 : TL.tl s ≠ [] := by
      rcases Nat.eq_zero_or_pos k with k0 | k0
      · rcases g3 with ⟨j, e, _, e3⟩ | z
        · rw [e]
          have := e3 k0
          intro z
          have z2 := congrArg List.length z
          rw [List.length_replicate] at z2
          simp at z2
          omega
        · omega
      · exact g4 k0
    have fin : ∀ {t : Str} {q' : Nat}, q' ≤ 61 → t.length ≤ 3 → (TL.tl t = [] ∨ ∃ j, 1 ≤ j ∧ TL.tl t = List.replicate j 47) → WO K F B (rAddA K) (strD s) (strD t) (more m q') fun d m' => ∃ z, d = strD z ∧ DT.isPath z = true ∧ z.length ≤ 500 ∧ ∃ q, q ≤ 100 ∧ m' = more m q := fun {t q'} hq' ht hh => by
      refine wo_addS (le_line (by omega)) ⟨s ++ t, rfl, ?_, ?_, q', by omega, rfl⟩
      · refine DT.isPath_iff.mpr ⟨fun z => ?_, ?_⟩
        · have z2 := congrArg TL.tl z
          rw [TL.tl_append] at z2
          exact hs0 (List.append_eq_nil_iff.mp (z2.trans (by decide +kernel))).1
        · rw [TL.tl_append]
          rcases hh with e | ⟨j, j1, e⟩
          · rw [e, List.append_nil]
            exact g2
          · rw [e]
            have := good_add g2 DT.good_nil j1
            simpa using this
      · rw [Str.length_append]
        omega
    refine ws_ret (we_conv (Q := fun d m' => ∃ z, d = strD z ∧ DT.isPath z = true ∧ z.length ≤ 500 ∧ ∃ q, q ≤ 100 ∧ m' = more m q) ?_ fun d m' ⟨z, e, hz, hzl, q, hq, em⟩ => ?_)
    · have e0 : TL.tl ("" : Str) = [] := by decide +kernel
      refine we_op (we_var rfl (we_if (wt_and (wt_test (we_op (we_var rfl (we_c (wo_I0 ⟨_, rfl, fun q => ?_, fun q => ?_⟩))))))))
      · refine wt_test (we_op (we_call okx0 (wa_cons (we_var rfl (wa_cons (we_c (wa_nil ⟨p, 4, rfl, hS, by decide, by decide, ?_, fun r r0 r1 => we_c (wo_eqS rfl ⟨_, rfl, fun q2 => ?_, fun q2 => ?_⟩)⟩)))))))
        · show m.cnt + _ < _
          omega
        · obtain ⟨j, e, j1, j3⟩ := bar k (by omega)
          refine we_op (we_var rfl (we_un (we_c (wu_neg (wo_ixL (d := strD (repS "/" j)) (atI_last ?_) (fin (q' := _ + 1) (by omega) (by rw [blen]; exact j3) (.inr ⟨j, j1, tl_rep j⟩)))))))
          rw [List.getLast?_map, List.getLast?_eq_getElem?, b1]
          show (bs[k + 1 - 1]?).map strD = _
          rw [Nat.add_sub_cancel, e]
          rfl
        · exact we_c (fin (q' := _ + 1) (by omega) (by decide +kernel) (.inl e0))
      · exact ⟨(fun z => nomatch z), fun _ => we_c (fin (by omega) (by decide +kernel) (.inl e0))⟩
    · subst e em
      exact ⟨more m 100, Conv.count (m := more m q) (n := m.cnt + 100) (Nat.add_le_add_left hq _), h z hz hzl⟩
theorem rd__law_p_plain {K : PySem.W.Frag} {mg : Str → Option Value} (T : Txt K mg) (E : XK) : BodyOk K (φ__law_p_plain T) N__law_p_plain E (t__law_p_plain T E) := by
  intro ds m nx X F B h hE
  obtain ⟨st, rt, en, rfl, hs, hl, h⟩ := h
  rw [st__law_p_plain]
  unfold t__law_p_plain
  have hj9 := jn_len9 hs hl
  have hb1 : ("/" : Str).length = 1 := by decide +kernel
  have hb0 : ("" : Str).length = 0 := by decide +kernel
  have e0 : ("" : Str) = DT.mk [] := by decide +kernel
  have hbl : (DT.mk (DT.bodyL st rt)).length ≤ 90001 := by
    rw [TL.len_tl] at hj9 ⊢
    show (DT.bodyL st rt).length ≤ _
    have hj9' : (DT.jn (st.map TL.tl)).length ≤ 90000 := hj9
    unfold DT.bodyL
    rw [List.length_append]
    have e1 : (if rt = true then [47] else []).length ≤ 1 := by split <;> decide
    omega
  refine ws_seqI (fun ρ1 m1 => ρ1 = [some (strsD st), some (blD rt), some (blD en), some (strD (DT.mk (DT.bodyL st rt)))] ∧ m1 = m) ?_ ?_
  · refine ws_asg (we_op (we_if (wt_B (we_var rfl ⟨_, rfl, fun q => ?_, fun q => ?_⟩))))
    · subst q
      refine we_c (we_m1 (we_c ⟨⟨_, rfl⟩, we_var rfl (wm_join (join_ok hs hl) ?_)⟩))
      rw [join_mk]
      refine wo_addS (by rw [hb1]; exact le_line (by omega)) ⟨?_, rfl⟩
      rw [bar_mk, mk_app]
      rfl
    · subst q
      refine we_c (we_m1 (we_c ⟨⟨_, rfl⟩, we_var rfl (wm_join (join_ok hs hl) ?_)⟩))
      rw [join_mk]
      refine wo_addS (by rw [hb0]; exact le_line (by omega)) ⟨?_, rfl⟩
      rw [e0, mk_app]
      rfl
  rintro ρ1 m1 ⟨rfl, rfl⟩
  refine ws_seq (ws_if (wt_test (we_op (we_var rfl (we_c (wo_eqS rfl ⟨_, rfl, fun q => ?_, fun q => ?_⟩))))))
  · rw [eq_emp] at q
    have hb := DT.mk_eq_nil.mp (of_decide_eq_true q)
    refine ws_ret (we_c ?_)
    have e : DT.plainT st rt en = "." := by
      unfold DT.plainT DT.plainL
      rw [if_pos hb]
      exact dot_mk.symm
    rw [e] at h
    exact h
  · rw [eq_emp] at q
    have hb : DT.bodyL st rt ≠ [] := fun z => of_decide_eq_false q (DT.mk_eq_nil.mpr z)
    have yes : (en = true ∧ DT.lastN st = true) → WO K F B (rAddA K) (strD (DT.mk (DT.bodyL st rt))) (.s (.str "/")) m1 nx := fun hc => by
      have e : DT.plainT st rt en = DT.mk (DT.bodyL st rt) ++ "/" := by
        unfold DT.plainT DT.plainL
        rw [if_neg hb, if_pos hc, bar_mk, mk_app]
      rw [e] at h
      exact wo_addS (le_line (by rw [hb1]; omega)) h
    have no : ¬ (en = true ∧ DT.lastN st = true) → WO K F B (rAddA K) (strD (DT.mk (DT.bodyL st rt))) (.s (.str "")) m1 nx := fun hc => by
      have e : DT.plainT st rt en = DT.mk (DT.bodyL st rt) ++ "" := by
        unfold DT.plainT DT.plainL
        rw [if_neg hb, if_neg hc, e0, mk_app]
      rw [e] at h
      exact wo_addS (le_line (by rw [hb0]; omega)) h
    refine ws_next (ws_ret (we_op (we_var rfl (we_if (wt_and (wt_B (we_var rfl ⟨_, rfl, fun q1 => ?_, fun q1 => ?_⟩)))))))
    · refine wt_and (wt_test (we_op (we_var rfl (we_lst (wa_nil ⟨by decide, wo_neNilS (stepsOk hs) ⟨_, rfl, fun q2 => ?_, fun q2 => ?_⟩⟩)))))
      · have hne : st ≠ [] := by simpa using q2
        obtain ⟨x, hx, hxm⟩ := st_last hne
        refine wt_test (we_op (we_op (we_var rfl (we_un (we_c (wu_neg (wo_ixL (atI_last (last_strs hx)) (we_tup (wa_cons (we_c (wa_cons (we_c (wa_nil ⟨by decide, ?_⟩)))))))))))))
        refine wo_ninT (xs := [("." : Str) , ".."].map V.str) rfl rfl ⟨_, rfl, fun q3 => we_c (yes ⟨q1, ?_⟩), fun q3 => we_c (no fun z => ?_)⟩
        · rw [inV_strs] at q3
          rw [lastN_get hx]
          have q4 : x ∉ [(".": Str), ".."] := by simpa using q3
          rcases hs x hxm with w | w | w
          · exact absurd (by rw [w]; simp) q4
          · exact absurd (by rw [w]; simp) q4
          · exact w
        · rw [inV_strs] at q3
          rw [lastN_get hx] at z
          have q4 : x ∈ [(".": Str), ".."] := of_decide_eq_true (by simpa only [Bool.not_eq_false'] using q3)
          obtain ⟨w1, w2⟩ := DT.name_nd z.2
          simp only [List.mem_cons, List.not_mem_nil, or_false] at q4
          rcases q4 with w | w
          · exact w1 w
          · exact w2 w
      · have hne : st = [] := by simpa using q2
        exact ⟨(fun z => nomatch z), fun _ => we_c (no fun z => (by rw [hne] at z; cases z.2))⟩
    · exact ⟨(fun z => nomatch z), fun _ => we_c (no fun z => (by rw [q1] at z; cases z.1))⟩
theorem rd__law_draw {K : PySem.W.Frag} {mg : Str → Option Value} (T : Txt K mg) (E : XK) : BodyOk K (φ__law_draw T) N__law_draw E (t__law_draw T E) := by
  intro ds m nx X F B h hE
  obtain ⟨p, n, rfl, ⟨c, hp, hc, hpc⟩, n0, n1, hm, h⟩ := h
  rw [st__law_draw]
  unfold t__law_draw
  refine ws_open hp hc hpc fun s1 s2 s3 ns hst hl => ?_
  obtain ⟨a1, ⟨a2, a3⟩, a4, a5⟩ := hst
  refine ws_seq (ws_setO (we_op (we_op (we_var rfl (we_c (wo_ixO (d := .s (.int s2)) opened_p rfl (we_c (wo_addI (we_var rfl (we_c ⟨p, _, 2, 2, rfl, rfl, opened_p, rfl, ?_⟩))))))))))
  show WS K F B _ _ ⟨m.cnt, putM (opened m.own p c s1 s2 s3 ns) p (.lst [.s (.ref c), .s (.int s1), .s (.int (s2 + 1)), .s (.int s3)])⟩ _
  rw [put4]
  have b2 : 0 ≤ s2 + 1 ∧ s2 + 1 ≤ ((m.cnt + 1 : Nat) : Int) := by omega
  generalize s2 + 1 = s2 at b2 ⊢
  refine ws_seqI (fun ρ1 m1 => ∃ s1 s3 ns x, ρ1 = [some (.s (.ref p)), some (intD n), x, none, none] ∧ m1 = ⟨m.cnt, opened m.own p c s1 s2 s3 ns⟩ ∧ 0 ≤ s1 ∧ (0 ≤ s3 ∧ s3 < 2147483647) ∧ ns.length ≤ 63) ?_ ?_
  · refine ws_if (wt_and (wt_test (we_op (we_op (we_var rfl (we_c (wo_ixO (d := .s (.int s1)) opened_p rfl (we_c (wo_eqS rfl ⟨_, rfl, fun q => ?_, fun q => ?_⟩)))))))))
    · refine wt_test (we_op (we_op (we_var rfl (we_c (wo_ixO (d := .s (.ref c)) opened_p rfl (we_lst (wa_nil ⟨by decide, wo_neNilO (opened_c hpc) ⟨_, rfl, fun q2 => ?_, fun q2 => ?_⟩⟩)))))))
      · cases ns with
        | nil => cases q2
        | cons z zs =>
          refine ws_seq (ws_asg (we_pop0 (we_op (we_var rfl (we_c (wo_ixO (d := .s (.ref c)) opened_p rfl ⟨c, rfl, ⟨_, opened_c hpc⟩, we_c ⟨rfl, .s (.int z), _, opened_c hpc, ?_⟩⟩))))))
          show WS K F B _ _ ⟨m.cnt, putM (opened m.own p c s1 s2 s3 (z :: zs)) c (.lst ((zs.map V.int).map D.s))⟩ _
          rw [putc hpc]
          have hzl : zs.length ≤ 63 := by
            simp only [List.length_cons] at hl
            omega
          refine ws_seq (ws_setO (we_op (we_cb (wa_cons (we_op (we_op (we_op (we_op (we_var rfl (we_c (wo_ixO (d := .s (.int s3)) opened_p rfl (we_c (wo_mulI (.inr ⟨by decide, by decide⟩) (we_var rfl (wo_addI (we_c (wo_addI (wa_nil (wc_int (we_c (wo_I (by decide) (we_var rfl (we_c ⟨p, _, 3, 3, rfl, rfl, opened_p, rfl, ?_⟩)))))))))))))))))))))))
          show WS K F B _ _ ⟨m.cnt, putM (opened m.own p c s1 s2 s3 zs) p (.lst [.s (.ref c), .s (.int s1), .s (.int s2), .s (.int ((s3 * 8191 + z + 3) % 2147483647))])⟩ _
          rw [put4]
          have b3 : 0 ≤ (s3 * 8191 + z + 3) % 2147483647 ∧ (s3 * 8191 + z + 3) % 2147483647 < 2147483647 := ⟨Int.emod_nonneg _ (by decide), Int.emod_lt_of_pos _ (by decide)⟩
          generalize (s3 * 8191 + z + 3) % 2147483647 = s3' at b3 ⊢
          refine ws_setO (we_if (wt_test (we_op (we_var rfl (we_op (we_c (we_c (wo_I ⟨by decide, by decide, by decide⟩ (wo_I0 ⟨_, rfl, fun q3 => ?_, fun q3 => ?_⟩)))))))))
          · refine we_var rfl (we_var rfl (we_c ⟨p, _, 1, 1, rfl, rfl, opened_p, rfl, z, s3', zs, _, rfl, ?_, ?_, b3, hzl⟩))
            · show (⟨m.cnt, putM (opened m.own p c s1 s2 s3' zs) p (.lst [.s (.ref c), .s (.int z), .s (.int s2), .s (.int s3')])⟩ : Mem) = _
              rw [put4]
            · have e : ((10 : Int) ^ (18 : Int).toNat) ≤ z := of_decide_eq_true q3
              have e2 : ((10 : Int) ^ (18 : Int).toNat) = 1000000000000000000 := by decide
              omega
          · refine we_c (we_var rfl (we_c ⟨p, _, 1, 1, rfl, rfl, opened_p, rfl, 0, s3', zs, _, rfl, ?_, Int.le_refl _, b3, hzl⟩))
            show (⟨m.cnt, putM (opened m.own p c s1 s2 s3' zs) p (.lst [.s (.ref c), .s (.int 0), .s (.int s2), .s (.int s3')])⟩ : Mem) = _
            rw [put4]
      · exact ws_next ⟨s1, s3, ns, _, rfl, rfl, a1, ⟨a4, a5⟩, hl⟩
    · exact ⟨(fun z => nomatch z), fun _ => ws_next ⟨s1, s3, ns, _, rfl, rfl, a1, ⟨a4, a5⟩, hl⟩⟩
  · rintro ρ1 m1 ⟨s1, s3, ns, x, rfl, rfl, a1, ⟨a4, a5⟩, hl⟩
    have close : ∀ {te : TE} {ρ : DD.Env} {s1' : Int}, 0 ≤ s1' → WE K F B te ρ ⟨m.cnt, opened m.own p c s1' s2 s3 ns⟩ (fun d m' => ∃ r, d = intD r ∧ 0 ≤ r ∧ r < n ∧ m' = ⟨m.cnt, opened m.own p c s1' s2 s3 ns⟩) → WE K F B te ρ ⟨m.cnt, opened m.own p c s1' s2 s3 ns⟩ nx := fun {te ρ s1'} h1 hw => we_conv hw fun d m' ⟨r, e, r0, r1, em⟩ => by
      subst e em
      exact ⟨more m 1, Conv.close hp hc hpc (Nat.le_succ _) ⟨h1, b2, a4, a5⟩ hl, h r r0 r1⟩
    have hmod : ∀ x : Int, 0 ≤ x % n ∧ x % n < n := fun x => ⟨Int.emod_nonneg _ (by omega), Int.emod_lt_of_pos _ n0⟩
    refine ws_seq (ws_if (wt_test (we_op (we_op (we_var rfl (we_c (wo_ixO (d := .s (.int s1)) opened_p rfl (we_c (wo_I0 ⟨_, rfl, fun q => ?_, fun q => ?_⟩)))))))))
    · refine ws_seq (ws_asg (we_op (we_cb (wa_cons (we_op (we_var rfl (we_c (wo_ixO (d := .s (.int s1)) opened_p rfl (wa_nil (wc_int (we_var rfl (wo_I n0 ?_))))))))))))
      refine ws_seq (ws_setO (we_op (we_op (we_var rfl (we_c (wo_ixO (d := .s (.int s1)) opened_p rfl (we_var rfl (wo_I ⟨n0, n1⟩ (we_var rfl (we_c ⟨p, _, 1, 1, rfl, rfl, opened_p, rfl, ?_⟩))))))))))
      show WS K F B _ _ ⟨m.cnt, putM (opened m.own p c s1 s2 s3 ns) p (.lst [.s (.ref c), .s (.int (s1 / n)), .s (.int s2), .s (.int s3)])⟩ _
      rw [put4]
      refine ws_ret (close (Int.ediv_nonneg a1 (by omega)) (we_var rfl ⟨_, rfl, (hmod s1).1, (hmod s1).2, rfl⟩))
    · refine ws_next (ws_seq (ws_asg (we_op (we_cb (wa_cons (we_op (we_op (we_op (we_op (we_var rfl (we_c (wo_ixO (d := .s (.int s3)) opened_p rfl (we_op (we_c (we_op (we_var rfl (we_c (wo_ixO (d := .s (.int s2)) opened_p rfl (wo_mulI (.inl ⟨by decide, by decide⟩) (wo_addI (we_c (wo_addI (we_c (wo_I ⟨by decide, by decide, ?_⟩ (wa_nil (wc_int (we_c (wo_I (by decide) ?_))))))))))))))))))))))))))))
      · omega
      have b6 := (⟨Int.emod_nonneg _ (by decide), Int.emod_lt_of_pos _ (by decide)⟩ : 0 ≤ ((s3 + 7919 * s2 + 104729) ^ (5 : Int).toNat) % 2147483629 ∧ ((s3 + 7919 * s2 + 104729) ^ (5 : Int).toNat) % 2147483629 < 2147483629)
      show WS K F B _ [_, _, _, _, some (D.s (V.int (((s3 + 7919 * s2 + 104729) ^ (5 : Int).toNat) % 2147483629)))] _ _
      generalize ((s3 + 7919 * s2 + 104729) ^ (5 : Int).toNat) % 2147483629 = s6 at b6 ⊢
      refine ws_ret (close a1 (we_op (we_op (we_cb (wa_cons (we_op (we_op (we_op (we_op (we_var rfl (we_c (wo_mulI (.inr ⟨by decide, by decide⟩) (we_op (we_c (we_op (we_var rfl (we_c (wo_ixO (d := .s (.int s2)) opened_p rfl (wo_mulI (.inl ⟨by decide, by decide⟩) (wo_addI (we_c (wo_addI (we_c (wo_I ⟨by decide, by decide, ?_⟩ (wa_nil (wc_int (we_c (wo_I (by decide) (we_var rfl (wo_I n0 ⟨_, rfl, (hmod _).1, (hmod _).2, rfl⟩))))))))))))))))))))))))))))))
      omega
theorem rd__law_pick {K : PySem.W.Frag} {mg : Str → Option Value} (T : Txt K mg) (E : XK) : BodyOk K (φ__law_pick T) N__law_pick E (t__law_pick T E) := by
  intro ds m nx X F B h hE
  obtain ⟨p, x, xs, rfl, hS, hm, hx, hne, hl, h⟩ := h
  rw [st__law_pick]
  unfold t__law_pick
  have hl' : xs.length ≤ 1000000 := hl
  have hpos : 0 < xs.length := List.length_pos_iff.mpr hne
  refine ws_ret (we_op (we_var rfl (we_call okx0 (wa_cons (we_var rfl (wa_cons (we_cb (wa_cons (we_var rfl (wa_nil (wc_len (lenD_seq hx hl) (wa_nil ⟨p, _, rfl, hS, by omega, by omega, hm, fun r r0 r1 => ?_⟩))))))))))))
  obtain ⟨d, hd, hd2⟩ := atI_int r0 r1
  exact wo_ixSeq hx hl hd (h d hd2)

def tT__law_pick {K : PySem.W.Frag} {mg : Str → Option Value} (T : Txt K mg) : TS :=
    (tRet (tOp rIxS (tVar 1) (tCall (spOf K (φ__law_draw T)) [] E0 (tCons (tVar 0) (tCons (tCB (rLenA K) (tCons (tVar 1) tNil)) tNil)))))
theorem wo_ixSS {K : PySem.W.Frag} {F B : Hp} {m : Mem} {z : Str} {i : Int} {c : Nat} {Q : QD} (hz : z.length ≤ sizeLine) (h : atI z.cps.toList i = some c) (q : Q (.s (.str ⟨#[c]⟩)) m) : WO K F B rIxS (.s (.str z)) (.s (.int i)) m Q := fun Hb H vx vy R hB r hx hy k => by
  unfold Rp at hx hy
  exact ⟨z, i, c, hx, hy, hz, h, k.here r rp_s q⟩
theorem rdT__law_pick {K : PySem.W.Frag} {mg : Str → Option Value} (T : Txt K mg) (E : XK) : BodyOkT K (φ__law_pickT T) N__law_pick E (tT__law_pick T) := by
  intro ds m nx X F B h hE
  obtain ⟨p, z, rfl, hS, hm, hne, hl, h⟩ := h
  rw [st__law_pick]
  unfold tT__law_pick
  have hpos : 0 < z.length := by
    rw [TL.len_tl]
    exact List.length_pos_iff.mpr hne
  have hzl : z.length ≤ sizeLine := le_line (by omega)
  refine ws_ret (we_op (we_var rfl (we_call okx0 (wa_cons (we_var rfl (wa_cons (we_cb (wa_cons (we_var rfl (wa_nil (wc_len (n := z.length) ⟨hzl, rfl⟩ (wa_nil ⟨p, _, rfl, hS, by omega, by omega, hm, fun r r0 r1 => ?_⟩))))))))))))
  have r2 : r < ((TL.tl z).length : Nat) := by
    rw [← TL.len_tl]
    exact r1
  obtain ⟨c, hc, hc2⟩ := atI_int (xs := TL.tl z) r0 r2
  exact wo_ixSS hzl hc (h c hc2)
theorem wlt_draws {K : PySem.W.Frag} {F B : Hp} {ρ : DD.Env} {m : Mem} {wi : TI} {te : TE} {i N : Nat} {Q : List D → Mem → Prop} (P : Str → Prop) (hN : N ≤ 1000000) (hw : ∀ Q', Q' (rngD 0 N) m → WI K F B wi ρ m Q')
    (ht : ∀ F' k d, k < N → WE K F' B te ((wipeD ρ [i]).set i (some d)) (more m k) fun y m' => ∃ z, y = strD z ∧ P z ∧ m' = more m (k + 1))
    (q : ∀ zs : List Str, zs.length = N → (∀ z ∈ zs, P z) → Q (zs.map strD) (more m N)) : WLT K F B (HTk.tLcT wi (gName i) tYes te [i]) ρ m Q := by
  refine wlt_lc (hw _ ⟨fun k acc m' => ∃ zs : List Str, acc = zs.map strD ∧ zs.length = k ∧ (∀ z ∈ zs, P z) ∧ m' = more m k, ⟨[], rfl, rfl, (fun _ z => nomatch z), rfl⟩, fun k acc m' hk ⟨zs, e1, e2, e3, e4⟩ => ?_, fun F' k d acc m' hd ⟨zs, e1, e2, e3, e4⟩ => ?_, fun acc m' ⟨zs, e1, e2, e3, e4⟩ => ?_⟩)
  · subst e1
    rw [rngD_length] at hk
    rw [List.length_map]
    exact Nat.lt_of_lt_of_le (by omega) (le_line hN)
  · subst e1 e4
    have hk := (rngD_get hd).1
    refine wgw_name List.mem_cons_self (wt_yes ⟨fun _ => we_imp (ht F' k d hk) fun y m4 ⟨z, ey, hz, em⟩ => ?_, fun z => nomatch z⟩)
    subst ey em
    refine ⟨zs ++ [z], by simp, by simp [e2], fun x hx => ?_, rfl⟩
    rcases List.mem_append.mp hx with w | w
    · exact e3 x w
    · have e : x = z := by simpa using w
      subst e
      exact hz
  · subst e1 e4
    rw [rngD_length] at e2 ⊢
    exact q zs e2 e3
theorem wi_imp {K : PySem.W.Frag} {F B : Hp} {ρ : DD.Env} {m : Mem} {wi : TI} {Q Q' : List D → Mem → Prop} (h : WI K F B wi ρ m Q) (f : ∀ xs m1, Q xs m1 → Q' xs m1) : WI K F B wi ρ m Q' := fun Hb H σ R hB r hs k =>
  h Hb H σ R hB r hs fun J H1 Hb1 xs m1 e r1 hj q => k J H1 Hb1 xs m1 e r1 hj (f _ _ q)
theorem ws_convR {K : PySem.W.Frag} {F B : Hp} {ρ : DD.Env} {m : Mem} {t : TS} {nx : QD} (h : WS K F B t ρ m { nx := fun _ _ => False, rt := fun d m' => ∃ m2, Conv m' m2 ∧ nx d m2 }) : WS K F B t ρ m { nx := fun _ _ => False, rt := nx } := fun Hb H σ R hB r hs k =>
  h Hb H σ R hB r hs ⟨k.nx, fun v H' Hb' d m' e r' hd ⟨m2, c, q⟩ => k.rt v H' Hb' d m2 e (c _ _ _ _ r') hd q, k.bk, k.ct⟩
theorem wlt_map {K : PySem.W.Frag} {F B : Hp} {ρ : DD.Env} {m : Mem} {wi : TI} {te : TE} {i : Nat} {Q : List D → Mem → Prop} (h : WI K F B wi ρ m fun xs m1 => ∃ f : D → D, xs.length ≤ 1000 ∧ (∀ F' d, d ∈ xs → WE K F' B te ((wipeD ρ [i]).set i (some d)) m1 fun y m2 => y = f d ∧ m2 = m1) ∧ Q (xs.map f) m1) :
    WLT K F B (HTk.tLcT wi (gName i) tYes te [i]) ρ m Q := by
  refine wlt_lc (wi_imp h fun xs m1 ⟨f, hl, he, q⟩ => ⟨fun k acc m' => acc = (xs.take k).map f ∧ m' = m1, ⟨rfl, rfl⟩, fun k acc m' hk ⟨e1, e2⟩ => ?_, fun F' k d acc m' hd ⟨e1, e2⟩ => ?_, fun acc m' ⟨e1, e2⟩ => ?_⟩)
  · subst e1
    rw [List.length_map, List.length_take]
    exact Nat.lt_of_lt_of_le (show _ < 1001 by omega) (le_line (by decide))
  · subst e1 e2
    refine wgw_name List.mem_cons_self (wt_yes ⟨fun _ => we_imp (he F' d (List.mem_of_getElem? hd)) fun y m4 ⟨ey, em⟩ => ?_, fun z => nomatch z⟩)
    subst ey em
    refine ⟨?_, rfl⟩
    rw [List.take_add_one, hd, List.map_append]
    rfl
  · subst e1 e2
    rw [List.take_length]
    exact q
theorem rd__law_same {K : PySem.W.Frag} {mg : Str → Option Value} (T : Txt K mg) (E : XK) (n : Nat) (φ : Phi) (hφ : ∀ x ds m nx X, (∃ j, n = j + 1 ∧ SameOk j x) → ds = [x, x] → nx (blD true) m → φ ds m nx X) : BodyOk K (φ__law_same T n) N__law_same E (t__law_same T φ E) := by
  intro ds m nx X F B h hE
  obtain ⟨x, rfl, hx, h⟩ := h
  rw [st__law_same]
  unfold t__law_same
  have flat : ∀ v : V, kitAnyB (match v with | .non => "NoneType" | .bl _ => "bool" | .int _ => "int" | .str _ => "str" | _ => "") ["list", "tuple"] = some false → True := fun _ _ => trivial
  have seqs : ∀ (xs : List D) (hx1 : xs.length ≤ 1000000) (j : Nat), n = j + 1 → (∀ y ∈ xs, SameOk j y) → ∀ (x : D), lenD m x xs.length → (x = .lst xs ∨ x = .tup xs) → WE K F B (tAndV (tOp (rEqA K) (tCB (rLenA K) (tCons (tVar 0) tNil)) (tCB (rLenA K) (tCons (tVar 1) tNil))) (tCB (rAll K) (tCons (tLc (RZ.iZipA K (tCons (tVar 0) (tCons (tVar 1) tNil))) (gTup K 2 (gCons (gName 2) (gCons (gName 3) gNil))) tYes (tCall (spOf K φ) [] E0 (tCons (tVar 2) (tCons (tVar 3) tNil))) [2, 3]) tNil))) [some x, some x, none, none] m nx := fun xs hx1 j hj hy x hlen hxx => by
    refine we_andV (we_op (we_cb (wa_cons (we_var rfl (wa_nil (wc_len hlen (we_cb (wa_cons (we_var rfl (wa_nil (wc_len hlen (wo_eqS rfl ⟨true, by rw [decide_eq_true rfl], fun _ => ?_, fun q => nomatch q⟩))))))))))))
    have hzl : (xs.zip xs).length ≤ sizeLine := by
      rw [List.length_zip]
      have := le_line hx1
      omega
    refine we_cb (wa_cons (we_lcMap (wi_zipL (wa_cons (we_var rfl (wa_cons (we_var rfl (wa_nil ⟨xs, xs, by rcases hxx with rfl | rfl; exact .inl rfl; exact .inr rfl, fun _ => blD true, by rw [List.length_map]; exact hzl, fun F' d hd => ?_, ?_⟩))))))))
    · obtain ⟨pr, hpr, rfl⟩ := List.mem_map.mp hd
      obtain ⟨e1, e2⟩ := zip_self hpr
      refine wgw_pair (by decide) (by decide) ⟨rfl, ?_⟩
      refine we_call okx0 (wa_cons (we_var rfl (wa_cons (we_var rfl (wa_nil (hφ pr.1 _ _ _ X0 ⟨j, hj, hy _ e2⟩ ?_ ⟨rfl, rfl⟩))))))
      rw [← e1]
    · refine wa_nil ?_
      have e : ((xs.zip xs).map fun p => D.tup [p.1, p.2]).map (fun _ => blD true) = ((xs.zip xs).map fun _ => true).map fun b => .s (.bl b) := by
        rw [List.map_map, List.map_map]
        rfl
      rw [e]
      refine wc_all ?_
      have e2 : ((xs.zip xs).map fun _ => true).all id = true := by
        rw [List.all_map, List.all_eq_true]
        intro _ _
        rfl
      rw [e2]
      exact h
  have isT : ∀ {t : String} {Q : QD} {b : Bool} (i : Nat) (cs : List String), TyD K m x (.type t) → (i = 0 ∨ i = 1) → kitAnyB t cs = some b → True := fun _ _ _ _ _ => trivial
  cases x with
  | s v =>
    have fin : ∀ (t : String) (v : V), TyD K m (.s v) (.type t) → kitAnyB t ["list", "tuple"] = some false → kitAnyB t ["int"] = some false → kitAnyB t ["int", "list", "tuple"] = some false → scal v v = true → nx (blD true) m →
        WS K F B (t__law_same T φ E) [some (.s v), some (.s v), none, none] m { nx := fun _ m' => nx (.s .non) m', rt := nx } := fun t v ht k1 k2 k3 hs h => by
      unfold t__law_same
      refine ws_seq (ws_if (wt_B (we_cb (wa_cons (we_var rfl (wa_cons (we_tup (wa_cons (we_c (wa_cons (we_c (wa_nil ⟨by decide, wa_nil ?_⟩))))))))))))
      refine wc_isiT (us := ["list", "tuple"].map Value.type) ht rfl (kit_any k1) ⟨false, rfl, (fun q => nomatch q), fun _ => ?_⟩
      refine ws_next (ws_seq (ws_if (wt_B (we_cb (wa_cons (we_var rfl (wa_cons (we_c (wa_nil ?_)))))))))
      have k2' : kitB t "int" = some false := by
        unfold kitAnyB at k2
        cases e : kitB t "int" with
        | none => rw [e] at k2; cases k2
        | some b =>
          cases b with
          | true => rw [e] at k2; cases k2
          | false => rfl
      refine wc_isi ht rfl (kit_ty k2') ⟨false, rfl, (fun q => nomatch q), fun _ => ?_⟩
      refine ws_next (ws_ret (we_andV (we_op (we_cb (wa_cons (we_var rfl (wa_cons (we_tup (wa_cons (we_c (wa_cons (we_c (wa_cons (we_c (wa_nil ⟨by decide, wa_nil ?_⟩)))))))))))))))
      refine wc_isiT (us := ["int", "list", "tuple"].map Value.type) ht rfl (kit_any k3) (we_c (wo_isB ⟨true, rfl, fun _ => ?_, fun q => nomatch q⟩))
      refine we_op (we_var rfl (we_var rfl (wo_eqS hs ?_)))
      rw [decide_eq_true rfl]
      exact h
    have num : ∀ (t : String) (v : V) (bb : Bool), TyD K m (.s v) (.type t) → kitAnyB t ["list", "tuple"] = some false → kitB t "int" = some true → kitB t "bool" = some bb → scal v v = true → nx (blD true) m →
        WS K F B (t__law_same T φ E) [some (.s v), some (.s v), none, none] m { nx := fun _ m' => nx (.s .non) m', rt := nx } := fun t v bb ht k1 k2 k3 hs h => by
      unfold t__law_same
      refine ws_seq (ws_if (wt_B (we_cb (wa_cons (we_var rfl (wa_cons (we_tup (wa_cons (we_c (wa_cons (we_c (wa_nil ⟨by decide, wa_nil ?_⟩))))))))))))
      refine wc_isiT (us := ["list", "tuple"].map Value.type) ht rfl (kit_any k1) ⟨false, rfl, (fun q => nomatch q), fun _ => ?_⟩
      refine ws_next (ws_seq (ws_if (wt_B (we_cb (wa_cons (we_var rfl (wa_cons (we_c (wa_nil ?_)))))))))
      refine wc_isi ht rfl (kit_ty k2) ⟨true, rfl, (fun _ => ?_), fun q => nomatch q⟩
      refine ws_ret (we_andV (we_cb (wa_cons (we_var rfl (wa_cons (we_c (wa_nil ?_)))))))
      refine wc_isi ht rfl (kit_ty k2) ⟨true, rfl, (fun _ => ?_), fun q => nomatch q⟩
      refine we_andV (we_op (we_cb (wa_cons (we_var rfl (wa_cons (we_c (wa_nil ?_)))))))
      refine wc_isi ht rfl (kit_ty k3) (we_cb (wa_cons (we_var rfl (wa_cons (we_c (wa_nil ?_))))))
      refine wc_isi ht rfl (kit_ty k3) (wo_eqS rfl ⟨true, by rw [decide_eq_true rfl], fun _ => ?_, fun q => nomatch q⟩)
      refine we_op (we_var rfl (we_var rfl (wo_eqS hs ?_)))
      rw [decide_eq_true rfl]
      exact h
    cases v with
    | non => exact fin "NoneType" .non .non (by decide +kernel) (by decide +kernel) (by decide +kernel) rfl h
    | bl b => exact num "bool" (.bl b) true (.bl b) (by decide +kernel) (by decide +kernel) (by decide +kernel) rfl h
    | int i => exact num "int" (.int i) false (.int i) (by decide +kernel) (by decide +kernel) (by decide +kernel) rfl h
    | str z => exact fin "str" (.str z) (.str z) (by decide +kernel) (by decide +kernel) (by decide +kernel) rfl h
    | byt _ => unfold SameOk at hx; exact hx.elim
    | flt _ => unfold SameOk at hx; exact hx.elim
    | ref _ => unfold SameOk at hx; exact hx.elim
    | ty _ => unfold SameOk at hx; exact hx.elim
  | lst xs =>
    cases n with
    | zero => unfold SameOk at hx; exact hx.elim
    | succ j =>
      unfold SameOk at hx
      refine ws_seq (ws_if (wt_B (we_cb (wa_cons (we_var rfl (wa_cons (we_tup (wa_cons (we_c (wa_cons (we_c (wa_nil ⟨by decide, wa_nil ?_⟩))))))))))))
      refine wc_isiT (us := ["list", "tuple"].map Value.type) (.lst xs) rfl (kit_any (by decide +kernel)) ⟨true, rfl, (fun _ => ?_), fun q => nomatch q⟩
      refine ws_seq (ws_if (wt_or (wt_test (we_op (we_cb (wa_cons (we_var rfl (wa_cons (we_c (wa_nil ?_))))))))))
      refine wc_isi (b := true) (.lst xs) rfl (kit_ty (by decide +kernel)) (we_cb (wa_cons (we_var rfl (wa_cons (we_c (wa_nil ?_))))))
      refine wc_isi (b := true) (.lst xs) rfl (kit_ty (by decide +kernel)) (wo_neS rfl ⟨false, rfl, fun _ => ?_, fun q => nomatch q⟩)
      refine wt_test (we_op (we_cb (wa_cons (we_var rfl (wa_cons (we_c (wa_nil ?_)))))))
      refine wc_isi (b := false) (.lst xs) rfl (kit_ty (by decide +kernel)) (we_cb (wa_cons (we_var rfl (wa_cons (we_c (wa_nil ?_))))))
      refine wc_isi (b := false) (.lst xs) rfl (kit_ty (by decide +kernel)) (wo_neS rfl ⟨false, rfl, (fun q => nomatch q), fun _ => ?_⟩)
      exact ws_next (ws_ret (seqs xs hx.1 j rfl hx.2 _ rfl (.inl rfl)))
  | tup xs =>
    cases n with
    | zero => unfold SameOk at hx; exact hx.elim
    | succ j =>
      unfold SameOk at hx
      refine ws_seq (ws_if (wt_B (we_cb (wa_cons (we_var rfl (wa_cons (we_tup (wa_cons (we_c (wa_cons (we_c (wa_nil ⟨by decide, wa_nil ?_⟩))))))))))))
      refine wc_isiT (us := ["list", "tuple"].map Value.type) (.tup xs) rfl (kit_any (by decide +kernel)) ⟨true, rfl, (fun _ => ?_), fun q => nomatch q⟩
      refine ws_seq (ws_if (wt_or (wt_test (we_op (we_cb (wa_cons (we_var rfl (wa_cons (we_c (wa_nil ?_))))))))))
      refine wc_isi (b := false) (.tup xs) rfl (kit_ty (by decide +kernel)) (we_cb (wa_cons (we_var rfl (wa_cons (we_c (wa_nil ?_))))))
      refine wc_isi (b := false) (.tup xs) rfl (kit_ty (by decide +kernel)) (wo_neS rfl ⟨false, rfl, fun _ => ?_, fun q => nomatch q⟩)
      refine wt_test (we_op (we_cb (wa_cons (we_var rfl (wa_cons (we_c (wa_nil ?_)))))))
      refine wc_isi (b := true) (.tup xs) rfl (kit_ty (by decide +kernel)) (we_cb (wa_cons (we_var rfl (wa_cons (we_c (wa_nil ?_))))))
      refine wc_isi (b := true) (.tup xs) rfl (kit_ty (by decide +kernel)) (wo_neS rfl ⟨false, rfl, (fun q => nomatch q), fun _ => ?_⟩)
      exact ws_next (ws_ret (seqs xs hx.1 j rfl hx.2 _ rfl (.inr rfl)))
  | dic _ _ => unfold SameOk at hx; exact hx.elim
  | ins _ _ _ => unfold SameOk at hx; exact hx.elim
  | pl _ => unfold SameOk at hx; exact hx.elim
  | gen _ => unfold SameOk at hx; exact hx.elim
def tT__law_name {K : PySem.W.Frag} {mg : Str → Option Value} (T : Txt K mg) : TS :=
    (tSeq (tAsg (tOp (rIx K) (tLst (tCons (tC (.int 1)) (tCons (tC (.int 1)) (tCons (tC (.int 2)) (tCons (tC (.int 3)) (tCons (tC (.int 5)) (tCons (tC (.int 8)) tNil))))))) (tCall (spOf K (φ__law_draw T)) [] E0 (tCons (tVar 0) (tCons (tC (.int 6)) tNil)))) (gName 1))
    (tRet (HTk.tJoinL "" (HTk.tLcT (iRng1 (tCons (tVar 1) tNil)) (gName 2) tYes (tCall (spOf K (φ__law_pickT T)) [] E0 (tCons (tVar 0) (tCons (tC (.str "abcdefghijklmnopqrstuvwxyz")) tNil))) [2]))))
theorem rdT__law_name {K : PySem.W.Frag} {mg : Str → Option Value} (T : Txt K mg) (E : XK) : BodyOkT K (φ__law_name T) N__law_name E (tT__law_name T) := by
  intro ds m nx X F B h hE
  obtain ⟨p, rfl, hS, hm, h⟩ := h
  rw [st__law_name]
  unfold tT__law_name
  refine ws_seq (ws_asg (we_op (we_lst (wa_cons (we_c (wa_cons (we_c (wa_cons (we_c (wa_cons (we_c (wa_cons (we_c (wa_cons (we_c (wa_nil ⟨by decide, we_call okx0 (wa_cons (we_var rfl (wa_cons (we_c (wa_nil ⟨p, 6, rfl, hS, by decide, by decide, by omega, fun r r0 r1 => ?_⟩)))))⟩))))))))))))))))
  obtain ⟨d, hd, hd2⟩ := atI_int (xs := [intD 1, intD 1, intD 2, intD 3, intD 5, intD 8]) r0 r1
  have hk : ∃ k : Nat, d = intD k ∧ 1 ≤ k ∧ k ≤ 8 := by
    simp only [List.mem_cons, List.not_mem_nil, or_false] at hd2
    rcases hd2 with rfl | rfl | rfl | rfl | rfl | rfl
    · exact ⟨1, rfl, by decide, by decide⟩
    · exact ⟨1, rfl, by decide, by decide⟩
    · exact ⟨2, rfl, by decide, by decide⟩
    · exact ⟨3, rfl, by decide, by decide⟩
    · exact ⟨5, rfl, by decide, by decide⟩
    · exact ⟨8, rfl, by decide, by decide⟩
  obtain ⟨k, rfl, k1, k8⟩ := hk
  refine wo_ixL hd ?_
  refine ws_ret (we_conv (Q := fun d m' => ∃ z, d = strD z ∧ DT.isName z = true ∧ ∃ k, k ≤ 10 ∧ m' = more m k) ?_ fun d m' ⟨z, e, hz, k, hk, em⟩ => ?_)
  · refine we_joinL (wlt_draws (m := more m 1) (N := k) (fun z => ∃ c, c ∈ DT.letters ∧ z = ⟨#[c]⟩) (by omega) (fun Q' q => wi_rng1 (wa_cons (we_var rfl (wa_nil ⟨(k : Int), rfl, by omega, by omega, by rw [Int.toNat_natCast]; exact q⟩)))) (fun F' j d hj => ?_) fun zs h1 h2 => ?_)
    · refine we_call okx0 (wa_cons (we_var rfl (wa_cons (we_c (wa_nil ⟨p, "abcdefghijklmnopqrstuvwxyz", rfl, hS, ?_, by decide +kernel, by decide +kernel, fun c hc => ⟨_, rfl, ⟨c, hc, rfl⟩, rfl⟩⟩)))))
      show m.cnt + 1 + j < _
      omega
    · obtain ⟨n1, n2⟩ := name_of h2
      refine ⟨zs, rfl, ?_, _, rfl, ?_, 1 + k, by omega, by unfold more; rw [Nat.add_assoc]⟩
      · have e0 : ("" : Str).length = 0 := by decide +kernel
        have := sum_le (b := 1) (zs := zs) fun z hz => by
          obtain ⟨c, _, rfl⟩ := h2 z hz
          exact Nat.le_refl _
        rw [e0]
        omega
      · unfold DT.isName
        rw [TL.len_tl, n1, h1, decide_eq_true (show 1 ≤ k by omega), decide_eq_true (show k ≤ 8 by omega)]
        simp only [Bool.true_and, List.all_eq_true, decide_eq_true_eq]
        exact n2
  · subst e em
    exact ⟨more m 10, Conv.count (m := more m k) (n := m.cnt + 10) (Nat.add_le_add_left hk _), h z hz⟩
def tT__law_names {K : PySem.W.Frag} {mg : Str → Option Value} (T : Txt K mg) : TS :=
    (HTk.tNamesT (iRng1 (tCons (tVar 1) tNil)) (gName 3) (HTk.tTurn (HTk.tSpare (tCall (spOf K (φ__law_name T)) [] E0 (tCons (tVar 0) tNil)) (HTk.tLcT (iAny K (tC (.str "abcdefghijklmnop"))) (gName 5) tYes (tOp HTk.rAddN (tVar 5) (tC (.str "jq"))) [5])) 4 2) 2)
def spares : List Str := (chrs "abcdefghijklmnop").map fun d => (match d with | .s (.str c) => c ++ "jq" | _ => "")
theorem spares_ok : (spares.all DT.isName && decide spares.Nodup && decide (spares.length = 16)) = true := by decide +kernel
def jqD : D → D
  | .s (.str c) => strD (c ++ "jq")
  | _ => nonD
theorem spares_jq : (chrs "abcdefghijklmnop").map jqD = spares.map strD := by
  unfold spares chrs
  rw [List.map_map, List.map_map, List.map_map]
  rfl
theorem wo_addN {K : PySem.W.Frag} {F B : Hp} {m : Mem} {i j : Str} {Q : QD} (h1 : (i.length == 0) = false) (h2 : (j.length == 0) = false) (hl : i.length + j.length ≤ sizeLine) (q : Q (.s (.str (i ++ j))) m) : WO K F B HTk.rAddN (.s (.str i)) (.s (.str j)) m Q := fun Hb H vx vy R hB r hx hy k => by
  unfold Rp at hx hy
  exact ⟨i, j, hx, hy, h1, h2, hl, k.here r rp_s q⟩
theorem rdT__law_names {K : PySem.W.Frag} {mg : Str → Option Value} (T : Txt K mg) (E : XK) : BodyOkT K (φ__law_namesT T) N__law_names E (tT__law_names T) := by
  intro ds m nx X F B h hE
  obtain ⟨p, n, rfl, hS, hm, n0, n1, h⟩ := h
  rw [st__law_names]
  unfold tT__law_names
  have hsp := spares_ok
  simp only [Bool.and_eq_true, List.all_eq_true, decide_eq_true_eq] at hsp
  obtain ⟨⟨sp1, sp2⟩, sp3⟩ := hsp
  have fin : WS K F B (HTk.tNamesT (iRng1 (tCons (tVar 1) tNil)) (gName 3) (HTk.tTurn (HTk.tSpare (tCall (spOf K (φ__law_name T)) [] E0 (tCons (tVar 0) tNil)) (HTk.tLcT (iAny K (tC (.str "abcdefghijklmnop"))) (gName 5) tYes (tOp HTk.rAddN (tVar 5) (tC (.str "jq"))) [5])) 4 2) 2) [some (.s (.ref p)), some (intD n), none, none, none, none, none] m { nx := fun _ _ => False, rt := fun d m' => ∃ zs : List Str, d = nmE zs ∧ (zs.length : Int) = n ∧ (∀ z ∈ zs, DT.isName z = true) ∧ m' = more m (10 * n.toNat) } := by
    refine ws_names (by show 2 < 7; decide) (by decide) fun F' => wi_rng1 (wa_cons (we_var rfl (wa_nil ⟨n, rfl, by omega, by omega, fun k ys ρ' m' => ys.length = k ∧ (∀ z ∈ ys, DT.isName z = true) ∧ m' = more m (10 * k) ∧ ∃ x y, ρ' = [some (.s (.ref p)), some (intD n), none, x, y, none, none], ?_, ?_, ?_⟩)))
    · exact ⟨rfl, (fun z hz => nomatch hz), rfl, _, _, rfl⟩
    · rintro k d ys ρ' m' hd ⟨hl, hn, rfl, x, y, rfl⟩
      have hk := (rngD_get hd).1
      refine wnm_turn (by decide) (Nat.lt_of_lt_of_le (show ys.length < 1000 by omega) (le_line (by decide))) fun F2 => ?_
      refine wlt_spare (we_call okx0 (wa_cons (we_var rfl (wa_nil ⟨p, rfl, hS, by show m.cnt + 10 * k < _; omega, fun z hz => fun F3 => ?_⟩))))
      refine wlt_map (wi_any (we_c ⟨_, rfl, jqD, by decide +kernel, fun F4 d hd => ?_, ?_⟩))
      · obtain ⟨w, hw, rfl⟩ := chr_of hd
        exact we_op (we_var rfl (we_c (wo_addN rfl (by decide +kernel) (le_line (by show 1 + 2 ≤ 1000000; decide)) ⟨rfl, rfl⟩)))
      rw [spares_jq]
      refine ⟨by rw [List.length_map, sp3]; exact Nat.lt_of_lt_of_le (show 16 < 1000 by decide) (le_line (by decide)), ?_⟩
      obtain ⟨w, hw1, hw2, hw3⟩ : ∃ w, ((z :: spares).filter fun x => !decide (x ∈ ys)).head? = some w ∧ w ∈ z :: spares ∧ w ∉ ys := by
        cases e : (z :: spares).filter fun x => !decide (x ∈ ys) with
        | nil =>
          exfalso
          rw [List.filter_eq_nil_iff] at e
          have := len_le_of_sub (xs := spares) (ys := ys) sp2 fun x hx => by
            have := e x (List.mem_cons_of_mem _ hx)
            simpa using this
          omega
        | cons w ws =>
          have hm := List.mem_filter.mp (show w ∈ (z :: spares).filter fun x => !decide (x ∈ ys) by rw [e]; exact List.mem_cons_self)
          exact ⟨w, rfl, hm.1, by simpa using hm.2⟩
      have hwn : DT.isName w = true := by
        rcases List.mem_cons.mp hw2 with q | q
        · rw [q]
          exact hz
        · exact sp1 w q
      refine ⟨z :: spares, w, rfl, ?_, ?_, ?_, ?_, _, _, rfl⟩
      · rw [← hw1]
        congr 1
        refine List.filter_congr fun x _ => ?_
        rw [inV_strs]
      · rw [List.length_append, hl]
        rfl
      · intro x hx
        rcases List.mem_append.mp hx with q | q
        · exact hn x q
        · have e : x = w := by simpa using q
          rw [e]
          exact hwn
      · show (⟨m.cnt + 10 * k + 10, m.own⟩ : Mem) = ⟨m.cnt + 10 * (k + 1), m.own⟩
        rw [Nat.mul_succ, Nat.add_assoc]
    · rintro ys ρ' m' ⟨hl, hn, rfl, x, y, rfl⟩
      rw [rngD_length] at hl ⊢
      exact ⟨ys, rfl, by omega, hn, rfl⟩
  refine ws_convR (ws_imp fin (fun ρ' m' z => z.elim) (fun d m' ⟨zs, e, hl, hn, em⟩ => ?_) (fun ρ' m' z => z.elim) fun ρ' m' z => z.elim)
  subst e em
  exact ⟨more m 100, Conv.count (m := more m (10 * n.toNat)) (n := m.cnt + 100) (Nat.add_le_add_left (by omega) _), h zs hl hn⟩
theorem rd_tried {K : PySem.W.Frag} {mg : Str → Option Value} (T : Txt K mg) {F B : Hp} {m : Mem} {ask : XK → TE} {f : Addr} {Q : QD} (X : XD)
    (hok : ∀ B' EX ρ', Same B B' → OkX K F B' X EX → ρ'[0]? = some (some (.s (.ref f))) → WE K F B' (ask EX) ρ' m fun d m' => ∃ z, d = pathD T.c_Path z ∧ Q (.tup [strD "told", strD z]) m')
    (hX : ∀ C ns ds m', X C ns ds m' → (C = T.c_NotBegun ∧ ∃ w, ns = (["other"] : List Str) ∧ ds = [pathD T.c_Path w] ∧ Q (.tup [strD "begun", strD w]) m') ∨ (C = T.c_NoRelative ∧ ∃ w, ns = (["path"] : List Str) ∧ ds = [pathD T.c_Path w] ∧ Q (.tup [strD "relative", strD w]) m')) :
    WS K F B (tg__law_tried T ask) (startD N__law_tried [.s (.ref f)]) m { nx := fun _ m' => Q nonD m', rt := Q } := by
  rw [show startD N__law_tried [.s (.ref f)] = [some (.s (.ref f)), none, none] from rfl]
  unfold tg__law_tried
  refine ws_seq (ws_asg (we_tup (wa_cons (we_c (wa_nil ⟨le_line (by show 1 ≤ 1000000; decide), ?_⟩)))))
  refine ws_seqI (fun ρ1 m1 => ∃ y x0 x2, ρ1 = [x0, some y, x2] ∧ Q y m1) (ws_tryM (X := X) (fun B' EX eB hEX => ?_) fun C ns ds m' hx => ?_) ?_
  · refine ws_asg (we_tup (wa_cons (we_c (wa_cons (we_fld (we_imp (hok B' EX _ eB hEX rfl) fun d m' ⟨z, ed, q⟩ => ?_))))))
    subst ed
    exact ⟨T.c_Path, strD z, T.y_Path.cl, T.n_Path_text, ⟨rfl, rfl⟩, wa_nil ⟨len2 _ _, _, _, _, rfl, q⟩⟩
  · rcases hX C ns ds m' hx with ⟨rfl, w, rfl, rfl, q⟩ | ⟨rfl, w, rfl, rfl, q⟩
    · refine ⟨true, T.xm_NotBegun_NotBegun, fun _ => ?_, (fun z => nomatch z)⟩
      intro F' B' d vs a eB hd1 hd2 hv hl
      cases d with
      | none => exact absurd (hd2 rfl) (by simp)
      | some dd => exact ws_asg (we_tup (wa_cons (we_c (wa_cons (we_fld (we_xf (hd1 dd rfl) hv rfl (we_var rfl ⟨rfl, T.c_Path, strD w, T.y_Path.cl, T.n_Path_text, ⟨rfl, rfl⟩, wa_nil ⟨len2 _ _, _, _, _, rfl, q⟩⟩)))))))
    · refine ⟨false, T.xm_NoRelative_NotBegun, (fun z => nomatch z), fun _ => ⟨true, T.xm_NoRelative_NoRelative, fun _ => ?_, (fun z => nomatch z)⟩⟩
      intro F' B' d vs a eB hd1 hd2 hv hl
      cases d with
      | none => exact absurd (hd2 rfl) (by simp)
      | some dd => exact ws_asg (we_tup (wa_cons (we_c (wa_cons (we_fld (we_xf (hd1 dd rfl) hv rfl (we_var rfl ⟨rfl, T.c_Path, strD w, T.y_Path.cl, T.n_Path_text, ⟨rfl, rfl⟩, wa_nil ⟨len2 _ _, _, _, _, rfl, q⟩⟩)))))))
  · rintro ρ1 m1 ⟨y, x0, x2, rfl, q⟩
    exact ws_ret (we_var rfl q)
theorem rd__law_due_cut {K : PySem.W.Frag} {mg : Str → Option Value} (T : Txt K mg) (E : XK) : BodyOk K (φ__law_due_cut T) N__law_due_cut E (t__law_due_cut T E) := by
  intro ds m nx X F B h hE
  obtain ⟨z, w, rfl, pz, pw, h⟩ := h
  rw [st__law_due_cut]
  unfold t__law_due_cut
  have nz := pz.n
  have nw := pw.n
  obtain ⟨c1, hc1, hc2⟩ := fst_bar (path_ne pz.1)
  obtain ⟨c3, hc3, hc4⟩ := fst_bar (path_ne pw.1)
  unfold cutD36 at h
  have no : begunB z w = false → nx (.tup [strD "begun", strD w]) m := fun q => by
    rw [if_neg (by rw [q]; exact Bool.false_ne_true)] at h
    exact h
  refine ws_seq (ws_par (wa_cons (we_call okx0 (wa_cons (we_var rfl (wa_nil ⟨z, rfl, pz.sz, wa_cons (we_call okx0 (wa_cons (we_var rfl (wa_nil ⟨w, rfl, pw.sz, wa_nil ⟨_, _, rfl, ?_⟩⟩))))⟩))))))
  refine ws_seq (ws_if (wt_or (wt_test (we_op (we_op (we_op (we_var rfl (we_c (wo_ixS (le_line pz.sz) hc1 (we_c (wo_eqS rfl (we_op (we_op (we_var rfl (we_c (wo_ixS (le_line pw.sz) hc3 (we_c (wo_eqS rfl (wo_neS rfl ⟨_, rfl, fun q => ?_, fun q => ?_⟩)))))))))))))))))))
  rotate_left
  · rw [bar_eq, bar_eq, ← hc2, ← hc4, dec_bl] at q
    have hr : DT.rooted z ≠ DT.rooted w := by simpa using q
    refine ⟨fun _ => ?_, fun z => nomatch z⟩
    refine ws_ret (we_tup (wa_cons (we_c (wa_cons (we_var rfl (wa_nil ⟨len2 _ _, ?_⟩))))))
    refine no ?_
    unfold begunB
    rw [decide_eq_false hr, Bool.false_and]
  rw [bar_eq, bar_eq, ← hc2, ← hc4, dec_bl] at q
  have hr : DT.rooted z = DT.rooted w := by simpa using q
  refine wt_test (we_op (we_sl (we_var rfl (wpt_no (wpt_some (we_cb (wa_cons (we_var rfl (wa_nil (wc_len (n := (DT.steps w).length) (by show _ = _; exact (List.length_map _).symm) ⟨_, rfl, wsl_L ?_⟩))))))))))
  rw [cut_take, ← List.map_take]
  refine we_var rfl (wo_neStrs (xs := (DT.steps z).take (DT.steps w).length) (ys := DT.steps w) (stepsOk fun s hs => pz.st s (List.mem_of_mem_take hs)) (stepsOk pw.st) ⟨_, rfl, fun q2 => ?_, fun q2 => ?_⟩)
  · have ht : ¬ (DT.steps z).take (DT.steps w).length = DT.steps w := by simpa using q2
    refine ws_ret (we_tup (wa_cons (we_c (wa_cons (we_var rfl (wa_nil ⟨len2 _ _, ?_⟩))))))
    refine no ?_
    unfold begunB
    rw [decide_eq_false ht, Bool.and_false]
  have ht : (DT.steps z).take (DT.steps w).length = DT.steps w := by simpa using q2
  have hb : begunB z w = true := by
    unfold begunB
    rw [decide_eq_true ht, decide_eq_true hr]
    rfl
  rw [if_pos hb] at h
  unfold cutT at h
  refine ws_next (ws_seq (ws_asg (we_m1 (we_c ⟨⟨_, rfl⟩, we_sl (we_var rfl (wpt_some (we_cb (wa_cons (we_var rfl (wa_nil (wc_len (n := (DT.steps w).length) (by show _ = _; exact (List.length_map _).symm) ⟨_, rfl, wpt_no (wsl_L ?_)⟩)))))))⟩))))
  rw [cut_drop', ← List.map_drop]
  have hst : ∀ s ∈ (DT.steps z).drop (DT.steps w).length, DT.isStep s := fun s hs => pz.st s (List.mem_of_mem_drop hs)
  have hsl : ((DT.steps z).drop (DT.steps w).length).length ≤ 50001 := by
    rw [List.length_drop]
    omega
  generalize (DT.steps z).drop (DT.steps w).length = st at *
  refine wm_join (join_okB hst (by omega)) ?_
  obtain ⟨c, hc, hc2⟩ := last_of (path_ne pz.1)
  have et : DT.tlLast z = some c := hc2
  rw [et] at h
  have hb1 : ("/" : Str).length = 1 := by decide +kernel
  have hb0 : ("" : Str).length = 0 := by decide +kernel
  refine ws_ret (we_tup (wa_cons (we_c (wa_cons (we_if (wt_test (we_op (we_var rfl (we_c (wo_neS rfl ⟨_, rfl, fun q => ?_, fun q => ?_⟩))))))))))
  · rw [dec_str, join_ne hst] at q
    have hne : st ≠ [] := by simpa using q
    rw [if_neg hne] at h
    have hjl := join_len hst hne
    refine we_op (we_var rfl (we_if (wt_test (we_op (we_op (we_var rfl (we_un (we_c (wu_neg (wo_ixS (le_line pz.sz) hc (we_c (wo_eqS rfl ⟨_, rfl, fun q2 => ?_, fun q2 => ?_⟩))))))))))))
    · rw [bar_eq] at q2
      rw [if_pos (congrArg some (of_decide_eq_true q2))] at h
      exact we_c (wo_addS (le_line (by rw [hb1]; omega)) (wa_nil ⟨len2 _ _, h⟩))
    · rw [bar_eq] at q2
      rw [if_neg fun e => of_decide_eq_false q2 (Option.some.inj e)] at h
      exact we_c (wo_addS (le_line (by rw [hb0]; omega)) (wa_nil ⟨len2 _ _, h⟩))
  · rw [dec_str, join_ne hst] at q
    have hne : st = [] := by simpa using q
    rw [if_pos hne] at h
    exact we_c (wa_nil ⟨len2 _ _, h⟩)
theorem rd__law_due_relative {K : PySem.W.Frag} {mg : Str → Option Value} (T : Txt K mg) (E : XK) : BodyOk K (φ__law_due_relative T) N__law_due_relative E (t__law_due_relative T E) := by
  intro ds m nx X F B h hE
  obtain ⟨z, w, rfl, pz, pw, h⟩ := h
  rw [st__law_due_relative]
  unfold t__law_due_relative
  have nz := pz.n
  have nw := pw.n
  obtain ⟨c1, hc1, hc2⟩ := fst_bar (path_ne pz.1)
  obtain ⟨c3, hc3, hc4⟩ := fst_bar (path_ne pw.1)
  unfold relD36 at h
  refine ws_seq (ws_for (wi_any (we_tup (wa_cons (we_var rfl (wa_cons (we_var rfl (wa_nil ⟨len2 _ _, [strD z, strD w], rfl, fun i ρ1 m1 => m1 = m ∧ (1 ≤ i → namesB z = true) ∧ (2 ≤ i → namesB w = true) ∧ ∃ x2 x3, ρ1 = [some (strD z), some (strD w), x2, x3, none, none], ?_, ?_, ?_⟩))))))))
  · exact ⟨rfl, fun q => absurd q (by decide), fun q => absurd q (by decide), _, _, rfl⟩
  · rintro i d ρ1 m1 hd ⟨rfl, i1, i2, x2, x3, rfl⟩
    obtain ⟨v, rfl, pv, v1, v2⟩ : ∃ v, d = strD v ∧ Pth v ∧ (namesB v = false → nx (.tup [strD "relative", strD v]) m1) ∧ (namesB v = true → (1 ≤ i + 1 → namesB z = true) ∧ (2 ≤ i + 1 → namesB w = true)) := by
      rcases i with _ | _ | i
      · cases hd
        refine ⟨z, rfl, pz, fun q => ?_, fun q => ⟨fun _ => q, fun y => absurd y (by decide)⟩⟩
        rw [if_neg (by rw [q]; exact Bool.false_ne_true)] at h
        exact h
      · cases hd
        refine ⟨w, rfl, pw, fun q => ?_, fun q => ⟨fun _ => i1 (by decide), fun _ => q⟩⟩
        rw [if_pos (i1 (by decide)), if_neg (by rw [q]; exact Bool.false_ne_true)] at h
        exact h
      · cases hd
    refine wg_name (ws_if (wt_test (we_op (we_lcFilter (wi_any (we_call okx0 (wa_cons (we_var rfl (wa_nil ⟨v, rfl, pv.sz, (DT.steps v).map strD, rfl, dtB, id, ?_, fun F' d hd => ?_, ?_⟩)))))))))
    · rw [List.length_map]
      exact le_line (Nat.le_trans pv.n (by decide))
    · obtain ⟨s, hs, rfl⟩ := List.mem_map.mp hd
      refine wgw_name List.mem_cons_self ⟨rfl, wt_test (we_op (we_var rfl (we_tup (wa_cons (we_c (wa_cons (we_c (wa_nil ⟨len2 _ _, wo_inT (xs := [("." : Str), ".."].map V.str) rfl rfl ⟨_, rfl, ?_, rfl, fun _ => we_var rfl ⟨rfl, rfl⟩⟩⟩))))))))⟩
      rw [inV_strs]
      rfl
    · rw [List.map_id, List.filter_map]
      refine we_lst (wa_nil ⟨len0K, ?_⟩)
      have hok : ∀ y ∈ (DT.steps v).filter (dtB ∘ strD), PyData.strOk y = true := stepsOk fun s hs => pv.st s (List.mem_filter.mp hs).1
      have hd : decide ((DT.steps v).filter (dtB ∘ strD) = []) = namesB v := names_dots pv.1
      refine wo_neNilS hok ⟨_, rfl, fun q => ?_, fun q => ?_⟩
      · rw [hd] at q
        have e : namesB v = false := by simpa using q
        exact ws_ret (we_tup (wa_cons (we_c (wa_cons (we_var rfl (wa_nil ⟨len2 _ _, v1 e⟩))))))
      · rw [hd] at q
        have e : namesB v = true := by simpa using q
        exact ws_next ⟨rfl, (v2 e).1, (v2 e).2, _, _, rfl⟩
  rintro ρ1 m1 ⟨rfl, i1, i2, x2, x3, rfl⟩
  have n1 := i1 (by show 1 ≤ 2; decide)
  have n2 := i2 (by show 2 ≤ 2; decide)
  rw [if_pos n1, if_pos n2] at h
  refine ws_seq (ws_if (wt_test (we_op (we_op (we_op (we_var rfl (we_c (wo_ixS (le_line pz.sz) hc1 (we_c (wo_eqS rfl (we_op (we_op (we_var rfl (we_c (wo_ixS (le_line pw.sz) hc3 (we_c (wo_eqS rfl (wo_neS rfl ⟨_, rfl, fun q => ?_, fun q => ws_next ?_⟩))))))))))))))))))
  · rw [bar_eq, bar_eq, ← hc2, ← hc4, dec_bl] at q
    have hr : DT.rooted z ≠ DT.rooted w := by simpa using q
    rw [if_neg hr] at h
    exact ws_ret (we_tup (wa_cons (we_c (wa_cons (we_var rfl (wa_nil ⟨len2 _ _, h⟩))))))
  rw [bar_eq, bar_eq, ← hc2, ← hc4, dec_bl] at q
  have hr : DT.rooted z = DT.rooted w := by simpa using q
  rw [if_pos hr] at h
  refine ws_seq (ws_par (wa_cons (we_call okx0 (wa_cons (we_var rfl (wa_nil ⟨z, rfl, pz.sz, wa_cons (we_call okx0 (wa_cons (we_var rfl (wa_nil ⟨w, rfl, pw.sz, wa_nil ⟨_, _, rfl, ?_⟩⟩))))⟩))))))
  unfold relT at h
  have hst := rel_steps (b := DT.steps w) (names_mem n1)
  have hrl : (relS (DT.steps z) (DT.steps w)).length ≤ 100002 := Nat.le_trans rel_len (by omega)
  have sa := pz.st
  have sb := pw.st
  generalize ea : DT.steps z = a at *
  generalize eb : DT.steps w = b at *
  obtain ⟨ca, cb⟩ := com_le a b
  have dr1 : ∀ (xs : List Str) (k : Nat), DD.cutD ((xs.drop k).map strD) (some 1) none = (xs.drop (k + 1)).map strD := fun xs k => by
    have e := cut_drop' (xs := (xs.drop k).map strD) (k := 1)
    rw [show ((1 : Nat) : Int) = 1 from rfl] at e
    rw [e, ← List.map_drop, List.drop_drop]
  refine ws_seqI (fun ρ2 m2 => m2 = m1 ∧ ρ2 = [some (strD z), some (strD w), x2, x3, some (strsD (a.drop (comN a b))), some (strsD (b.drop (comN a b)))]) (ws_while (fun n ρ2 m2 => ∃ k : Nat, k ≤ comN a b ∧ n = comN a b - k ∧ m2 = m1 ∧ ρ2 = [some (strD z), some (strD w), x2, x3, some (strsD (a.drop k)), some (strsD (b.drop k))]) (n := comN a b) ⟨0, Nat.zero_le _, rfl, rfl, rfl⟩ ?_) ?_
  · rintro n ρ2 m2 ⟨k, hk, rfl, rfl, rfl⟩
    have oka : ∀ y ∈ a.drop k, PyData.strOk y = true := stepsOk fun s hs => sa s (List.mem_of_mem_drop hs)
    have okb : ∀ y ∈ b.drop k, PyData.strOk y = true := stepsOk fun s hs => sb s (List.mem_of_mem_drop hs)
    refine wt_and (wt_test (we_op (we_var rfl (we_lst (wa_nil ⟨len0K, wo_neNilS oka ⟨_, rfl, fun q1 => ?_, fun q1 => ?_⟩⟩)))))
    rotate_left
    · have e : a.drop k = [] := by simpa using q1
      have hl := List.drop_eq_nil_iff.mp e
      have ek : k = comN a b := by omega
      exact ⟨(fun y => nomatch y), fun _ => ⟨rfl, by rw [ek]⟩⟩
    have h1 : k < a.length := by
      have e : ¬ a.drop k = [] := by simpa using q1
      rw [List.drop_eq_nil_iff] at e
      omega
    refine wt_and (wt_test (we_op (we_var rfl (we_lst (wa_nil ⟨len0K, wo_neNilS okb ⟨_, rfl, fun q2 => ?_, fun q2 => ?_⟩⟩)))))
    rotate_left
    · have e : b.drop k = [] := by simpa using q2
      have hl := List.drop_eq_nil_iff.mp e
      have ek : k = comN a b := by omega
      exact ⟨(fun y => nomatch y), fun _ => ⟨rfl, by rw [ek]⟩⟩
    have h2 : k < b.length := by
      have e : ¬ b.drop k = [] := by simpa using q2
      rw [List.drop_eq_nil_iff] at e
      omega
    have e1 : a[k]? = some a[k] := by simp [h1]
    have e2 : b[k]? = some b[k] := by simp [h2]
    have f1 : ((a.drop k).map strD).head? = some (strD a[k]) := by
      rw [List.drop_eq_getElem_cons h1]
      rfl
    have f2 : ((b.drop k).map strD).head? = some (strD b[k]) := by
      rw [List.drop_eq_getElem_cons h2]
      rfl
    refine wt_test (we_op (we_op (we_var rfl (we_c (wo_ixL (d := strD a[k]) (atI_zero f1) (we_op (we_var rfl (we_c (wo_ixL (d := strD b[k]) (atI_zero f2) (wo_eqS rfl ⟨_, rfl, fun q3 => ?_, fun q3 => ?_⟩))))))))))
    · have hab : a[k] = b[k] := V.str.inj (of_decide_eq_true q3)
      have hlt : k < comN a b := by
        rcases Nat.lt_or_ge k (comN a b) with y | y
        · exact y
        · have ek : k = comN a b := by omega
          have e3 : a[comN a b]? = some a[k] := by rw [← ek]; exact e1
          have e4 : b[comN a b]? = some b[k] := by rw [← ek]; exact e2
          exact absurd hab (com_at e3 e4)
      refine ws_par (wa_cons (we_sl (we_var rfl (wpt_some (we_c ⟨_, rfl, wpt_no (wsl_L (wa_cons (we_sl (we_var rfl (wpt_some (we_c ⟨_, rfl, wpt_no (wsl_L (wa_nil ⟨_, _, rfl, ?_⟩))⟩))))))⟩)))))
      rw [dr1, dr1]
      exact ⟨comN a b - (k + 1), by omega, k + 1, hlt, rfl, rfl, rfl⟩
    · have hab : a[k] ≠ b[k] := fun y => of_decide_eq_false q3 (by rw [y])
      have ek : k = comN a b := by
        rcases Nat.lt_or_ge k (comN a b) with y | y
        · obtain ⟨s, s1, s2⟩ := com_lt y
          rw [e1] at s1
          rw [e2] at s2
          exact absurd ((Option.some.inj s1).trans (Option.some.inj s2).symm) hab
        · omega
      exact ⟨rfl, by rw [ek]⟩
  rintro ρ2 m2 ⟨rfl, rfl⟩
  have hok : ∀ y ∈ a.drop (comN a b) ++ b.drop (comN a b), PyData.strOk y = true := stepsOk fun s hs => by
    rcases List.mem_append.mp hs with y | y
    · exact sa s (List.mem_of_mem_drop y)
    · exact sb s (List.mem_of_mem_drop y)
  have lb : (b.drop (comN a b)).length = b.length - comN a b := List.length_drop
  refine ws_ret (we_tup (wa_cons (we_c (wa_cons (we_if (wt_test (we_op (we_op (we_var rfl (we_var rfl (wo_addL ?_ ?_)))))))))))
  · rw [List.length_map, List.length_map, List.length_drop, List.length_drop]
    exact le_line (by omega)
  rw [← List.map_append]
  refine we_lst (wa_nil ⟨len0K, wo_neNilS hok ⟨_, rfl, fun q2 => ?_, fun q2 => ?_⟩⟩)
  · have hne : ¬ (a.drop (comN a b) ++ b.drop (comN a b)) = [] := fun e => by
      rw [decide_eq_true e] at q2
      cases q2
    have hrs : relS a b ≠ [] := fun e => by
      unfold relS at e
      obtain ⟨y1, y2⟩ := List.append_eq_nil_iff.mp e
      refine hne ?_
      rw [y2, List.nil_append]
      have y3 := congrArg List.length y1
      rw [List.length_replicate] at y3
      exact List.eq_nil_of_length_eq_zero (by rw [lb]; exact y3)
    rw [plain_ff hst hrs] at h
    refine we_m1 (we_c ⟨⟨_, rfl⟩, we_op (we_op (we_lst (wa_cons (we_c (wa_nil ⟨le_line (by show 1 ≤ 1000000; decide), we_cb (wa_cons (we_var rfl (wa_nil (wc_len (n := (b.drop (comN a b)).length) (by show _ = _; exact (List.length_map _).symm) (wo_repL ?_ ?_ ?_ ?_)))))⟩)))))⟩)
    · omega
    · omega
    · refine le_line ?_
      show 1 * _ ≤ 1000000
      omega
    have en : ((b.drop (comN a b)).length : Int).toNat = b.length - comN a b := by omega
    rw [en, flat_rep]
    refine we_var rfl (wo_addL ?_ ?_)
    · rw [List.length_replicate, List.length_map, List.length_drop]
      exact le_line (by omega)
    have er : List.replicate (b.length - comN a b) (strD "..") ++ (a.drop (comN a b)).map strD = (relS a b).map strD := by
      rw [← rel_data, List.map_drop]
    rw [er]
    exact wm_join (join_okB hst (by omega)) (wa_nil ⟨len2 _ _, h⟩)
  · have hne : (a.drop (comN a b) ++ b.drop (comN a b)) = [] := of_decide_eq_true (by simpa only [Bool.not_eq_false'] using q2)
    obtain ⟨y1, y2⟩ := List.append_eq_nil_iff.mp hne
    have hrs : relS a b = [] := by
      unfold relS
      rw [y1, List.append_nil]
      have y3 := congrArg List.length y2
      rw [lb] at y3
      rw [show b.length - comN a b = 0 from y3]
      rfl
    rw [hrs] at h
    exact we_c (wa_nil ⟨len2 _ _, h⟩)
theorem rd_law {K : PySem.W.Frag} {mg : Str → Option Value} (T : Txt K mg) (E : XK) (a : Addr) (ns : List Int) (B : Hp) (hS : SqL K B a (ns.map V.int)) (hl : ns.length ≤ 63) : WS K (fun _ => none) B (t_law T E) (startD N_law [.s (.ref a)]) ⟨0, putM (fun _ => none) T.tb_law (tabM "law.<locals>.<lambda>")⟩ { nx := fun _ _ => False, rt := fun d _ => d = .s (.bl true) } := by
  rw [st_law]
  unfold t_law
  refine ws_seq (ws_asg (we_start (wa_cons (we_var rfl (wa_nil ⟨a, ns, rfl, hS, hl, fun c p hpc hc0 hp0 => ?_⟩)))))
  generalize hown : putM (putM (putM (fun _ => none) T.tb_law (tabM "law.<locals>.<lambda>")) c MO.cel) p (MO.stm c) = own
  have htc : T.tb_law ≠ c := fun z => by
    have h1 : putM (fun _ => none) T.tb_law (tabM "law.<locals>.<lambda>") c = none := hc0
    rw [← z, putM_same] at h1
    cases h1
  have htp : T.tb_law ≠ p := fun z => by
    have h1 : putM (fun _ => none) T.tb_law (tabM "law.<locals>.<lambda>") p = none := hp0
    rw [← z, putM_same] at h1
    cases h1
  have htab : own T.tb_law = some (tabM "law.<locals>.<lambda>") := by
    subst hown
    exact (putM_ne htp).trans ((putM_ne htc).trans putM_same)
  have hst : ∀ n, Stream ⟨n, own⟩ p := fun n => by
    subst hown
    exact ⟨c, putM_same, (putM_ne (Ne.symm hpc)).trans putM_same, hpc⟩
  refine ws_seq (ws_for (wi_rng1 (wa_cons (we_c (wa_nil ⟨8, rfl, by decide, by decide, fun i ρ1 m1 => m1 = ⟨500 * i, own⟩ ∧ ∃ x2 x3 x4 x5 x6 x7 x8 x9 x10 x11, ρ1 = [some (.s (.ref a)), some (.s (.ref p)), x2, x3, x4, x5, x6, x7, x8, x9, x10, x11], ?_, ?_, ?_⟩)))))
  · exact ⟨rfl, _, _, _, _, _, _, _, _, _, _, rfl⟩
  · rintro i d ρ1 m1 hd ⟨rfl, x2, x3, x4, x5, x6, x7, x8, x9, x10, x11, rfl⟩
    have hi : i < 8 := (rngD_get hd).1
    refine wg_name ?_
    refine ws_nm (we_call okx0 (wa_cons (we_var rfl (wa_cons (we_c (wa_nil ⟨p, 2, rfl, hst _, by show 500 * i < _; omega, by decide, by decide, fun zs z1 z2 => ⟨zs, rfl, fun n => ?_⟩⟩))))))
    obtain ⟨w0, w1, rfl⟩ : ∃ w0 w1, zs = [w0, w1] := by
      match zs, z1 with
      | [w0, w1], _ => exact ⟨w0, w1, rfl⟩
      | [], z1 => cases z1
      | [_], z1 => cases z1
      | _ :: _ :: _ :: r, z1 =>
        exfalso
        simp only [List.length_cons] at z1
        omega
    have h0 := z2 w0 (by simp)
    have h1 := z2 w1 (by simp)
    refine ws_seq (ws_asg (we_call okx0 (wa_cons (we_var rfl (wa_cons (we_nm rfl (wa_cons (we_c (wa_nil ⟨p, [w0, w1], 6, rfl, hst _, by show 500 * i + 100 < _; omega, by show 2 ≤ 10; decide, z2, by decide, by decide, fun a1 ha la => ?_⟩)))))))))
    refine ws_seq (ws_asg (we_call okx0 (wa_cons (we_var rfl (wa_cons (we_nm rfl (wa_cons (we_c (wa_nil ⟨p, [w0, w1], 5, rfl, hst _, by show 500 * i + 100 + 100 < _; omega, by show 2 ≤ 10; decide, z2, by decide, by decide, fun b1 hb lb => ?_⟩)))))))))
    show WS K _ B _ _ ⟨500 * i + 300, own⟩ _
    refine ws_seqI (fun ρ2 m2 => ∃ b x6 x7 q, q ≤ 310 ∧ m2 = ⟨500 * i + q, own⟩ ∧ DT.isPath b = true ∧ b.length ≤ 5000 ∧ ρ2 = [some (.s (.ref a)), some (.s (.ref p)), some d, some (nmT n [w0, w1]), some (strD a1), some (strD b), x6, x7, x8, x9, x10, x11]) ?_ ?_
    · refine ws_if (wt_test (we_op (we_call okx0 (wa_cons (we_var rfl (wa_cons (we_c (wa_nil ⟨p, 2, rfl, hst _, by decide, by decide, by show 500 * i + 300 < _; omega, fun r _ _ => we_c (wo_eqS rfl ⟨_, rfl, fun q => ?_, fun q => ?_⟩)⟩))))))))
      · have hst1 := DT.steps_isStep ha
        have hn1 : (DT.steps a1).length ≤ 501 := steps_count la
        obtain ⟨c1, hc1, hc2⟩ := fst_bar (path_ne ha)
        refine ws_seq (ws_asg (we_call okx0 (wa_cons (we_var rfl (wa_nil ⟨a1, rfl, Nat.le_trans la (by decide), ?_⟩)))))
        refine ws_seq (ws_asg (we_op (we_sl (we_var rfl (wpt_no (wpt_some (we_call okx0 (wa_cons (we_var rfl (wa_cons (we_op (we_cb (wa_cons (we_var rfl (wa_nil (wc_len (n := (DT.steps a1).length) (by show _ = _; exact (List.length_map _).symm) (we_c (wo_addI (wa_nil ⟨p, _, rfl, hst _, by omega, by omega, by show 500 * i + 301 < _; omega, fun r2 r0 r1 => ?_⟩)))))))))))))))))))
        obtain ⟨k, rfl⟩ : ∃ k : Nat, r2 = (k : Int) := ⟨r2.toNat, by omega⟩
        refine ⟨_, rfl, wsl_L ?_⟩
        rw [cut_take, ← List.map_take]
        have hpick : ∀ st : List Str, (st = [] ∨ st = [w0]) → (∀ s ∈ (DT.steps a1).take k ++ st, DT.isStep s) ∧ ((DT.steps a1).take k ++ st).length ≤ 502 := fun st hs => by
          refine ⟨fun s h => ?_, ?_⟩
          · rcases List.mem_append.mp h with y | y
            · exact hst1 s (List.mem_of_mem_take y)
            · rcases hs with e | e
              · rw [e] at y
                cases y
              · rw [e] at y
                rw [List.mem_singleton.mp y]
                exact .inr (.inr h0)
          · rw [List.length_append, List.length_take]
            rcases hs with e | e <;> rw [e] <;> simp only [List.length_cons, List.length_nil] <;> omega
        refine we_call okx0 (wa_cons (we_var rfl (wa_cons (we_lst (wa_cons (we_lst (wa_nil ⟨len0K, wa_cons (we_lst (wa_nil ⟨len0K, wa_cons (we_lst (wa_cons (we_op (we_nm rfl (we_c (wo_ixF (z := w0) rfl (wa_nil ⟨le_line (by show 1 ≤ 1000000; decide), wa_nil ⟨le_line (by show 3 ≤ 1000000; decide), wa_nil ⟨p, _, _, rfl, hst _, by show 500 * i + 302 < _; omega, rfl, by simp, by show 3 ≤ 1000000; decide, fun dd hdd => ?_⟩⟩⟩)))))))⟩))⟩)))))))
        obtain ⟨st, rfl, hst2⟩ : ∃ st : List Str, dd = strsD st ∧ (st = [] ∨ st = [w0]) := by
          simp only [List.mem_cons, List.not_mem_nil, or_false] at hdd
          rcases hdd with e | e | e
          · exact ⟨[], e, .inl rfl⟩
          · exact ⟨[], e, .inl rfl⟩
          · exact ⟨[w0], e, .inr rfl⟩
        obtain ⟨p1, p2⟩ := hpick st hst2
        refine wo_addL ?_ ?_
        · rw [List.length_map, List.length_map, ← List.length_append]
          exact le_line (by omega)
        rw [← List.map_append]
        generalize (DT.steps a1).take k ++ st = sa at p1 p2
        have hpl := DT.plain_len (rt := DT.rooted a1) (en := true) p1
        refine ws_asg (we_call okx0 (wa_cons (we_var rfl (wa_cons (we_op (we_op (we_var rfl (we_c (wo_ixS (le_line (by omega)) hc1 (we_c (wo_eqS rfl ?_)))))))))))
        rw [bar_eq, ← hc2]
        refine wa_cons (we_op (we_call okx0 (wa_cons (we_var rfl (wa_cons (we_c (wa_nil ⟨p, 2, rfl, hst _, by decide, by decide, by show 500 * i + 303 < _; omega, fun r3 _ _ => we_c (wo_eqS rfl (wa_nil ⟨sa, DT.rooted a1, _, rfl, p1, by omega, ?_⟩))⟩)))))))
        generalize decide (V.int r3 = V.int 0) = en
        have hpl := DT.plain_len (rt := DT.rooted a1) (en := en) p1
        exact ⟨_, _, _, 304, by decide, rfl, DT.plain_path p1, by omega, rfl⟩
      · exact ws_next ⟨b1, _, _, 301, by decide, rfl, hb, by omega, rfl⟩
    rintro ρ2 m2 ⟨b, x6, x7, q0, hq0, rfl, hb, lb, rfl⟩
    refine ws_count (n := 500 * i + 310) ?_ (by show 500 * i + q0 ≤ _; omega)
    show WS K _ B _ _ ⟨500 * i + 310, own⟩ _
    have pa1 : Pth a1 := ⟨ha, Nat.le_trans la (by decide)⟩
    have pb1 : Pth b := ⟨hb, Nat.le_trans lb (by decide)⟩
    have w8 : ∀ w, DT.isName w = true → w.length ≤ 8 := fun w h => DT.isStep_len (.inr (.inr h))
    have long : ∀ z w : Str, w.length ≤ 8 → z.length ≤ 50000 → z.length + (z.length + 1) * w.length ≤ 500000 := fun z w h1 h2 => by
      have := Nat.mul_le_mul (Nat.add_le_add_right h2 1) h1
      omega
    have long2 : ∀ z w : Str, w.length ≤ 8 → z.length ≤ 500000 → z.length + (z.length + 1) * w.length ≤ 16777216 := fun z w h1 h2 => by
      have := Nat.mul_le_mul (Nat.add_le_add_right h2 1) h1
      omega
    refine ws_seqI (fun ρ2 m2 => ∃ za zb x8, m2 = ⟨500 * i + 311, own⟩ ∧ Pth za ∧ Pth zb ∧ ρ2 = [some (.s (.ref a)), some (.s (.ref p)), some d, some (nmT n [w0, w1]), some (strD za), some (strD zb), x6, x7, x8, x9, x10, x11]) ?_ ?_
    · refine ws_if (wt_test (we_op (we_call okx0 (wa_cons (we_var rfl (wa_cons (we_c (wa_nil ⟨p, 2, rfl, hst _, by decide, by decide, by show 500 * i + 310 < _; omega, fun r _ _ => we_c (wo_eqS rfl ⟨_, rfl, fun q => ?_, fun q => ?_⟩)⟩))))))))
      · refine ws_asgL (wlt_map (wi_any (we_tup (wa_cons (we_var rfl (wa_cons (we_var rfl (wa_nil ⟨len2 _ _, _, rfl, rplD w0 w1, by show 2 ≤ 1000; decide, fun F' dd hdd => ?_, ?_⟩))))))))
        · obtain ⟨z, rfl, pz⟩ : ∃ z, dd = strD z ∧ Pth z := by
            simp only [List.mem_cons, List.not_mem_nil, or_false] at hdd
            rcases hdd with e | e
            · exact ⟨_, e, pa1⟩
            · exact ⟨_, e, pb1⟩
          have hr := TK.replace_len z ".." w1
          have hl1 := long z w1 (w8 w1 h1) pz.2
          refine we_replN rfl (w := w0) rfl ?_ (we_replN rfl (w := w1) rfl ?_ (we_var rfl ⟨z, rfl, by omega, _, rfl, long2 _ w0 (w8 w0 h0) (by omega), rfl, rfl⟩))
          · exact beq_eq_false_iff_ne.mpr fun e => by rw [← e] at h0; exact absurd h0 (by decide +kernel)
          · exact beq_eq_false_iff_ne.mpr fun e => by rw [← e] at h1; exact absurd h1 (by decide +kernel)
        · intro aL oL uL
          obtain ⟨g1, g2⟩ := dots_gone ha h0 h1
          obtain ⟨g3, g4⟩ := dots_gone hb h0 h1
          exact wg_lstF rfl (wgs_cons (wg_name (wgs_cons (wg_name (wgs_nil ⟨_, _, _, rfl, ⟨g1, by omega⟩, ⟨g3, by omega⟩, rfl⟩)))))
      · exact ws_next ⟨a1, b, _, rfl, pa1, pb1, rfl⟩
    rintro ρ2 m2 ⟨za, zb, x8', rfl, pa, pb, rfl⟩
    refine ws_seq (ws_asgG (we_tup (wa_cons (make_path T (we_var rfl ⟨za, rfl, pa.1, pa.sz, wa_cons (make_path T (we_var rfl ⟨zb, rfl, pb.1, pb.sz, wa_nil ⟨len2 _ _, wg_tup rfl (wgs_cons (wg_name (wgs_cons (wg_name (wgs_nil ?_)))))⟩⟩))⟩)))))
    refine ws_seq (ws_asg (we_call okx0 (wa_cons (we_var rfl (wa_cons (we_var rfl (wa_nil ⟨za, zb, rfl, pa, pb, ?_⟩)))))))
    generalize hM : (⟨500 * i + 311, own⟩ : Mem) = M
    have hMtab : M.own T.tb_law = some (tabM "law.<locals>.<lambda>") := by
      rw [← hM]
      exact htab
    rw [cutD_eq]
    refine ws_seq (ws_if (wt_or (wt_not (wt_B (we_call okx0 (wa_cons (we_meth okx0 (we_var rfl ⟨⟨rfl, by decide +kernel⟩, wa_cons (we_var rfl (wa_nil ⟨za, zb, rfl, pa, pb, wa_cons (we_op (we_op (we_var rfl (we_c (wo_ixT rfl (we_c (wo_eqS rfl ?_)))))))⟩))⟩))))))))
    rw [told_eq]
    refine wa_nil ⟨_, rfl, same_blK _ _, true, rfl, fun _ => ?_, fun z => nomatch z⟩
    refine wt_not (wt_B (we_call okx0 (wa_cons (we_imp (Q := fun d6 m6 => d6 = cutD36 za zb ∧ M = m6) (we_lam hMtab fun B' ask f eB hask => ?_) fun d6 m6 ⟨e1, e2⟩ => ?_))))
    · refine rd_tried T (Q := fun d6 m6 => d6 = cutD36 za zb ∧ M = m6) (fun C ns ds m' => C = T.c_NotBegun ∧ ns = (["other"] : List Str) ∧ ds = [pathD T.c_Path zb] ∧ begunB za zb = false ∧ M = m') (fun B2 EX ρ' eB2 hEX h0 => ?_) (fun C ns ds m' ⟨e1, e2, e3, e4, e5⟩ => .inl ⟨e1, zb, e2, e3, ?_, e5⟩)
      · refine hask B2 EX ρ' _ _ eB2 h0 (we_meth hEX (we_var rfl ⟨⟨rfl, by decide +kernel⟩, wa_cons (we_var rfl (wa_nil ⟨za, zb, rfl, pa, pb, fun q => ⟨_, rfl, ?_, rfl⟩, fun q => ⟨rfl, rfl, rfl, q, rfl⟩⟩))⟩))
        unfold cutD36
        rw [if_pos q]
      · unfold cutD36
        rw [if_neg (by rw [e4]; exact Bool.false_ne_true)]
    subst e1 e2
    refine wa_cons (we_var rfl (wa_nil ⟨cutD36 za zb, by rw [cutD_eq], same_cutD _ _ _, true, rfl, (fun z => nomatch z), fun _ => ws_next ?_⟩))
    refine ws_seq (ws_if (wt_not (wt_B (we_call okx0 (wa_cons (we_imp (Q := fun d6 m6 => d6 = relD36 za zb ∧ M = m6) (we_lam hMtab fun B' ask f eB hask => ?_) fun d6 m6 ⟨e1, e2⟩ => ?_))))))
    · refine rd_tried T (Q := fun d6 m6 => d6 = relD36 za zb ∧ M = m6) (fun C ns ds m' => C = T.c_NoRelative ∧ ns = (["path"] : List Str) ∧ M = m' ∧ ∃ w, ds = [pathD T.c_Path w] ∧ relD36 za zb = .tup [strD "relative", strD w]) (fun B2 EX ρ' eB2 hEX h0 => ?_) (fun C ns ds m' ⟨e1, e2, e5, w, e3, e4⟩ => .inr ⟨e1, w, e2, e3, e4.symm, e5⟩)
      refine hask B2 EX ρ' _ _ eB2 h0 (we_meth hEX (we_var rfl ⟨⟨rfl, by decide +kernel⟩, wa_cons (we_var rfl (wa_nil ⟨za, zb, rfl, pa, pb, fun q1 q2 q3 => ⟨_, rfl, ?_, rfl⟩, fun q1 => ⟨rfl, rfl, rfl, _, rfl, ?_⟩, fun q1 q2 => ⟨rfl, rfl, rfl, _, rfl, ?_⟩, fun q1 q2 q3 => ⟨rfl, rfl, rfl, _, rfl, ?_⟩⟩))⟩))
      · unfold relD36
        rw [if_pos q1, if_pos q2, if_pos q3]
      · unfold relD36
        rw [if_neg (by rw [q1]; exact Bool.false_ne_true)]
      · unfold relD36
        rw [if_pos q1, if_neg (by rw [q2]; exact Bool.false_ne_true)]
      · unfold relD36
        rw [if_pos q1, if_pos q2, if_neg q3]
    subst e1 e2
    refine wa_cons (we_call okx0 (wa_cons (we_var rfl (wa_cons (we_var rfl (wa_nil ⟨za, zb, rfl, pa, pb, wa_nil ⟨relD36 za zb, rfl, same_relD _ _ _, true, rfl, (fun z => nomatch z), fun _ => ws_next ?_⟩⟩))))))
    refine ws_if (wt_or (wt_not (wt_B (we_meth okx0 (we_var rfl ⟨⟨rfl, by decide +kernel⟩, wa_cons (we_var rfl (wa_nil ⟨za, za, rfl, pa, pa, ?_⟩))⟩)))))
    rw [begun_self]
    refine ⟨true, rfl, fun _ => ?_, fun z => nomatch z⟩
    refine wt_or (wt_test (we_op (we_fld (we_meth okx0 (we_var rfl ⟨⟨rfl, by decide +kernel⟩, wa_cons (we_var rfl (wa_nil ⟨za, za, rfl, pa, pa, fun _ => ?_, fun q => ?_⟩))⟩)))))
    rotate_left
    · rw [begun_self] at q
      cases q
    rw [cut_self]
    refine ⟨T.c_Path, strD ".", T.y_Path.cl, T.n_Path_text, ⟨rfl, rfl⟩, we_c (wo_neS rfl ⟨false, by rw [decide_eq_true rfl]; rfl, fun _ => ?_, fun z => nomatch z⟩)⟩
    refine wt_test (we_op (we_lst (wa_cons (we_fld (we_var rfl ⟨T.c_Path, strD za, T.y_Path.cl, T.n_Path_text, ⟨rfl, rfl⟩, wa_cons (we_fld (we_var rfl ⟨T.c_Path, strD zb, T.y_Path.cl, T.n_Path_text, ⟨rfl, rfl⟩, wa_nil ⟨len2 _ _, we_lst (wa_cons (we_var rfl (wa_cons (we_var rfl (wa_nil ⟨len2 _ _, ?_⟩)))))⟩⟩))⟩)))))
    have hok : ∀ z ∈ [za, zb], PyData.strOk z = true := fun z hz => by
      simp only [List.mem_cons, List.not_mem_nil, or_false] at hz
      rcases hz with rfl | rfl
      · exact DT.path_ok pa.1
      · exact DT.path_ok pb.1
    refine wo_neStrs (xs := [za, zb]) (ys := [za, zb]) hok hok ⟨false, by rw [decide_eq_true rfl]; rfl, (fun z => nomatch z), fun _ => ?_⟩
    rw [← hM]
    exact ws_count (n := 500 * (i + 1)) (ws_next ⟨rfl, _, _, _, _, _, _, _, _, _, _, rfl⟩) (by show 500 * i + 311 ≤ _; omega)
  · rintro ρ1 m1 ⟨rfl, x2, x3, x4, x5, x6, x7, x8, x9, x10, x11, rfl⟩
    exact ws_ret (we_c rfl)
end My

namespace My
open PySem L2 DD
open PySem.Spec PyProof.Rows
theorem len_is_name {K : PySem.W.Frag} {mg : Str → Option Value} (T : Txt K mg) : ∀ ds m nx X, φ_is_name T ds m nx X → ds.length = (["thing"] : List Str).length := fun ds m nx X h => by
  unfold φ_is_name at h
  first | (rcases h with ⟨_, _, rfl, _⟩ | ⟨_, _, rfl, _⟩ <;> rfl) | (rcases h with ⟨_, _, _, rfl, _⟩ | ⟨_, _, _, rfl, _⟩ <;> rfl) | (obtain ⟨_, rfl, _⟩ := h; rfl) | (obtain ⟨_, _, rfl, _⟩ := h; rfl) | (obtain ⟨_, _, _, rfl, _⟩ := h; rfl) | (obtain ⟨_, _, _, _, rfl, _⟩ := h; rfl) | (obtain ⟨rfl, _⟩ := h; rfl) | (obtain ⟨_, _, _, _, _, rfl, _⟩ := h; rfl) | (obtain ⟨_, _, _, _, _, _, rfl, _⟩ := h; rfl) | (obtain ⟨_, _, _, _, _, _, _, rfl, _⟩ := h; rfl) | (obtain ⟨_, _, _, _, _, _, _, _, rfl, _⟩ := h; rfl) | (obtain ⟨_, _, _, _, _, _, _, _, _, rfl, _⟩ := h; rfl) | (obtain ⟨_, _, _, _, _, _, _, _, _, _, rfl, _⟩ := h; rfl)
theorem len_is_path_text {K : PySem.W.Frag} {mg : Str → Option Value} (T : Txt K mg) : ∀ ds m nx X, φ_is_path_text T ds m nx X → ds.length = (["thing"] : List Str).length := fun ds m nx X h => by
  unfold φ_is_path_text at h
  first | (rcases h with ⟨_, _, rfl, _⟩ | ⟨_, _, rfl, _⟩ <;> rfl) | (rcases h with ⟨_, _, _, rfl, _⟩ | ⟨_, _, _, rfl, _⟩ <;> rfl) | (obtain ⟨_, rfl, _⟩ := h; rfl) | (obtain ⟨_, _, rfl, _⟩ := h; rfl) | (obtain ⟨_, _, _, rfl, _⟩ := h; rfl) | (obtain ⟨_, _, _, _, rfl, _⟩ := h; rfl) | (obtain ⟨rfl, _⟩ := h; rfl) | (obtain ⟨_, _, _, _, _, rfl, _⟩ := h; rfl) | (obtain ⟨_, _, _, _, _, _, rfl, _⟩ := h; rfl) | (obtain ⟨_, _, _, _, _, _, _, rfl, _⟩ := h; rfl) | (obtain ⟨_, _, _, _, _, _, _, _, rfl, _⟩ := h; rfl) | (obtain ⟨_, _, _, _, _, _, _, _, _, rfl, _⟩ := h; rfl) | (obtain ⟨_, _, _, _, _, _, _, _, _, _, rfl, _⟩ := h; rfl)
theorem len_Path___init__ {K : PySem.W.Frag} {mg : Str → Option Value} (T : Txt K mg) : ∀ ds m nx X, φ_Path___init__ T ds m nx X → ds.length = (["self", "text"] : List Str).length := fun ds m nx X h => by
  unfold φ_Path___init__ at h
  first | (rcases h with ⟨_, _, rfl, _⟩ | ⟨_, _, rfl, _⟩ <;> rfl) | (rcases h with ⟨_, _, _, rfl, _⟩ | ⟨_, _, _, rfl, _⟩ <;> rfl) | (obtain ⟨_, rfl, _⟩ := h; rfl) | (obtain ⟨_, _, rfl, _⟩ := h; rfl) | (obtain ⟨_, _, _, rfl, _⟩ := h; rfl) | (obtain ⟨_, _, _, _, rfl, _⟩ := h; rfl) | (obtain ⟨rfl, _⟩ := h; rfl) | (obtain ⟨_, _, _, _, _, rfl, _⟩ := h; rfl) | (obtain ⟨_, _, _, _, _, _, rfl, _⟩ := h; rfl) | (obtain ⟨_, _, _, _, _, _, _, rfl, _⟩ := h; rfl) | (obtain ⟨_, _, _, _, _, _, _, _, rfl, _⟩ := h; rfl) | (obtain ⟨_, _, _, _, _, _, _, _, _, rfl, _⟩ := h; rfl) | (obtain ⟨_, _, _, _, _, _, _, _, _, _, rfl, _⟩ := h; rfl)
theorem len_Path___eq__ {K : PySem.W.Frag} {mg : Str → Option Value} (T : Txt K mg) : ∀ ds m nx X, φ_Path___eq__ T ds m nx X → ds.length = (["self", "other"] : List Str).length := fun ds m nx X h => by
  unfold φ_Path___eq__ at h
  first | (rcases h with ⟨_, _, rfl, _⟩ | ⟨_, _, rfl, _⟩ <;> rfl) | (rcases h with ⟨_, _, _, rfl, _⟩ | ⟨_, _, _, rfl, _⟩ <;> rfl) | (obtain ⟨_, rfl, _⟩ := h; rfl) | (obtain ⟨_, _, rfl, _⟩ := h; rfl) | (obtain ⟨_, _, _, rfl, _⟩ := h; rfl) | (obtain ⟨_, _, _, _, rfl, _⟩ := h; rfl) | (obtain ⟨rfl, _⟩ := h; rfl) | (obtain ⟨_, _, _, _, _, rfl, _⟩ := h; rfl) | (obtain ⟨_, _, _, _, _, _, rfl, _⟩ := h; rfl) | (obtain ⟨_, _, _, _, _, _, _, rfl, _⟩ := h; rfl) | (obtain ⟨_, _, _, _, _, _, _, _, rfl, _⟩ := h; rfl) | (obtain ⟨_, _, _, _, _, _, _, _, _, rfl, _⟩ := h; rfl) | (obtain ⟨_, _, _, _, _, _, _, _, _, _, rfl, _⟩ := h; rfl)
theorem len_Path___len__ {K : PySem.W.Frag} {mg : Str → Option Value} (T : Txt K mg) : ∀ ds m nx X, φ_Path___len__ T ds m nx X → ds.length = (["self"] : List Str).length := fun ds m nx X h => by
  unfold φ_Path___len__ at h
  first | (rcases h with ⟨_, _, rfl, _⟩ | ⟨_, _, rfl, _⟩ <;> rfl) | (rcases h with ⟨_, _, _, rfl, _⟩ | ⟨_, _, _, rfl, _⟩ <;> rfl) | (obtain ⟨_, rfl, _⟩ := h; rfl) | (obtain ⟨_, _, rfl, _⟩ := h; rfl) | (obtain ⟨_, _, _, rfl, _⟩ := h; rfl) | (obtain ⟨_, _, _, _, rfl, _⟩ := h; rfl) | (obtain ⟨rfl, _⟩ := h; rfl) | (obtain ⟨_, _, _, _, _, rfl, _⟩ := h; rfl) | (obtain ⟨_, _, _, _, _, _, rfl, _⟩ := h; rfl) | (obtain ⟨_, _, _, _, _, _, _, rfl, _⟩ := h; rfl) | (obtain ⟨_, _, _, _, _, _, _, _, rfl, _⟩ := h; rfl) | (obtain ⟨_, _, _, _, _, _, _, _, _, rfl, _⟩ := h; rfl) | (obtain ⟨_, _, _, _, _, _, _, _, _, _, rfl, _⟩ := h; rfl)
theorem len_Path_steps {K : PySem.W.Frag} {mg : Str → Option Value} (T : Txt K mg) : ∀ ds m nx X, φ_Path_steps T ds m nx X → ds.length = (["self"] : List Str).length := fun ds m nx X h => by
  unfold φ_Path_steps at h
  first | (rcases h with ⟨_, _, rfl, _⟩ | ⟨_, _, rfl, _⟩ <;> rfl) | (rcases h with ⟨_, _, _, rfl, _⟩ | ⟨_, _, _, rfl, _⟩ <;> rfl) | (obtain ⟨_, rfl, _⟩ := h; rfl) | (obtain ⟨_, _, rfl, _⟩ := h; rfl) | (obtain ⟨_, _, _, rfl, _⟩ := h; rfl) | (obtain ⟨_, _, _, _, rfl, _⟩ := h; rfl) | (obtain ⟨rfl, _⟩ := h; rfl) | (obtain ⟨_, _, _, _, _, rfl, _⟩ := h; rfl) | (obtain ⟨_, _, _, _, _, _, rfl, _⟩ := h; rfl) | (obtain ⟨_, _, _, _, _, _, _, rfl, _⟩ := h; rfl) | (obtain ⟨_, _, _, _, _, _, _, _, rfl, _⟩ := h; rfl) | (obtain ⟨_, _, _, _, _, _, _, _, _, rfl, _⟩ := h; rfl) | (obtain ⟨_, _, _, _, _, _, _, _, _, _, rfl, _⟩ := h; rfl)
theorem len_Path_begins {K : PySem.W.Frag} {mg : Str → Option Value} (T : Txt K mg) : ∀ ds m nx X, φ_Path_begins T ds m nx X → ds.length = (["self", "other"] : List Str).length := fun ds m nx X h => by
  unfold φ_Path_begins at h
  first | (rcases h with ⟨_, _, rfl, _⟩ | ⟨_, _, rfl, _⟩ <;> rfl) | (rcases h with ⟨_, _, _, rfl, _⟩ | ⟨_, _, _, rfl, _⟩ <;> rfl) | (obtain ⟨_, rfl, _⟩ := h; rfl) | (obtain ⟨_, _, rfl, _⟩ := h; rfl) | (obtain ⟨_, _, _, rfl, _⟩ := h; rfl) | (obtain ⟨_, _, _, _, rfl, _⟩ := h; rfl) | (obtain ⟨rfl, _⟩ := h; rfl) | (obtain ⟨_, _, _, _, _, rfl, _⟩ := h; rfl) | (obtain ⟨_, _, _, _, _, _, rfl, _⟩ := h; rfl) | (obtain ⟨_, _, _, _, _, _, _, rfl, _⟩ := h; rfl) | (obtain ⟨_, _, _, _, _, _, _, _, rfl, _⟩ := h; rfl) | (obtain ⟨_, _, _, _, _, _, _, _, _, rfl, _⟩ := h; rfl) | (obtain ⟨_, _, _, _, _, _, _, _, _, _, rfl, _⟩ := h; rfl)
theorem len_Path_cut {K : PySem.W.Frag} {mg : Str → Option Value} (T : Txt K mg) : ∀ ds m nx X, φ_Path_cut T ds m nx X → ds.length = (["self", "other"] : List Str).length := fun ds m nx X h => by
  unfold φ_Path_cut at h
  first | (rcases h with ⟨_, _, rfl, _⟩ | ⟨_, _, rfl, _⟩ <;> rfl) | (rcases h with ⟨_, _, _, rfl, _⟩ | ⟨_, _, _, rfl, _⟩ <;> rfl) | (obtain ⟨_, rfl, _⟩ := h; rfl) | (obtain ⟨_, _, rfl, _⟩ := h; rfl) | (obtain ⟨_, _, _, rfl, _⟩ := h; rfl) | (obtain ⟨_, _, _, _, rfl, _⟩ := h; rfl) | (obtain ⟨rfl, _⟩ := h; rfl) | (obtain ⟨_, _, _, _, _, rfl, _⟩ := h; rfl) | (obtain ⟨_, _, _, _, _, _, rfl, _⟩ := h; rfl) | (obtain ⟨_, _, _, _, _, _, _, rfl, _⟩ := h; rfl) | (obtain ⟨_, _, _, _, _, _, _, _, rfl, _⟩ := h; rfl) | (obtain ⟨_, _, _, _, _, _, _, _, _, rfl, _⟩ := h; rfl) | (obtain ⟨_, _, _, _, _, _, _, _, _, _, rfl, _⟩ := h; rfl)
theorem len_Path_relative {K : PySem.W.Frag} {mg : Str → Option Value} (T : Txt K mg) : ∀ ds m nx X, φ_Path_relative T ds m nx X → ds.length = (["self", "other"] : List Str).length := fun ds m nx X h => by
  unfold φ_Path_relative at h
  first | (rcases h with ⟨_, _, rfl, _⟩ | ⟨_, _, rfl, _⟩ <;> rfl) | (rcases h with ⟨_, _, _, rfl, _⟩ | ⟨_, _, _, rfl, _⟩ <;> rfl) | (obtain ⟨_, rfl, _⟩ := h; rfl) | (obtain ⟨_, _, rfl, _⟩ := h; rfl) | (obtain ⟨_, _, _, rfl, _⟩ := h; rfl) | (obtain ⟨_, _, _, _, rfl, _⟩ := h; rfl) | (obtain ⟨rfl, _⟩ := h; rfl) | (obtain ⟨_, _, _, _, _, rfl, _⟩ := h; rfl) | (obtain ⟨_, _, _, _, _, _, rfl, _⟩ := h; rfl) | (obtain ⟨_, _, _, _, _, _, _, rfl, _⟩ := h; rfl) | (obtain ⟨_, _, _, _, _, _, _, _, rfl, _⟩ := h; rfl) | (obtain ⟨_, _, _, _, _, _, _, _, _, rfl, _⟩ := h; rfl) | (obtain ⟨_, _, _, _, _, _, _, _, _, _, rfl, _⟩ := h; rfl)
theorem len__law_p_steps {K : PySem.W.Frag} {mg : Str → Option Value} (T : Txt K mg) : ∀ ds m nx X, φ__law_p_steps T ds m nx X → ds.length = (["_law_written"] : List Str).length := fun ds m nx X h => by
  unfold φ__law_p_steps at h
  first | (rcases h with ⟨_, _, rfl, _⟩ | ⟨_, _, rfl, _⟩ <;> rfl) | (rcases h with ⟨_, _, _, rfl, _⟩ | ⟨_, _, _, rfl, _⟩ <;> rfl) | (obtain ⟨_, rfl, _⟩ := h; rfl) | (obtain ⟨_, _, rfl, _⟩ := h; rfl) | (obtain ⟨_, _, _, rfl, _⟩ := h; rfl) | (obtain ⟨_, _, _, _, rfl, _⟩ := h; rfl) | (obtain ⟨rfl, _⟩ := h; rfl) | (obtain ⟨_, _, _, _, _, rfl, _⟩ := h; rfl) | (obtain ⟨_, _, _, _, _, _, rfl, _⟩ := h; rfl) | (obtain ⟨_, _, _, _, _, _, _, rfl, _⟩ := h; rfl) | (obtain ⟨_, _, _, _, _, _, _, _, rfl, _⟩ := h; rfl) | (obtain ⟨_, _, _, _, _, _, _, _, _, rfl, _⟩ := h; rfl) | (obtain ⟨_, _, _, _, _, _, _, _, _, _, rfl, _⟩ := h; rfl)
theorem len__law_p_written {K : PySem.W.Frag} {mg : Str → Option Value} (T : Txt K mg) : ∀ ds m nx X, φ__law_p_written T ds m nx X → ds.length = (["_law_stream", "_law_names_here", "_law_most"] : List Str).length := fun ds m nx X h => by
  unfold φ__law_p_written at h
  first | (rcases h with ⟨_, _, rfl, _⟩ | ⟨_, _, rfl, _⟩ <;> rfl) | (rcases h with ⟨_, _, _, rfl, _⟩ | ⟨_, _, _, rfl, _⟩ <;> rfl) | (obtain ⟨_, rfl, _⟩ := h; rfl) | (obtain ⟨_, _, rfl, _⟩ := h; rfl) | (obtain ⟨_, _, _, rfl, _⟩ := h; rfl) | (obtain ⟨_, _, _, _, rfl, _⟩ := h; rfl) | (obtain ⟨rfl, _⟩ := h; rfl) | (obtain ⟨_, _, _, _, _, rfl, _⟩ := h; rfl) | (obtain ⟨_, _, _, _, _, _, rfl, _⟩ := h; rfl) | (obtain ⟨_, _, _, _, _, _, _, rfl, _⟩ := h; rfl) | (obtain ⟨_, _, _, _, _, _, _, _, rfl, _⟩ := h; rfl) | (obtain ⟨_, _, _, _, _, _, _, _, _, rfl, _⟩ := h; rfl) | (obtain ⟨_, _, _, _, _, _, _, _, _, _, rfl, _⟩ := h; rfl)
theorem len__law_p_plain {K : PySem.W.Frag} {mg : Str → Option Value} (T : Txt K mg) : ∀ ds m nx X, φ__law_p_plain T ds m nx X → ds.length = (["_law_steps", "_law_rooted", "_law_ended"] : List Str).length := fun ds m nx X h => by
  unfold φ__law_p_plain at h
  first | (rcases h with ⟨_, _, rfl, _⟩ | ⟨_, _, rfl, _⟩ <;> rfl) | (rcases h with ⟨_, _, _, rfl, _⟩ | ⟨_, _, _, rfl, _⟩ <;> rfl) | (obtain ⟨_, rfl, _⟩ := h; rfl) | (obtain ⟨_, _, rfl, _⟩ := h; rfl) | (obtain ⟨_, _, _, rfl, _⟩ := h; rfl) | (obtain ⟨_, _, _, _, rfl, _⟩ := h; rfl) | (obtain ⟨rfl, _⟩ := h; rfl) | (obtain ⟨_, _, _, _, _, rfl, _⟩ := h; rfl) | (obtain ⟨_, _, _, _, _, _, rfl, _⟩ := h; rfl) | (obtain ⟨_, _, _, _, _, _, _, rfl, _⟩ := h; rfl) | (obtain ⟨_, _, _, _, _, _, _, _, rfl, _⟩ := h; rfl) | (obtain ⟨_, _, _, _, _, _, _, _, _, rfl, _⟩ := h; rfl) | (obtain ⟨_, _, _, _, _, _, _, _, _, _, rfl, _⟩ := h; rfl)
theorem len__law_draw {K : PySem.W.Frag} {mg : Str → Option Value} (T : Txt K mg) : ∀ ds m nx X, φ__law_draw T ds m nx X → ds.length = (["_law_stream", "_law_many"] : List Str).length := fun ds m nx X h => by
  unfold φ__law_draw at h
  first | (rcases h with ⟨_, _, rfl, _⟩ | ⟨_, _, rfl, _⟩ <;> rfl) | (rcases h with ⟨_, _, _, rfl, _⟩ | ⟨_, _, _, rfl, _⟩ <;> rfl) | (obtain ⟨_, rfl, _⟩ := h; rfl) | (obtain ⟨_, _, rfl, _⟩ := h; rfl) | (obtain ⟨_, _, _, rfl, _⟩ := h; rfl) | (obtain ⟨_, _, _, _, rfl, _⟩ := h; rfl) | (obtain ⟨rfl, _⟩ := h; rfl) | (obtain ⟨_, _, _, _, _, rfl, _⟩ := h; rfl) | (obtain ⟨_, _, _, _, _, _, rfl, _⟩ := h; rfl) | (obtain ⟨_, _, _, _, _, _, _, rfl, _⟩ := h; rfl) | (obtain ⟨_, _, _, _, _, _, _, _, rfl, _⟩ := h; rfl) | (obtain ⟨_, _, _, _, _, _, _, _, _, rfl, _⟩ := h; rfl) | (obtain ⟨_, _, _, _, _, _, _, _, _, _, rfl, _⟩ := h; rfl)
theorem len__law_pick {K : PySem.W.Frag} {mg : Str → Option Value} (T : Txt K mg) : ∀ ds m nx X, φ__law_pick T ds m nx X → ds.length = (["_law_stream", "_law_some"] : List Str).length := fun ds m nx X h => by
  unfold φ__law_pick at h
  first | (rcases h with ⟨_, _, rfl, _⟩ | ⟨_, _, rfl, _⟩ <;> rfl) | (rcases h with ⟨_, _, _, rfl, _⟩ | ⟨_, _, _, rfl, _⟩ <;> rfl) | (obtain ⟨_, rfl, _⟩ := h; rfl) | (obtain ⟨_, _, rfl, _⟩ := h; rfl) | (obtain ⟨_, _, _, rfl, _⟩ := h; rfl) | (obtain ⟨_, _, _, _, rfl, _⟩ := h; rfl) | (obtain ⟨rfl, _⟩ := h; rfl) | (obtain ⟨_, _, _, _, _, rfl, _⟩ := h; rfl) | (obtain ⟨_, _, _, _, _, _, rfl, _⟩ := h; rfl) | (obtain ⟨_, _, _, _, _, _, _, rfl, _⟩ := h; rfl) | (obtain ⟨_, _, _, _, _, _, _, _, rfl, _⟩ := h; rfl) | (obtain ⟨_, _, _, _, _, _, _, _, _, rfl, _⟩ := h; rfl) | (obtain ⟨_, _, _, _, _, _, _, _, _, _, rfl, _⟩ := h; rfl)
theorem len__law_same {K : PySem.W.Frag} {mg : Str → Option Value} (T : Txt K mg) (n : Nat) : ∀ ds m nx X, φ__law_same T n ds m nx X → ds.length = (["_law_found", "_law_due"] : List Str).length := fun ds m nx X h => by
  unfold φ__law_same at h
  first | (rcases h with ⟨_, _, rfl, _⟩ | ⟨_, _, rfl, _⟩ <;> rfl) | (rcases h with ⟨_, _, _, rfl, _⟩ | ⟨_, _, _, rfl, _⟩ <;> rfl) | (obtain ⟨_, rfl, _⟩ := h; rfl) | (obtain ⟨_, _, rfl, _⟩ := h; rfl) | (obtain ⟨_, _, _, rfl, _⟩ := h; rfl) | (obtain ⟨_, _, _, _, rfl, _⟩ := h; rfl) | (obtain ⟨rfl, _⟩ := h; rfl) | (obtain ⟨_, _, _, _, _, rfl, _⟩ := h; rfl) | (obtain ⟨_, _, _, _, _, _, rfl, _⟩ := h; rfl) | (obtain ⟨_, _, _, _, _, _, _, rfl, _⟩ := h; rfl) | (obtain ⟨_, _, _, _, _, _, _, _, rfl, _⟩ := h; rfl) | (obtain ⟨_, _, _, _, _, _, _, _, _, rfl, _⟩ := h; rfl) | (obtain ⟨_, _, _, _, _, _, _, _, _, _, rfl, _⟩ := h; rfl)
theorem len__law_due_cut {K : PySem.W.Frag} {mg : Str → Option Value} (T : Txt K mg) : ∀ ds m nx X, φ__law_due_cut T ds m nx X → ds.length = (["_law_mine", "_law_theirs"] : List Str).length := fun ds m nx X h => by
  unfold φ__law_due_cut at h
  first | (rcases h with ⟨_, _, rfl, _⟩ | ⟨_, _, rfl, _⟩ <;> rfl) | (rcases h with ⟨_, _, _, rfl, _⟩ | ⟨_, _, _, rfl, _⟩ <;> rfl) | (obtain ⟨_, rfl, _⟩ := h; rfl) | (obtain ⟨_, _, rfl, _⟩ := h; rfl) | (obtain ⟨_, _, _, rfl, _⟩ := h; rfl) | (obtain ⟨_, _, _, _, rfl, _⟩ := h; rfl) | (obtain ⟨rfl, _⟩ := h; rfl) | (obtain ⟨_, _, _, _, _, rfl, _⟩ := h; rfl) | (obtain ⟨_, _, _, _, _, _, rfl, _⟩ := h; rfl) | (obtain ⟨_, _, _, _, _, _, _, rfl, _⟩ := h; rfl) | (obtain ⟨_, _, _, _, _, _, _, _, rfl, _⟩ := h; rfl) | (obtain ⟨_, _, _, _, _, _, _, _, _, rfl, _⟩ := h; rfl) | (obtain ⟨_, _, _, _, _, _, _, _, _, _, rfl, _⟩ := h; rfl)
theorem len__law_due_relative {K : PySem.W.Frag} {mg : Str → Option Value} (T : Txt K mg) : ∀ ds m nx X, φ__law_due_relative T ds m nx X → ds.length = (["_law_mine", "_law_theirs"] : List Str).length := fun ds m nx X h => by
  unfold φ__law_due_relative at h
  first | (rcases h with ⟨_, _, rfl, _⟩ | ⟨_, _, rfl, _⟩ <;> rfl) | (rcases h with ⟨_, _, _, rfl, _⟩ | ⟨_, _, _, rfl, _⟩ <;> rfl) | (obtain ⟨_, rfl, _⟩ := h; rfl) | (obtain ⟨_, _, rfl, _⟩ := h; rfl) | (obtain ⟨_, _, _, rfl, _⟩ := h; rfl) | (obtain ⟨_, _, _, _, rfl, _⟩ := h; rfl) | (obtain ⟨rfl, _⟩ := h; rfl) | (obtain ⟨_, _, _, _, _, rfl, _⟩ := h; rfl) | (obtain ⟨_, _, _, _, _, _, rfl, _⟩ := h; rfl) | (obtain ⟨_, _, _, _, _, _, _, rfl, _⟩ := h; rfl) | (obtain ⟨_, _, _, _, _, _, _, _, rfl, _⟩ := h; rfl) | (obtain ⟨_, _, _, _, _, _, _, _, _, rfl, _⟩ := h; rfl) | (obtain ⟨_, _, _, _, _, _, _, _, _, _, rfl, _⟩ := h; rfl)
theorem ok_NotBegun___init__ {P : Program} {w : World} {K : PySem.W.Frag} {mg : Str → Option Value} {base : Heap} (T : Txt K mg) : FnOk P w K mg base (L2.CX P w) 1 T.a_NotBegun___init__ T.d_NotBegun___init__ ["self", "other"] (HX1.spExc T.c_NotBegun "other") :=
  okC T.F_NotBegun___init__ sc_NotBegun___init__ (fun vs H Q E h => by obtain ⟨_, _, rfl, _⟩ := h; rfl) fun cdv A outer s H vs Q E hr h => ⟨t_NotBegun___init__ T E,
    (pss_cons (ps_expr (HX1.pe_peinit rfl T.g_PathError T.er_PathError T.ea_PathError T.ev_PathError (pa_cons (pv 0) (pa_cons pe_str pa_nil))))
    (pss_one (ps_ost (pv 0) (pv 1)))),
    HX1.exc_init T.oe_NotBegun T.ef_NotBegun rfl h⟩
theorem ok_NoRelative___init__ {P : Program} {w : World} {K : PySem.W.Frag} {mg : Str → Option Value} {base : Heap} (T : Txt K mg) : FnOk P w K mg base (L2.CX P w) 1 T.a_NoRelative___init__ T.d_NoRelative___init__ ["self", "path"] (HX1.spExc T.c_NoRelative "path") :=
  okC T.F_NoRelative___init__ sc_NoRelative___init__ (fun vs H Q E h => by obtain ⟨_, _, rfl, _⟩ := h; rfl) fun cdv A outer s H vs Q E hr h => ⟨t_NoRelative___init__ T E,
    (pss_cons (ps_expr (HX1.pe_peinit rfl T.g_PathError T.er_PathError T.ea_PathError T.ev_PathError (pa_cons (pv 0) (pa_cons pe_str pa_nil))))
    (pss_one (ps_ost (pv 0) (pv 1)))),
    HX1.exc_init T.oe_NoRelative T.ef_NoRelative rfl h⟩
theorem ok_is_name {P : Program} {w : World} {K : PySem.W.Frag} {mg : Str → Option Value} {base : Heap} (T : Txt K mg)  : FnOk P w K mg base (L2.CX P w) 1 T.a_is_name T.d_is_name ["thing"] (spOf K (φ_is_name T)) :=
  ok_D (k := 0) T.F_is_name sc_is_name (len_is_name T) fun cdv A outer s H E hr => ⟨t_is_name T E,
    (pss_one (ps_ret (pe_and (pe_callB call_isiA (by rfl) T.z_isinstance (by decide +kernel) (pa_cons (pv 0) (pa_cons (pe_bltn (v := .ty "str") (by rfl) T.z_str (by decide +kernel) rfl) pa_nil))) (pe_and (pe_chain op_le op_le pe_int (pe_callB call_lenA (by rfl) T.z_len (by decide +kernel) (pa_cons (pv 0) pa_nil)) (pe_glob rfl T.g_LONGEST T.r_LONGEST)) (pe_one (pe_callB (cr_all rfl) (by rfl) T.z_all (by decide +kernel) (pa_cons (pe_lc (own := [("sign", 1)]) rfl sc_is_name.nd (pi_any (pv 0)) (blkOk_by (own := [("sign", 1)]) (N := N_is_name) (sc := defScope s_is_name) (by decide +kernel)) (fun _ _ _ _ _ => (pg_name (i := 1) sc_is_name.nd rfl (Or.inl rfl))) (fun _ _ _ _ _ => pts_nil) (fun _ _ _ _ _ => (pe_cmpR op_inA (pv 1) (pe_glob rfl T.g_LETTERS T.r_LETTERS) (by rfl)))) pa_nil))))))),
    rd_is_name T E⟩
theorem ok_is_path_text {P : Program} {w : World} {K : PySem.W.Frag} {mg : Str → Option Value} {base : Heap} (T : Txt K mg) (G_is_name : FnOk P w K mg base (L2.CX P w) 1 T.a_is_name T.d_is_name ["thing"] (spOf K (φ_is_name T))) : FnOk P w K mg base (L2.CX P w) 2 T.a_is_path_text T.d_is_path_text ["thing"] (spOf K (φ_is_path_text T)) :=
  ok_D (k := 1) T.F_is_path_text sc_is_path_text (len_is_path_text T) fun cdv A outer s H E hr => ⟨t_is_path_text T E,
    (pss_cons (ps_if (PW.pt (pw_or (pt_not (pt_val (pe_callB call_isiA (by rfl) T.z_isinstance (by decide +kernel) (pa_cons (pv 0) (pa_cons (pe_bltn (v := .ty "str") (by rfl) T.z_str (by decide +kernel) rfl) pa_nil))))) (pw_or1 (pt_cmpR (op_eqA hr.units) (pv 0) pe_str (nomark _))))) (pss_one (ps_ret pe_bl)) pss_nil)
    (pss_one (ps_ret (pe_callB (cr_all rfl) (by rfl) T.z_all (by decide +kernel) (pa_cons (pe_lc (own := [("piece", 1)]) rfl sc_is_path_text.nd (pi_any (pe_m1 PySem.F.slot_str_split PySem.F.type_str_split mt_splitA (pv 0) pe_str)) (blkOk_by (own := [("piece", 1)]) (N := N_is_path_text) (sc := defScope s_is_path_text) (by decide +kernel)) (fun _ _ _ _ _ => (pg_name (i := 1) sc_is_path_text.nd rfl (Or.inl rfl))) (fun _ _ _ _ _ => pts_nil) (fun _ _ _ _ _ => (pe_or (pe_cmpR op_inA (pv 1) (pe_tup (pa_cons pe_str (pa_cons pe_str (pa_cons pe_str pa_nil)))) (by rfl)) (pe_one (pe_call G_is_name (hr.mono (by decide)) rfl T.g_is_name T.F_is_name.kp T.b_is_name .nil passL (pa_cons (pv 1) pa_nil)))))) pa_nil))))),
    rd_is_path_text T E⟩
theorem ok_Path___init__ {P : Program} {w : World} {K : PySem.W.Frag} {mg : Str → Option Value} {base : Heap} (T : Txt K mg) (G_is_path_text : FnOk P w K mg base (L2.CX P w) 2 T.a_is_path_text T.d_is_path_text ["thing"] (spOf K (φ_is_path_text T))) : FnOk P w K mg base (L2.CX P w) 3 T.a_Path___init__ T.d_Path___init__ ["self", "text"] (spOf K (φ_Path___init__ T)) :=
  ok_D (k := 2) T.F_Path___init__ sc_Path___init__ (len_Path___init__ T) fun cdv A outer s H E hr => ⟨t_Path___init__ T E,
    (pss_cons (ps_if (pt_not (pt_val (pe_call G_is_path_text (hr.mono (by decide)) rfl T.g_is_path_text T.F_is_path_text.kp T.b_is_path_text .nil passL (pa_cons (pv 1) pa_nil)))) pss_never pss_nil)
    (pss_cons (ps_fld (pv 0) (pv 1) rfl)
    (pss_cons (ps_fld (pv 0) (pe_cmpR (op_eqA hr.units) (pe_ix ix_seq (pv 1) pe_int (fun _ _ => rfl)) pe_str (nomark _)) rfl)
    (pss_one (ps_fld (pv 0) (pe_cmpR op_inA (pe_ix ix_seq (pe_m1 PySem.F.slot_str_split PySem.F.type_str_split mt_splitA (pv 1) pe_str) (pe_un un_neg pe_int) (fun _ _ => rfl)) (pe_tup (pa_cons pe_str (pa_cons pe_str (pa_cons pe_str pa_nil)))) (by rfl)) rfl))))),
    rd_Path___init__ T E⟩
theorem ok_Path___eq__ {P : Program} {w : World} {K : PySem.W.Frag} {mg : Str → Option Value} {base : Heap} (T : Txt K mg)  : FnOk P w K mg base (L2.CX P w) 1 T.a_Path___eq__ T.d_Path___eq__ ["self", "other"] (spOf K (φ_Path___eq__ T)) :=
  ok_D (k := 0) T.F_Path___eq__ sc_Path___eq__ (len_Path___eq__ T) fun cdv A outer s H E hr => ⟨t_Path___eq__ T E,
    (pss_one (ps_ret (pe_and (pe_callB call_isiA (by rfl) T.z_isinstance (by decide +kernel) (pa_cons (pv 1) (pa_cons (pe_glob rfl T.g_Path (RelV_ref _)) pa_nil))) (pe_one (pe_cmpR (op_eqA hr.units) (pe_fld (pv 0) rfl) (pe_fld (pv 1) rfl) (nomark _)))))),
    rd_Path___eq__ T E⟩
theorem ok_Path___len__ {P : Program} {w : World} {K : PySem.W.Frag} {mg : Str → Option Value} {base : Heap} (T : Txt K mg) (G_Path_steps : FnOk P w K mg base (L2.CX P w) 1 T.a_Path_steps T.d_Path_steps ["self"] (spOf K (φ_Path_steps T))) : FnOk P w K mg base (L2.CX P w) 2 T.a_Path___len__ T.d_Path___len__ ["self"] (spOf K (φ_Path___len__ T)) :=
  ok_D (k := 1) T.F_Path___len__ sc_Path___len__ (len_Path___len__ T) fun cdv A outer s H E hr => ⟨t_Path___len__ T E,
    (pss_one (ps_ret (pe_callB call_lenA (by rfl) T.z_len (by decide +kernel) (pa_cons (pe_meth0 (pv 0) T.y_Path.cl T.m_Path_steps G_Path_steps (hr.mono (by decide)) T.b_Path_steps .nil passL) pa_nil)))),
    rd_Path___len__ T E⟩
theorem ok_Path_steps {P : Program} {w : World} {K : PySem.W.Frag} {mg : Str → Option Value} {base : Heap} (T : Txt K mg)  : FnOk P w K mg base (L2.CX P w) 1 T.a_Path_steps T.d_Path_steps ["self"] (spOf K (φ_Path_steps T)) :=
  ok_D (k := 0) T.F_Path_steps sc_Path_steps (len_Path_steps T) fun cdv A outer s H E hr => ⟨t_Path_steps T E,
    (pss_one (ps_ret (pe_lc (own := [("piece", 1)]) rfl sc_Path_steps.nd (pi_any (pe_m1 PySem.F.slot_str_split PySem.F.type_str_split mt_splitA (pe_fld (pv 0) rfl) pe_str)) (blkOk_by (own := [("piece", 1)]) (N := N_Path_steps) (sc := defScope s_Path_steps) (by decide +kernel)) (fun _ _ _ _ _ => (pg_name (i := 1) sc_Path_steps.nd rfl (Or.inl rfl))) (fun _ _ _ _ _ => (pts_one (pt_cmpR (op_neA hr.units) (pv 1) pe_str (nomark _)))) (fun _ _ _ _ _ => (pv 1))))),
    rd_Path_steps T E⟩
theorem ok_Path_begins {P : Program} {w : World} {K : PySem.W.Frag} {mg : Str → Option Value} {base : Heap} (T : Txt K mg) (G_Path___len__ : FnOk P w K mg base (L2.CX P w) 2 T.a_Path___len__ T.d_Path___len__ ["self"] (spOf K (φ_Path___len__ T))) (G_Path_steps : FnOk P w K mg base (L2.CX P w) 1 T.a_Path_steps T.d_Path_steps ["self"] (spOf K (φ_Path_steps T))) : FnOk P w K mg base (L2.CX P w) 4 T.a_Path_begins T.d_Path_begins ["self", "other"] (spOf K (φ_Path_begins T)) :=
  ok_D (k := 3) T.F_Path_begins sc_Path_begins (len_Path_begins T) fun cdv A outer s H E hr => ⟨t_Path_begins T E,
    (pss_one (ps_ret (pe_and (pe_cmpR (op_eqA hr.units) (pe_fld (pv 0) rfl) (pe_fld (pv 1) rfl) (nomark _)) (pe_one (pe_cmpR (op_eqA hr.units) (pe_slice DD.sl_A (pe_meth0 (pv 0) T.y_Path.cl T.m_Path_steps G_Path_steps (hr.mono (by decide)) T.b_Path_steps .nil passL) po_none (po_some (pe_callB (HO1.call_lenO (F := G_Path___len__) (hr := hr.mono (by decide)) (hb := T.b_Path___len__) (hx := passL) (hs := T.op_Path___len__) (hf := T.m_Path___len__.fn)) (by rfl) T.z_len (by decide +kernel) (pa_cons (pv 1) pa_nil)))) (pe_meth0 (pv 1) T.y_Path.cl T.m_Path_steps G_Path_steps (hr.mono (by decide)) T.b_Path_steps .nil passL) (nomark _)))))),
    rd_Path_begins T E⟩
theorem ok_Path_cut {P : Program} {w : World} {K : PySem.W.Frag} {mg : Str → Option Value} {base : Heap} (T : Txt K mg) (G_NotBegun___init__ : FnOk P w K mg base (L2.CX P w) 1 T.a_NotBegun___init__ T.d_NotBegun___init__ ["self", "other"] (HX1.spExc T.c_NotBegun "other")) (G_Path___init__ : FnOk P w K mg base (L2.CX P w) 3 T.a_Path___init__ T.d_Path___init__ ["self", "text"] (spOf K (φ_Path___init__ T))) (G_Path___len__ : FnOk P w K mg base (L2.CX P w) 2 T.a_Path___len__ T.d_Path___len__ ["self"] (spOf K (φ_Path___len__ T))) (G_Path_begins : FnOk P w K mg base (L2.CX P w) 4 T.a_Path_begins T.d_Path_begins ["self", "other"] (spOf K (φ_Path_begins T))) (G_Path_steps : FnOk P w K mg base (L2.CX P w) 1 T.a_Path_steps T.d_Path_steps ["self"] (spOf K (φ_Path_steps T))) : FnOk P w K mg base (L2.CX P w) 5 T.a_Path_cut T.d_Path_cut ["self", "other"] (spOf K (φ_Path_cut T)) :=
  ok_D (k := 4) T.F_Path_cut sc_Path_cut (len_Path_cut T) fun cdv A outer s H E hr => ⟨t_Path_cut T E,
    (pss_cons (ps_if (pt_not (pt_val (pe_meth (pv 0) T.y_Path.cl T.m_Path_begins G_Path_begins (hr.mono (by decide)) T.b_Path_begins .nil passL (pa_cons (pv 1) pa_nil)))) (pss_one (ps_raise rfl (takes_of rfl rfl rfl rfl) (pmk_oex T.oe_NotBegun T.ei_NotBegun T.et_NotBegun G_NotBegun___init__ (hr.mono (by decide)) T.b_NotBegun___init__ .nil passL rfl T.g_NotBegun (pa_cons (pv 1) pa_nil)))) pss_nil)
    (pss_cons (ps_set (i := 2) sc_Path_cut.nd rfl (Or.inl rfl) (pe_slice DD.sl_A (pe_meth0 (pv 0) T.y_Path.cl T.m_Path_steps G_Path_steps (hr.mono (by decide)) T.b_Path_steps .nil passL) (po_some (pe_callB (HO1.call_lenO (F := G_Path___len__) (hr := hr.mono (by decide)) (hb := T.b_Path___len__) (hx := passL) (hs := T.op_Path___len__) (hf := T.m_Path___len__.fn)) (by rfl) T.z_len (by decide +kernel) (pa_cons (pv 1) pa_nil))) po_none))
    (pss_cons (ps_if (pt_cmpR (op_eqA hr.units) (pv 2) (pe_lst pa_nil) (nomark _)) (pss_one (ps_ret (pe_make T.mk_Path G_Path___init__ (hr.mono (by decide)) rfl T.g_Path T.b_Path___init__ .nil passL (pa_cons pe_str pa_nil)))) pss_nil)
    (pss_one (ps_ret (pe_make T.mk_Path G_Path___init__ (hr.mono (by decide)) rfl T.g_Path T.b_Path___init__ .nil passL (pa_cons (pe_op op_addA (pe_m1 PySem.F.slot_str_join PySem.F.type_str_join mt_joinA pe_str (pv 2)) (pe_ifExp (pt_cmpR (op_eqA hr.units) (pe_ix ix_seq (pe_fld (pv 0) rfl) (pe_un un_neg pe_int) (fun _ _ => rfl)) pe_str (nomark _)) pe_str pe_str)) pa_nil))))))),
    rd_Path_cut T E⟩
theorem ok_Path_relative {P : Program} {w : World} {K : PySem.W.Frag} {mg : Str → Option Value} {base : Heap} (T : Txt K mg) (G_NoRelative___init__ : FnOk P w K mg base (L2.CX P w) 1 T.a_NoRelative___init__ T.d_NoRelative___init__ ["self", "path"] (HX1.spExc T.c_NoRelative "path")) (G_Path___init__ : FnOk P w K mg base (L2.CX P w) 3 T.a_Path___init__ T.d_Path___init__ ["self", "text"] (spOf K (φ_Path___init__ T))) (G_Path_steps : FnOk P w K mg base (L2.CX P w) 1 T.a_Path_steps T.d_Path_steps ["self"] (spOf K (φ_Path_steps T))) (G_is_name : FnOk P w K mg base (L2.CX P w) 1 T.a_is_name T.d_is_name ["thing"] (spOf K (φ_is_name T))) : FnOk P w K mg base (L2.CX P w) 5 T.a_Path_relative T.d_Path_relative ["self", "other"] (spOf K (φ_Path_relative T)) :=
  ok_D (k := 4) T.F_Path_relative sc_Path_relative (len_Path_relative T) fun cdv A outer s H E hr => ⟨t_Path_relative T E,
    (pss_cons (ps_for (passes_of rfl) rfl (pi_any (pe_tup (pa_cons (pv 0) (pa_cons (pv 1) pa_nil)))) (pg_name (i := 2) sc_Path_relative.nd rfl (Or.inl rfl)) (pss_one (ps_if (pt_not (pt_val (pe_callB (cr_all rfl) (by rfl) T.z_all (by decide +kernel) (pa_cons (pe_lc (own := [("step", 3)]) rfl sc_Path_relative.nd (pi_any (pe_meth0 (pv 2) T.y_Path.cl T.m_Path_steps G_Path_steps (hr.mono (by decide)) T.b_Path_steps .nil passL)) (blkOk_by (own := [("step", 3)]) (N := N_Path_relative) (sc := defScope s_Path_relative) (by decide +kernel)) (fun _ _ _ _ _ => (pg_name (i := 3) sc_Path_relative.nd rfl (Or.inl rfl))) (fun _ _ _ _ _ => pts_nil) (fun _ _ _ _ _ => (pe_call G_is_name (hr.mono (by decide)) rfl T.g_is_name T.F_is_name.kp T.b_is_name .nil passL (pa_cons (pv 3) pa_nil)))) pa_nil)))) (pss_one (ps_raise rfl (takes_of rfl rfl rfl rfl) (pmk_oex T.oe_NoRelative T.ei_NoRelative T.et_NoRelative G_NoRelative___init__ (hr.mono (by decide)) T.b_NoRelative___init__ .nil passL rfl T.g_NoRelative (pa_cons (pv 2) pa_nil)))) pss_nil)))
    (pss_cons (ps_if (pt_cmpR (op_neA hr.units) (pe_fld (pv 0) rfl) (pe_fld (pv 1) rfl) (nomark _)) (pss_one (ps_raise rfl (takes_of rfl rfl rfl rfl) (pmk_oex T.oe_NoRelative T.ei_NoRelative T.et_NoRelative G_NoRelative___init__ (hr.mono (by decide)) T.b_NoRelative___init__ .nil passL rfl T.g_NoRelative (pa_cons (pv 1) pa_nil)))) pss_nil)
    (pss_cons (ps_par (i := 4) (j := 5) rfl sc_Path_relative.nd rfl rfl (by decide) rfl rfl (pa_cons (pe_meth0 (pv 0) T.y_Path.cl T.m_Path_steps G_Path_steps (hr.mono (by decide)) T.b_Path_steps .nil passL) (pa_cons (pe_meth0 (pv 1) T.y_Path.cl T.m_Path_steps G_Path_steps (hr.mono (by decide)) T.b_Path_steps .nil passL) pa_nil)) (by rfl))
    (pss_cons (ps_set (i := 6) sc_Path_relative.nd rfl (Or.inl rfl) pe_int)
    (pss_cons (ps_while (passes_of rfl) (PW.pt (pw_and (pt_cmpR op_lt (pv 6) (pe_callB (HD1.call_min2 rfl) (by rfl) T.z_min (by decide +kernel) (pa_cons (pe_callB call_lenA (by rfl) T.z_len (by decide +kernel) (pa_cons (pv 4) pa_nil)) (pa_cons (pe_callB call_lenA (by rfl) T.z_len (by decide +kernel) (pa_cons (pv 5) pa_nil)) pa_nil))) (nomark _)) (pw_and1 (pt_cmpR (op_eqA hr.units) (pe_ix ix_seq (pv 4) (pv 6) (fun _ _ => rfl)) (pe_ix ix_seq (pv 5) (pv 6) (fun _ _ => rfl)) (nomark _))))) (pss_one (ps_aug (i := 6) sc_Path_relative.nd rfl (Or.inl rfl) pe_int ip_add)))
    (pss_cons (ps_set (i := 7) sc_Path_relative.nd rfl (Or.inl rfl) (pe_op op_addA (pe_op op_mulA (pe_lst (pa_cons pe_str pa_nil)) (pe_op op_sub (pe_callB call_lenA (by rfl) T.z_len (by decide +kernel) (pa_cons (pv 5) pa_nil)) (pv 6))) (pe_slice DD.sl_A (pv 4) (po_some (pv 6)) po_none)))
    (pss_one (ps_ret (pe_make T.mk_Path G_Path___init__ (hr.mono (by decide)) rfl T.g_Path T.b_Path___init__ .nil passL (pa_cons (pe_ifExp (pt_cmpR (op_neA hr.units) (pv 7) (pe_lst pa_nil) (nomark _)) (pe_m1 PySem.F.slot_str_join PySem.F.type_str_join mt_joinA pe_str (pv 7)) pe_str) pa_nil)))))))))),
    rd_Path_relative T E⟩
theorem ok__law_p_steps {P : Program} {w : World} {K : PySem.W.Frag} {mg : Str → Option Value} {base : Heap} (T : Txt K mg)  : FnOk P w K mg base (L2.CX P w) 1 T.a__law_p_steps T.d__law_p_steps ["_law_written"] (spOf K (φ__law_p_steps T)) :=
  ok_D (k := 0) T.F__law_p_steps sc__law_p_steps (len__law_p_steps T) fun cdv A outer s H E hr => ⟨t__law_p_steps T E,
    (pss_one (ps_ret (pe_lc (own := [("_law_piece", 1)]) rfl sc__law_p_steps.nd (pi_any (pe_m1 PySem.F.slot_str_split PySem.F.type_str_split mt_splitA (pv 0) pe_str)) (blkOk_by (own := [("_law_piece", 1)]) (N := N__law_p_steps) (sc := defScope s__law_p_steps) (by decide +kernel)) (fun _ _ _ _ _ => (pg_name (i := 1) sc__law_p_steps.nd rfl (Or.inl rfl))) (fun _ _ _ _ _ => (pts_one (pt_cmpR (op_neA hr.units) (pv 1) pe_str (nomark _)))) (fun _ _ _ _ _ => (pv 1))))),
    rd__law_p_steps T E⟩
theorem ok__law_p_written {P : Program} {w : World} {K : PySem.W.Frag} {mg : Str → Option Value} {base : Heap} (T : Txt K mg) (G__law_draw : FnOk P w K mg base (L2.CX P w) 1 T.a__law_draw T.d__law_draw ["_law_stream", "_law_many"] (spOf K (φ__law_draw T))) (G__law_pick : FnOk P w K mg base (L2.CX P w) 2 T.a__law_pick T.d__law_pick ["_law_stream", "_law_some"] (spOf K (φ__law_pick T))) : FnOk P w K mg base (L2.CX P w) 3 T.a__law_p_written T.d__law_p_written ["_law_stream", "_law_names_here", "_law_most"] (spOf K (φ__law_p_written T)) :=
  ok_D (k := 2) T.F__law_p_written sc__law_p_written (len__law_p_written T) fun cdv A outer s H E hr => ⟨t__law_p_written T E,
    (pss_cons (ps_set (i := 3) sc__law_p_written.nd rfl (Or.inl rfl) (pe_call G__law_draw (hr.mono (by decide)) rfl T.g__law_draw T.F__law_draw.kp T.b__law_draw .nil passL (pa_cons (pv 0) (pa_cons (pe_op op_addA (pv 2) pe_int) pa_nil))))
    (pss_cons (ps_setLc (own := [("_law_k", 5)]) (i := 4) rfl sc__law_p_written.nd rfl rfl (sw_true rfl rfl rfl (by decide +kernel)) (pi_range1 rfl T.z_range (pa_cons (pv 3) pa_nil)) (blkOk_by (own := [("_law_k", 5)]) (N := N__law_p_written) (sc := defScope s__law_p_written) (by decide +kernel)) (fun _ _ _ _ _ => (pg_name (i := 5) sc__law_p_written.nd rfl (Or.inl rfl))) (fun _ _ _ _ _ => pts_nil) (fun _ _ _ _ _ => (pe_call G__law_pick (hr.mono (by decide)) rfl T.g__law_pick T.F__law_pick.kp T.b__law_pick .nil passL (pa_cons (pv 0) (pa_cons (pe_op op_addA (pe_op HTk.op_repF (pv 1) pe_int) (pe_lst (pa_cons pe_str (pa_cons pe_str (pa_cons pe_str pa_nil))))) pa_nil)))))
    (pss_cons (ps_setLc (own := [("_law_k", 5)]) (i := 6) rfl sc__law_p_written.nd rfl rfl (sw_true rfl rfl rfl (by decide +kernel)) (pi_range1 rfl T.z_range (pa_cons (pe_op op_addA (pv 3) pe_int) pa_nil)) (blkOk_by (own := [("_law_k", 5)]) (N := N__law_p_written) (sc := defScope s__law_p_written) (by decide +kernel)) (fun _ _ _ _ _ => (pg_name (i := 5) sc__law_p_written.nd rfl (Or.inl rfl))) (fun _ _ _ _ _ => pts_nil) (fun _ _ _ _ _ => (pe_op op_mulA pe_str (pe_call G__law_pick (hr.mono (by decide)) rfl T.g__law_pick T.F__law_pick.kp T.b__law_pick .nil passL (pa_cons (pv 0) (pa_cons (pe_lst (pa_cons pe_int (pa_cons pe_int (pa_cons pe_int (pa_cons pe_int (pa_cons pe_int pa_nil)))))) pa_nil))))))
    (pss_cons (ps_set (i := 7) sc__law_p_written.nd rfl (Or.inl rfl) (pe_ifExp (PW.pt (pw_or (pt_cmpR (op_eqA hr.units) (pv 3) pe_int (nomark _)) (pw_or1 (pt_cmpR (op_eqA hr.units) (pe_call G__law_draw (hr.mono (by decide)) rfl T.g__law_draw T.F__law_draw.kp T.b__law_draw .nil passL (pa_cons (pv 0) (pa_cons pe_int pa_nil))) pe_int (nomark _))))) (pe_ix ix_seq (pv 6) pe_int (fun _ _ => rfl)) pe_str))
    (pss_cons (ps_for (passes_of rfl) rfl (pi_enum (by rfl) T.z_enumerate (pa_cons (pv 4) pa_nil)) (pg_tup rfl (pgs_cons (pg_name (i := 5) sc__law_p_written.nd rfl (Or.inl rfl)) (pgs_cons (pg_name (i := 8) sc__law_p_written.nd rfl (Or.inl rfl)) pgs_nil))) (pss_one (ps_set (i := 7) sc__law_p_written.nd rfl (Or.inl rfl) (pe_op op_addA (pe_op op_addA (pv 7) (pe_ifExp (pt_cmpR op_gt (pv 5) pe_int (nomark _)) (pe_ix ix_seq (pv 6) (pv 5) (fun _ _ => rfl)) pe_str)) (pv 8)))))
    (pss_one (ps_ret (pe_op op_addA (pv 7) (pe_ifExp (PW.pt (pw_and (pt_cmpR op_gt (pv 3) pe_int (nomark _)) (pw_and1 (pt_cmpR (op_eqA hr.units) (pe_call G__law_draw (hr.mono (by decide)) rfl T.g__law_draw T.F__law_draw.kp T.b__law_draw .nil passL (pa_cons (pv 0) (pa_cons pe_int pa_nil))) pe_int (nomark _))))) (pe_ix ix_seq (pv 6) (pe_un un_neg pe_int) (fun _ _ => rfl)) pe_str))))))))),
    rd__law_p_written T E⟩
theorem ok__law_p_plain {P : Program} {w : World} {K : PySem.W.Frag} {mg : Str → Option Value} {base : Heap} (T : Txt K mg)  : FnOk P w K mg base (L2.CX P w) 1 T.a__law_p_plain T.d__law_p_plain ["_law_steps", "_law_rooted", "_law_ended"] (spOf K (φ__law_p_plain T)) :=
  ok_D (k := 0) T.F__law_p_plain sc__law_p_plain (len__law_p_plain T) fun cdv A outer s H E hr => ⟨t__law_p_plain T E,
    (pss_cons (ps_set (i := 3) sc__law_p_plain.nd rfl (Or.inl rfl) (pe_op op_addA (pe_ifExp (pt_val (pv 1)) pe_str pe_str) (pe_m1 PySem.F.slot_str_join PySem.F.type_str_join mt_joinA pe_str (pv 0))))
    (pss_cons (ps_if (pt_cmpR (op_eqA hr.units) (pv 3) pe_str (nomark _)) (pss_one (ps_ret pe_str)) pss_nil)
    (pss_one (ps_ret (pe_op op_addA (pv 3) (pe_ifExp (PW.pt (pw_and (pt_val (pv 2)) (pw_and (pt_cmpR (op_neA hr.units) (pv 0) (pe_lst pa_nil) (nomark _)) (pw_and1 (pt_cmpR op_ninA (pe_ix ix_seq (pv 0) (pe_un un_neg pe_int) (fun _ _ => rfl)) (pe_tup (pa_cons pe_str (pa_cons pe_str pa_nil))) (by rfl)))))) pe_str pe_str)))))),
    rd__law_p_plain T E⟩
theorem ok__law_start {P : Program} {w : World} {K : PySem.W.Frag} {mg : Str → Option Value} {base : Heap} (T : Txt K mg)  : FnOk P w K mg base (L2.CX P w) 1 T.a__law_start T.d__law_start ["_law_script"] (spStart K) := by
  refine okC T.F__law_start sc__law_start (fun vs H Q E h => by obtain ⟨a, ns, rfl, _⟩ := h; rfl) fun cdv A outer s H vs Q E hr h => ⟨t__law_start T E,
    (pss_one (ps_ret (pe_lst (pa_cons (pe_callTy call_listA (by rfl) T.z_list (by decide +kernel) (pa_cons (pv 0) pa_nil)) (pa_cons pe_int (pa_cons pe_int (pa_cons pe_int pa_nil))))))), ?_⟩
  obtain ⟨a, ns, rfl, hS, hl, q⟩ := h
  exact ⟨_, rfl, a, _, rfl, .inl hS, fun c hc => ⟨(by show 4 ≤ sizeLine; decide), fun p hp => q c p hc hp⟩⟩

theorem ok__law_draw {P : Program} {w : World} {K : PySem.W.Frag} {mg : Str → Option Value} {base : Heap} (T : Txt K mg)  : FnOk P w K mg base (L2.CX P w) 1 T.a__law_draw T.d__law_draw ["_law_stream", "_law_many"] (spOf K (φ__law_draw T)) :=
  ok_D (k := 0) T.F__law_draw sc__law_draw (len__law_draw T) fun cdv A outer s H E hr => ⟨t__law_draw T E,
    (pss_cons (ps_asg (pe_op op_addA (pe_ix ix_seq (pv 0) pe_int (fun _ _ => rfl)) pe_int) (pg_sub (pv 0) pe_int set_list))
    (pss_cons (ps_if (PW.pt (pw_and (pt_cmpR (op_eqA hr.units) (pe_ix ix_seq (pv 0) pe_int (fun _ _ => rfl)) pe_int (nomark _)) (pw_and1 (pt_cmpR (op_neA hr.units) (pe_ix ix_seq (pv 0) pe_int (fun _ _ => rfl)) (pe_lst pa_nil) (nomark _))))) (pss_cons (ps_set (i := 2) sc__law_draw.nd rfl (Or.inl rfl) (pe_bm PySem.F.plainAttrs_list PySem.F.slot_list_pop PySem.F.type_list_pop mt_popAt (pe_ix ix_seq (pv 0) pe_int (fun _ _ => rfl)) (pa_cons pe_int pa_nil)))
    (pss_cons (ps_asg (pe_op op_mod (pe_callTy call_intA (by rfl) T.z_int (by decide +kernel) (pa_cons (pe_op op_addA (pe_op op_addA (pe_op op_mulA (pe_ix ix_seq (pv 0) pe_int (fun _ _ => rfl)) pe_int) (pv 2)) pe_int) pa_nil)) pe_int) (pg_sub (pv 0) pe_int set_list))
    (pss_one (ps_asg (pe_ifExp (pt_cmpR op_ge (pv 2) (pe_op op_pow pe_int pe_int) (nomark _)) (pv 2) pe_int) (pg_sub (pv 0) pe_int set_list))))) pss_nil)
    (pss_cons (ps_if (pt_cmpR op_gt (pe_ix ix_seq (pv 0) pe_int (fun _ _ => rfl)) pe_int (nomark _)) (pss_cons (ps_set (i := 3) sc__law_draw.nd rfl (Or.inl rfl) (pe_op op_mod (pe_callTy call_intA (by rfl) T.z_int (by decide +kernel) (pa_cons (pe_ix ix_seq (pv 0) pe_int (fun _ _ => rfl)) pa_nil)) (pv 1)))
    (pss_cons (ps_asg (pe_op op_fdiv (pe_ix ix_seq (pv 0) pe_int (fun _ _ => rfl)) (pv 1)) (pg_sub (pv 0) pe_int set_list))
    (pss_one (ps_ret (pv 3))))) pss_nil)
    (pss_cons (ps_set (i := 4) sc__law_draw.nd rfl (Or.inl rfl) (pe_op op_mod (pe_callTy call_intA (by rfl) T.z_int (by decide +kernel) (pa_cons (pe_op op_pow (pe_op op_addA (pe_op op_addA (pe_ix ix_seq (pv 0) pe_int (fun _ _ => rfl)) (pe_op op_mulA pe_int (pe_ix ix_seq (pv 0) pe_int (fun _ _ => rfl)))) pe_int) pe_int) pa_nil)) pe_int))
    (pss_one (ps_ret (pe_op op_mod (pe_op op_mod (pe_callTy call_intA (by rfl) T.z_int (by decide +kernel) (pa_cons (pe_op op_pow (pe_op op_addA (pe_op op_addA (pe_op op_mulA (pv 4) pe_int) (pe_op op_mulA pe_int (pe_ix ix_seq (pv 0) pe_int (fun _ _ => rfl)))) pe_int) pe_int) pa_nil)) pe_int) (pv 1)))))))),
    rd__law_draw T E⟩
section
variable {P : Program} {w : World} {K : PySem.W.Frag} {mg : Str → Option Value} {base : Heap} (T : Txt K mg)
theorem lenT__law_pick : ∀ ds m nx X, φ__law_pickT T ds m nx X → ds.length = (["_law_stream", "_law_some"] : List Str).length := fun ds m nx X h => by
  obtain ⟨_, _, rfl, _⟩ := h
  rfl
theorem lenT__law_name : ∀ ds m nx X, φ__law_name T ds m nx X → ds.length = (["_law_stream"] : List Str).length := fun ds m nx X h => by
  obtain ⟨_, rfl, _⟩ := h
  rfl
theorem lenT__law_names : ∀ ds m nx X, φ__law_namesT T ds m nx X → ds.length = (["_law_stream", "_law_many"] : List Str).length := fun ds m nx X h => by
  obtain ⟨_, _, rfl, _⟩ := h
  rfl
theorem okT__law_pick (G__law_draw : FnOk P w K mg base (L2.CX P w) 1 T.a__law_draw T.d__law_draw ["_law_stream", "_law_many"] (spOf K (φ__law_draw T))) : HTk.FnT (fun u s => HTk.TkV s.toks u) P w K mg base (L2.CX P w) 2 T.a__law_pick T.d__law_pick ["_law_stream", "_law_some"] (spOf K (φ__law_pickT T)) :=
  okT (k := 1) T.F__law_pick sc__law_pick (lenT__law_pick T) fun cdv A outer s H E hr => ⟨tT__law_pick T,
    HTk.pssr_retT (HTk.pe_ixT (pv 1) (pe_call G__law_draw (hr.mono (by decide)) rfl T.g__law_draw T.F__law_draw.kp T.b__law_draw .nil passL (pa_cons (pv 0) (pa_cons (pe_callB call_lenA (by rfl) T.z_len (by decide +kernel) (pa_cons (pv 1) pa_nil)) pa_nil))) (fun _ _ => rfl)),
    rdT__law_pick T E⟩
theorem okT__law_name (G__law_draw : FnOk P w K mg base (L2.CX P w) 1 T.a__law_draw T.d__law_draw ["_law_stream", "_law_many"] (spOf K (φ__law_draw T))) : HTk.FnT (fun u s => HTk.TkV s.toks u) P w K mg base (L2.CX P w) 3 T.a__law_name T.d__law_name ["_law_stream"] (spOf K (φ__law_name T)) :=
  okT (k := 2) T.F__law_name sc__law_name (lenT__law_name T) fun cdv A outer s H E hr => ⟨tT__law_name T,
    HTk.pssr_cons (ps_set (i := 1) sc__law_name.nd rfl (Or.inl rfl) (pe_ix ix_seq (pe_lst (pa_cons pe_int (pa_cons pe_int (pa_cons pe_int (pa_cons pe_int (pa_cons pe_int (pa_cons pe_int pa_nil))))))) (pe_call G__law_draw (hr.mono (by decide)) rfl T.g__law_draw T.F__law_draw.kp T.b__law_draw .nil passL (pa_cons (pv 0) (pa_cons pe_int pa_nil))) (fun _ _ => rfl))) (fun _ _ _ h => h)
      (HTk.pssr_retT (HTk.pet_join (HTk.pl_lc (own := [("_law_k", 2)]) rfl sc__law_name.nd (pi_range1 rfl T.z_range (pa_cons (pv 1) pa_nil)) (blkOk_by (own := [("_law_k", 2)]) (N := N__law_name) (sc := defScope s__law_name) (by decide +kernel)) (fun _ _ _ _ _ => (pg_name (i := 2) sc__law_name.nd rfl (Or.inl rfl))) (fun _ _ _ _ _ => pts_nil)
        (fun _ _ _ _ _ => HTk.pet_call (okT__law_pick T G__law_draw) (hr.mono (by decide)) rfl T.g__law_pick T.F__law_pick.kp T.b__law_pick .nil passL (pa_cons (pv 0) (pa_cons pe_str pa_nil)))))),
    rdT__law_name T E⟩
theorem okT__law_names (G__law_draw : FnOk P w K mg base (L2.CX P w) 1 T.a__law_draw T.d__law_draw ["_law_stream", "_law_many"] (spOf K (φ__law_draw T))) : HTk.FnT HTk.PLst P w K mg base (L2.CX P w) 4 T.a__law_names T.d__law_names ["_law_stream", "_law_many"] (spOf K (φ__law_namesT T)) :=
  okT (k := 3) T.F__law_names sc__law_names (lenT__law_names T) fun cdv A outer s H E hr => ⟨tT__law_names T,
    HTk.names_T (passes_of rfl) rfl sc__law_names.nd (pi_range1 rfl T.z_range (pa_cons (pv 1) pa_nil)) (pg_name (i := 3) sc__law_names.nd rfl (Or.inl rfl)) rfl rfl rfl
      (fun a ps s' σ' H' N nf hn I jf h => HTk.turn_T rfl sc__law_names.nd hn I jf nf
        (HTk.pl_spare (HTk.pet_call (okT__law_name T G__law_draw) (hr.mono (by decide)) rfl T.g__law_name T.F__law_name.kp T.b__law_name .nil passL (pa_cons (pv 0) pa_nil))
          (HTk.pl_lc (own := [("_law_letter", 5)]) rfl sc__law_names.nd (pi_any pe_str) (blkOk_by (own := [("_law_letter", 5)]) (N := N__law_names) (sc := defScope s__law_names) (by decide +kernel)) (fun _ _ _ _ _ => (pg_name (i := 5) sc__law_names.nd rfl (Or.inl rfl))) (fun _ _ _ _ _ => pts_nil) (fun _ _ _ _ _ => HTk.pe_addS (pv 5) pe_str)))
        h rfl rfl rfl rfl (by decide) (show 4 < N__law_names.length by decide) (by decide +kernel) (by decide +kernel) rfl (by decide +kernel) rfl
        (show ∀ y ∈ (_ : Scope).names, y.2 = .free → (defScope s__law_names).names.lookup y.1 = some .cell ∨ (defScope s__law_names).names.lookup y.1 = some .free by decide +kernel)
        (fun _ _ => rfl) (fun _ _ => rfl) (by decide) (by decide) (by decide) (by decide) (by decide) (fun _ => rfl) rfl rfl rfl rfl rfl rfl)
      (fun _ => rfl) rfl (by decide) (by decide),
    rdT__law_names T E⟩
end

theorem ok__law_pick {P : Program} {w : World} {K : PySem.W.Frag} {mg : Str → Option Value} {base : Heap} (T : Txt K mg) (G__law_draw : FnOk P w K mg base (L2.CX P w) 1 T.a__law_draw T.d__law_draw ["_law_stream", "_law_many"] (spOf K (φ__law_draw T))) : FnOk P w K mg base (L2.CX P w) 2 T.a__law_pick T.d__law_pick ["_law_stream", "_law_some"] (spOf K (φ__law_pick T)) :=
  ok_D (k := 1) T.F__law_pick sc__law_pick (len__law_pick T) fun cdv A outer s H E hr => ⟨t__law_pick T E,
    (pss_one (ps_ret (pe_ix ix_seq (pv 1) (pe_call G__law_draw (hr.mono (by decide)) rfl T.g__law_draw T.F__law_draw.kp T.b__law_draw .nil passL (pa_cons (pv 0) (pa_cons (pe_callB call_lenA (by rfl) T.z_len (by decide +kernel) (pa_cons (pv 1) pa_nil)) pa_nil))) (fun _ _ => rfl)))),
    rd__law_pick T E⟩
theorem ok0__law_same {P : Program} {w : World} {K : PySem.W.Frag} {mg : Str → Option Value} {base : Heap} (T : Txt K mg) (k n : Nat) (φ : Phi) (IH : FnOk P w K mg base (L2.CX P w) k T.a__law_same T.d__law_same ["_law_found", "_law_due"] (spOf K φ))
    (hφ : ∀ x ds m nx X, (∃ j, n = j + 1 ∧ SameOk j x) → ds = [x, x] → nx (blD true) m → φ ds m nx X) : FnOk P w K mg base (L2.CX P w) (k + 1) T.a__law_same T.d__law_same ["_law_found", "_law_due"] (spOf K (φ__law_same T n)) :=
  ok_D (k := k) T.F__law_same sc__law_same (len__law_same T n) fun cdv A outer s H E hr => have hrI := hr; ⟨t__law_same T φ E,
    (pss_cons (ps_if (pt_val (pe_callB call_isiA (by rfl) T.z_isinstance (by decide +kernel) (pa_cons (pv 1) (pa_cons (pe_tup (pa_cons (pe_bltn (v := .ty "list") (by rfl) T.z_list (by decide +kernel) rfl) (pa_cons (pe_bltn (v := .ty "tuple") (by rfl) T.z_tuple (by decide +kernel) rfl) pa_nil))) pa_nil)))) (pss_cons (ps_if (PW.pt (pw_or (pt_cmpR (op_neA hr.units) (pe_callB call_isiA (by rfl) T.z_isinstance (by decide +kernel) (pa_cons (pv 0) (pa_cons (pe_bltn (v := .ty "list") (by rfl) T.z_list (by decide +kernel) rfl) pa_nil))) (pe_callB call_isiA (by rfl) T.z_isinstance (by decide +kernel) (pa_cons (pv 1) (pa_cons (pe_bltn (v := .ty "list") (by rfl) T.z_list (by decide +kernel) rfl) pa_nil))) (nomark _)) (pw_or1 (pt_cmpR (op_neA hr.units) (pe_callB call_isiA (by rfl) T.z_isinstance (by decide +kernel) (pa_cons (pv 0) (pa_cons (pe_bltn (v := .ty "tuple") (by rfl) T.z_tuple (by decide +kernel) rfl) pa_nil))) (pe_callB call_isiA (by rfl) T.z_isinstance (by decide +kernel) (pa_cons (pv 1) (pa_cons (pe_bltn (v := .ty "tuple") (by rfl) T.z_tuple (by decide +kernel) rfl) pa_nil))) (nomark _))))) (pss_one (ps_ret pe_bl)) pss_nil)
    (pss_one (ps_ret (pe_and (pe_cmpR (op_eqA hr.units) (pe_callB call_lenA (by rfl) T.z_len (by decide +kernel) (pa_cons (pv 0) pa_nil)) (pe_callB call_lenA (by rfl) T.z_len (by decide +kernel) (pa_cons (pv 1) pa_nil)) (nomark _)) (pe_one (pe_callB (cr_all rfl) (by rfl) T.z_all (by decide +kernel) (pa_cons (pe_lc (own := [("_law_x", 2), ("_law_y", 3)]) rfl sc__law_same.nd (RZ.pi_zipA (by rfl) T.z_zip (pa_cons (pv 0) (pa_cons (pv 1) pa_nil))) (blkOk_by (own := [("_law_x", 2), ("_law_y", 3)]) (N := N__law_same) (sc := defScope s__law_same) (by decide +kernel)) (fun _ _ _ _ _ => (pg_tup rfl (pgs_cons (pg_name (i := 2) sc__law_same.nd rfl (Or.inl rfl)) (pgs_cons (pg_name (i := 3) sc__law_same.nd rfl (Or.inl rfl)) pgs_nil)))) (fun _ _ _ _ _ => pts_nil) (fun _ _ _ _ _ => (pe_call IH hrI rfl T.g__law_same T.F__law_same.kp T.b__law_same .nil passL (pa_cons (pv 2) (pa_cons (pv 3) pa_nil))))) pa_nil))))))) pss_nil)
    (pss_cons (ps_if (pt_val (pe_callB call_isiA (by rfl) T.z_isinstance (by decide +kernel) (pa_cons (pv 1) (pa_cons (pe_bltn (v := .ty "int") (by rfl) T.z_int (by decide +kernel) rfl) pa_nil)))) (pss_one (ps_ret (pe_and (pe_callB call_isiA (by rfl) T.z_isinstance (by decide +kernel) (pa_cons (pv 0) (pa_cons (pe_bltn (v := .ty "int") (by rfl) T.z_int (by decide +kernel) rfl) pa_nil))) (pe_and (pe_cmpR (op_eqA hr.units) (pe_callB call_isiA (by rfl) T.z_isinstance (by decide +kernel) (pa_cons (pv 0) (pa_cons (pe_bltn (v := .ty "bool") (by rfl) T.z_bool (by decide +kernel) rfl) pa_nil))) (pe_callB call_isiA (by rfl) T.z_isinstance (by decide +kernel) (pa_cons (pv 1) (pa_cons (pe_bltn (v := .ty "bool") (by rfl) T.z_bool (by decide +kernel) rfl) pa_nil))) (nomark _)) (pe_one (pe_cmpR (op_eqA hr.units) (pv 0) (pv 1) (nomark _))))))) pss_nil)
    (pss_one (ps_ret (pe_and (pe_cmpR op_isBl (pe_callB call_isiA (by rfl) T.z_isinstance (by decide +kernel) (pa_cons (pv 0) (pa_cons (pe_tup (pa_cons (pe_bltn (v := .ty "int") (by rfl) T.z_int (by decide +kernel) rfl) (pa_cons (pe_bltn (v := .ty "list") (by rfl) T.z_list (by decide +kernel) rfl) (pa_cons (pe_bltn (v := .ty "tuple") (by rfl) T.z_tuple (by decide +kernel) rfl) pa_nil)))) pa_nil))) pe_bl (nomark _)) (pe_one (pe_cmpR (op_eqA hr.units) (pv 0) (pv 1) (nomark _)))))))),
    rd__law_same T E n φ hφ⟩
theorem ok__law_same {P : Program} {w : World} {K : PySem.W.Frag} {mg : Str → Option Value} {base : Heap} (T : Txt K mg) : ∀ n : Nat, FnOk P w K mg base (L2.CX P w) (n + 2) T.a__law_same T.d__law_same ["_law_found", "_law_due"] (spOf K (φ__law_same T n))
  | 0 => ok0__law_same T 1 0 (fun _ _ _ _ => False) ⟨fun vs H Q E h => by obtain ⟨_, _, _, _, _, _, _, _, z, _⟩ := h; exact z.elim, fun A outer s H args us vs Q E hr e0 hb r h => by obtain ⟨_, _, _, _, _, _, _, _, z, _⟩ := h; exact z.elim⟩ fun x ds m nx X h => by obtain ⟨j, z, _⟩ := h; cases z
  | n + 1 => ok0__law_same T (n + 2) (n + 1) _ (ok__law_same T n) fun x ds m nx X h e q => by
      obtain ⟨j, z, h⟩ := h
      cases z
      exact ⟨x, e, h, q⟩

theorem ok__law_due_cut {P : Program} {w : World} {K : PySem.W.Frag} {mg : Str → Option Value} {base : Heap} (T : Txt K mg) (G__law_p_steps : FnOk P w K mg base (L2.CX P w) 1 T.a__law_p_steps T.d__law_p_steps ["_law_written"] (spOf K (φ__law_p_steps T))) : FnOk P w K mg base (L2.CX P w) 2 T.a__law_due_cut T.d__law_due_cut ["_law_mine", "_law_theirs"] (spOf K (φ__law_due_cut T)) :=
  ok_D (k := 1) T.F__law_due_cut sc__law_due_cut (len__law_due_cut T) fun cdv A outer s H E hr => ⟨t__law_due_cut T E,
    (pss_cons (ps_par (i := 2) (j := 3) rfl sc__law_due_cut.nd rfl rfl (by decide) rfl rfl (pa_cons (pe_call G__law_p_steps (hr.mono (by decide)) rfl T.g__law_p_steps T.F__law_p_steps.kp T.b__law_p_steps .nil passL (pa_cons (pv 0) pa_nil)) (pa_cons (pe_call G__law_p_steps (hr.mono (by decide)) rfl T.g__law_p_steps T.F__law_p_steps.kp T.b__law_p_steps .nil passL (pa_cons (pv 1) pa_nil)) pa_nil)) (by rfl))
    (pss_cons (ps_if (PW.pt (pw_or (pt_cmpR (op_neA hr.units) (pe_cmpR (op_eqA hr.units) (pe_ix ix_seq (pv 0) pe_int (fun _ _ => rfl)) pe_str (nomark _)) (pe_cmpR (op_eqA hr.units) (pe_ix ix_seq (pv 1) pe_int (fun _ _ => rfl)) pe_str (nomark _)) (nomark _)) (pw_or1 (pt_cmpR (op_neA hr.units) (pe_slice DD.sl_A (pv 2) po_none (po_some (pe_callB call_lenA (by rfl) T.z_len (by decide +kernel) (pa_cons (pv 3) pa_nil)))) (pv 3) (nomark _))))) (pss_one (ps_ret (pe_tup (pa_cons pe_str (pa_cons (pv 1) pa_nil))))) pss_nil)
    (pss_cons (ps_set (i := 4) sc__law_due_cut.nd rfl (Or.inl rfl) (pe_m1 PySem.F.slot_str_join PySem.F.type_str_join mt_joinA pe_str (pe_slice DD.sl_A (pv 2) (po_some (pe_callB call_lenA (by rfl) T.z_len (by decide +kernel) (pa_cons (pv 3) pa_nil))) po_none)))
    (pss_one (ps_ret (pe_tup (pa_cons pe_str (pa_cons (pe_ifExp (pt_cmpR (op_neA hr.units) (pv 4) pe_str (nomark _)) (pe_op op_addA (pv 4) (pe_ifExp (pt_cmpR (op_eqA hr.units) (pe_ix ix_seq (pv 0) (pe_un un_neg pe_int) (fun _ _ => rfl)) pe_str (nomark _)) pe_str pe_str)) pe_str) pa_nil)))))))),
    rd__law_due_cut T E⟩
theorem ok__law_due_relative {P : Program} {w : World} {K : PySem.W.Frag} {mg : Str → Option Value} {base : Heap} (T : Txt K mg) (G__law_p_steps : FnOk P w K mg base (L2.CX P w) 1 T.a__law_p_steps T.d__law_p_steps ["_law_written"] (spOf K (φ__law_p_steps T))) : FnOk P w K mg base (L2.CX P w) 2 T.a__law_due_relative T.d__law_due_relative ["_law_mine", "_law_theirs"] (spOf K (φ__law_due_relative T)) :=
  ok_D (k := 1) T.F__law_due_relative sc__law_due_relative (len__law_due_relative T) fun cdv A outer s H E hr => ⟨t__law_due_relative T E,
    (pss_cons (ps_for (passes_of rfl) rfl (pi_any (pe_tup (pa_cons (pv 0) (pa_cons (pv 1) pa_nil)))) (pg_name (i := 2) sc__law_due_relative.nd rfl (Or.inl rfl)) (pss_one (ps_if (pt_cmpR (op_neA hr.units) (pe_lc (own := [("_law_step", 3)]) rfl sc__law_due_relative.nd (pi_any (pe_call G__law_p_steps (hr.mono (by decide)) rfl T.g__law_p_steps T.F__law_p_steps.kp T.b__law_p_steps .nil passL (pa_cons (pv 2) pa_nil))) (blkOk_by (own := [("_law_step", 3)]) (N := N__law_due_relative) (sc := defScope s__law_due_relative) (by decide +kernel)) (fun _ _ _ _ _ => (pg_name (i := 3) sc__law_due_relative.nd rfl (Or.inl rfl))) (fun _ _ _ _ _ => (pts_one (pt_cmpR op_inA (pv 3) (pe_tup (pa_cons pe_str (pa_cons pe_str pa_nil))) (by rfl)))) (fun _ _ _ _ _ => (pv 3))) (pe_lst pa_nil) (nomark _)) (pss_one (ps_ret (pe_tup (pa_cons pe_str (pa_cons (pv 2) pa_nil))))) pss_nil)))
    (pss_cons (ps_if (pt_cmpR (op_neA hr.units) (pe_cmpR (op_eqA hr.units) (pe_ix ix_seq (pv 0) pe_int (fun _ _ => rfl)) pe_str (nomark _)) (pe_cmpR (op_eqA hr.units) (pe_ix ix_seq (pv 1) pe_int (fun _ _ => rfl)) pe_str (nomark _)) (nomark _)) (pss_one (ps_ret (pe_tup (pa_cons pe_str (pa_cons (pv 1) pa_nil))))) pss_nil)
    (pss_cons (ps_par (i := 4) (j := 5) rfl sc__law_due_relative.nd rfl rfl (by decide) rfl rfl (pa_cons (pe_call G__law_p_steps (hr.mono (by decide)) rfl T.g__law_p_steps T.F__law_p_steps.kp T.b__law_p_steps .nil passL (pa_cons (pv 0) pa_nil)) (pa_cons (pe_call G__law_p_steps (hr.mono (by decide)) rfl T.g__law_p_steps T.F__law_p_steps.kp T.b__law_p_steps .nil passL (pa_cons (pv 1) pa_nil)) pa_nil)) (by rfl))
    (pss_cons (ps_while (passes_of rfl) (PW.pt (pw_and (pt_cmpR (op_neA hr.units) (pv 4) (pe_lst pa_nil) (nomark _)) (pw_and (pt_cmpR (op_neA hr.units) (pv 5) (pe_lst pa_nil) (nomark _)) (pw_and1 (pt_cmpR (op_eqA hr.units) (pe_ix ix_seq (pv 4) pe_int (fun _ _ => rfl)) (pe_ix ix_seq (pv 5) pe_int (fun _ _ => rfl)) (nomark _)))))) (pss_one (ps_par (i := 4) (j := 5) rfl sc__law_due_relative.nd rfl rfl (by decide) rfl rfl (pa_cons (pe_slice DD.sl_A (pv 4) (po_some pe_int) po_none) (pa_cons (pe_slice DD.sl_A (pv 5) (po_some pe_int) po_none) pa_nil)) (by rfl))))
    (pss_one (ps_ret (pe_tup (pa_cons pe_str (pa_cons (pe_ifExp (pt_cmpR (op_neA hr.units) (pe_op op_addA (pv 4) (pv 5)) (pe_lst pa_nil) (nomark _)) (pe_m1 PySem.F.slot_str_join PySem.F.type_str_join mt_joinA pe_str (pe_op op_addA (pe_op op_mulA (pe_lst (pa_cons pe_str pa_nil)) (pe_callB call_lenA (by rfl) T.z_len (by decide +kernel) (pa_cons (pv 5) pa_nil))) (pv 4))) pe_str) pa_nil))))))))),
    rd__law_due_relative T E⟩
theorem ok_law {P : Program} {w : World} {K : PySem.W.Frag} {mg : Str → Option Value} {base : Heap} (T : Txt K mg) (TB : LamX.TabB base mg T.cc_law T.tb_law) (G_Path___init__ : FnOk P w K mg base (L2.CX P w) 3 T.a_Path___init__ T.d_Path___init__ ["self", "text"] (spOf K (φ_Path___init__ T))) (G_Path_begins : FnOk P w K mg base (L2.CX P w) 4 T.a_Path_begins T.d_Path_begins ["self", "other"] (spOf K (φ_Path_begins T))) (G_Path_cut : FnOk P w K mg base (L2.CX P w) 5 T.a_Path_cut T.d_Path_cut ["self", "other"] (spOf K (φ_Path_cut T))) (G_Path_relative : FnOk P w K mg base (L2.CX P w) 5 T.a_Path_relative T.d_Path_relative ["self", "other"] (spOf K (φ_Path_relative T))) (G__law_draw : FnOk P w K mg base (L2.CX P w) 1 T.a__law_draw T.d__law_draw ["_law_stream", "_law_many"] (spOf K (φ__law_draw T))) (G__law_due_cut : FnOk P w K mg base (L2.CX P w) 2 T.a__law_due_cut T.d__law_due_cut ["_law_mine", "_law_theirs"] (spOf K (φ__law_due_cut T))) (G__law_due_relative : FnOk P w K mg base (L2.CX P w) 2 T.a__law_due_relative T.d__law_due_relative ["_law_mine", "_law_theirs"] (spOf K (φ__law_due_relative T))) (G__law_p_plain : FnOk P w K mg base (L2.CX P w) 1 T.a__law_p_plain T.d__law_p_plain ["_law_steps", "_law_rooted", "_law_ended"] (spOf K (φ__law_p_plain T))) (G__law_p_steps : FnOk P w K mg base (L2.CX P w) 1 T.a__law_p_steps T.d__law_p_steps ["_law_written"] (spOf K (φ__law_p_steps T))) (G__law_p_written : FnOk P w K mg base (L2.CX P w) 3 T.a__law_p_written T.d__law_p_written ["_law_stream", "_law_names_here", "_law_most"] (spOf K (φ__law_p_written T))) (G__law_pick : FnOk P w K mg base (L2.CX P w) 2 T.a__law_pick T.d__law_pick ["_law_stream", "_law_some"] (spOf K (φ__law_pick T))) (G__law_same : FnOk P w K mg base (L2.CX P w) 6 T.a__law_same T.d__law_same ["_law_found", "_law_due"] (spOf K (φ__law_same T 4))) (G__law_start : FnOk P w K mg base (L2.CX P w) 1 T.a__law_start T.d__law_start ["_law_script"] (spStart K)) : FnOk P w K mg base (L2.CX P w) 8 T.a_law T.d_law ["_law_script"] (spLawT K T.tb_law) :=
  ok_lawT (k := 7) (T := T.tb_law) (q := "law.<locals>.<lambda>") T.F_law T.cr_law sc_law fun A outer s H E hr => ⟨t_law T E,
    (pss_cons (ps_set (i := 1) sc_law.nd rfl (Or.inl rfl) (pe_call G__law_start (hr.mono (by decide)) rfl T.g__law_start T.F__law_start.kp T.b__law_start .nil passL (pa_cons (pv 0) pa_nil)))
    (pss_cons (ps_for (passes_of rfl) rfl (pi_range1 rfl T.z_range (pa_cons pe_int pa_nil)) (pg_name (i := 2) sc_law.nd rfl (Or.inl rfl)) (HTk.pss_nm (i := 3) (v := fun n_ => (tSeq (tAsg (tCall (spOf K (φ__law_p_written T)) [] E0 (tCons (tVar 1) (tCons (tVar 3) (tCons (tC (.int 6)) tNil)))) (gName 4))
    (tSeq (tAsg (tCall (spOf K (φ__law_p_written T)) [] E0 (tCons (tVar 1) (tCons (tVar 3) (tCons (tC (.int 5)) tNil)))) (gName 5))
    (tSeq (tIfS (tTest (tOp (rEqA K) (tCall (spOf K (φ__law_draw T)) [] E0 (tCons (tVar 1) (tCons (tC (.int 2)) tNil))) (tC (.int 0)))) (tSeq (tAsg (tCall (spOf K (φ__law_p_steps T)) [] E0 (tCons (tVar 4) tNil)) (gName 6))
    (tSeq (tAsg (tOp (rAddA K) (tSl (DD.rSlA K) (tVar 6) tNoPart (tPart (tCall (spOf K (φ__law_draw T)) [] E0 (tCons (tVar 1) (tCons (tOp (rAddA K) (tCB (rLenA K) (tCons (tVar 6) tNil)) (tC (.int 1))) tNil))))) (tCall (spOf K (φ__law_pick T)) [] E0 (tCons (tVar 1) (tCons (tLst (tCons (tLst tNil) (tCons (tLst tNil) (tCons (tLst (tCons (tOp (rIx K) (tVar 3) (tC (.int 0))) tNil)) tNil)))) tNil)))) (gName 7))
    (tAsg (tCall (spOf K (φ__law_p_plain T)) [] E0 (tCons (tVar 7) (tCons (tOp (rEqA K) (tOp (rIx K) (tVar 4) (tC (.int 0))) (tC (.str "/"))) (tCons (tOp (rEqA K) (tCall (spOf K (φ__law_draw T)) [] E0 (tCons (tVar 1) (tCons (tC (.int 2)) tNil))) (tC (.int 0))) tNil)))) (gName 5)))) tNext)
    (tSeq (tIfS (tTest (tOp (rEqA K) (tCall (spOf K (φ__law_draw T)) [] E0 (tCons (tVar 1) (tCons (tC (.int 2)) tNil))) (tC (.int 0)))) (HTk.tAsgL (HTk.tLcT (iAny K (tTup (tCons (tVar 4) (tCons (tVar 5) tNil)))) (gName 8) tYes (HTk.tReplN n_ (HTk.tReplN n_ (tVar 8) ".." 3 1) "." 3 0) [8]) (gLst K 2 (gCons (gName 4) (gCons (gName 5) gNil)))) tNext)
    (tSeq (tAsg (tTup (tCons (tMake T.c_Path (spOf K (φ_Path___init__ T)) [] E0 (tCons (tVar 4) tNil)) (tCons (tMake T.c_Path (spOf K (φ_Path___init__ T)) [] E0 (tCons (tVar 5) tNil)) tNil))) (gTup K 2 (gCons (gName 9) (gCons (gName 10) gNil))))
    (tSeq (tAsg (tCall (spOf K (φ__law_due_cut T)) [] E0 (tCons (tVar 4) (tCons (tVar 5) tNil))) (gName 11))
    (tSeq (tIfS (tOr (tNot (tB (tCall (spOf K (φ__law_same T 4)) [] E0 (tCons (tMeth T.c_Path "begins" (spOf K (φ_Path_begins T)) [] E0 (tVar 9) (tCons (tVar 10) tNil)) (tCons (tOp (rEqA K) (tOp (rIx K) (tVar 11) (tC (.int 0))) (tC (.str "told"))) tNil))))) (tNot (tB (tCall (spOf K (φ__law_same T 4)) [] E0 (tCons (HL1.tLam T.tb_law "law.<locals>.<lambda>" N__law_tried (tg__law_tried T) (fun E => (tMeth T.c_Path "cut" (spOf K (φ_Path_cut T)) [] E (tVar 9) (tCons (tVar 10) tNil)))) (tCons (tVar 11) tNil)))))) (tRet (tC (.bl false))) tNext)
    (tSeq (tIfS (tNot (tB (tCall (spOf K (φ__law_same T 4)) [] E0 (tCons (HL1.tLam T.tb_law "law.<locals>.<lambda>" N__law_tried (tg__law_tried T) (fun E => (tMeth T.c_Path "relative" (spOf K (φ_Path_relative T)) [] E (tVar 9) (tCons (tVar 10) tNil)))) (tCons (tCall (spOf K (φ__law_due_relative T)) [] E0 (tCons (tVar 4) (tCons (tVar 5) tNil))) tNil))))) (tRet (tC (.bl false))) tNext)
    (tIfS (tOr (tNot (tB (tMeth T.c_Path "begins" (spOf K (φ_Path_begins T)) [] E0 (tVar 9) (tCons (tVar 9) tNil)))) (tOr (tTest (tOp (rNeA K) (tFld K (tMeth T.c_Path "cut" (spOf K (φ_Path_cut T)) [] E0 (tVar 9) (tCons (tVar 9) tNil)) "text") (tC (.str ".")))) (tTest (tOp (rNeA K) (tLst (tCons (tFld K (tVar 9) "text") (tCons (tFld K (tVar 10) "text") tNil))) (tLst (tCons (tVar 4) (tCons (tVar 5) tNil))))))) (tRet (tC (.bl false))) tNext)))))))))) sc_law.nd rfl (Or.inr rfl) (.inl rfl) (HTk.pel_call (okT__law_names T G__law_draw) (hr.mono (by decide)) rfl T.g__law_names T.F__law_names.kp T.b__law_names .nil passL (pv 1)) (fun n_ => (HTk.psk_cons (HTk.PSK.of (ps_set (i := 4) sc_law.nd rfl (Or.inl rfl) (pe_call G__law_p_written (hr.mono (by decide)) rfl T.g__law_p_written T.F__law_p_written.kp T.b__law_p_written .nil passL (pa_cons (pv 1) (pa_cons (pv 3) (pa_cons pe_int pa_nil))))))
    (HTk.psk_cons (HTk.PSK.of (ps_set (i := 5) sc_law.nd rfl (Or.inl rfl) (pe_call G__law_p_written (hr.mono (by decide)) rfl T.g__law_p_written T.F__law_p_written.kp T.b__law_p_written .nil passL (pa_cons (pv 1) (pa_cons (pv 3) (pa_cons pe_int pa_nil))))))
    (HTk.psk_cons (HTk.PSK.of (ps_if (pt_cmpR (op_eqA hr.units) (pe_call G__law_draw (hr.mono (by decide)) rfl T.g__law_draw T.F__law_draw.kp T.b__law_draw .nil passL (pa_cons (pv 1) (pa_cons pe_int pa_nil))) pe_int (nomark _)) (pss_cons (ps_set (i := 6) sc_law.nd rfl (Or.inl rfl) (pe_call G__law_p_steps (hr.mono (by decide)) rfl T.g__law_p_steps T.F__law_p_steps.kp T.b__law_p_steps .nil passL (pa_cons (pv 4) pa_nil)))
    (pss_cons (ps_set (i := 7) sc_law.nd rfl (Or.inl rfl) (pe_op op_addA (pe_slice DD.sl_A (pv 6) po_none (po_some (pe_call G__law_draw (hr.mono (by decide)) rfl T.g__law_draw T.F__law_draw.kp T.b__law_draw .nil passL (pa_cons (pv 1) (pa_cons (pe_op op_addA (pe_callB call_lenA (by rfl) T.z_len (by decide +kernel) (pa_cons (pv 6) pa_nil)) pe_int) pa_nil))))) (pe_call G__law_pick (hr.mono (by decide)) rfl T.g__law_pick T.F__law_pick.kp T.b__law_pick .nil passL (pa_cons (pv 1) (pa_cons (pe_lst (pa_cons (pe_lst pa_nil) (pa_cons (pe_lst pa_nil) (pa_cons (pe_lst (pa_cons (pe_ix ix_seq (pv 3) pe_int (fun _ _ => rfl)) pa_nil)) pa_nil)))) pa_nil)))))
    (pss_one (ps_set (i := 5) sc_law.nd rfl (Or.inl rfl) (pe_call G__law_p_plain (hr.mono (by decide)) rfl T.g__law_p_plain T.F__law_p_plain.kp T.b__law_p_plain .nil passL (pa_cons (pv 7) (pa_cons (pe_cmpR (op_eqA hr.units) (pe_ix ix_seq (pv 4) pe_int (fun _ _ => rfl)) pe_str (nomark _)) (pa_cons (pe_cmpR (op_eqA hr.units) (pe_call G__law_draw (hr.mono (by decide)) rfl T.g__law_draw T.F__law_draw.kp T.b__law_draw .nil passL (pa_cons (pv 1) (pa_cons pe_int pa_nil))) pe_int (nomark _)) pa_nil)))))))) pss_nil))
    (HTk.psk_cons (HTk.psk_if (pt_cmpR (op_eqA hr.units) (pe_call G__law_draw (hr.mono (by decide)) rfl T.g__law_draw T.F__law_draw.kp T.b__law_draw .nil passL (pa_cons (pv 1) (pa_cons pe_int pa_nil))) pe_int (nomark _)) (HTk.psk_one (HTk.psk_asgL (HTk.plk_lc (own := [("_law_found", 8)]) rfl sc_law.nd (pi_any (pe_tup (pa_cons (pv 4) (pa_cons (pv 5) pa_nil)))) (blkOk_by (own := [("_law_found", 8)]) (N := N_law) (sc := defScope s_law) (by decide +kernel)) (fun _ _ _ _ _ => (pg_name (i := 8) sc_law.nd rfl (Or.inl rfl))) (fun _ _ _ _ _ => pts_nil) (fun _ _ _ _ _ => (HTk.pek_repl 3 0 (HTk.pek_repl 3 1 (HTk.PEK.of (pv 8)))))) (pg_lst rfl (pgs_cons (pg_name (i := 4) sc_law.nd rfl (Or.inl rfl)) (pgs_cons (pg_name (i := 5) sc_law.nd rfl (Or.inl rfl)) pgs_nil))))) (HTk.PSsK.of pss_nil))
    (HTk.PSsK.of (pss_cons (ps_asg (pe_tup (pa_cons (pe_make T.mk_Path G_Path___init__ (hr.mono (by decide)) rfl T.g_Path T.b_Path___init__ .nil passL (pa_cons (pv 4) pa_nil)) (pa_cons (pe_make T.mk_Path G_Path___init__ (hr.mono (by decide)) rfl T.g_Path T.b_Path___init__ .nil passL (pa_cons (pv 5) pa_nil)) pa_nil))) (pg_tup rfl (pgs_cons (pg_name (i := 9) sc_law.nd rfl (Or.inr rfl)) (pgs_cons (pg_name (i := 10) sc_law.nd rfl (Or.inr rfl)) pgs_nil))))
    (pss_cons (ps_set (i := 11) sc_law.nd rfl (Or.inl rfl) (pe_call G__law_due_cut (hr.mono (by decide)) rfl T.g__law_due_cut T.F__law_due_cut.kp T.b__law_due_cut .nil passL (pa_cons (pv 4) (pa_cons (pv 5) pa_nil))))
    (pss_cons (ps_if (PW.pt (pw_or (pt_not (pt_val (pe_call G__law_same (hr.mono (by decide)) rfl T.g__law_same T.F__law_same.kp T.b__law_same .nil passL (pa_cons (pe_meth (pv 9) T.y_Path.cl T.m_Path_begins G_Path_begins (hr.mono (by decide)) T.b_Path_begins .nil passL (pa_cons (pv 10) pa_nil)) (pa_cons (pe_cmpR (op_eqA hr.units) (pe_ix ix_seq (pv 11) pe_int (fun _ _ => rfl)) pe_str (nomark _)) pa_nil))))) (pw_or1 (pt_not (pt_val (pe_call G__law_same (hr.mono (by decide)) rfl T.g__law_same T.F__law_same.kp T.b__law_same .nil passL (pa_cons (HL1.pe_lam (k := 5) rfl T.g__law_tried T.F__law_tried T.b__law_tried sc__law_tried rfl (.inl rfl) (q := "law.<locals>.<lambda>") (by decide +kernel : (("law" : Str) ++ (".<locals>." : Str) ++ ("<lambda>" : Str)) = ("law.<locals>.<lambda>" : Str)) (fun cdv s H ask act => (pss_cons (ps_set (i := 1) sc__law_tried.nd rfl (Or.inl rfl) (pe_tup (pa_cons pe_str pa_nil)))
    (pss_cons (HL1.ps_tryM rfl rfl sc__law_tried.nd (fun W pn xe tk po => (pss_one (ps_set (i := 1) sc__law_tried.nd rfl (Or.inl rfl) (pe_tup (pa_cons pe_str (pa_cons (pe_fld (act W pn xe _ _ tk) rfl) pa_nil)))))) (.named (i := 2) ⟨rfl, by decide, .inl T.g_NotBegun⟩ rfl rfl (fun ea oe cls ed pn hz hd => (pss_one (ps_set (i := 1) sc__law_tried.nd rfl (Or.inl rfl) (pe_tup (pa_cons pe_str (pa_cons (pe_fld (pe_xf T.ex_NotBegun T.ef_NotBegun hz hd (pv 2)) rfl) pa_nil)))))) (.named (i := 2) ⟨rfl, by decide, .inl T.g_NoRelative⟩ rfl rfl (fun ea oe cls ed pn hz hd => (pss_one (ps_set (i := 1) sc__law_tried.nd rfl (Or.inl rfl) (pe_tup (pa_cons pe_str (pa_cons (pe_fld (pe_xf T.ex_NoRelative T.ef_NoRelative hz hd (pv 2)) rfl) pa_nil)))))) .nil)))
    (pss_one (ps_ret (pv 1)))))) TB rfl (hr.mono (by decide)) (LamX.lamS_by (sc := defScope s_law) (by decide +kernel)) rfl (fun _ _ _ _ _ => rfl) (fun A2 outer2 s2 H2 E fl cl hr => (pe_meth (pv 9) T.y_Path.cl T.m_Path_cut G_Path_cut (hr.mono (by decide)) T.b_Path_cut .nil (passes_call (takes_of rfl rfl rfl rfl) (fun _ _ _ _ h => h)) (pa_cons (pv 10) pa_nil)))) (pa_cons (pv 11) pa_nil)))))))) (pss_one (ps_ret pe_bl)) pss_nil)
    (pss_cons (ps_if (pt_not (pt_val (pe_call G__law_same (hr.mono (by decide)) rfl T.g__law_same T.F__law_same.kp T.b__law_same .nil passL (pa_cons (HL1.pe_lam (k := 5) rfl T.g__law_tried T.F__law_tried T.b__law_tried sc__law_tried rfl (.inl rfl) (q := "law.<locals>.<lambda>") (by decide +kernel : (("law" : Str) ++ (".<locals>." : Str) ++ ("<lambda>" : Str)) = ("law.<locals>.<lambda>" : Str)) (fun cdv s H ask act => (pss_cons (ps_set (i := 1) sc__law_tried.nd rfl (Or.inl rfl) (pe_tup (pa_cons pe_str pa_nil)))
    (pss_cons (HL1.ps_tryM rfl rfl sc__law_tried.nd (fun W pn xe tk po => (pss_one (ps_set (i := 1) sc__law_tried.nd rfl (Or.inl rfl) (pe_tup (pa_cons pe_str (pa_cons (pe_fld (act W pn xe _ _ tk) rfl) pa_nil)))))) (.named (i := 2) ⟨rfl, by decide, .inl T.g_NotBegun⟩ rfl rfl (fun ea oe cls ed pn hz hd => (pss_one (ps_set (i := 1) sc__law_tried.nd rfl (Or.inl rfl) (pe_tup (pa_cons pe_str (pa_cons (pe_fld (pe_xf T.ex_NotBegun T.ef_NotBegun hz hd (pv 2)) rfl) pa_nil)))))) (.named (i := 2) ⟨rfl, by decide, .inl T.g_NoRelative⟩ rfl rfl (fun ea oe cls ed pn hz hd => (pss_one (ps_set (i := 1) sc__law_tried.nd rfl (Or.inl rfl) (pe_tup (pa_cons pe_str (pa_cons (pe_fld (pe_xf T.ex_NoRelative T.ef_NoRelative hz hd (pv 2)) rfl) pa_nil)))))) .nil)))
    (pss_one (ps_ret (pv 1)))))) TB rfl (hr.mono (by decide)) (LamX.lamS_by (sc := defScope s_law) (by decide +kernel)) rfl (fun _ _ _ _ _ => rfl) (fun A2 outer2 s2 H2 E fl cl hr => (pe_meth (pv 9) T.y_Path.cl T.m_Path_relative G_Path_relative (hr.mono (by decide)) T.b_Path_relative .nil (passes_call (takes_of rfl rfl rfl rfl) (fun _ _ _ _ h => h)) (pa_cons (pv 10) pa_nil)))) (pa_cons (pe_call G__law_due_relative (hr.mono (by decide)) rfl T.g__law_due_relative T.F__law_due_relative.kp T.b__law_due_relative .nil passL (pa_cons (pv 4) (pa_cons (pv 5) pa_nil))) pa_nil))))) (pss_one (ps_ret pe_bl)) pss_nil)
    (pss_one (ps_if (PW.pt (pw_or (pt_not (pt_val (pe_meth (pv 9) T.y_Path.cl T.m_Path_begins G_Path_begins (hr.mono (by decide)) T.b_Path_begins .nil passL (pa_cons (pv 9) pa_nil)))) (pw_or (pt_cmpR (op_neA hr.units) (pe_fld (pe_meth (pv 9) T.y_Path.cl T.m_Path_cut G_Path_cut (hr.mono (by decide)) T.b_Path_cut .nil passL (pa_cons (pv 9) pa_nil)) rfl) pe_str (nomark _)) (pw_or1 (pt_cmpR (op_neA hr.units) (pe_lst (pa_cons (pe_fld (pv 9) rfl) (pa_cons (pe_fld (pv 10) rfl) pa_nil))) (pe_lst (pa_cons (pv 4) (pa_cons (pv 5) pa_nil))) (nomark _)))))) (pss_one (ps_ret pe_bl)) pss_nil)))))))))))) rfl))
    (pss_one (ps_ret pe_bl)))),
    rd_law T E⟩
end My

namespace My
open PySem L2 DD
open PySem.Spec PyProof.Rows

theorem all_mk {l : PySem.W.OpenLaw} {w : World} {K : PySem.W.Frag} {h : Heap} {mg : Str → Option Value} {fa : Addr} (X : K.In h) (G : h.Ns mainGlobals mg) (hfa : mg "law" = some (.ref fa))
    {f_NotBegun___init__ : Addr} {od_NotBegun___init__ an_NotBegun___init__ : Option Addr} {sl_NotBegun___init__ : Array (Option Value)} {oc_NotBegun___init__ kV_NotBegun___init__ dc_NotBegun___init__ pm_NotBegun___init__ cd_NotBegun___init__ ct_NotBegun___init__ : Value}
    {f_NoRelative___init__ : Addr} {od_NoRelative___init__ an_NoRelative___init__ : Option Addr} {sl_NoRelative___init__ : Array (Option Value)} {oc_NoRelative___init__ kV_NoRelative___init__ dc_NoRelative___init__ pm_NoRelative___init__ cd_NoRelative___init__ ct_NoRelative___init__ : Value}
    {f_is_name : Addr} {od_is_name an_is_name : Option Addr} {sl_is_name : Array (Option Value)} {oc_is_name kV_is_name dc_is_name pm_is_name cd_is_name ct_is_name : Value}
    {f_is_path_text : Addr} {od_is_path_text an_is_path_text : Option Addr} {sl_is_path_text : Array (Option Value)} {oc_is_path_text kV_is_path_text dc_is_path_text pm_is_path_text cd_is_path_text ct_is_path_text : Value}
    {f_Path___init__ : Addr} {od_Path___init__ an_Path___init__ : Option Addr} {sl_Path___init__ : Array (Option Value)} {oc_Path___init__ kV_Path___init__ dc_Path___init__ pm_Path___init__ cd_Path___init__ ct_Path___init__ : Value}
    {f_Path___eq__ : Addr} {od_Path___eq__ an_Path___eq__ : Option Addr} {sl_Path___eq__ : Array (Option Value)} {oc_Path___eq__ kV_Path___eq__ dc_Path___eq__ pm_Path___eq__ cd_Path___eq__ ct_Path___eq__ : Value}
    {f_Path___len__ : Addr} {od_Path___len__ an_Path___len__ : Option Addr} {sl_Path___len__ : Array (Option Value)} {oc_Path___len__ kV_Path___len__ dc_Path___len__ pm_Path___len__ cd_Path___len__ ct_Path___len__ : Value}
    {f_Path_steps : Addr} {od_Path_steps an_Path_steps : Option Addr} {sl_Path_steps : Array (Option Value)} {oc_Path_steps kV_Path_steps dc_Path_steps pm_Path_steps cd_Path_steps ct_Path_steps : Value}
    {f_Path_begins : Addr} {od_Path_begins an_Path_begins : Option Addr} {sl_Path_begins : Array (Option Value)} {oc_Path_begins kV_Path_begins dc_Path_begins pm_Path_begins cd_Path_begins ct_Path_begins : Value}
    {f_Path_cut : Addr} {od_Path_cut an_Path_cut : Option Addr} {sl_Path_cut : Array (Option Value)} {oc_Path_cut kV_Path_cut dc_Path_cut pm_Path_cut cd_Path_cut ct_Path_cut : Value}
    {f_Path_relative : Addr} {od_Path_relative an_Path_relative : Option Addr} {sl_Path_relative : Array (Option Value)} {oc_Path_relative kV_Path_relative dc_Path_relative pm_Path_relative cd_Path_relative ct_Path_relative : Value}
    {f__law_p_steps : Addr} {od__law_p_steps an__law_p_steps : Option Addr} {sl__law_p_steps : Array (Option Value)} {oc__law_p_steps kV__law_p_steps dc__law_p_steps pm__law_p_steps cd__law_p_steps ct__law_p_steps : Value}
    {f__law_p_written : Addr} {od__law_p_written an__law_p_written : Option Addr} {sl__law_p_written : Array (Option Value)} {oc__law_p_written kV__law_p_written dc__law_p_written pm__law_p_written cd__law_p_written ct__law_p_written : Value}
    {f__law_p_plain : Addr} {od__law_p_plain an__law_p_plain : Option Addr} {sl__law_p_plain : Array (Option Value)} {oc__law_p_plain kV__law_p_plain dc__law_p_plain pm__law_p_plain cd__law_p_plain ct__law_p_plain : Value}
    {f__law_start : Addr} {od__law_start an__law_start : Option Addr} {sl__law_start : Array (Option Value)} {oc__law_start kV__law_start dc__law_start pm__law_start cd__law_start ct__law_start : Value}
    {f__law_draw : Addr} {od__law_draw an__law_draw : Option Addr} {sl__law_draw : Array (Option Value)} {oc__law_draw kV__law_draw dc__law_draw pm__law_draw cd__law_draw ct__law_draw : Value}
    {f__law_pick : Addr} {od__law_pick an__law_pick : Option Addr} {sl__law_pick : Array (Option Value)} {oc__law_pick kV__law_pick dc__law_pick pm__law_pick cd__law_pick ct__law_pick : Value}
    {f__law_same : Addr} {od__law_same an__law_same : Option Addr} {sl__law_same : Array (Option Value)} {oc__law_same kV__law_same dc__law_same pm__law_same cd__law_same ct__law_same : Value}
    {f__law_name : Addr} {od__law_name an__law_name : Option Addr} {sl__law_name : Array (Option Value)} {oc__law_name kV__law_name dc__law_name pm__law_name cd__law_name ct__law_name : Value}
    {f__law_names : Addr} {od__law_names an__law_names : Option Addr} {sl__law_names : Array (Option Value)} {oc__law_names kV__law_names dc__law_names pm__law_names cd__law_names ct__law_names : Value}
    {f__law_tried : Addr} {od__law_tried an__law_tried : Option Addr} {sl__law_tried : Array (Option Value)} {oc__law_tried kV__law_tried dc__law_tried pm__law_tried cd__law_tried ct__law_tried : Value}
    {f__law_due_cut : Addr} {od__law_due_cut an__law_due_cut : Option Addr} {sl__law_due_cut : Array (Option Value)} {oc__law_due_cut kV__law_due_cut dc__law_due_cut pm__law_due_cut cd__law_due_cut ct__law_due_cut : Value}
    {f__law_due_relative : Addr} {od__law_due_relative an__law_due_relative : Option Addr} {sl__law_due_relative : Array (Option Value)} {oc__law_due_relative kV__law_due_relative dc__law_due_relative pm__law_due_relative cd__law_due_relative ct__law_due_relative : Value}
    {f_law : Addr} {od_law an_law : Option Addr} {sl_law : Array (Option Value)} {oc_law kV_law dc_law pm_law ct_law : Value} {cc_law tb_law : Addr}
    {C_Path : Addr}
    {C_PathError : Addr}
    {C_NoRelative xN_NoRelative : Addr} {xm_NoRelative xq_NoRelative : Str} {xb_NoRelative : List Value} {xs_NoRelative : List Str} {xu_NoRelative : List Value} {xa_NoRelative : Bool} {xc_NoRelative : Option Bool} {xd_NoRelative : Option Addr} {x0_NoRelative x1_NoRelative x2_NoRelative x3_NoRelative x5_NoRelative : Option Value}
    {C_NotBegun xN_NotBegun : Addr} {xm_NotBegun xq_NotBegun : Str} {xb_NotBegun : List Value} {xs_NotBegun : List Str} {xu_NotBegun : List Value} {xa_NotBegun : Bool} {xc_NotBegun : Option Bool} {xd_NotBegun : Option Addr} {x0_NotBegun x1_NotBegun x2_NotBegun x3_NotBegun x5_NotBegun : Option Value}
    {t_LETTERS : Tok}
    {t_LONGEST : Tok}
    (htab : h.get? tb_law = some { cls := .none, data := .fields #[] })
    (a_NotBegun___init__ : PySem.W.findIn K (.ref C_NotBegun) "__init__" = some (some (.ref f_NotBegun___init__)))
    (i_NotBegun___init__ : PySem.W.isFn K (.ref f_NotBegun___init__) = true)
    (l_NotBegun___init__ : K.lookup f_NotBegun___init__ = some ⟨oc_NotBegun___init__, od_NotBegun___init__, .func (PySem.W.fnOf "__init__" "NotBegun.__init__" (defArgs s_NotBegun___init__) (defBody s_NotBegun___init__) (defScope s_NotBegun___init__) .none kV_NotBegun___init__ dc_NotBegun___init__ pm_NotBegun___init__ an_NotBegun___init__ cd_NotBegun___init__ ct_NotBegun___init__), sl_NotBegun___init__⟩)
    (c_NotBegun___init__ : PySem.W.codeIn K cd_NotBegun___init__ "NotBegun.__init__" = true)
    (k_NotBegun___init__ : PySem.W.keepIn K (.ref f_NotBegun___init__) = true)
    (a_NoRelative___init__ : PySem.W.findIn K (.ref C_NoRelative) "__init__" = some (some (.ref f_NoRelative___init__)))
    (i_NoRelative___init__ : PySem.W.isFn K (.ref f_NoRelative___init__) = true)
    (l_NoRelative___init__ : K.lookup f_NoRelative___init__ = some ⟨oc_NoRelative___init__, od_NoRelative___init__, .func (PySem.W.fnOf "__init__" "NoRelative.__init__" (defArgs s_NoRelative___init__) (defBody s_NoRelative___init__) (defScope s_NoRelative___init__) .none kV_NoRelative___init__ dc_NoRelative___init__ pm_NoRelative___init__ an_NoRelative___init__ cd_NoRelative___init__ ct_NoRelative___init__), sl_NoRelative___init__⟩)
    (c_NoRelative___init__ : PySem.W.codeIn K cd_NoRelative___init__ "NoRelative.__init__" = true)
    (k_NoRelative___init__ : PySem.W.keepIn K (.ref f_NoRelative___init__) = true)
    (a_is_name : PySem.W.nsIn K mainGlobals "is_name" = some (some (.ref f_is_name)))
    (l_is_name : K.lookup f_is_name = some ⟨oc_is_name, od_is_name, .func (PySem.W.fnOf "is_name" "is_name" (defArgs s_is_name) (defBody s_is_name) (defScope s_is_name) .none kV_is_name dc_is_name pm_is_name an_is_name cd_is_name ct_is_name), sl_is_name⟩)
    (c_is_name : PySem.W.codeIn K cd_is_name "is_name" = true)
    (k_is_name : PySem.W.keepIn K (.ref f_is_name) = true)
    (a_is_path_text : PySem.W.nsIn K mainGlobals "is_path_text" = some (some (.ref f_is_path_text)))
    (l_is_path_text : K.lookup f_is_path_text = some ⟨oc_is_path_text, od_is_path_text, .func (PySem.W.fnOf "is_path_text" "is_path_text" (defArgs s_is_path_text) (defBody s_is_path_text) (defScope s_is_path_text) .none kV_is_path_text dc_is_path_text pm_is_path_text an_is_path_text cd_is_path_text ct_is_path_text), sl_is_path_text⟩)
    (c_is_path_text : PySem.W.codeIn K cd_is_path_text "is_path_text" = true)
    (k_is_path_text : PySem.W.keepIn K (.ref f_is_path_text) = true)
    (a_Path___init__ : PySem.W.findIn K (.ref C_Path) "__init__" = some (some (.ref f_Path___init__)))
    (i_Path___init__ : PySem.W.isFn K (.ref f_Path___init__) = true)
    (l_Path___init__ : K.lookup f_Path___init__ = some ⟨oc_Path___init__, od_Path___init__, .func (PySem.W.fnOf "__init__" "Path.__init__" (defArgs s_Path___init__) (defBody s_Path___init__) (defScope s_Path___init__) .none kV_Path___init__ dc_Path___init__ pm_Path___init__ an_Path___init__ cd_Path___init__ ct_Path___init__), sl_Path___init__⟩)
    (c_Path___init__ : PySem.W.codeIn K cd_Path___init__ "Path.__init__" = true)
    (k_Path___init__ : PySem.W.keepIn K (.ref f_Path___init__) = true)
    (a_Path___eq__ : PySem.W.findIn K (.ref C_Path) "__eq__" = some (some (.ref f_Path___eq__)))
    (i_Path___eq__ : PySem.W.isFn K (.ref f_Path___eq__) = true)
    (l_Path___eq__ : K.lookup f_Path___eq__ = some ⟨oc_Path___eq__, od_Path___eq__, .func (PySem.W.fnOf "__eq__" "Path.__eq__" (defArgs s_Path___eq__) (defBody s_Path___eq__) (defScope s_Path___eq__) .none kV_Path___eq__ dc_Path___eq__ pm_Path___eq__ an_Path___eq__ cd_Path___eq__ ct_Path___eq__), sl_Path___eq__⟩)
    (c_Path___eq__ : PySem.W.codeIn K cd_Path___eq__ "Path.__eq__" = true)
    (k_Path___eq__ : PySem.W.keepIn K (.ref f_Path___eq__) = true)
    (a_Path___len__ : PySem.W.findIn K (.ref C_Path) "__len__" = some (some (.ref f_Path___len__)))
    (i_Path___len__ : PySem.W.isFn K (.ref f_Path___len__) = true)
    (l_Path___len__ : K.lookup f_Path___len__ = some ⟨oc_Path___len__, od_Path___len__, .func (PySem.W.fnOf "__len__" "Path.__len__" (defArgs s_Path___len__) (defBody s_Path___len__) (defScope s_Path___len__) .none kV_Path___len__ dc_Path___len__ pm_Path___len__ an_Path___len__ cd_Path___len__ ct_Path___len__), sl_Path___len__⟩)
    (c_Path___len__ : PySem.W.codeIn K cd_Path___len__ "Path.__len__" = true)
    (k_Path___len__ : PySem.W.keepIn K (.ref f_Path___len__) = true)
    (a_Path_steps : PySem.W.findIn K (.ref C_Path) "steps" = some (some (.ref f_Path_steps)))
    (i_Path_steps : PySem.W.isFn K (.ref f_Path_steps) = true)
    (l_Path_steps : K.lookup f_Path_steps = some ⟨oc_Path_steps, od_Path_steps, .func (PySem.W.fnOf "steps" "Path.steps" (defArgs s_Path_steps) (defBody s_Path_steps) (defScope s_Path_steps) .none kV_Path_steps dc_Path_steps pm_Path_steps an_Path_steps cd_Path_steps ct_Path_steps), sl_Path_steps⟩)
    (c_Path_steps : PySem.W.codeIn K cd_Path_steps "Path.steps" = true)
    (k_Path_steps : PySem.W.keepIn K (.ref f_Path_steps) = true)
    (a_Path_begins : PySem.W.findIn K (.ref C_Path) "begins" = some (some (.ref f_Path_begins)))
    (i_Path_begins : PySem.W.isFn K (.ref f_Path_begins) = true)
    (l_Path_begins : K.lookup f_Path_begins = some ⟨oc_Path_begins, od_Path_begins, .func (PySem.W.fnOf "begins" "Path.begins" (defArgs s_Path_begins) (defBody s_Path_begins) (defScope s_Path_begins) .none kV_Path_begins dc_Path_begins pm_Path_begins an_Path_begins cd_Path_begins ct_Path_begins), sl_Path_begins⟩)
    (c_Path_begins : PySem.W.codeIn K cd_Path_begins "Path.begins" = true)
    (k_Path_begins : PySem.W.keepIn K (.ref f_Path_begins) = true)
    (a_Path_cut : PySem.W.findIn K (.ref C_Path) "cut" = some (some (.ref f_Path_cut)))
    (i_Path_cut : PySem.W.isFn K (.ref f_Path_cut) = true)
    (l_Path_cut : K.lookup f_Path_cut = some ⟨oc_Path_cut, od_Path_cut, .func (PySem.W.fnOf "cut" "Path.cut" (defArgs s_Path_cut) (defBody s_Path_cut) (defScope s_Path_cut) .none kV_Path_cut dc_Path_cut pm_Path_cut an_Path_cut cd_Path_cut ct_Path_cut), sl_Path_cut⟩)
    (c_Path_cut : PySem.W.codeIn K cd_Path_cut "Path.cut" = true)
    (k_Path_cut : PySem.W.keepIn K (.ref f_Path_cut) = true)
    (a_Path_relative : PySem.W.findIn K (.ref C_Path) "relative" = some (some (.ref f_Path_relative)))
    (i_Path_relative : PySem.W.isFn K (.ref f_Path_relative) = true)
    (l_Path_relative : K.lookup f_Path_relative = some ⟨oc_Path_relative, od_Path_relative, .func (PySem.W.fnOf "relative" "Path.relative" (defArgs s_Path_relative) (defBody s_Path_relative) (defScope s_Path_relative) .none kV_Path_relative dc_Path_relative pm_Path_relative an_Path_relative cd_Path_relative ct_Path_relative), sl_Path_relative⟩)
    (c_Path_relative : PySem.W.codeIn K cd_Path_relative "Path.relative" = true)
    (k_Path_relative : PySem.W.keepIn K (.ref f_Path_relative) = true)
    (a__law_p_steps : PySem.W.nsIn K mainGlobals "_law_p_steps" = some (some (.ref f__law_p_steps)))
    (l__law_p_steps : K.lookup f__law_p_steps = some ⟨oc__law_p_steps, od__law_p_steps, .func (PySem.W.fnOf "_law_p_steps" "_law_p_steps" (defArgs s__law_p_steps) (defBody s__law_p_steps) (defScope s__law_p_steps) .none kV__law_p_steps dc__law_p_steps pm__law_p_steps an__law_p_steps cd__law_p_steps ct__law_p_steps), sl__law_p_steps⟩)
    (c__law_p_steps : PySem.W.codeIn K cd__law_p_steps "_law_p_steps" = true)
    (k__law_p_steps : PySem.W.keepIn K (.ref f__law_p_steps) = true)
    (a__law_p_written : PySem.W.nsIn K mainGlobals "_law_p_written" = some (some (.ref f__law_p_written)))
    (l__law_p_written : K.lookup f__law_p_written = some ⟨oc__law_p_written, od__law_p_written, .func (PySem.W.fnOf "_law_p_written" "_law_p_written" (defArgs s__law_p_written) (defBody s__law_p_written) (defScope s__law_p_written) .none kV__law_p_written dc__law_p_written pm__law_p_written an__law_p_written cd__law_p_written ct__law_p_written), sl__law_p_written⟩)
    (c__law_p_written : PySem.W.codeIn K cd__law_p_written "_law_p_written" = true)
    (k__law_p_written : PySem.W.keepIn K (.ref f__law_p_written) = true)
    (a__law_p_plain : PySem.W.nsIn K mainGlobals "_law_p_plain" = some (some (.ref f__law_p_plain)))
    (l__law_p_plain : K.lookup f__law_p_plain = some ⟨oc__law_p_plain, od__law_p_plain, .func (PySem.W.fnOf "_law_p_plain" "_law_p_plain" (defArgs s__law_p_plain) (defBody s__law_p_plain) (defScope s__law_p_plain) .none kV__law_p_plain dc__law_p_plain pm__law_p_plain an__law_p_plain cd__law_p_plain ct__law_p_plain), sl__law_p_plain⟩)
    (c__law_p_plain : PySem.W.codeIn K cd__law_p_plain "_law_p_plain" = true)
    (k__law_p_plain : PySem.W.keepIn K (.ref f__law_p_plain) = true)
    (a__law_start : PySem.W.nsIn K mainGlobals "_law_start" = some (some (.ref f__law_start)))
    (l__law_start : K.lookup f__law_start = some ⟨oc__law_start, od__law_start, .func (PySem.W.fnOf "_law_start" "_law_start" (defArgs s__law_start) (defBody s__law_start) (defScope s__law_start) .none kV__law_start dc__law_start pm__law_start an__law_start cd__law_start ct__law_start), sl__law_start⟩)
    (c__law_start : PySem.W.codeIn K cd__law_start "_law_start" = true)
    (k__law_start : PySem.W.keepIn K (.ref f__law_start) = true)
    (a__law_draw : PySem.W.nsIn K mainGlobals "_law_draw" = some (some (.ref f__law_draw)))
    (l__law_draw : K.lookup f__law_draw = some ⟨oc__law_draw, od__law_draw, .func (PySem.W.fnOf "_law_draw" "_law_draw" (defArgs s__law_draw) (defBody s__law_draw) (defScope s__law_draw) .none kV__law_draw dc__law_draw pm__law_draw an__law_draw cd__law_draw ct__law_draw), sl__law_draw⟩)
    (c__law_draw : PySem.W.codeIn K cd__law_draw "_law_draw" = true)
    (k__law_draw : PySem.W.keepIn K (.ref f__law_draw) = true)
    (a__law_pick : PySem.W.nsIn K mainGlobals "_law_pick" = some (some (.ref f__law_pick)))
    (l__law_pick : K.lookup f__law_pick = some ⟨oc__law_pick, od__law_pick, .func (PySem.W.fnOf "_law_pick" "_law_pick" (defArgs s__law_pick) (defBody s__law_pick) (defScope s__law_pick) .none kV__law_pick dc__law_pick pm__law_pick an__law_pick cd__law_pick ct__law_pick), sl__law_pick⟩)
    (c__law_pick : PySem.W.codeIn K cd__law_pick "_law_pick" = true)
    (k__law_pick : PySem.W.keepIn K (.ref f__law_pick) = true)
    (a__law_same : PySem.W.nsIn K mainGlobals "_law_same" = some (some (.ref f__law_same)))
    (l__law_same : K.lookup f__law_same = some ⟨oc__law_same, od__law_same, .func (PySem.W.fnOf "_law_same" "_law_same" (defArgs s__law_same) (defBody s__law_same) (defScope s__law_same) .none kV__law_same dc__law_same pm__law_same an__law_same cd__law_same ct__law_same), sl__law_same⟩)
    (c__law_same : PySem.W.codeIn K cd__law_same "_law_same" = true)
    (k__law_same : PySem.W.keepIn K (.ref f__law_same) = true)
    (a__law_name : PySem.W.nsIn K mainGlobals "_law_name" = some (some (.ref f__law_name)))
    (l__law_name : K.lookup f__law_name = some ⟨oc__law_name, od__law_name, .func (PySem.W.fnOf "_law_name" "_law_name" (defArgs s__law_name) (defBody s__law_name) (defScope s__law_name) .none kV__law_name dc__law_name pm__law_name an__law_name cd__law_name ct__law_name), sl__law_name⟩)
    (c__law_name : PySem.W.codeIn K cd__law_name "_law_name" = true)
    (k__law_name : PySem.W.keepIn K (.ref f__law_name) = true)
    (a__law_names : PySem.W.nsIn K mainGlobals "_law_names" = some (some (.ref f__law_names)))
    (l__law_names : K.lookup f__law_names = some ⟨oc__law_names, od__law_names, .func (PySem.W.fnOf "_law_names" "_law_names" (defArgs s__law_names) (defBody s__law_names) (defScope s__law_names) .none kV__law_names dc__law_names pm__law_names an__law_names cd__law_names ct__law_names), sl__law_names⟩)
    (c__law_names : PySem.W.codeIn K cd__law_names "_law_names" = true)
    (k__law_names : PySem.W.keepIn K (.ref f__law_names) = true)
    (a__law_tried : PySem.W.nsIn K mainGlobals "_law_tried" = some (some (.ref f__law_tried)))
    (l__law_tried : K.lookup f__law_tried = some ⟨oc__law_tried, od__law_tried, .func (PySem.W.fnOf "_law_tried" "_law_tried" (defArgs s__law_tried) (defBody s__law_tried) (defScope s__law_tried) .none kV__law_tried dc__law_tried pm__law_tried an__law_tried cd__law_tried ct__law_tried), sl__law_tried⟩)
    (c__law_tried : PySem.W.codeIn K cd__law_tried "_law_tried" = true)
    (k__law_tried : PySem.W.keepIn K (.ref f__law_tried) = true)
    (a__law_due_cut : PySem.W.nsIn K mainGlobals "_law_due_cut" = some (some (.ref f__law_due_cut)))
    (l__law_due_cut : K.lookup f__law_due_cut = some ⟨oc__law_due_cut, od__law_due_cut, .func (PySem.W.fnOf "_law_due_cut" "_law_due_cut" (defArgs s__law_due_cut) (defBody s__law_due_cut) (defScope s__law_due_cut) .none kV__law_due_cut dc__law_due_cut pm__law_due_cut an__law_due_cut cd__law_due_cut ct__law_due_cut), sl__law_due_cut⟩)
    (c__law_due_cut : PySem.W.codeIn K cd__law_due_cut "_law_due_cut" = true)
    (k__law_due_cut : PySem.W.keepIn K (.ref f__law_due_cut) = true)
    (a__law_due_relative : PySem.W.nsIn K mainGlobals "_law_due_relative" = some (some (.ref f__law_due_relative)))
    (l__law_due_relative : K.lookup f__law_due_relative = some ⟨oc__law_due_relative, od__law_due_relative, .func (PySem.W.fnOf "_law_due_relative" "_law_due_relative" (defArgs s__law_due_relative) (defBody s__law_due_relative) (defScope s__law_due_relative) .none kV__law_due_relative dc__law_due_relative pm__law_due_relative an__law_due_relative cd__law_due_relative ct__law_due_relative), sl__law_due_relative⟩)
    (c__law_due_relative : PySem.W.codeIn K cd__law_due_relative "_law_due_relative" = true)
    (k__law_due_relative : PySem.W.keepIn K (.ref f__law_due_relative) = true)
    (a_law : PySem.W.nsIn K mainGlobals "law" = some (some (.ref f_law)))
    (l_law : K.lookup f_law = some ⟨oc_law, od_law, .func (PySem.W.fnOf "law" "law" (defArgs s_law) (defBody s_law) (defScope s_law) .none kV_law dc_law pm_law an_law (.ref cc_law) ct_law), sl_law⟩)
    (c_law : PySem.W.codeIn K (.ref cc_law) "law" = true)
    (k_law : PySem.W.keepIn K (.ref f_law) = true)
    (ch_law : PySem.W.codeHdIn K cc_law tb_law = true)
    (nt_law : K.lookup tb_law = none)
    (aC_Path : PySem.W.nsIn K mainGlobals "Path" = some (some (.ref C_Path)))
    (pg_Path : PySem.W.plainGet K C_Path Str.empty = true)
    (hd_Path : PySem.W.hasDictIn K C_Path = true)
    (po_Path : PySem.W.plainOver K C_Path = true)
    (sa_Path : PySem.W.findIn K (.ref C_Path) "__setattr__" = some (some (.builtin "object.__setattr__")))
    (ha_Path : PySem.W.findIn K (.ref C_Path) "__class__" = some (some (.builtin "object.__class__")))
    (hn_Path : PySem.W.specialIn K (.builtin "object.__class__") "__get__" = some (some (.builtin "getset_descriptor.__get__")))
    (ht_Path : PySem.W.takesIn K (.builtin "object.__class__") = some true)
    (hm_Path : PySem.W.mroIn K C_Path (.type "object") = some true)
    (mi_Path : PySem.W.makesIn K C_Path = true)
    (kc_Path : PySem.W.keepIn K (.ref C_Path) = true)
    (n_Path_text : PySem.W.findIn K (.ref C_Path) "text" = some none)
    (n_Path_rooted : PySem.W.findIn K (.ref C_Path) "rooted" = some none)
    (n_Path_ended : PySem.W.findIn K (.ref C_Path) "ended" = some none)
    (kt_Path_Path : PySem.W.kitOne K (.ref C_Path) (.ref C_Path) = some true)
    (aC_PathError : PySem.W.nsIn K mainGlobals "PathError" = some (some (.ref C_PathError)))
    (er_PathError : PySem.W.readsIn K C_PathError (.type "type") = true)
    (ea_PathError : PySem.W.specialIn K (.ref C_PathError) "__getattribute__" = some (some (.builtin "type.__getattribute__")))
    (ev_PathError : PySem.W.findCls K (.ref C_PathError) (.type "type") "__init__" = some (.val (.builtin "ValueError.__init__")))
    (aC_NoRelative : PySem.W.nsIn K mainGlobals "NoRelative" = some (some (.ref C_NoRelative)))
    (xl_NoRelative : K.lookup C_NoRelative = some (excClassObj xm_NoRelative xq_NoRelative C_NoRelative xN_NoRelative xb_NoRelative [.ref C_PathError, .type "ValueError", .type "Exception", .type "BaseException", .type "object"] true xs_NoRelative xu_NoRelative xa_NoRelative xc_NoRelative xd_NoRelative x0_NoRelative x1_NoRelative x2_NoRelative x3_NoRelative x5_NoRelative "ValueError.__new__"))
    (xsa_NoRelative : PySem.W.findIn K (.ref C_NoRelative) "__setattr__" = some (some (.builtin "object.__setattr__")))
    (xeb_NoRelative : PySem.W.subIn K (.ref C_NoRelative) (.type "BaseException") = some true)
    (xty_NoRelative : PySem.W.typeIn K (.ref C_NoRelative) = some (.type "type"))
    (xkc_NoRelative : PySem.W.keepIn K (.ref C_NoRelative) = true)
    (xga_NoRelative : PySem.W.findIn K (.ref C_NoRelative) "__getattribute__" = some (some (.builtin "BaseException.__getattribute__")))
    (xgg_NoRelative : PySem.W.findIn K (.ref C_NoRelative) "__getattr__" = some none)
    (xhd_NoRelative : PySem.W.hasDictIn K C_NoRelative = true)
    (xic_NoRelative : PySem.W.isClsIn K C_NoRelative = true)
    (xss_NoRelative : PySem.W.subIn K (.ref C_NoRelative) (.ref C_NoRelative) = some true)
    (xno_NoRelative : PySem.W.findIn K (.ref C_NoRelative) "path" = some none)
    (xti_NoRelative : PySem.W.typeIn K (.ref f_NoRelative___init__) = some (.type "function"))
    (aC_NotBegun : PySem.W.nsIn K mainGlobals "NotBegun" = some (some (.ref C_NotBegun)))
    (xl_NotBegun : K.lookup C_NotBegun = some (excClassObj xm_NotBegun xq_NotBegun C_NotBegun xN_NotBegun xb_NotBegun [.ref C_PathError, .type "ValueError", .type "Exception", .type "BaseException", .type "object"] true xs_NotBegun xu_NotBegun xa_NotBegun xc_NotBegun xd_NotBegun x0_NotBegun x1_NotBegun x2_NotBegun x3_NotBegun x5_NotBegun "ValueError.__new__"))
    (xsa_NotBegun : PySem.W.findIn K (.ref C_NotBegun) "__setattr__" = some (some (.builtin "object.__setattr__")))
    (xeb_NotBegun : PySem.W.subIn K (.ref C_NotBegun) (.type "BaseException") = some true)
    (xty_NotBegun : PySem.W.typeIn K (.ref C_NotBegun) = some (.type "type"))
    (xkc_NotBegun : PySem.W.keepIn K (.ref C_NotBegun) = true)
    (xga_NotBegun : PySem.W.findIn K (.ref C_NotBegun) "__getattribute__" = some (some (.builtin "BaseException.__getattribute__")))
    (xgg_NotBegun : PySem.W.findIn K (.ref C_NotBegun) "__getattr__" = some none)
    (xhd_NotBegun : PySem.W.hasDictIn K C_NotBegun = true)
    (xic_NotBegun : PySem.W.isClsIn K C_NotBegun = true)
    (xss_NotBegun : PySem.W.subIn K (.ref C_NotBegun) (.ref C_NotBegun) = some true)
    (xno_NotBegun : PySem.W.findIn K (.ref C_NotBegun) "other" = some none)
    (xti_NotBegun : PySem.W.typeIn K (.ref f_NotBegun___init__) = some (.type "function"))
    (xs_NotBegun_NoRelative : PySem.W.subIn K (.ref C_NotBegun) (.ref C_NoRelative) = some false)
    (xs_NoRelative_NotBegun : PySem.W.subIn K (.ref C_NoRelative) (.ref C_NotBegun) = some false)
    (op_Path___len__ : PySem.W.findIn K (.ref C_Path) ("__len__") = some (some (.ref f_Path___len__)))
    (z_all : PySem.W.nsIn K mainGlobals "all" = some none)
    (z_bool : PySem.W.nsIn K mainGlobals "bool" = some none)
    (z_enumerate : PySem.W.nsIn K mainGlobals "enumerate" = some none)
    (z_int : PySem.W.nsIn K mainGlobals "int" = some none)
    (z_isinstance : PySem.W.nsIn K mainGlobals "isinstance" = some none)
    (z_len : PySem.W.nsIn K mainGlobals "len" = some none)
    (z_list : PySem.W.nsIn K mainGlobals "list" = some none)
    (z_min : PySem.W.nsIn K mainGlobals "min" = some none)
    (z_range : PySem.W.nsIn K mainGlobals "range" = some none)
    (z_str : PySem.W.nsIn K mainGlobals "str" = some none)
    (z_tuple : PySem.W.nsIn K mainGlobals "tuple" = some none)
    (z_zip : PySem.W.nsIn K mainGlobals "zip" = some none)
    (a_LETTERS : PySem.W.nsIn K mainGlobals "LETTERS" = some (some (.str "abcdefghijklmnopqrstuvwxyz" t_LETTERS)))
    (a_LONGEST : PySem.W.nsIn K mainGlobals "LONGEST" = some (some (.int 8 t_LONGEST))) :
    LamX.LawAtS l w K (L2.CX l.prog w) 8 63 "_law_script" mg fa h := by
  have e : f_law = fa := Value.ref.inj (Option.some.inj ((PySem.W.mg_of X G a_law).symm.trans hfa))
  subst e
  let T : Txt K mg := { m_NotBegun___init__ := ⟨a_NotBegun___init__, i_NotBegun___init__, k_NotBegun___init__⟩, a_NotBegun___init__ := f_NotBegun___init__, d_NotBegun___init__ := PySem.W.fnOf "__init__" "NotBegun.__init__" (defArgs s_NotBegun___init__) (defBody s_NotBegun___init__) (defScope s_NotBegun___init__) .none kV_NotBegun___init__ dc_NotBegun___init__ pm_NotBegun___init__ an_NotBegun___init__ cd_NotBegun___init__ ct_NotBegun___init__, F_NotBegun___init__ := fun_mk (st := s_NotBegun___init__) l_NotBegun___init__ c_NotBegun___init__ k_NotBegun___init__, b_NotBegun___init__ := (fun_mk (st := s_NotBegun___init__) l_NotBegun___init__ c_NotBegun___init__ k_NotBegun___init__).binds (ps := ["self", "other"]) fun _ _ _ _ _ _ us hl => match us, hl with | [_, _], _ => rfl, m_NoRelative___init__ := ⟨a_NoRelative___init__, i_NoRelative___init__, k_NoRelative___init__⟩, a_NoRelative___init__ := f_NoRelative___init__, d_NoRelative___init__ := PySem.W.fnOf "__init__" "NoRelative.__init__" (defArgs s_NoRelative___init__) (defBody s_NoRelative___init__) (defScope s_NoRelative___init__) .none kV_NoRelative___init__ dc_NoRelative___init__ pm_NoRelative___init__ an_NoRelative___init__ cd_NoRelative___init__ ct_NoRelative___init__, F_NoRelative___init__ := fun_mk (st := s_NoRelative___init__) l_NoRelative___init__ c_NoRelative___init__ k_NoRelative___init__, b_NoRelative___init__ := (fun_mk (st := s_NoRelative___init__) l_NoRelative___init__ c_NoRelative___init__ k_NoRelative___init__).binds (ps := ["self", "path"]) fun _ _ _ _ _ _ us hl => match us, hl with | [_, _], _ => rfl, g_is_name := PySem.W.mg_of X G a_is_name, a_is_name := f_is_name, d_is_name := PySem.W.fnOf "is_name" "is_name" (defArgs s_is_name) (defBody s_is_name) (defScope s_is_name) .none kV_is_name dc_is_name pm_is_name an_is_name cd_is_name ct_is_name, F_is_name := fun_mk (st := s_is_name) l_is_name c_is_name k_is_name, b_is_name := (fun_mk (st := s_is_name) l_is_name c_is_name k_is_name).binds (ps := ["thing"]) fun _ _ _ _ _ _ us hl => match us, hl with | [_], _ => rfl, g_is_path_text := PySem.W.mg_of X G a_is_path_text, a_is_path_text := f_is_path_text, d_is_path_text := PySem.W.fnOf "is_path_text" "is_path_text" (defArgs s_is_path_text) (defBody s_is_path_text) (defScope s_is_path_text) .none kV_is_path_text dc_is_path_text pm_is_path_text an_is_path_text cd_is_path_text ct_is_path_text, F_is_path_text := fun_mk (st := s_is_path_text) l_is_path_text c_is_path_text k_is_path_text, b_is_path_text := (fun_mk (st := s_is_path_text) l_is_path_text c_is_path_text k_is_path_text).binds (ps := ["thing"]) fun _ _ _ _ _ _ us hl => match us, hl with | [_], _ => rfl, m_Path___init__ := ⟨a_Path___init__, i_Path___init__, k_Path___init__⟩, a_Path___init__ := f_Path___init__, d_Path___init__ := PySem.W.fnOf "__init__" "Path.__init__" (defArgs s_Path___init__) (defBody s_Path___init__) (defScope s_Path___init__) .none kV_Path___init__ dc_Path___init__ pm_Path___init__ an_Path___init__ cd_Path___init__ ct_Path___init__, F_Path___init__ := fun_mk (st := s_Path___init__) l_Path___init__ c_Path___init__ k_Path___init__, b_Path___init__ := (fun_mk (st := s_Path___init__) l_Path___init__ c_Path___init__ k_Path___init__).binds (ps := ["self", "text"]) fun _ _ _ _ _ _ us hl => match us, hl with | [_, _], _ => rfl, m_Path___eq__ := ⟨a_Path___eq__, i_Path___eq__, k_Path___eq__⟩, a_Path___eq__ := f_Path___eq__, d_Path___eq__ := PySem.W.fnOf "__eq__" "Path.__eq__" (defArgs s_Path___eq__) (defBody s_Path___eq__) (defScope s_Path___eq__) .none kV_Path___eq__ dc_Path___eq__ pm_Path___eq__ an_Path___eq__ cd_Path___eq__ ct_Path___eq__, F_Path___eq__ := fun_mk (st := s_Path___eq__) l_Path___eq__ c_Path___eq__ k_Path___eq__, b_Path___eq__ := (fun_mk (st := s_Path___eq__) l_Path___eq__ c_Path___eq__ k_Path___eq__).binds (ps := ["self", "other"]) fun _ _ _ _ _ _ us hl => match us, hl with | [_, _], _ => rfl, m_Path___len__ := ⟨a_Path___len__, i_Path___len__, k_Path___len__⟩, a_Path___len__ := f_Path___len__, d_Path___len__ := PySem.W.fnOf "__len__" "Path.__len__" (defArgs s_Path___len__) (defBody s_Path___len__) (defScope s_Path___len__) .none kV_Path___len__ dc_Path___len__ pm_Path___len__ an_Path___len__ cd_Path___len__ ct_Path___len__, F_Path___len__ := fun_mk (st := s_Path___len__) l_Path___len__ c_Path___len__ k_Path___len__, b_Path___len__ := (fun_mk (st := s_Path___len__) l_Path___len__ c_Path___len__ k_Path___len__).binds (ps := ["self"]) fun _ _ _ _ _ _ us hl => match us, hl with | [_], _ => rfl, m_Path_steps := ⟨a_Path_steps, i_Path_steps, k_Path_steps⟩, a_Path_steps := f_Path_steps, d_Path_steps := PySem.W.fnOf "steps" "Path.steps" (defArgs s_Path_steps) (defBody s_Path_steps) (defScope s_Path_steps) .none kV_Path_steps dc_Path_steps pm_Path_steps an_Path_steps cd_Path_steps ct_Path_steps, F_Path_steps := fun_mk (st := s_Path_steps) l_Path_steps c_Path_steps k_Path_steps, b_Path_steps := (fun_mk (st := s_Path_steps) l_Path_steps c_Path_steps k_Path_steps).binds (ps := ["self"]) fun _ _ _ _ _ _ us hl => match us, hl with | [_], _ => rfl, m_Path_begins := ⟨a_Path_begins, i_Path_begins, k_Path_begins⟩, a_Path_begins := f_Path_begins, d_Path_begins := PySem.W.fnOf "begins" "Path.begins" (defArgs s_Path_begins) (defBody s_Path_begins) (defScope s_Path_begins) .none kV_Path_begins dc_Path_begins pm_Path_begins an_Path_begins cd_Path_begins ct_Path_begins, F_Path_begins := fun_mk (st := s_Path_begins) l_Path_begins c_Path_begins k_Path_begins, b_Path_begins := (fun_mk (st := s_Path_begins) l_Path_begins c_Path_begins k_Path_begins).binds (ps := ["self", "other"]) fun _ _ _ _ _ _ us hl => match us, hl with | [_, _], _ => rfl, m_Path_cut := ⟨a_Path_cut, i_Path_cut, k_Path_cut⟩, a_Path_cut := f_Path_cut, d_Path_cut := PySem.W.fnOf "cut" "Path.cut" (defArgs s_Path_cut) (defBody s_Path_cut) (defScope s_Path_cut) .none kV_Path_cut dc_Path_cut pm_Path_cut an_Path_cut cd_Path_cut ct_Path_cut, F_Path_cut := fun_mk (st := s_Path_cut) l_Path_cut c_Path_cut k_Path_cut, b_Path_cut := (fun_mk (st := s_Path_cut) l_Path_cut c_Path_cut k_Path_cut).binds (ps := ["self", "other"]) fun _ _ _ _ _ _ us hl => match us, hl with | [_, _], _ => rfl, m_Path_relative := ⟨a_Path_relative, i_Path_relative, k_Path_relative⟩, a_Path_relative := f_Path_relative, d_Path_relative := PySem.W.fnOf "relative" "Path.relative" (defArgs s_Path_relative) (defBody s_Path_relative) (defScope s_Path_relative) .none kV_Path_relative dc_Path_relative pm_Path_relative an_Path_relative cd_Path_relative ct_Path_relative, F_Path_relative := fun_mk (st := s_Path_relative) l_Path_relative c_Path_relative k_Path_relative, b_Path_relative := (fun_mk (st := s_Path_relative) l_Path_relative c_Path_relative k_Path_relative).binds (ps := ["self", "other"]) fun _ _ _ _ _ _ us hl => match us, hl with | [_, _], _ => rfl, g__law_p_steps := PySem.W.mg_of X G a__law_p_steps, a__law_p_steps := f__law_p_steps, d__law_p_steps := PySem.W.fnOf "_law_p_steps" "_law_p_steps" (defArgs s__law_p_steps) (defBody s__law_p_steps) (defScope s__law_p_steps) .none kV__law_p_steps dc__law_p_steps pm__law_p_steps an__law_p_steps cd__law_p_steps ct__law_p_steps, F__law_p_steps := fun_mk (st := s__law_p_steps) l__law_p_steps c__law_p_steps k__law_p_steps, b__law_p_steps := (fun_mk (st := s__law_p_steps) l__law_p_steps c__law_p_steps k__law_p_steps).binds (ps := ["_law_written"]) fun _ _ _ _ _ _ us hl => match us, hl with | [_], _ => rfl, g__law_p_written := PySem.W.mg_of X G a__law_p_written, a__law_p_written := f__law_p_written, d__law_p_written := PySem.W.fnOf "_law_p_written" "_law_p_written" (defArgs s__law_p_written) (defBody s__law_p_written) (defScope s__law_p_written) .none kV__law_p_written dc__law_p_written pm__law_p_written an__law_p_written cd__law_p_written ct__law_p_written, F__law_p_written := fun_mk (st := s__law_p_written) l__law_p_written c__law_p_written k__law_p_written, b__law_p_written := (fun_mk (st := s__law_p_written) l__law_p_written c__law_p_written k__law_p_written).binds (ps := ["_law_stream", "_law_names_here", "_law_most"]) fun _ _ _ _ _ _ us hl => match us, hl with | [_, _, _], _ => rfl, g__law_p_plain := PySem.W.mg_of X G a__law_p_plain, a__law_p_plain := f__law_p_plain, d__law_p_plain := PySem.W.fnOf "_law_p_plain" "_law_p_plain" (defArgs s__law_p_plain) (defBody s__law_p_plain) (defScope s__law_p_plain) .none kV__law_p_plain dc__law_p_plain pm__law_p_plain an__law_p_plain cd__law_p_plain ct__law_p_plain, F__law_p_plain := fun_mk (st := s__law_p_plain) l__law_p_plain c__law_p_plain k__law_p_plain, b__law_p_plain := (fun_mk (st := s__law_p_plain) l__law_p_plain c__law_p_plain k__law_p_plain).binds (ps := ["_law_steps", "_law_rooted", "_law_ended"]) fun _ _ _ _ _ _ us hl => match us, hl with | [_, _, _], _ => rfl, g__law_start := PySem.W.mg_of X G a__law_start, a__law_start := f__law_start, d__law_start := PySem.W.fnOf "_law_start" "_law_start" (defArgs s__law_start) (defBody s__law_start) (defScope s__law_start) .none kV__law_start dc__law_start pm__law_start an__law_start cd__law_start ct__law_start, F__law_start := fun_mk (st := s__law_start) l__law_start c__law_start k__law_start, b__law_start := (fun_mk (st := s__law_start) l__law_start c__law_start k__law_start).binds (ps := ["_law_script"]) fun _ _ _ _ _ _ us hl => match us, hl with | [_], _ => rfl, g__law_draw := PySem.W.mg_of X G a__law_draw, a__law_draw := f__law_draw, d__law_draw := PySem.W.fnOf "_law_draw" "_law_draw" (defArgs s__law_draw) (defBody s__law_draw) (defScope s__law_draw) .none kV__law_draw dc__law_draw pm__law_draw an__law_draw cd__law_draw ct__law_draw, F__law_draw := fun_mk (st := s__law_draw) l__law_draw c__law_draw k__law_draw, b__law_draw := (fun_mk (st := s__law_draw) l__law_draw c__law_draw k__law_draw).binds (ps := ["_law_stream", "_law_many"]) fun _ _ _ _ _ _ us hl => match us, hl with | [_, _], _ => rfl, g__law_pick := PySem.W.mg_of X G a__law_pick, a__law_pick := f__law_pick, d__law_pick := PySem.W.fnOf "_law_pick" "_law_pick" (defArgs s__law_pick) (defBody s__law_pick) (defScope s__law_pick) .none kV__law_pick dc__law_pick pm__law_pick an__law_pick cd__law_pick ct__law_pick, F__law_pick := fun_mk (st := s__law_pick) l__law_pick c__law_pick k__law_pick, b__law_pick := (fun_mk (st := s__law_pick) l__law_pick c__law_pick k__law_pick).binds (ps := ["_law_stream", "_law_some"]) fun _ _ _ _ _ _ us hl => match us, hl with | [_, _], _ => rfl, g__law_same := PySem.W.mg_of X G a__law_same, a__law_same := f__law_same, d__law_same := PySem.W.fnOf "_law_same" "_law_same" (defArgs s__law_same) (defBody s__law_same) (defScope s__law_same) .none kV__law_same dc__law_same pm__law_same an__law_same cd__law_same ct__law_same, F__law_same := fun_mk (st := s__law_same) l__law_same c__law_same k__law_same, b__law_same := (fun_mk (st := s__law_same) l__law_same c__law_same k__law_same).binds (ps := ["_law_found", "_law_due"]) fun _ _ _ _ _ _ us hl => match us, hl with | [_, _], _ => rfl, g__law_name := PySem.W.mg_of X G a__law_name, a__law_name := f__law_name, d__law_name := PySem.W.fnOf "_law_name" "_law_name" (defArgs s__law_name) (defBody s__law_name) (defScope s__law_name) .none kV__law_name dc__law_name pm__law_name an__law_name cd__law_name ct__law_name, F__law_name := fun_mk (st := s__law_name) l__law_name c__law_name k__law_name, b__law_name := (fun_mk (st := s__law_name) l__law_name c__law_name k__law_name).binds (ps := ["_law_stream"]) fun _ _ _ _ _ _ us hl => match us, hl with | [_], _ => rfl, g__law_names := PySem.W.mg_of X G a__law_names, a__law_names := f__law_names, d__law_names := PySem.W.fnOf "_law_names" "_law_names" (defArgs s__law_names) (defBody s__law_names) (defScope s__law_names) .none kV__law_names dc__law_names pm__law_names an__law_names cd__law_names ct__law_names, F__law_names := fun_mk (st := s__law_names) l__law_names c__law_names k__law_names, b__law_names := (fun_mk (st := s__law_names) l__law_names c__law_names k__law_names).binds (ps := ["_law_stream", "_law_many"]) fun _ _ _ _ _ _ us hl => match us, hl with | [_, _], _ => rfl, g__law_tried := PySem.W.mg_of X G a__law_tried, a__law_tried := f__law_tried, d__law_tried := PySem.W.fnOf "_law_tried" "_law_tried" (defArgs s__law_tried) (defBody s__law_tried) (defScope s__law_tried) .none kV__law_tried dc__law_tried pm__law_tried an__law_tried cd__law_tried ct__law_tried, F__law_tried := fun_mk (st := s__law_tried) l__law_tried c__law_tried k__law_tried, b__law_tried := (fun_mk (st := s__law_tried) l__law_tried c__law_tried k__law_tried).binds (ps := ["_law_ask"]) fun _ _ _ _ _ _ us hl => match us, hl with | [_], _ => rfl, g__law_due_cut := PySem.W.mg_of X G a__law_due_cut, a__law_due_cut := f__law_due_cut, d__law_due_cut := PySem.W.fnOf "_law_due_cut" "_law_due_cut" (defArgs s__law_due_cut) (defBody s__law_due_cut) (defScope s__law_due_cut) .none kV__law_due_cut dc__law_due_cut pm__law_due_cut an__law_due_cut cd__law_due_cut ct__law_due_cut, F__law_due_cut := fun_mk (st := s__law_due_cut) l__law_due_cut c__law_due_cut k__law_due_cut, b__law_due_cut := (fun_mk (st := s__law_due_cut) l__law_due_cut c__law_due_cut k__law_due_cut).binds (ps := ["_law_mine", "_law_theirs"]) fun _ _ _ _ _ _ us hl => match us, hl with | [_, _], _ => rfl, g__law_due_relative := PySem.W.mg_of X G a__law_due_relative, a__law_due_relative := f__law_due_relative, d__law_due_relative := PySem.W.fnOf "_law_due_relative" "_law_due_relative" (defArgs s__law_due_relative) (defBody s__law_due_relative) (defScope s__law_due_relative) .none kV__law_due_relative dc__law_due_relative pm__law_due_relative an__law_due_relative cd__law_due_relative ct__law_due_relative, F__law_due_relative := fun_mk (st := s__law_due_relative) l__law_due_relative c__law_due_relative k__law_due_relative, b__law_due_relative := (fun_mk (st := s__law_due_relative) l__law_due_relative c__law_due_relative k__law_due_relative).binds (ps := ["_law_mine", "_law_theirs"]) fun _ _ _ _ _ _ us hl => match us, hl with | [_, _], _ => rfl, g_law := PySem.W.mg_of X G a_law, a_law := f_law, d_law := PySem.W.fnOf "law" "law" (defArgs s_law) (defBody s_law) (defScope s_law) .none kV_law dc_law pm_law an_law (.ref cc_law) ct_law, cc_law := cc_law, tb_law := tb_law, cr_law := rfl, F_law := fun_mk (st := s_law) l_law c_law k_law, b_law := (fun_mk (st := s_law) l_law c_law k_law).binds (ps := ["_law_script"]) fun _ _ _ _ _ _ us hl => match us, hl with | [_], _ => rfl, c_Path := C_Path, g_Path := PySem.W.mg_of X G aC_Path, y_Path := ⟨⟨pg_Path, hd_Path, po_Path, sa_Path⟩, ha_Path, hn_Path, ht_Path, hm_Path⟩, mk_Path := ⟨mi_Path, a_Path___init__, i_Path___init__, kc_Path⟩, n_Path_text := n_Path_text, n_Path_rooted := n_Path_rooted, n_Path_ended := n_Path_ended, kt_Path_Path := kt_Path_Path, c_PathError := C_PathError, g_PathError := PySem.W.mg_of X G aC_PathError, er_PathError := er_PathError, ea_PathError := ea_PathError, ev_PathError := ev_PathError, c_NoRelative := C_NoRelative, g_NoRelative := PySem.W.mg_of X G aC_NoRelative, oe_NoRelative := ⟨⟨_, _, _, _, _, _, _, _, _, _, _, _, _, _, _, xl_NoRelative, rfl⟩, xsa_NoRelative, xeb_NoRelative, xty_NoRelative, xkc_NoRelative⟩, ex_NoRelative := ⟨xga_NoRelative, xgg_NoRelative, xeb_NoRelative, xhd_NoRelative⟩, ef_NoRelative := xno_NoRelative, ei_NoRelative := a_NoRelative___init__, et_NoRelative := xti_NoRelative, em_NoRelative := HX1.exm_own xeb_NoRelative xic_NoRelative xty_NoRelative xss_NoRelative, c_NotBegun := C_NotBegun, g_NotBegun := PySem.W.mg_of X G aC_NotBegun, oe_NotBegun := ⟨⟨_, _, _, _, _, _, _, _, _, _, _, _, _, _, _, xl_NotBegun, rfl⟩, xsa_NotBegun, xeb_NotBegun, xty_NotBegun, xkc_NotBegun⟩, ex_NotBegun := ⟨xga_NotBegun, xgg_NotBegun, xeb_NotBegun, xhd_NotBegun⟩, ef_NotBegun := xno_NotBegun, ei_NotBegun := a_NotBegun___init__, et_NotBegun := xti_NotBegun, em_NotBegun := HX1.exm_own xeb_NotBegun xic_NotBegun xty_NotBegun xss_NotBegun, xm_NoRelative_NoRelative := HL1.exm_two xeb_NoRelative xic_NoRelative xty_NoRelative xss_NoRelative, xm_NotBegun_NoRelative := HL1.exm_two xeb_NoRelative xic_NoRelative xty_NoRelative xs_NotBegun_NoRelative, xm_NoRelative_NotBegun := HL1.exm_two xeb_NotBegun xic_NotBegun xty_NotBegun xs_NoRelative_NotBegun, xm_NotBegun_NotBegun := HL1.exm_two xeb_NotBegun xic_NotBegun xty_NotBegun xss_NotBegun, op_Path___len__ := op_Path___len__, z_all := PySem.W.mg_none_of X G z_all, z_bool := PySem.W.mg_none_of X G z_bool, z_enumerate := PySem.W.mg_none_of X G z_enumerate, z_int := PySem.W.mg_none_of X G z_int, z_isinstance := PySem.W.mg_none_of X G z_isinstance, z_len := PySem.W.mg_none_of X G z_len, z_list := PySem.W.mg_none_of X G z_list, z_min := PySem.W.mg_none_of X G z_min, z_range := PySem.W.mg_none_of X G z_range, z_str := PySem.W.mg_none_of X G z_str, z_tuple := PySem.W.mg_none_of X G z_tuple, z_zip := PySem.W.mg_none_of X G z_zip, u_LETTERS := .str "abcdefghijklmnopqrstuvwxyz" t_LETTERS, g_LETTERS := PySem.W.mg_of X G a_LETTERS, r_LETTERS := ⟨_, rfl⟩, u_LONGEST := .int 8 t_LONGEST, g_LONGEST := PySem.W.mg_of X G a_LONGEST, r_LONGEST := ⟨_, rfl⟩ }
  refine ⟨T.d_law, [(cc_law, tb_law)], spLawT K T.tb_law, fun p hp => ?_, fun p hp => ?_, fun p hp => ?_, fun s v => .of_eq rfl, fun H a ns hl _ hT hS => ⟨a, ns, rfl, hS, hl, hT _ List.mem_cons_self, fun _ => rfl⟩, fun base _ _ TBs => ?_⟩
  · rw [List.mem_singleton.mp hp]
    exact htab
  · rw [List.mem_singleton.mp hp]
    exact nt_law
  · rw [List.mem_singleton.mp hp]
    exact PySem.W.codeHd_of_K X ch_law
  · have TB := TBs _ List.mem_cons_self
    have G_NotBegun___init__ : FnOk l.prog w K mg base (L2.CX l.prog w) 1 T.a_NotBegun___init__ T.d_NotBegun___init__ ["self", "other"] (HX1.spExc T.c_NotBegun "other") := ok_NotBegun___init__ T 
    have G_NoRelative___init__ : FnOk l.prog w K mg base (L2.CX l.prog w) 1 T.a_NoRelative___init__ T.d_NoRelative___init__ ["self", "path"] (HX1.spExc T.c_NoRelative "path") := ok_NoRelative___init__ T 
    have G_is_name : FnOk l.prog w K mg base (L2.CX l.prog w) 1 T.a_is_name T.d_is_name ["thing"] (spOf K (φ_is_name T)) := ok_is_name T 
    have G_is_path_text : FnOk l.prog w K mg base (L2.CX l.prog w) 2 T.a_is_path_text T.d_is_path_text ["thing"] (spOf K (φ_is_path_text T)) := ok_is_path_text T G_is_name
    have G_Path___init__ : FnOk l.prog w K mg base (L2.CX l.prog w) 3 T.a_Path___init__ T.d_Path___init__ ["self", "text"] (spOf K (φ_Path___init__ T)) := ok_Path___init__ T G_is_path_text
    have G_Path___eq__ : FnOk l.prog w K mg base (L2.CX l.prog w) 1 T.a_Path___eq__ T.d_Path___eq__ ["self", "other"] (spOf K (φ_Path___eq__ T)) := ok_Path___eq__ T 
    have G_Path_steps : FnOk l.prog w K mg base (L2.CX l.prog w) 1 T.a_Path_steps T.d_Path_steps ["self"] (spOf K (φ_Path_steps T)) := ok_Path_steps T 
    have G_Path___len__ : FnOk l.prog w K mg base (L2.CX l.prog w) 2 T.a_Path___len__ T.d_Path___len__ ["self"] (spOf K (φ_Path___len__ T)) := ok_Path___len__ T G_Path_steps
    have G_Path_begins : FnOk l.prog w K mg base (L2.CX l.prog w) 4 T.a_Path_begins T.d_Path_begins ["self", "other"] (spOf K (φ_Path_begins T)) := ok_Path_begins T G_Path___len__ G_Path_steps
    have G_Path_cut : FnOk l.prog w K mg base (L2.CX l.prog w) 5 T.a_Path_cut T.d_Path_cut ["self", "other"] (spOf K (φ_Path_cut T)) := ok_Path_cut T G_NotBegun___init__ G_Path___init__ G_Path___len__ G_Path_begins G_Path_steps
    have G_Path_relative : FnOk l.prog w K mg base (L2.CX l.prog w) 5 T.a_Path_relative T.d_Path_relative ["self", "other"] (spOf K (φ_Path_relative T)) := ok_Path_relative T G_NoRelative___init__ G_Path___init__ G_Path_steps G_is_name
    have G__law_p_steps : FnOk l.prog w K mg base (L2.CX l.prog w) 1 T.a__law_p_steps T.d__law_p_steps ["_law_written"] (spOf K (φ__law_p_steps T)) := ok__law_p_steps T 
    have G__law_draw : FnOk l.prog w K mg base (L2.CX l.prog w) 1 T.a__law_draw T.d__law_draw ["_law_stream", "_law_many"] (spOf K (φ__law_draw T)) := ok__law_draw T 
    have G__law_pick : FnOk l.prog w K mg base (L2.CX l.prog w) 2 T.a__law_pick T.d__law_pick ["_law_stream", "_law_some"] (spOf K (φ__law_pick T)) := ok__law_pick T G__law_draw
    have G__law_p_written : FnOk l.prog w K mg base (L2.CX l.prog w) 3 T.a__law_p_written T.d__law_p_written ["_law_stream", "_law_names_here", "_law_most"] (spOf K (φ__law_p_written T)) := ok__law_p_written T G__law_draw G__law_pick
    have G__law_p_plain : FnOk l.prog w K mg base (L2.CX l.prog w) 1 T.a__law_p_plain T.d__law_p_plain ["_law_steps", "_law_rooted", "_law_ended"] (spOf K (φ__law_p_plain T)) := ok__law_p_plain T 
    have G__law_start : FnOk l.prog w K mg base (L2.CX l.prog w) 1 T.a__law_start T.d__law_start ["_law_script"] (spStart K) := ok__law_start T 
    have G__law_same : FnOk l.prog w K mg base (L2.CX l.prog w) 6 T.a__law_same T.d__law_same ["_law_found", "_law_due"] (spOf K (φ__law_same T 4)) := ok__law_same T  4
    have G__law_due_cut : FnOk l.prog w K mg base (L2.CX l.prog w) 2 T.a__law_due_cut T.d__law_due_cut ["_law_mine", "_law_theirs"] (spOf K (φ__law_due_cut T)) := ok__law_due_cut T G__law_p_steps
    have G__law_due_relative : FnOk l.prog w K mg base (L2.CX l.prog w) 2 T.a__law_due_relative T.d__law_due_relative ["_law_mine", "_law_theirs"] (spOf K (φ__law_due_relative T)) := ok__law_due_relative T G__law_p_steps
    have G_law : FnOk l.prog w K mg base (L2.CX l.prog w) 8 T.a_law T.d_law ["_law_script"] (spLawT K T.tb_law) := ok_law T TB G_Path___init__ G_Path_begins G_Path_cut G_Path_relative G__law_draw G__law_due_cut G__law_due_relative G__law_p_plain G__law_p_steps G__law_p_written G__law_pick G__law_same G__law_start
    exact G_law
theorem cx_false {P : Program} {w : World} {outer : List PySem.Env} {H : Hp} {s : Shared} {u : Value} {s' : Shared} (h : L2.CX P w outer H s (fun _ _ _ => False) u s') : False := by
  obtain ⟨_, _, _, _, _, _, _, _, _, _, _, _, z⟩ := h
  exact z
theorem walk {l : PySem.W.OpenLaw} {q : Program} {loose : List Str} {XP : (Str → Option Value) → Heap → Prop} {YP : World → Heap → Prop} {d : DefRec} {K : Params → PySem.W.Frag} (hn : l.most = some 63) (hdf : d.params.defaults = [])
    (hY : ∀ (w : World) (h : Heap), YP w h → (K w.params).In h)
    (F : ∀ (w : World) (mg : Str → Option Value) (fa : Addr) (h : Heap), YP w h → (K w.params).In h → h.Ns mainGlobals mg → mg d.name = some (.ref fa) → LamX.LawAtS l w (K w.params) (L2.CX l.prog w) 8 63 "_law_script" mg fa h) :
    PySem.W.WalkO q loose XP YP l.row.toRowW d [] (fun f vs => PySem.call f vs) :=
  LamX.walk_ofTs (n := 63) (k := 8) (x := "_law_script") (CX := fun w => L2.CX l.prog w) hn (by decide) hdf ⟨rfl, by decide, by decide⟩ hY F fun _ _ _ _ _ z => cx_false z
end My
open PySem PySem.W PyProof.Rows in
set_option maxRecDepth 100000 in
set_option maxHeartbeats 0 in
theorem PySem.Challenge.cw_unwalked_k36_paths_cut_holds : PySem.Challenge.rw_unwalked_k36_paths_cut.Holds := by
  w_on; o_law; k_head; (case hw => w_witness2)
  k_fill
  refine My.walk (l := PySem.Challenge.rw_unwalked_k36_paths_cut) rfl rfl (fun w h Y => PySem.W.km_in_of Y) ?F
  case F =>
    intro w mg fa h Y KX G hmg
    have hT8 := PySem.W.km_tabs_of Y
    refine' My.all_mk KX G hmg (hT8 _ List.mem_cons_self) ?a_NotBegun___init__ ?i_NotBegun___init__ ?l_NotBegun___init__ ?c_NotBegun___init__ ?k_NotBegun___init__ ?a_NoRelative___init__ ?i_NoRelative___init__ ?l_NoRelative___init__ ?c_NoRelative___init__ ?k_NoRelative___init__ ?a_is_name ?l_is_name ?c_is_name ?k_is_name ?a_is_path_text ?l_is_path_text ?c_is_path_text ?k_is_path_text ?a_Path___init__ ?i_Path___init__ ?l_Path___init__ ?c_Path___init__ ?k_Path___init__ ?a_Path___eq__ ?i_Path___eq__ ?l_Path___eq__ ?c_Path___eq__ ?k_Path___eq__ ?a_Path___len__ ?i_Path___len__ ?l_Path___len__ ?c_Path___len__ ?k_Path___len__ ?a_Path_steps ?i_Path_steps ?l_Path_steps ?c_Path_steps ?k_Path_steps ?a_Path_begins ?i_Path_begins ?l_Path_begins ?c_Path_begins ?k_Path_begins ?a_Path_cut ?i_Path_cut ?l_Path_cut ?c_Path_cut ?k_Path_cut ?a_Path_relative ?i_Path_relative ?l_Path_relative ?c_Path_relative ?k_Path_relative ?a__law_p_steps ?l__law_p_steps ?c__law_p_steps ?k__law_p_steps ?a__law_p_written ?l__law_p_written ?c__law_p_written ?k__law_p_written ?a__law_p_plain ?l__law_p_plain ?c__law_p_plain ?k__law_p_plain ?a__law_start ?l__law_start ?c__law_start ?k__law_start ?a__law_draw ?l__law_draw ?c__law_draw ?k__law_draw ?a__law_pick ?l__law_pick ?c__law_pick ?k__law_pick ?a__law_same ?l__law_same ?c__law_same ?k__law_same ?a__law_name ?l__law_name ?c__law_name ?k__law_name ?a__law_names ?l__law_names ?c__law_names ?k__law_names ?a__law_tried ?l__law_tried ?c__law_tried ?k__law_tried ?a__law_due_cut ?l__law_due_cut ?c__law_due_cut ?k__law_due_cut ?a__law_due_relative ?l__law_due_relative ?c__law_due_relative ?k__law_due_relative ?a_law ?l_law ?c_law ?k_law ?ch_law ?nt_law ?aC_Path ?pg_Path ?hd_Path ?po_Path ?sa_Path ?ha_Path ?hn_Path ?ht_Path ?hm_Path ?mi_Path ?kc_Path ?n_Path_text ?n_Path_rooted ?n_Path_ended ?kt_Path_Path ?aC_PathError ?er_PathError ?ea_PathError ?ev_PathError ?aC_NoRelative ?xl_NoRelative ?xsa_NoRelative ?xeb_NoRelative ?xty_NoRelative ?xkc_NoRelative ?xga_NoRelative ?xgg_NoRelative ?xhd_NoRelative ?xic_NoRelative ?xss_NoRelative ?xno_NoRelative ?xti_NoRelative ?aC_NotBegun ?xl_NotBegun ?xsa_NotBegun ?xeb_NotBegun ?xty_NotBegun ?xkc_NotBegun ?xga_NotBegun ?xgg_NotBegun ?xhd_NotBegun ?xic_NotBegun ?xss_NotBegun ?xno_NotBegun ?xti_NotBegun ?xs_NotBegun_NoRelative ?xs_NoRelative_NotBegun ?op_Path___len__ ?z_all ?z_bool ?z_enumerate ?z_int ?z_isinstance ?z_len ?z_list ?z_min ?z_range ?z_str ?z_tuple ?z_zip ?a_LETTERS ?a_LONGEST
    (case aC_Path => k_is)
    (case aC_PathError => k_is)
    (case aC_NoRelative => k_is)
    (case aC_NotBegun => k_is)
    (case a_NotBegun___init__ => k_is)
    (case i_NotBegun___init__ => k_is)
    (case l_NotBegun___init__ => k_is)
    (case c_NotBegun___init__ => k_is)
    (case k_NotBegun___init__ => k_is)
    (case a_NoRelative___init__ => k_is)
    (case i_NoRelative___init__ => k_is)
    (case l_NoRelative___init__ => k_is)
    (case c_NoRelative___init__ => k_is)
    (case k_NoRelative___init__ => k_is)
    (case a_is_name => k_is)
    (case l_is_name => k_is)
    (case c_is_name => k_is)
    (case k_is_name => k_is)
    (case a_is_path_text => k_is)
    (case l_is_path_text => k_is)
    (case c_is_path_text => k_is)
    (case k_is_path_text => k_is)
    (case a_Path___init__ => k_is)
    (case i_Path___init__ => k_is)
    (case l_Path___init__ => k_is)
    (case c_Path___init__ => k_is)
    (case k_Path___init__ => k_is)
    (case a_Path___eq__ => k_is)
    (case i_Path___eq__ => k_is)
    (case l_Path___eq__ => k_is)
    (case c_Path___eq__ => k_is)
    (case k_Path___eq__ => k_is)
    (case a_Path___len__ => k_is)
    (case i_Path___len__ => k_is)
    (case l_Path___len__ => k_is)
    (case c_Path___len__ => k_is)
    (case k_Path___len__ => k_is)
    (case a_Path_steps => k_is)
    (case i_Path_steps => k_is)
    (case l_Path_steps => k_is)
    (case c_Path_steps => k_is)
    (case k_Path_steps => k_is)
    (case a_Path_begins => k_is)
    (case i_Path_begins => k_is)
    (case l_Path_begins => k_is)
    (case c_Path_begins => k_is)
    (case k_Path_begins => k_is)
    (case a_Path_cut => k_is)
    (case i_Path_cut => k_is)
    (case l_Path_cut => k_is)
    (case c_Path_cut => k_is)
    (case k_Path_cut => k_is)
    (case a_Path_relative => k_is)
    (case i_Path_relative => k_is)
    (case l_Path_relative => k_is)
    (case c_Path_relative => k_is)
    (case k_Path_relative => k_is)
    (case a__law_p_steps => k_is)
    (case l__law_p_steps => k_is)
    (case c__law_p_steps => k_is)
    (case k__law_p_steps => k_is)
    (case a__law_p_written => k_is)
    (case l__law_p_written => k_is)
    (case c__law_p_written => k_is)
    (case k__law_p_written => k_is)
    (case a__law_p_plain => k_is)
    (case l__law_p_plain => k_is)
    (case c__law_p_plain => k_is)
    (case k__law_p_plain => k_is)
    (case a__law_start => k_is)
    (case l__law_start => k_is)
    (case c__law_start => k_is)
    (case k__law_start => k_is)
    (case a__law_draw => k_is)
    (case l__law_draw => k_is)
    (case c__law_draw => k_is)
    (case k__law_draw => k_is)
    (case a__law_pick => k_is)
    (case l__law_pick => k_is)
    (case c__law_pick => k_is)
    (case k__law_pick => k_is)
    (case a__law_same => k_is)
    (case l__law_same => k_is)
    (case c__law_same => k_is)
    (case k__law_same => k_is)
    (case a__law_name => k_is)
    (case l__law_name => k_is)
    (case c__law_name => k_is)
    (case k__law_name => k_is)
    (case a__law_names => k_is)
    (case l__law_names => k_is)
    (case c__law_names => k_is)
    (case k__law_names => k_is)
    (case a__law_tried => k_is)
    (case l__law_tried => k_is)
    (case c__law_tried => k_is)
    (case k__law_tried => k_is)
    (case a__law_due_cut => k_is)
    (case l__law_due_cut => k_is)
    (case c__law_due_cut => k_is)
    (case k__law_due_cut => k_is)
    (case a__law_due_relative => k_is)
    (case l__law_due_relative => k_is)
    (case c__law_due_relative => k_is)
    (case k__law_due_relative => k_is)
    (case a_law => k_is)
    (case l_law => k_is)
    (case c_law => k_is)
    (case k_law => k_is)
    (case pg_Path => k_is)
    (case hd_Path => k_is)
    (case po_Path => k_is)
    (case sa_Path => k_is)
    (case ha_Path => k_is)
    (case hn_Path => k_is)
    (case ht_Path => k_is)
    (case hm_Path => k_is)
    (case mi_Path => k_is)
    (case kc_Path => k_is)
    (case n_Path_text => k_is)
    (case n_Path_rooted => k_is)
    (case n_Path_ended => k_is)
    (case kt_Path_Path => kit_is)
    (case er_PathError => k_is)
    (case ea_PathError => k_is)
    (case ev_PathError => k_is)
    (case xl_NoRelative => k_is)
    (case xsa_NoRelative => k_is)
    (case xeb_NoRelative => k_is)
    (case xty_NoRelative => k_is)
    (case xkc_NoRelative => k_is)
    (case xga_NoRelative => k_is)
    (case xgg_NoRelative => k_is)
    (case xhd_NoRelative => k_is)
    (case xic_NoRelative => k_is)
    (case xss_NoRelative => k_is)
    (case xno_NoRelative => k_is)
    (case xti_NoRelative => k_is)
    (case xl_NotBegun => k_is)
    (case xsa_NotBegun => k_is)
    (case xeb_NotBegun => k_is)
    (case xty_NotBegun => k_is)
    (case xkc_NotBegun => k_is)
    (case xga_NotBegun => k_is)
    (case xgg_NotBegun => k_is)
    (case xhd_NotBegun => k_is)
    (case xic_NotBegun => k_is)
    (case xss_NotBegun => k_is)
    (case xno_NotBegun => k_is)
    (case xti_NotBegun => k_is)
    (case xs_NotBegun_NoRelative => k_is)
    (case xs_NoRelative_NotBegun => k_is)
    (case op_Path___len__ => k_is)
    (case z_all => k_is)
    (case z_bool => k_is)
    (case z_enumerate => k_is)
    (case z_int => k_is)
    (case z_isinstance => k_is)
    (case z_len => k_is)
    (case z_list => k_is)
    (case z_min => k_is)
    (case z_range => k_is)
    (case z_str => k_is)
    (case z_tuple => k_is)
    (case z_zip => k_is)
    (case a_LETTERS => k_is)
    (case a_LONGEST => k_is)
    (case ch_law => kernel_rfl)
    (case nt_law => kernel_rfl)
#print axioms PySem.Challenge.cw_unwalked_k36_paths_cut_holds
