import PyProof.Rows.All
import Wide.All
import OpenK.AllK
import Wide.FinOn
import HandS.ForMost
import HandS.Exc
import HandS.WordsExc
import HandS.IsInst
import HandS.StrMore
import HandS.Style
import HandS.Zip
import Wide.Txt
import HandS.Defaults
import HandS.ExcInit
import HandS.ExcField
import PyProof.EqKinds
import PyProof.FactsAll.dict_1
import HandS.Replace
import HandS.ReplaceLit
import HandS.ReplaceList
import HandS.HotCalls
import HandS.ExcInitHot
import HandS.TupAny
import HandS.TupLe
import HandS.SortOrd
import HandS.NamedTupSort
import HandS.Conv
import HandS.DictTup
import HandS.MakeKwOnly
import KE.KSortTupAny
import KE.KDictSum
import HandS.Star
import HandS.Deep
import HandS.Small
import HandS.TupLen
import PyProof.DictMoreH
import KE.KDictPairs
import KE.KDictCopyH
import KE.KDictZip
import PyProof.AutoSeq1
import KE.GoesZip
import HandS.ExcIs
import HandS.ExcValue
import KE.KExcIs
import HandS.DeepEq
import PySem.Challenge.RW_unwalked_k62_errors_made
set_option Elab.async false
set_option linter.all false
set_option maxRecDepth 100000
set_option maxHeartbeats 4000000
/-! DCore: data without addresses, and what a reading of the hand layer gives over such data. -/
namespace DD
open PySem L2

/-! ### 1. data -/
inductive D where
  | s (v : V)
  | lst (xs : List D)
  | tup (xs : List D)
  | dic (ks : List Key) (ds : List D)
  | ins (C : Addr) (ns : List Str) (ds : List D)
  /-- a tuple of texts that is tracked: it may be put as a key -/
  | pl (ns : List Str)
  /-- anything else that does not change, by what was true of it -/
  | gen (φ : Hp → V → Prop)

mutual
/-- the value v stands for the datum d in the heap H -/
def Rp (K : PySem.W.Frag) (H : Hp) : D → V → Prop
  | .s w, v => v = w
  | .lst xs, v => ∃ p vs, v = .ref p ∧ H p = some (.lst vs) ∧ RpL K H xs vs
  | .tup xs, v => ∃ p vs, v = .ref p ∧ SqT K H p vs ∧ RpL K H xs vs
  | .dic ks xs, v => ∃ p o vs, v = .ref p ∧ H p = some (.frz o (.dK (ks.zip vs))) ∧ RpL K H xs vs ∧ ks.length = xs.length
  | .ins C ns xs, v => ∃ p dx vs, v = .ref p ∧ H p = some (.ins C dx (ns.zip vs)) ∧ RpL K H xs vs ∧ ns.length = xs.length
  | .pl ns, v => ∃ p, v = .ref p ∧ H p = some (.tup (ns.map V.str))
  | .gen φ, v => ∃ Hc, Same Hc H ∧ φ Hc v
def RpL (K : PySem.W.Frag) (H : Hp) : List D → List V → Prop
  | [], vs => vs = []
  | d :: ds, vs => ∃ v r, vs = v :: r ∧ Rp K H d v ∧ RpL K H ds r
end

theorem sameT {K : PySem.W.Frag} {H H' : Hp} {a : Addr} {xs : List V} (e : Same H H') (h : SqT K H a xs) : SqT K H' a xs := by
  rcases h with (h | ⟨o, h⟩) | h
  · exact .inl (.inl (e _ _ h))
  · exact .inl (.inr ⟨o, e _ _ h⟩)
  · exact .inr h
theorem Same.new {H : Hp} {p : Addr} {o : HO} (h : H p = none) : Same H (upd H p o) := fun a u e => by
  rw [upd_ne (ne_of_none e h)]
  exact e

mutual
theorem Rp.mono {K : PySem.W.Frag} {H H' : Hp} (e : Same H H') : ∀ (d : D) (v : V), Rp K H d v → Rp K H' d v
  | .s w, v, h => by
    unfold Rp at h ⊢
    exact h
  | .lst xs, v, h => by
    unfold Rp at h ⊢
    obtain ⟨p, vs, h1, h2, h3⟩ := h
    exact ⟨p, vs, h1, e _ _ h2, RpL.mono e xs vs h3⟩
  | .tup xs, v, h => by
    unfold Rp at h ⊢
    obtain ⟨p, vs, h1, h2, h3⟩ := h
    exact ⟨p, vs, h1, sameT e h2, RpL.mono e xs vs h3⟩
  | .dic ks xs, v, h => by
    unfold Rp at h ⊢
    obtain ⟨p, o, vs, h1, h2, h3, h4⟩ := h
    exact ⟨p, o, vs, h1, e _ _ h2, RpL.mono e xs vs h3, h4⟩
  | .ins C ns xs, v, h => by
    unfold Rp at h ⊢
    obtain ⟨p, dx, vs, h1, h2, h3, h4⟩ := h
    exact ⟨p, dx, vs, h1, e _ _ h2, RpL.mono e xs vs h3, h4⟩
  | .pl ns, v, h => by
    unfold Rp at h ⊢
    obtain ⟨p, h1, h2⟩ := h
    exact ⟨p, h1, e _ _ h2⟩
  | .gen φ, v, h => by
    unfold Rp at h ⊢
    obtain ⟨Hc, h1, h2⟩ := h
    exact ⟨Hc, h1.trans e, h2⟩
theorem RpL.mono {K : PySem.W.Frag} {H H' : Hp} (e : Same H H') : ∀ (ds : List D) (vs : List V), RpL K H ds vs → RpL K H' ds vs
  | [], vs, h => by
    unfold RpL at h ⊢
    exact h
  | d :: ds, vs, h => by
    unfold RpL at h ⊢
    obtain ⟨v, r, h1, h2, h3⟩ := h
    exact ⟨v, r, h1, Rp.mono e d v h2, RpL.mono e ds r h3⟩
end
section
variable {K : PySem.W.Frag} {H H' : Hp}
theorem RpL.length : ∀ {ds : List D} {vs : List V}, RpL K H ds vs → vs.length = ds.length
  | [], vs, h => by
    unfold RpL at h
    rw [h]
    rfl
  | d :: ds, vs, h => by
    unfold RpL at h
    obtain ⟨v, r, rfl, h2, h3⟩ := h
    simp [RpL.length h3]
theorem RpL.get : ∀ {ds : List D} {vs : List V} {i : Nat} {d : D}, RpL K H ds vs → ds[i]? = some d → ∃ v, vs[i]? = some v ∧ Rp K H d v
  | [], _, _, _, _, e => by simp at e
  | d :: ds, vs, 0, d', h, e => by
    unfold RpL at h
    obtain ⟨v, r, rfl, h2, h3⟩ := h
    simp at e
    subst e
    exact ⟨v, rfl, h2⟩
  | d :: ds, vs, i + 1, d', h, e => by
    unfold RpL at h
    obtain ⟨v, r, rfl, h2, h3⟩ := h
    obtain ⟨u, q1, q2⟩ := RpL.get (i := i) h3 (by simpa using e)
    exact ⟨u, by simpa using q1, q2⟩
theorem RpL.get' : ∀ {ds : List D} {vs : List V} {i : Nat} {v : V}, RpL K H ds vs → vs[i]? = some v → ∃ d, ds[i]? = some d ∧ Rp K H d v
  | [], vs, i, v, h, e => by
    unfold RpL at h
    subst h
    simp at e
  | d :: ds, vs, 0, v, h, e => by
    unfold RpL at h
    obtain ⟨v', r, rfl, h2, h3⟩ := h
    simp at e
    subst e
    exact ⟨d, rfl, h2⟩
  | d :: ds, vs, i + 1, v, h, e => by
    unfold RpL at h
    obtain ⟨v', r, rfl, h2, h3⟩ := h
    obtain ⟨u, q1, q2⟩ := RpL.get' (i := i) h3 (by simpa using e)
    exact ⟨u, by simpa using q1, q2⟩
theorem RpL.nil : RpL K H [] [] := by
  unfold RpL
  rfl
theorem RpL.cons {d : D} {v : V} {ds : List D} {vs : List V} (h : Rp K H d v) (hs : RpL K H ds vs) : RpL K H (d :: ds) (v :: vs) := by
  unfold RpL
  exact ⟨v, vs, rfl, h, hs⟩
theorem RpL.app : ∀ {ds es : List D} {vs us : List V}, RpL K H ds vs → RpL K H es us → RpL K H (ds ++ es) (vs ++ us)
  | [], es, vs, us, h, h' => by
    unfold RpL at h
    subst h
    exact h'
  | d :: ds, es, vs, us, h, h' => by
    unfold RpL at h
    obtain ⟨v, r, rfl, h2, h3⟩ := h
    exact RpL.cons h2 (RpL.app h3 h')
theorem RpL.take : ∀ {ds : List D} {vs : List V} (n : Nat), RpL K H ds vs → RpL K H (ds.take n) (vs.take n)
  | _, _, 0, _ => by
    simp
    exact RpL.nil
  | [], vs, n + 1, h => by
    unfold RpL at h
    subst h
    exact RpL.nil
  | d :: ds, vs, n + 1, h => by
    unfold RpL at h
    obtain ⟨v, r, rfl, h2, h3⟩ := h
    exact RpL.cons h2 (RpL.take n h3)
theorem RpL.drop : ∀ {ds : List D} {vs : List V} (n : Nat), RpL K H ds vs → RpL K H (ds.drop n) (vs.drop n)
  | _, _, 0, h => h
  | [], vs, n + 1, h => by
    unfold RpL at h
    subst h
    exact RpL.nil
  | d :: ds, vs, n + 1, h => by
    unfold RpL at h
    obtain ⟨v, r, rfl, h2, h3⟩ := h
    exact RpL.drop n h3
theorem RpL.ofScal : ∀ (vs : List V), RpL K H (vs.map D.s) vs
  | [] => RpL.nil
  | v :: vs => RpL.cons (by unfold Rp; rfl) (RpL.ofScal vs)
theorem RpL.scal : ∀ {vs us : List V}, RpL K H (vs.map D.s) us → us = vs
  | [], us, h => by
    unfold RpL at h
    exact h
  | v :: vs, us, h => by
    unfold RpL at h
    obtain ⟨u, r, rfl, h2, h3⟩ := h
    unfold Rp at h2
    rw [h2, RpL.scal h3]
theorem RpL.set : ∀ {ds : List D} {vs : List V} {d : D} {v : V} (i : Nat), RpL K H ds vs → Rp K H d v → RpL K H (ds.set i d) (vs.set i v)
  | [], vs, d, v, i, h, h' => by
    unfold RpL at h
    subst h
    exact RpL.nil
  | e :: ds, vs, d, v, 0, h, h' => by
    unfold RpL at h
    obtain ⟨u, r, rfl, h2, h3⟩ := h
    exact RpL.cons h' h3
  | e :: ds, vs, d, v, i + 1, h, h' => by
    unfold RpL at h
    obtain ⟨u, r, rfl, h2, h3⟩ := h
    exact RpL.cons h2 (RpL.set i h3 h')
end

/-! ### 2. what stands beside the data: owned objects, the number of draws -/
inductive MO where
  | lst (ds : List D)
  | ins (C : Addr) (ns : List Str) (ds : List D)
  | dK (ks : List Key) (ds : List D)
  | dT (ks : List (List Str)) (ds : List D)
  | stm (c : Addr)
  | cel
  /-- any other object that is no tuple, by what is true of it -/
  | gen (φ : Hp → HO → Prop)
structure Mem where
  cnt : Nat
  own : Addr → Option MO
def putM (m : Addr → Option MO) (a : Addr) (o : MO) : Addr → Option MO := fun b => if b = a then some o else m b
def dropM (m : Addr → Option MO) (a : Addr) : Addr → Option MO := fun b => if b = a then none else m b
theorem putM_same {m : Addr → Option MO} {a : Addr} {o : MO} : putM m a o a = some o := if_pos rfl
theorem putM_ne {m : Addr → Option MO} {a b : Addr} {o : MO} (h : b ≠ a) : putM m a o b = m b := if_neg h
theorem putM_put {m : Addr → Option MO} {a : Addr} {o u : MO} : putM (putM m a o) a u = putM m a u := by
  funext b
  unfold putM
  split <;> rfl
theorem dropM_same {m : Addr → Option MO} {a : Addr} : dropM m a a = none := if_pos rfl
theorem dropM_ne {m : Addr → Option MO} {a b : Addr} (h : b ≠ a) : dropM m a b = m b := if_neg h
theorem dropM_put {m : Addr → Option MO} {a : Addr} {o : MO} (h : m a = none) : dropM (putM m a o) a = m := by
  funext b
  unfold dropM putM
  split
  · rename_i e
    rw [e, h]
  · rfl
def StOk (s1 s2 s3 : Int) (cnt : Nat) : Prop := 0 ≤ s1 ∧ (0 ≤ s2 ∧ s2 ≤ cnt) ∧ 0 ≤ s3 ∧ s3 < 2147483647
def CelOk (ns : List Int) : Prop := ns.length ≤ 63
def RepM (K : PySem.W.Frag) (Hb H : Hp) (cnt : Nat) (a : Addr) : MO → Prop
  | .lst ds => ∃ vs, H a = some (.lst vs) ∧ RpL K Hb ds vs
  | .ins C ns ds => ∃ dx vs, H a = some (.ins C dx (ns.zip vs)) ∧ RpL K Hb ds vs ∧ ns.length = ds.length
  | .dK ks ds => ∃ vs, H a = some (.dK (ks.zip vs)) ∧ RpL K Hb ds vs ∧ ks.length = ds.length
  | .dT ks ds => ∃ vs, H a = some (.dT ((ks.map fun k => k.map Sum.inr).zip vs)) ∧ RpL K Hb ds vs ∧ ks.length = ds.length
  | .stm c => ∃ s1 s2 s3, H a = some (.lst [.ref c, .int s1, .int s2, .int s3]) ∧ StOk s1 s2 s3 cnt
  | .cel => ∃ ns : List Int, H a = some (.lst (ns.map V.int)) ∧ CelOk ns
  | .gen φ => ∃ o Hc, H a = some o ∧ Same Hc Hb ∧ φ Hc o ∧ ∀ xs, o ≠ .tup xs
structure Rel (K : PySem.W.Frag) (F Hb H : Hp) (m : Mem) : Prop where
  sub : Same Hb H
  fr : ∀ a o, F a = some o → H a = some o ∧ Hb a = none ∧ m.own a = none
  own : ∀ a mo, m.own a = some mo → Hb a = none ∧ RepM K Hb H m.cnt a mo
  nt : ∀ a xs, F a ≠ some (.tup xs)
theorem nt_upd {F : Hp} {p : Addr} {o : HO} (h : ∀ a xs, F a ≠ some (.tup xs)) (ho : ∀ xs, o ≠ .tup xs) : ∀ a xs, upd F p o a ≠ some (.tup xs) := fun a xs e => by
  by_cases ha : a = p
  · rw [ha, upd_same] at e
    exact ho xs (Option.some.inj e)
  · rw [upd_ne ha] at e
    exact h a xs e
theorem nt_of {F : Hp} {p : Addr} {o : HO} (h : ∀ a xs, upd F p o a ≠ some (.tup xs)) (hF : F p = none) : ∀ a xs, F a ≠ some (.tup xs) := fun a xs e => by
  refine h a xs ?_
  rw [upd_ne (ne_of_none e hF)]
  exact e
section
variable {K : PySem.W.Frag} {F Hb Hb' H H' : Hp} {m : Mem} {a p : Addr}
theorem RepM.some {cnt : Nat} {mo : MO} (h : RepM K Hb H cnt a mo) : ∃ o, H a = some o := by
  cases mo with
  | lst ds => obtain ⟨vs, e, _⟩ := h; exact ⟨_, e⟩
  | ins C ns ds => obtain ⟨dx, vs, e, _⟩ := h; exact ⟨_, e⟩
  | dK ks ds => obtain ⟨vs, e, _⟩ := h; exact ⟨_, e⟩
  | dT ks ds => obtain ⟨vs, e, _⟩ := h; exact ⟨_, e⟩
  | stm c => obtain ⟨s1, s2, s3, e, _⟩ := h; exact ⟨_, e⟩
  | cel => obtain ⟨ns, e, _⟩ := h; exact ⟨_, e⟩
  | gen φ => obtain ⟨o, Hc, e, _⟩ := h; exact ⟨_, e⟩
theorem RepM.mono {cnt cnt' : Nat} {mo : MO} (h : RepM K Hb H cnt a mo) (e : Same Hb Hb') (ea : H' a = H a) (hc : cnt ≤ cnt') : RepM K Hb' H' cnt' a mo := by
  cases mo with
  | lst ds => obtain ⟨vs, q, r⟩ := h; exact ⟨vs, ea.trans q, r.mono e⟩
  | ins C ns ds => obtain ⟨dx, vs, q, r, l⟩ := h; exact ⟨dx, vs, ea.trans q, r.mono e, l⟩
  | dK ks ds => obtain ⟨vs, q, r, l⟩ := h; exact ⟨vs, ea.trans q, r.mono e, l⟩
  | dT ks ds => obtain ⟨vs, q, r, l⟩ := h; exact ⟨vs, ea.trans q, r.mono e, l⟩
  | stm c => obtain ⟨s1, s2, s3, q, r1, r2, r3⟩ := h; exact ⟨s1, s2, s3, ea.trans q, r1, ⟨r2.1, by omega⟩, r3⟩
  | cel => obtain ⟨ns, q, r⟩ := h; exact ⟨ns, ea.trans q, r⟩
  | gen φ => obtain ⟨o, Hc, q, r, l⟩ := h; exact ⟨o, Hc, ea.trans q, r.trans e, l⟩
theorem Rel.fresh (r : Rel K F Hb H m) (h : H p = none) : Hb p = none := r.sub.free h
theorem Rel.free (r : Rel K F Hb H m) (h : H p = none) : m.own p = none := by
  cases e : m.own p with
  | none => rfl
  | some mo =>
    obtain ⟨o, q⟩ := (r.own p mo e).2.some
    rw [h] at q
    cases q
theorem Rel.nofr (r : Rel K F Hb H m) (h : H p = none) : F p = none := by
  cases e : F p with
  | none => rfl
  | some o =>
    rw [(r.fr p o e).1] at h
    cases h
theorem ne_fr {b : Addr} {o : HO} (h : F b = some o) (h' : F p = none) : b ≠ p := fun z => by
  rw [z, h'] at h
  cases h
/-- a new object that is data from now on -/
theorem Rel.data {o : HO} (r : Rel K F Hb H m) (h : H p = none) : Rel K F (upd Hb p o) (upd H p o) m := by
  refine ⟨fun b u e => ?_, fun b u e => ?_, fun b mo e => ?_, r.nt⟩
  · by_cases hb : b = p
    · subst hb
      rw [upd_same] at e ⊢
      exact e
    · rw [upd_ne hb] at e ⊢
      exact r.sub b u e
  · have hb := ne_fr e (r.nofr h)
    rw [upd_ne hb, upd_ne hb]
    exact r.fr b u e
  · obtain ⟨q1, q2⟩ := r.own b mo e
    have hb : b ≠ p := fun z => by
      rw [z, r.free h] at e
      cases e
    exact ⟨by rw [upd_ne hb]; exact q1, q2.mono (Same.new (r.fresh h)) (upd_ne hb) (Nat.le_refl _)⟩
/-- a new object that is owned -/
theorem Rel.owned {o : HO} {mo : MO} (r : Rel K F Hb H m) (h : H p = none) (new : RepM K Hb (upd H p o) m.cnt p mo) : Rel K F Hb (upd H p o) { m with own := putM m.own p mo } := by
  refine ⟨fun b u e => ?_, fun b u e => ?_, fun b mo' e => ?_, r.nt⟩
  · rw [upd_ne (ne_of_none (r.sub b u e) h)]
    exact r.sub b u e
  · have hb := ne_fr e (r.nofr h)
    rw [upd_ne hb]
    exact ⟨(r.fr b u e).1, (r.fr b u e).2.1, (putM_ne hb).trans (r.fr b u e).2.2⟩
  · by_cases hb : b = p
    · subst hb
      rw [show ({ m with own := putM m.own b mo } : Mem).own b = some mo from putM_same] at e
      cases e
      exact ⟨r.fresh h, new⟩
    · have e' : m.own b = some mo' := by
        rw [← e]
        exact (putM_ne hb).symm
      obtain ⟨q1, q2⟩ := r.own b mo' e'
      exact ⟨q1, q2.mono (Same.refl _) (upd_ne hb) (Nat.le_refl _)⟩
theorem Rel.ownF {mo : MO} (r : Rel K F Hb H m) (h : m.own p = some mo) : F p = none := by
  cases e : F p with
  | none => rfl
  | some o =>
    rw [(r.fr p o e).2.2] at h
    cases h
/-- an owned object changes -/
theorem Rel.change {o : HO} {mo mo' : MO} (r : Rel K F Hb H m) (h : m.own p = some mo) (new : RepM K Hb (upd H p o) m.cnt p mo') : Rel K F Hb (upd H p o) { m with own := putM m.own p mo' } := by
  have hn := (r.own p mo h).1
  refine ⟨fun b u e => ?_, fun b u e => ?_, fun b mo1 e => ?_, r.nt⟩
  · rw [upd_ne (ne_of_none e hn)]
    exact r.sub b u e
  · have hb := ne_fr e (r.ownF h)
    rw [upd_ne hb]
    exact ⟨(r.fr b u e).1, (r.fr b u e).2.1, (putM_ne hb).trans (r.fr b u e).2.2⟩
  · by_cases hb : b = p
    · subst hb
      rw [show ({ m with own := putM m.own b mo' } : Mem).own b = some mo' from putM_same] at e
      cases e
      exact ⟨hn, new⟩
    · have e' : m.own b = some mo1 := by
        rw [← e]
        exact (putM_ne hb).symm
      obtain ⟨q1, q2⟩ := r.own b mo1 e'
      exact ⟨q1, q2.mono (Same.refl _) (upd_ne hb) (Nat.le_refl _)⟩
/-- an owned object becomes data -/
theorem Rel.freeze {o : HO} {mo : MO} (r : Rel K F Hb H m) (h : m.own p = some mo) (hp : H p = some o) : Rel K F (upd Hb p o) H { m with own := dropM m.own p } := by
  have hn := (r.own p mo h).1
  refine ⟨fun b u e => ?_, fun b u e => ?_, fun b mo1 e => ?_, r.nt⟩
  · by_cases hb : b = p
    · subst hb
      rw [upd_same] at e
      rw [hp]
      exact e
    · rw [upd_ne hb] at e
      exact r.sub b u e
  · have hb := ne_fr e (r.ownF h)
    rw [upd_ne hb]
    exact ⟨(r.fr b u e).1, (r.fr b u e).2.1, (dropM_ne hb).trans (r.fr b u e).2.2⟩
  · by_cases hb : b = p
    · subst hb
      have q : (none : Option MO) = some mo1 := by
        rw [← e]
        exact dropM_same.symm
      cases q
    · have e' : m.own b = some mo1 := by
        rw [← e]
        exact (dropM_ne hb).symm
      obtain ⟨q1, q2⟩ := r.own b mo1 e'
      exact ⟨by rw [upd_ne hb]; exact q1, q2.mono (Same.new hn) rfl (Nat.le_refl _)⟩
/-- a new object that stands aside -/
theorem Rel.aside {o : HO} (r : Rel K F Hb H m) (h : H p = none) (ho : ∀ xs, o ≠ .tup xs := by intro _ z; cases z) : Rel K (upd F p o) Hb (upd H p o) m := by
  refine ⟨fun b u e => ?_, fun b u e => ?_, fun b mo e => ?_, nt_upd r.nt ho⟩
  · rw [upd_ne (ne_of_none (r.sub b u e) h)]
    exact r.sub b u e
  · by_cases hb : b = p
    · subst hb
      rw [upd_same] at e ⊢
      exact ⟨e, r.fresh h, r.free h⟩
    · rw [upd_ne hb] at e ⊢
      exact r.fr b u e
  · obtain ⟨q1, q2⟩ := r.own b mo e
    have hb : b ≠ p := fun z => by
      rw [z, r.free h] at e
      cases e
    exact ⟨q1, q2.mono (Same.refl _) (upd_ne hb) (Nat.le_refl _)⟩
theorem upd_back {F : Hp} {p : Addr} {o u : HO} (h : F p = none) {b : Addr} {x : HO} (e : F b = some x) : upd F p o b = some x := by
  rw [upd_ne (ne_of_none e h)]
  exact e
/-- what stands aside changes -/
theorem Rel.turnA {o u : HO} (r : Rel K (upd F p o) Hb H m) (hu : ∀ xs, u ≠ .tup xs := by intro _ z; cases z) : Rel K (upd F p u) Hb (upd H p u) m := by
  obtain ⟨h1, h2, h3⟩ := r.fr p o upd_same
  refine ⟨fun b x e => ?_, fun b x e => ?_, fun b mo e => ?_, fun a xs e => ?_⟩
  · rw [upd_ne (ne_of_none e h2)]
    exact r.sub b x e
  · by_cases hb : b = p
    · subst hb
      rw [upd_same] at e ⊢
      exact ⟨e, h2, h3⟩
    · rw [upd_ne hb] at e ⊢
      exact r.fr b x (by rw [upd_ne hb]; exact e)
  · obtain ⟨q1, q2⟩ := r.own b mo e
    have hb : b ≠ p := fun z => by
      rw [z, h3] at e
      cases e
    exact ⟨q1, q2.mono (Same.refl _) (upd_ne hb) (Nat.le_refl _)⟩
  · by_cases ha : a = p
    · rw [ha, upd_same] at e
      exact hu xs (Option.some.inj e)
    · rw [upd_ne ha] at e
      exact r.nt a xs (by rw [upd_ne ha]; exact e)
/-- what stood aside becomes data -/
theorem Rel.settle {o : HO} (r : Rel K (upd F p o) Hb H m) (hF : F p = none) : Rel K F (upd Hb p o) H m := by
  obtain ⟨h1, h2, h3⟩ := r.fr p o upd_same
  refine ⟨fun b x e => ?_, fun b x e => ?_, fun b mo e => ?_, nt_of r.nt hF⟩
  · by_cases hb : b = p
    · subst hb
      rw [upd_same] at e
      rw [h1]
      exact e
    · rw [upd_ne hb] at e
      exact r.sub b x e
  · have hb := ne_fr e hF
    rw [upd_ne hb]
    exact r.fr b x (by rw [upd_ne hb]; exact e)
  · obtain ⟨q1, q2⟩ := r.own b mo e
    have hb : b ≠ p := fun z => by
      rw [z, h3] at e
      cases e
    exact ⟨by rw [upd_ne hb]; exact q1, q2.mono (Same.new h2) rfl (Nat.le_refl _)⟩
/-- .. an owned object -/
theorem Rel.take {o : HO} {mo : MO} (r : Rel K (upd F p o) Hb H m) (hF : F p = none) (new : RepM K Hb H m.cnt p mo) : Rel K F Hb H { m with own := putM m.own p mo } := by
  obtain ⟨h1, h2, h3⟩ := r.fr p o upd_same
  refine ⟨r.sub, fun b x e => ?_, fun b mo' e => ?_, nt_of r.nt hF⟩
  · have hb := ne_fr e hF
    obtain ⟨z1, z2, z3⟩ := r.fr b x (by rw [upd_ne hb]; exact e)
    exact ⟨z1, z2, (putM_ne hb).trans z3⟩
  · by_cases hb : b = p
    · subst hb
      rw [show ({ m with own := putM m.own b mo } : Mem).own b = some mo from putM_same] at e
      cases e
      exact ⟨h2, new⟩
    · exact r.own b mo' (by rw [← e]; exact (putM_ne hb).symm)
theorem Rel.count {n : Nat} (r : Rel K F Hb H m) (h : m.cnt ≤ n) : Rel K F Hb H { m with cnt := n } :=
  ⟨r.sub, r.fr, fun b mo e => ⟨(r.own b mo e).1, (r.own b mo e).2.mono (Same.refl _) rfl h⟩, r.nt⟩
/-- an owned object is let go -/
theorem Rel.leave (r : Rel K F Hb H m) (a : Addr) : Rel K F Hb H { m with own := dropM m.own a } := by
  refine ⟨r.sub, fun b u e => ⟨(r.fr b u e).1, (r.fr b u e).2.1, ?_⟩, fun b mo e => ?_, r.nt⟩
  · show dropM m.own a b = none
    unfold dropM
    split
    · rfl
    · exact (r.fr b u e).2.2
  by_cases hb : b = a
  · subst hb
    have q : (none : Option MO) = some mo := by
      rw [← e]
      exact dropM_same.symm
    cases q
  · exact r.own b mo (by rw [← e]; exact (dropM_ne hb).symm)
end

/-! ### 3. slots -/
abbrev Env := List (Option D)
def RpS (K : PySem.W.Frag) (H : Hp) (ρ : Env) (σ : L2.St) : Prop := ρ.length = σ.length ∧ ∀ (i : Nat) d, ρ[i]? = some (some d) → ∃ v, σ[i]? = some (some v) ∧ Rp K H d v
section
variable {K : PySem.W.Frag} {H H' : Hp} {ρ : Env} {σ : L2.St}
theorem RpS.mono (e : Same H H') (h : RpS K H ρ σ) : RpS K H' ρ σ := ⟨h.1, fun i d q => by
  obtain ⟨v, h1, h2⟩ := h.2 i d q
  exact ⟨v, h1, h2.mono e⟩⟩
theorem RpS.set {i : Nat} {d : D} {v : V} (h : RpS K H ρ σ) (hv : Rp K H d v) : RpS K H (ρ.set i (some d)) (σ.set i (some v)) := by
  refine ⟨by simp [h.1], fun j d' q => ?_⟩
  by_cases hij : i = j
  · subst hij
    by_cases hl : i < ρ.length
    · rw [List.getElem?_set_self hl] at q
      cases q
      exact ⟨v, by rw [List.getElem?_set_self (by rw [← h.1]; exact hl)], hv⟩
    · rw [List.getElem?_eq_none (by simpa using hl)] at q
      cases q
  · rw [List.getElem?_set_ne hij] at q ⊢
    exact h.2 j d' q
theorem RpS.unset {i : Nat} {x : Option V} (h : RpS K H ρ σ) : RpS K H (ρ.set i none) (σ.set i x) := by
  refine ⟨by simp [h.1], fun j d' q => ?_⟩
  by_cases hij : i = j
  · subst hij
    by_cases hl : i < ρ.length
    · rw [List.getElem?_set_self hl] at q
      cases q
    · rw [List.getElem?_eq_none (by simpa using hl)] at q
      cases q
  · rw [List.getElem?_set_ne hij] at q ⊢
    exact h.2 j d' q
def wipeD (ρ : Env) : List Nat → Env
  | [] => ρ
  | v :: vs => (wipeD ρ vs).set v none
theorem RpS.wipe (h : RpS K H ρ σ) : ∀ vs : List Nat, RpS K H (wipeD ρ vs) (L2.wipe σ vs)
  | [] => h
  | v :: vs => by
    unfold wipeD L2.wipe
    exact (RpS.wipe h vs).unset
/-- the slots at a def's entry -/
def startD (N : List Str) (ds : List D) : Env := ds.map some ++ List.replicate (N.length - ds.length) none
theorem RpS.start {N : List Str} {ds : List D} {vs : List V} (h : RpL K H ds vs) : RpS K H (startD N ds) (L2.start N vs) := by
  have hl := h.length
  refine ⟨by simp [startD, L2.start, hl], fun i d q => ?_⟩
  unfold startD at q
  by_cases hi : i < ds.length
  · rw [List.getElem?_append_left (by simpa using hi), List.getElem?_map] at q
    cases e : ds[i]? with
    | none =>
      rw [e] at q
      cases q
    | some d' =>
      rw [e] at q
      cases q
      obtain ⟨v, h1, h2⟩ := h.get e
      refine ⟨v, ?_, h2⟩
      unfold L2.start
      rw [List.getElem?_append_left (by simp [hl]; exact hi), List.getElem?_map, h1]
      rfl
  · rw [List.getElem?_append_right (by simpa using hi), List.getElem?_replicate] at q
    split at q
    · cases q
    · cases q
/-- less may be known of the slots -/
def Sub1 (ρ ρ' : Env) : Prop := ρ.length = ρ'.length ∧ ∀ (i : Nat) d, ρ'[i]? = some (some d) → ρ[i]? = some (some d)
theorem RpS.sub {ρ' : Env} (h : RpS K H ρ σ) (s : Sub1 ρ ρ') : RpS K H ρ' σ := ⟨s.1.symm.trans h.1, fun i d q => h.2 i d (s.2 i d q)⟩
theorem Sub1.nil : Sub1 [] [] := ⟨rfl, fun i d q => by simp at q⟩
theorem Sub1.same {x : Option D} {ρ ρ' : Env} (h : Sub1 ρ ρ') : Sub1 (x :: ρ) (x :: ρ') := by
  refine ⟨by simp [h.1], fun i d q => ?_⟩
  cases i with
  | zero => simpa using q
  | succ i => simpa using h.2 i d (by simpa using q)
theorem Sub1.lose {x : Option D} {ρ ρ' : Env} (h : Sub1 ρ ρ') : Sub1 (x :: ρ) (none :: ρ') := by
  refine ⟨by simp [h.1], fun i d q => ?_⟩
  cases i with
  | zero => simp at q
  | succ i => simpa using h.2 i d (by simpa using q)
theorem Sub1.refl : ∀ ρ : Env, Sub1 ρ ρ
  | [] => Sub1.nil
  | x :: ρ => Sub1.same (Sub1.refl ρ)
end

/-! ### 4. what a reading gives -/
abbrev QD := D → Mem → Prop
structure DE where
  nx : Env → Mem → Prop
  rt : QD
  bk : Env → Mem → Prop := fun _ _ => False
  ct : Env → Mem → Prop := fun _ _ => False
/-- from the heap of data Hb on: what v, H' have to be -/
def OkV (K : PySem.W.Frag) (F Hb : Hp) (Q : QD) (R : VK) : Prop := ∀ v H' Hb' d m', Same Hb Hb' → Rel K F Hb' H' m' → Rp K Hb' d v → Q d m' → R v H'
def OkB (K : PySem.W.Frag) (F Hb : Hp) (Q : Bool → Mem → Prop) (R : Bool → Hp → Prop) : Prop := ∀ b H' Hb' m', Same Hb Hb' → Rel K F Hb' H' m' → Q b m' → R b H'
def OkA (K : PySem.W.Frag) (F Hb : Hp) (Q : List D → Mem → Prop) (R : List V → Hp → Prop) : Prop := ∀ vs H' Hb' ds m', Same Hb Hb' → Rel K F Hb' H' m' → RpL K Hb' ds vs → Q ds m' → R vs H'
def OkN (K : PySem.W.Frag) (F Hb : Hp) (Q : Env → Mem → Prop) (R : L2.St → Hp → Prop) : Prop := ∀ σ H' Hb' ρ m', Same Hb Hb' → Rel K F Hb' H' m' → RpS K Hb' ρ σ → Q ρ m' → R σ H'
structure OkE (K : PySem.W.Frag) (F Hb : Hp) (E : DE) (R : Ends) : Prop where
  nx : OkN K F Hb E.nx R.nx
  rt : OkV K F Hb E.rt R.rt
  bk : OkN K F Hb E.bk R.bk
  ct : OkN K F Hb E.ct R.ct
def WE (K : PySem.W.Frag) (F B : Hp) (te : TE) (ρ : Env) (m : Mem) (Q : QD) : Prop := ∀ Hb H σ R, Same B Hb → Rel K F Hb H m → RpS K Hb ρ σ → OkV K F Hb Q R → te σ H R
def WT (K : PySem.W.Frag) (F B : Hp) (tt : TT) (ρ : Env) (m : Mem) (Q : Bool → Mem → Prop) : Prop := ∀ Hb H σ R, Same B Hb → Rel K F Hb H m → RpS K Hb ρ σ → OkB K F Hb Q R → tt σ H R
def WA (K : PySem.W.Frag) (F B : Hp) (ta : TA) (ρ : Env) (m : Mem) (Q : List D → Mem → Prop) : Prop := ∀ Hb H σ R, Same B Hb → Rel K F Hb H m → RpS K Hb ρ σ → OkA K F Hb Q R → ta σ H R
def WO (K : PySem.W.Frag) (F B : Hp) (r : R2) (x y : D) (m : Mem) (Q : QD) : Prop := ∀ Hb H vx vy R, Same B Hb → Rel K F Hb H m → Rp K Hb x vx → Rp K Hb y vy → OkV K F Hb Q R → r vx vy H R
def WU (K : PySem.W.Frag) (F B : Hp) (r : V → Hp → VK → Prop) (x : D) (m : Mem) (Q : QD) : Prop := ∀ Hb H vx R, Same B Hb → Rel K F Hb H m → Rp K Hb x vx → OkV K F Hb Q R → r vx H R
def WC (K : PySem.W.Frag) (F B : Hp) (r : List V → Hp → VK → Prop) (xs : List D) (m : Mem) (Q : QD) : Prop := ∀ Hb H vs R, Same B Hb → Rel K F Hb H m → RpL K Hb xs vs → OkV K F Hb Q R → r vs H R
def WS (K : PySem.W.Frag) (F B : Hp) (t : TS) (ρ : Env) (m : Mem) (E : DE) : Prop := ∀ Hb H σ R, Same B Hb → Rel K F Hb H m → RpS K Hb ρ σ → OkE K F Hb E R → t R σ H
section
variable {K : PySem.W.Frag} {B F Hb Hb' H H' : Hp} {m : Mem} {ρ : Env}
theorem OkV.mono {Q : QD} {R : VK} (h : OkV K F Hb Q R) (e : Same Hb Hb') : OkV K F Hb' Q R := fun v H' H2 d m' e2 => h v H' H2 d m' (e.trans e2)
theorem OkB.mono {Q : Bool → Mem → Prop} {R : Bool → Hp → Prop} (h : OkB K F Hb Q R) (e : Same Hb Hb') : OkB K F Hb' Q R := fun v H' H2 m' e2 => h v H' H2 m' (e.trans e2)
theorem OkA.mono {Q : List D → Mem → Prop} {R : List V → Hp → Prop} (h : OkA K F Hb Q R) (e : Same Hb Hb') : OkA K F Hb' Q R := fun v H' H2 d m' e2 => h v H' H2 d m' (e.trans e2)
theorem OkN.mono {Q : Env → Mem → Prop} {R : L2.St → Hp → Prop} (h : OkN K F Hb Q R) (e : Same Hb Hb') : OkN K F Hb' Q R := fun v H' H2 d m' e2 => h v H' H2 d m' (e.trans e2)
theorem OkE.mono {E : DE} {R : Ends} (h : OkE K F Hb E R) (e : Same Hb Hb') : OkE K F Hb' E R := ⟨h.nx.mono e, h.rt.mono e, h.bk.mono e, h.ct.mono e⟩
theorem OkV.here {Q : QD} {R : VK} {v : V} {d : D} (h : OkV K F Hb Q R) (r : Rel K F Hb H m) (hd : Rp K Hb d v) (q : Q d m) : R v H := h v H Hb d m (Same.refl _) r hd q
theorem OkN.here {Q : Env → Mem → Prop} {R : L2.St → Hp → Prop} {σ : L2.St} (h : OkN K F Hb Q R) (r : Rel K F Hb H m) (hs : RpS K Hb ρ σ) (q : Q ρ m) : R σ H := h σ H Hb ρ m (Same.refl _) r hs q
theorem rp_s {v : V} : Rp K H (.s v) v := by unfold Rp; rfl

/-! ### 5. expressions -/
theorem we_imp {te : TE} {Q Q' : QD} (h : WE K F B te ρ m Q) (hq : ∀ d m', Q d m' → Q' d m') : WE K F B te ρ m Q' := fun Hb H σ R hB r hs k => h Hb H σ R hB r hs fun v H' Hb' d m' e r' hd q => k v H' Hb' d m' e r' hd (hq d m' q)
theorem wt_imp {tt : TT} {Q Q' : Bool → Mem → Prop} (h : WT K F B tt ρ m Q) (hq : ∀ d m', Q d m' → Q' d m') : WT K F B tt ρ m Q' := fun Hb H σ R hB r hs k => h Hb H σ R hB r hs fun v H' Hb' m' e r' q => k v H' Hb' m' e r' (hq v m' q)
theorem we_or1 {t u : TE} {Q : QD} (h : WE K F B t ρ m Q) : WE K F B (fun σ H R => t σ H R ∨ u σ H R) ρ m Q := fun Hb H σ R hB r hs k => .inl (h Hb H σ R hB r hs k)
theorem we_or2 {t u : TE} {Q : QD} (h : WE K F B u ρ m Q) : WE K F B (fun σ H R => t σ H R ∨ u σ H R) ρ m Q := fun Hb H σ R hB r hs k => .inr (h Hb H σ R hB r hs k)
theorem we_var {i : Nat} {d : D} {Q : QD} (h : ρ[i]? = some (some d)) (q : Q d m) : WE K F B (tVar i) ρ m Q := fun Hb H σ R hB r hs k => by
  obtain ⟨v, h1, h2⟩ := hs.2 i d h
  exact ⟨v, h1, k.here r h2 q⟩
theorem we_c {v : V} {Q : QD} (q : Q (.s v) m) : WE K F B (tC v) ρ m Q := fun Hb H σ R hB r hs k => k.here r rp_s q
theorem we_op {r2 : R2} {ta tb : TE} {Q : QD} (h : WE K F B ta ρ m fun x m1 => WE K F B tb ρ m1 fun y m2 => WO K F B r2 x y m2 Q) : WE K F B (tOp r2 ta tb) ρ m Q := fun Hb H σ R hB r hs k =>
  h Hb H σ _ hB r hs fun v H1 Hb1 x m1 e1 r1 hx q1 => q1 Hb1 H1 σ _ (hB.trans e1) r1 (hs.mono e1) fun u H2 Hb2 y m2 e2 r2 hy q2 =>
    q2 Hb2 H2 v u R ((hB.trans e1).trans e2) r2 (hx.mono e2) hy (k.mono (e1.trans e2))
theorem we_un {r1 : V → Hp → VK → Prop} {ta : TE} {Q : QD} (h : WE K F B ta ρ m fun x m1 => WU K F B r1 x m1 Q) : WE K F B (tUn r1 ta) ρ m Q := fun Hb H σ R hB r hs k =>
  h Hb H σ _ hB r hs fun v H1 Hb1 x m1 e1 r1 hx q1 => q1 Hb1 H1 v R (hB.trans e1) r1 hx (k.mono e1)
theorem we_if {t : TT} {ta tb : TE} {Q : QD} (h : WT K F B t ρ m fun b m1 => (b = true → WE K F B ta ρ m1 Q) ∧ (b = false → WE K F B tb ρ m1 Q)) : WE K F B (tIf t ta tb) ρ m Q := fun Hb H σ R hB r hs k =>
  h Hb H σ _ hB r hs fun b H1 Hb1 m1 e1 r1 q1 => by
    cases b with
    | true => exact q1.1 rfl Hb1 H1 σ R (hB.trans e1) r1 (hs.mono e1) (k.mono e1)
    | false => exact q1.2 rfl Hb1 H1 σ R (hB.trans e1) r1 (hs.mono e1) (k.mono e1)
theorem we_andV {ta tb : TE} {Q : QD} (h : WE K F B ta ρ m fun x m1 => ∃ b, x = .s (.bl b) ∧ (b = true → WE K F B tb ρ m1 Q) ∧ (b = false → Q (.s (.bl false)) m1)) : WE K F B (tAndV ta tb) ρ m Q := fun Hb H σ R hB r hs k =>
  h Hb H σ _ hB r hs fun v H1 Hb1 x m1 e1 r1 hx q1 => by
    obtain ⟨b, rfl, qt, qf⟩ := q1
    unfold Rp at hx
    refine ⟨b, hx, ?_⟩
    cases b with
    | true => exact iteT (qt rfl Hb1 H1 σ R (hB.trans e1) r1 (hs.mono e1) (k.mono e1))
    | false => exact iteF (k _ _ _ _ _ e1 r1 rp_s (qf rfl))
theorem we_orV {ta tb : TE} {Q : QD} (h : WE K F B ta ρ m fun x m1 => ∃ b, x = .s (.bl b) ∧ (b = false → WE K F B tb ρ m1 Q) ∧ (b = true → Q (.s (.bl true)) m1)) : WE K F B (tOrV ta tb) ρ m Q := fun Hb H σ R hB r hs k =>
  h Hb H σ _ hB r hs fun v H1 Hb1 x m1 e1 r1 hx q1 => by
    obtain ⟨b, rfl, qf, qt⟩ := q1
    unfold Rp at hx
    refine ⟨b, hx, ?_⟩
    cases b with
    | false => exact iteF (qf rfl Hb1 H1 σ R (hB.trans e1) r1 (hs.mono e1) (k.mono e1))
    | true => exact iteT (k _ _ _ _ _ e1 r1 rp_s (qt rfl))
theorem we_notV {ta : TE} {Q : QD} (h : WE K F B ta ρ m fun x m1 => ∃ b, x = .s (.bl b) ∧ Q (.s (.bl (!b))) m1) : WE K F B (tNotV ta) ρ m Q := fun Hb H σ R hB r hs k =>
  h Hb H σ _ hB r hs fun v H1 Hb1 x m1 e1 r1 hx q1 => by
    obtain ⟨b, rfl, q⟩ := q1
    unfold Rp at hx
    exact ⟨b, hx, k _ _ _ _ _ e1 r1 rp_s q⟩

/-! ### 6. tests -/
theorem wt_B {te : TE} {Q : Bool → Mem → Prop} (h : WE K F B te ρ m fun x m1 => ∃ b, x = .s (.bl b) ∧ Q b m1) : WT K F B (tB te) ρ m Q := fun Hb H σ R hB r hs k =>
  h Hb H σ _ hB r hs fun v H1 Hb1 x m1 e1 r1 hx q1 => by
    obtain ⟨b, rfl, q⟩ := q1
    unfold Rp at hx
    exact ⟨b, hx, k _ _ _ _ e1 r1 q⟩
theorem wt_test {te : TE} {Q : Bool → Mem → Prop} (h : WE K F B te ρ m fun x m1 => ∃ b, x = .s (.bl b) ∧ Q b m1) : WT K F B (tTest te) ρ m Q := wt_B h
theorem wt_and {t u : TT} {Q : Bool → Mem → Prop} (h : WT K F B t ρ m fun b m1 => (b = true → WT K F B u ρ m1 Q) ∧ (b = false → Q false m1)) : WT K F B (tAnd t u) ρ m Q := fun Hb H σ R hB r hs k =>
  h Hb H σ _ hB r hs fun b H1 Hb1 m1 e1 r1 q1 => by
    cases b with
    | true => exact iteT (q1.1 rfl Hb1 H1 σ R (hB.trans e1) r1 (hs.mono e1) (k.mono e1))
    | false => exact iteF (k _ _ _ _ e1 r1 (q1.2 rfl))
theorem wt_or {t u : TT} {Q : Bool → Mem → Prop} (h : WT K F B t ρ m fun b m1 => (b = false → WT K F B u ρ m1 Q) ∧ (b = true → Q true m1)) : WT K F B (tOr t u) ρ m Q := fun Hb H σ R hB r hs k =>
  h Hb H σ _ hB r hs fun b H1 Hb1 m1 e1 r1 q1 => by
    cases b with
    | false => exact iteF (q1.1 rfl Hb1 H1 σ R (hB.trans e1) r1 (hs.mono e1) (k.mono e1))
    | true => exact iteT (k _ _ _ _ e1 r1 (q1.2 rfl))
theorem wt_not {t : TT} {Q : Bool → Mem → Prop} (h : WT K F B t ρ m fun b m1 => Q (!b) m1) : WT K F B (tNot t) ρ m Q := fun Hb H σ R hB r hs k =>
  h Hb H σ _ hB r hs fun b H1 Hb1 m1 e1 r1 q1 => k _ _ _ _ e1 r1 q1
theorem wt_yes {Q : Bool → Mem → Prop} (q : Q true m) : WT K F B tYes ρ m Q := fun Hb H σ R hB r hs k => k _ _ _ _ (Same.refl _) r q

/-! ### 7. arguments, displays -/
theorem wa_nil {Q : List D → Mem → Prop} (q : Q [] m) : WA K F B tNil ρ m Q := fun Hb H σ R hB r hs k => k _ _ _ _ _ (Same.refl _) r RpL.nil q
theorem wa_cons {te : TE} {ta : TA} {Q : List D → Mem → Prop} (h : WE K F B te ρ m fun x m1 => WA K F B ta ρ m1 fun xs m2 => Q (x :: xs) m2) : WA K F B (tCons te ta) ρ m Q := fun Hb H σ R hB r hs k =>
  h Hb H σ _ hB r hs fun v H1 Hb1 x m1 e1 r1 hx q1 => q1 Hb1 H1 σ _ (hB.trans e1) r1 (hs.mono e1) fun vs H2 Hb2 xs m2 e2 r2 hxs q2 =>
    k _ _ _ _ _ (e1.trans e2) r2 (RpL.cons (hx.mono e2) hxs) q2
theorem we_tup {ta : TA} {Q : QD} (h : WA K F B ta ρ m fun xs m1 => xs.length ≤ sizeLine ∧ Q (.tup xs) m1) : WE K F B (tTup ta) ρ m Q := fun Hb H σ R hB r hs k =>
  h Hb H σ _ hB r hs fun vs H1 Hb1 xs m1 e1 r1 hx q1 => ⟨by rw [hx.length]; exact q1.1, fun p hp =>
    k _ _ _ (.tup xs) _ (e1.trans (Same.new (r1.fresh hp))) (r1.data hp) (by
      unfold Rp
      exact ⟨p, vs, rfl, SqT.of upd_same, hx.mono (Same.new (r1.fresh hp))⟩) q1.2⟩
theorem we_lst {ta : TA} {Q : QD} (h : WA K F B ta ρ m fun xs m1 => xs.length ≤ sizeLine ∧ Q (.lst xs) m1) : WE K F B (tLst ta) ρ m Q := fun Hb H σ R hB r hs k =>
  h Hb H σ _ hB r hs fun vs H1 Hb1 xs m1 e1 r1 hx q1 => ⟨by rw [hx.length]; exact q1.1, fun p hp =>
    k _ _ _ (.lst xs) _ (e1.trans (Same.new (r1.fresh hp))) (r1.data hp) (by
      unfold Rp
      exact ⟨p, vs, rfl, upd_same, hx.mono (Same.new (r1.fresh hp))⟩) q1.2⟩
/-- a list that is owned from now on -/
theorem we_lstO {ta : TA} {Q : QD} (h : WA K F B ta ρ m fun xs m1 => xs.length ≤ sizeLine ∧ ∀ a, m1.own a = none → Q (.s (.ref a)) { m1 with own := putM m1.own a (.lst xs) }) : WE K F B (tLst ta) ρ m Q := fun Hb H σ R hB r hs k =>
  h Hb H σ _ hB r hs fun vs H1 Hb1 xs m1 e1 r1 hx q1 => ⟨by rw [hx.length]; exact q1.1, fun p hp =>
    k _ _ _ _ _ e1 (r1.owned (mo := .lst xs) hp ⟨vs, upd_same, hx⟩) rp_s (q1.2 p (r1.free hp))⟩
theorem we_cb {r1 : List V → Hp → VK → Prop} {ta : TA} {Q : QD} (h : WA K F B ta ρ m fun xs m1 => WC K F B r1 xs m1 Q) : WE K F B (tCB r1 ta) ρ m Q := fun Hb H σ R hB r hs k =>
  h Hb H σ _ hB r hs fun vs H1 Hb1 xs m1 e1 r1 hx q1 => q1 Hb1 H1 vs R (hB.trans e1) r1 hx (k.mono e1)

/-! ### 8. statements -/
theorem ws_imp {t : TS} {E E' : DE} (h : WS K F B t ρ m E) (h1 : ∀ ρ m, E.nx ρ m → E'.nx ρ m) (h2 : ∀ d m, E.rt d m → E'.rt d m) (h3 : ∀ ρ m, E.bk ρ m → E'.bk ρ m) (h4 : ∀ ρ m, E.ct ρ m → E'.ct ρ m) : WS K F B t ρ m E' := fun Hb H σ R hB r hs k =>
  h Hb H σ R hB r hs ⟨fun _ _ _ _ _ e r q z => k.nx _ _ _ _ _ e r q (h1 _ _ z), fun _ _ _ _ _ e r q z => k.rt _ _ _ _ _ e r q (h2 _ _ z), fun _ _ _ _ _ e r q z => k.bk _ _ _ _ _ e r q (h3 _ _ z), fun _ _ _ _ _ e r q z => k.ct _ _ _ _ _ e r q (h4 _ _ z)⟩
theorem ws_next {E : DE} (q : E.nx ρ m) : WS K F B tNext ρ m E := fun Hb H σ R hB r hs k => k.nx.here r hs q
theorem ws_seq {t u : TS} {E : DE} (h : WS K F B t ρ m { E with nx := fun ρ1 m1 => WS K F B u ρ1 m1 E }) : WS K F B (tSeq t u) ρ m E := fun Hb H σ R hB r hs k =>
  h Hb H σ _ hB r hs ⟨fun σ1 H1 Hb1 ρ1 m1 e1 r1 hs1 q1 => q1 Hb1 H1 σ1 R (hB.trans e1) r1 hs1 (k.mono e1), k.rt, k.bk, k.ct⟩
theorem ws_brk {E : DE} (q : E.bk ρ m) : WS K F B tBreak ρ m E := fun Hb H σ R hB r hs k => k.bk.here r hs q
theorem ws_cont {E : DE} (q : E.ct ρ m) : WS K F B tCont ρ m E := fun Hb H σ R hB r hs k => k.ct.here r hs q
theorem ws_drop {te : TE} {E : DE} (h : WE K F B te ρ m fun _ m1 => E.nx ρ m1) : WS K F B (tDrop te) ρ m E := fun Hb H σ R hB r hs k =>
  h Hb H σ _ hB r hs fun v H1 Hb1 x m1 e1 r1 hx q1 => k.nx _ _ _ _ _ e1 r1 (hs.mono e1) q1
theorem ws_ret {te : TE} {E : DE} (h : WE K F B te ρ m E.rt) : WS K F B (tRet te) ρ m E := fun Hb H σ R hB r hs k => h Hb H σ _ hB r hs k.rt
theorem ws_retN {E : DE} (h : E.rt (.s .non) m) : WS K F B tRetN ρ m E := fun Hb H σ R hB r hs k => k.rt.here r rp_s h
theorem ws_if {t : TT} {tu tw : TS} {E : DE} (h : WT K F B t ρ m fun b m1 => (b = true → WS K F B tu ρ m1 E) ∧ (b = false → WS K F B tw ρ m1 E)) : WS K F B (tIfS t tu tw) ρ m E := fun Hb H σ R hB r hs k =>
  h Hb H σ _ hB r hs fun b H1 Hb1 m1 e1 r1 q1 => by
    cases b with
    | true => exact iteT (q1.1 rfl Hb1 H1 σ R (hB.trans e1) r1 (hs.mono e1) (k.mono e1))
    | false => exact iteF (q1.2 rfl Hb1 H1 σ R (hB.trans e1) r1 (hs.mono e1) (k.mono e1))
theorem ws_asg {te : TE} {i : Nat} {E : DE} (h : WE K F B te ρ m fun x m1 => E.nx (ρ.set i (some x)) m1) : WS K F B (tAsg te (gName i)) ρ m E := fun Hb H σ R hB r hs k =>
  h Hb H σ _ hB r hs fun v H1 Hb1 x m1 e1 r1 hx q1 => k.nx _ _ _ _ _ e1 r1 ((hs.mono e1).set hx) q1
theorem ws_never (E : DE) (h : False) {t : TS} : WS K F B t ρ m E := h.elim

/-! ### 9. targets -/
def WG (K : PySem.W.Frag) (F B : Hp) (g : TG) (x : D) (ρ : Env) (m : Mem) (Q : Env → Mem → Prop) : Prop := ∀ Hb H σ v (R : L2.St → Hp → Prop), Same B Hb → Rel K F Hb H m → RpS K Hb ρ σ → Rp K Hb x v → OkN K F Hb Q R → g v σ H R
def WGs (K : PySem.W.Frag) (F B : Hp) (g : TGs) (xs : List D) (ρ : Env) (m : Mem) (Q : Env → Mem → Prop) : Prop := ∀ Hb H σ vs (R : L2.St → Hp → Prop), Same B Hb → Rel K F Hb H m → RpS K Hb ρ σ → RpL K Hb xs vs → OkN K F Hb Q R → g vs σ H R
theorem wg_name {i : Nat} {x : D} {Q : Env → Mem → Prop} (q : Q (ρ.set i (some x)) m) : WG K F B (gName i) x ρ m Q := fun Hb H σ v R hB r hs hx k => k.here r (hs.set hx) q
theorem wgs_nil {Q : Env → Mem → Prop} (q : Q ρ m) : WGs K F B gNil [] ρ m Q := fun Hb H σ v R hB r hs hx k => by
  unfold RpL at hx
  exact ⟨hx, k.here r hs q⟩
theorem wgs_cons {g : TG} {gs : TGs} {x : D} {xs : List D} {Q : Env → Mem → Prop} (h : WG K F B g x ρ m fun ρ1 m1 => WGs K F B gs xs ρ1 m1 Q) : WGs K F B (gCons g gs) (x :: xs) ρ m Q := fun Hb H σ vs R hB r hs hx k => by
  unfold RpL at hx
  obtain ⟨v, us, rfl, h1, h2⟩ := hx
  exact ⟨v, us, rfl, h Hb H σ v _ hB r hs h1 fun σ1 H1 Hb1 ρ1 m1 e1 r1 hs1 q1 => q1 Hb1 H1 σ1 us R (hB.trans e1) r1 hs1 (h2.mono e1) (k.mono e1)⟩
theorem wg_tup {n : Nat} {gs : TGs} {xs : List D} {Q : Env → Mem → Prop} (hn : xs.length = n) (h : WGs K F B gs xs ρ m Q) : WG K F B (gTup K n gs) (.tup xs) ρ m Q := fun Hb H σ v R hB r hs hx k => by
  unfold Rp at hx
  obtain ⟨p, vs, rfl, h1, h2⟩ := hx
  exact ⟨p, vs, rfl, sameT r.sub h1, by rw [h2.length, hn], h Hb H σ vs R hB r hs h2 k⟩
theorem ws_asgG {te : TE} {g : TG} {E : DE} (h : WE K F B te ρ m fun x m1 => WG K F B g x ρ m1 E.nx) : WS K F B (tAsg te g) ρ m E := fun Hb H σ R hB r hs k =>
  h Hb H σ _ hB r hs fun v H1 Hb1 x m1 e1 r1 hx q1 => q1 Hb1 H1 σ v _ (hB.trans e1) r1 (hs.mono e1) hx (k.nx.mono e1)
theorem ws_par {i j : Nat} {ta : TA} {E : DE} (h : WA K F B ta ρ m fun xs m1 => ∃ x y, xs = [x, y] ∧ E.nx ((ρ.set i (some x)).set j (some y)) m1) : WS K F B (tPar i j ta) ρ m E := fun Hb H σ R hB r hs k =>
  h Hb H σ _ hB r hs fun vs H1 Hb1 xs m1 e1 r1 hx q1 => by
    obtain ⟨x, y, rfl, q⟩ := q1
    unfold RpL at hx
    obtain ⟨v, us, rfl, h1, h2⟩ := hx
    unfold RpL at h2
    obtain ⟨u, us', rfl, h3, h4⟩ := h2
    unfold RpL at h4
    subst h4
    exact ⟨v, u, rfl, k.nx _ _ _ _ _ e1 r1 (((hs.mono e1).set h1).set h3) q⟩
/-- less may be known behind -/
theorem ws_less {t : TS} {ρ' : Env} {E : DE} (h : WS K F B t ρ' m E) (s : Sub1 ρ ρ') : WS K F B t ρ m E := fun Hb H σ R hB r hs k => h Hb H σ R hB r (hs.sub s) k
theorem ws_count {t : TS} {n : Nat} {E : DE} (h : WS K F B t ρ { m with cnt := n } E) (hn : m.cnt ≤ n) : WS K F B t ρ m E := fun Hb H σ R hB r hs k => h Hb H σ R hB (r.count hn) hs k
end
end DD

/-! DFun: promises over data, calls, classes of one's own. -/
namespace DD
open PySem L2
open PySem.Spec PyProof.Rows

/-! ### promises -/
/-- what is wanted of an exception: its class, its attributes -/
abbrev XD := Addr → List Str → List D → Mem → Prop
abbrev Phi := List D → Mem → QD → XD → Prop
/-- the state beneath an exception with the dict d -/
def RelX (K : PySem.W.Frag) (F Hb H : Hp) (m : Mem) (d : Option Addr) (ns : List Str) (vs : List V) : Prop := match d with
  | none => ns = [] ∧ vs = [] ∧ Rel K F Hb H m
  | some dd => F dd = none ∧ Rel K (upd F dd (.xd (ns.zip vs))) Hb H m
def OkX (K : PySem.W.Frag) (F Hb : Hp) (X : XD) (E : XK) : Prop := ∀ C d H' Hb' ns ds vs m', Same Hb Hb' → RelX K F Hb' H' m' d ns vs → RpL K Hb' ds vs → ns.length = ds.length → X C ns ds m' → E (.ref C) d H'
def X0 : XD := fun _ _ _ _ => False
theorem okx0 {K : PySem.W.Frag} {F Hb : Hp} {E : XK} : OkX K F Hb X0 E := fun _ _ _ _ _ _ _ _ _ _ _ _ z => z.elim
theorem OkX.mono {K : PySem.W.Frag} {F Hb Hb' : Hp} {X : XD} {E : XK} (h : OkX K F Hb X E) (e : Same Hb Hb') : OkX K F Hb' X E := fun C d H' H2 ns ds vs m' e2 => h C d H' H2 ns ds vs m' (e.trans e2)
def spOf (K : PySem.W.Frag) (φ : Phi) : Sp := fun vs H Q E => ∃ ds m F Hb nx X, RpL K Hb ds vs ∧ Rel K F Hb H m ∧ φ ds m nx X ∧ OkV K F Hb nx Q ∧ OkX K F Hb X E
section
variable {P : Program} {w : World} {K : PySem.W.Frag} {mg : Str → Option Value} {base : Heap} {B F Hb H : Hp} {m : Mem} {ρ : Env}
theorem spOf_len {φ : Phi} {n : Nat} (h : ∀ ds m nx X, φ ds m nx X → ds.length = n) : ∀ vs H Q E, spOf K φ vs H Q E → vs.length = n := fun vs H Q E q => by
  obtain ⟨ds, m, F', Hb, nx, X, h1, _, h3, _⟩ := q
  rw [h1.length, h ds m nx X h3]
/-- what a def's body has to show -/
def BodyOk (K : PySem.W.Frag) (φ : Phi) (N : List Str) (E : XK) (t : TS) : Prop := ∀ ds m nx X F B, φ ds m nx X → OkX K F B X E → WS K F B t (startD N ds) m { nx := fun _ m' => nx (.s .non) m', rt := nx }
theorem okC {CX : CXT} {x qual : Str} {st : Stmt} {f : Addr} {fd : FuncData} {N ps : List Str} {k : Nat} {sp : Sp} (F : Fun K x qual st f fd) (S : FnScope N ps (defScope st)) (len : ∀ vs H Q E, sp vs H Q E → vs.length = ps.length)
    (hbody : ∀ (cdv : Value) (A : Around) (outer : List PySem.Env) (s : Shared) (H : Hp) (vs : List V) (Q : VK) (E : XK), Room k (A.deeper (envOfC qual (defScope st) s.heap.objs.size f cdv)) → sp vs H Q E →
      ∃ t, PSs (cxOf CX P w K mg base N qual (defScope st) f cdv A outer s H E) (defBody st) t ∧ t { nx := fun _ H' => Q .non H', rt := Q } (L2.start N vs) H) : FnOk P w K mg base CX (k + 1) f fd ps sp := by
  obtain ⟨oc, od, kV, doc, pm, an, cdv, ct, osl, rfl, lk, hcd⟩ := F.ex
  exact fn_of lk hcd S len fun A outer s H vs Q E hr hsp => hbody cdv A outer s H vs Q E hr hsp
theorem ok_D {CX : CXT} {x qual : Str} {st : Stmt} {f : Addr} {fd : FuncData} {N ps : List Str} {k : Nat} {φ : Phi} (F : Fun K x qual st f fd) (S : FnScope N ps (defScope st)) (hl : ∀ ds m nx X, φ ds m nx X → ds.length = ps.length)
    (hbody : ∀ (cdv : Value) (A : Around) (outer : List PySem.Env) (s : Shared) (H : Hp) (E : XK), Room k (A.deeper (envOfC qual (defScope st) s.heap.objs.size f cdv)) →
      ∃ t, PSs (cxOf CX P w K mg base N qual (defScope st) f cdv A outer s H E) (defBody st) t ∧ BodyOk K φ N E t) : FnOk P w K mg base CX (k + 1) f fd ps (spOf K φ) := by
  refine okC F S (spOf_len hl) fun cdv A outer s H vs Q E hr h => ?_
  obtain ⟨ds, m, F', Hb, nx, X, h1, h2, h3, h4, h5⟩ := h
  obtain ⟨t, ht, hw⟩ := hbody cdv A outer s H E hr
  exact ⟨t, ht, hw ds m nx X F' Hb h3 h5 Hb H _ _ (Same.refl _) h2 (RpS.start h1) ⟨fun σ H' Hb' ρ m' e r hs q => h4 _ _ _ _ _ e r rp_s q, h4, fun _ _ _ _ _ _ _ _ z => z.elim, fun _ _ _ _ _ _ _ _ z => z.elim⟩⟩

/-! ### calls -/
theorem we_callD {φ : Phi} {E : XK} {ta : TA} {dvs : List V} {dds : List D} {X : XD} {Q : QD} (hE : OkX K F B X E) (hd : RpL K B dds dvs) (h : WA K F B ta ρ m fun ds m1 => φ (ds ++ dds) m1 Q X) : WE K F B (tCall (spOf K φ) dvs E ta) ρ m Q := fun Hb H σ R hB r hs k =>
  h Hb H σ _ hB r hs fun vs H1 Hb1 ds m1 e1 r1 hx q1 => ⟨_, m1, F, Hb1, Q, X, hx.app (hd.mono (hB.trans e1)), r1, q1, k.mono e1, hE.mono (hB.trans e1)⟩
theorem we_call {φ : Phi} {E : XK} {ta : TA} {X : XD} {Q : QD} (hE : OkX K F B X E) (h : WA K F B ta ρ m fun ds m1 => φ ds m1 Q X) : WE K F B (tCall (spOf K φ) [] E ta) ρ m Q := fun Hb H σ R hB r hs k =>
  h Hb H σ _ hB r hs fun vs H1 Hb1 ds m1 e1 r1 hx q1 => ⟨_, m1, F, Hb1, Q, X, by rw [List.append_nil]; exact hx, r1, q1, k.mono e1, hE.mono (hB.trans e1)⟩
/-- an object as the receiver: data, or owned; nothing hides the method m -/
def Recv (m : Mem) (C : Addr) (f : Str) : D → Prop
  | .ins C' ns _ => C' = C ∧ f ∉ ns
  | .s (.ref a) => ∃ ns ds, m.own a = some (.ins C ns ds) ∧ f ∉ ns
  | _ => False
theorem zip_none {β : Type} {f : Str} : ∀ {ns : List Str} {vs : List β}, f ∉ ns → (ns.zip vs).lookup f = none
  | [], _, _ => rfl
  | _ :: _, [], _ => rfl
  | n :: ns, v :: vs, h => by
    have h1 : (f == n) = false := by
      simp only [List.mem_cons, not_or] at h
      simpa using h.1
    have h2 : f ∉ ns := fun z => h (List.mem_cons_of_mem _ z)
    show List.lookup f ((n, v) :: ns.zip vs) = none
    rw [List.lookup_cons, h1]
    exact zip_none h2
theorem Recv.at {x : D} {C : Addr} {f : Str} {v : V} (q : Recv m C f x) (r : Rel K F Hb H m) (hx : Rp K Hb x v) : ∃ a dx fs, v = .ref a ∧ H a = some (.ins C dx fs) ∧ fs.lookup f = none := by
  cases x with
  | ins C' ns ds =>
    obtain ⟨rfl, hn⟩ := q
    unfold Rp at hx
    obtain ⟨p, dx, vs, rfl, h1, h2, h3⟩ := hx
    exact ⟨p, dx, _, rfl, r.sub _ _ h1, zip_none hn⟩
  | s v' =>
    cases v' with
    | ref a =>
      obtain ⟨ns, ds, ho, hn⟩ := q
      unfold Rp at hx
      subst hx
      obtain ⟨_, dx, vs, h1, h2, h3⟩ := r.own _ _ ho
      exact ⟨a, dx, _, rfl, h1, zip_none hn⟩
    | _ => exact q.elim
  | _ => exact q.elim
theorem we_methD {C : Addr} {f : Str} {φ : Phi} {E : XK} {te : TE} {ta : TA} {dvs : List V} {dds : List D} {X : XD} {Q : QD} (hE : OkX K F B X E) (hd : RpL K B dds dvs)
    (h : WE K F B te ρ m fun x m1 => Recv m1 C f x ∧ WA K F B ta ρ m1 fun ds m2 => φ (x :: (ds ++ dds)) m2 Q X) : WE K F B (tMeth C f (spOf K φ) dvs E te ta) ρ m Q := fun Hb H σ R hB r hs k =>
  h Hb H σ _ hB r hs fun v H1 Hb1 x m1 e1 r1 hx q1 => by
    obtain ⟨a, dx, fs, rfl, h1, h2⟩ := q1.1.at r1 hx
    exact ⟨a, dx, fs, rfl, h1, h2, q1.2 Hb1 H1 σ _ (hB.trans e1) r1 (hs.mono e1) fun vs H2 Hb2 ds m2 e2 r2 hxs q2 =>
      ⟨_, m2, F, Hb2, Q, X, RpL.cons (hx.mono e2) (hxs.app (hd.mono ((hB.trans e1).trans e2))), r2, q2, k.mono (e1.trans e2), hE.mono ((hB.trans e1).trans e2)⟩⟩
theorem we_meth {C : Addr} {f : Str} {φ : Phi} {E : XK} {te : TE} {ta : TA} {X : XD} {Q : QD} (hE : OkX K F B X E)
    (h : WE K F B te ρ m fun x m1 => Recv m1 C f x ∧ WA K F B ta ρ m1 fun ds m2 => φ (x :: ds) m2 Q X) : WE K F B (tMeth C f (spOf K φ) [] E te ta) ρ m Q :=
  we_methD (dds := []) hE RpL.nil (we_imp h fun x m1 q => ⟨q.1, fun Hb H σ R hB r hs k => q.2 Hb H σ R hB r hs fun vs H1 Hb1 ds m2 e1 r1 hx q1 => k vs H1 Hb1 ds m2 e1 r1 hx (by show φ (x :: (ds ++ [])) m2 Q X; rw [List.append_nil]; exact q1)⟩)
/-- a new instance whose making is kept as data -/
theorem we_make {C : Addr} {φ : Phi} {E : XK} {ta : TA} {dvs : List V} {dds : List D} {X : XD} {Q : QD} (hE : OkX K F B X E) (hd : RpL K B dds dvs)
    (h : WA K F B ta ρ m fun ds m1 => ∀ x, m1.own x = none → φ (.s (.ref x) :: (ds ++ dds)) { m1 with own := putM m1.own x (.ins C [] []) }
      (fun d m2 => d = .s .non ∧ ∃ ns es, m2.own x = some (.ins C ns es) ∧ Q (.ins C ns es) { m2 with own := dropM m2.own x }) X) : WE K F B (tMake C (spOf K φ) dvs E ta) ρ m Q := fun Hb H σ R hB r hs k =>
  h Hb H σ _ hB r hs fun vs H1 Hb1 ds m1 e1 r1 hx q1 => fun x dx hxn hdn hne => by
    have r2 : Rel K F (upd Hb1 dx (.own x)) (upd H1 dx (.own x)) m1 := r1.data hdn
    have hx2 : upd H1 dx (.own x) x = none := by rw [upd_ne (Ne.symm hne)]; exact hxn
    have r3 : Rel K F (upd Hb1 dx (.own x)) (upd (upd H1 dx (.own x)) x (.ins C dx [])) { m1 with own := putM m1.own x (.ins C [] []) } :=
      r2.owned (mo := .ins C [] []) hx2 ⟨dx, [], upd_same, RpL.nil, rfl⟩
    have e2 : Same Hb1 (upd Hb1 dx (.own x)) := Same.new (r1.fresh hdn)
    refine ⟨_, _, F, _, _, X, RpL.cons rp_s ((hx.mono e2).app (hd.mono ((hB.trans e1).trans e2))), r3, q1 x (r1.free hxn), fun v H' Hb' d m' e3 r4 hd' q2 => ?_, hE.mono ((hB.trans e1).trans e2)⟩
    obtain ⟨rfl, ns, es, ho, q3⟩ := q2
    unfold Rp at hd'
    obtain ⟨hn, dx', vs', h1, h2, h3⟩ := r4.own _ _ ho
    have e4 : Same Hb' (upd Hb' x (.ins C dx' (ns.zip vs'))) := Same.new hn
    refine ⟨hd', k _ _ _ (.ins C ns es) _ ((e1.trans e2).trans (e3.trans e4)) (r4.freeze ho h1) ?_ q3⟩
    unfold Rp
    exact ⟨x, dx', vs', rfl, upd_same, h2.mono e4, h3⟩
/-- .. kept as an owned object -/
theorem we_makeO {C : Addr} {φ : Phi} {E : XK} {ta : TA} {dvs : List V} {dds : List D} {X : XD} {Q : QD} (hE : OkX K F B X E) (hd : RpL K B dds dvs)
    (h : WA K F B ta ρ m fun ds m1 => ∀ x, m1.own x = none → φ (.s (.ref x) :: (ds ++ dds)) { m1 with own := putM m1.own x (.ins C [] []) } (fun d m2 => d = .s .non ∧ Q (.s (.ref x)) m2) X) : WE K F B (tMake C (spOf K φ) dvs E ta) ρ m Q := fun Hb H σ R hB r hs k =>
  h Hb H σ _ hB r hs fun vs H1 Hb1 ds m1 e1 r1 hx q1 => fun x dx hxn hdn hne => by
    have r2 : Rel K F (upd Hb1 dx (.own x)) (upd H1 dx (.own x)) m1 := r1.data hdn
    have hx2 : upd H1 dx (.own x) x = none := by rw [upd_ne (Ne.symm hne)]; exact hxn
    have r3 : Rel K F (upd Hb1 dx (.own x)) (upd (upd H1 dx (.own x)) x (.ins C dx [])) { m1 with own := putM m1.own x (.ins C [] []) } :=
      r2.owned (mo := .ins C [] []) hx2 ⟨dx, [], upd_same, RpL.nil, rfl⟩
    have e2 : Same Hb1 (upd Hb1 dx (.own x)) := Same.new (r1.fresh hdn)
    refine ⟨_, _, F, _, _, X, RpL.cons rp_s ((hx.mono e2).app (hd.mono ((hB.trans e1).trans e2))), r3, q1 x (r1.free hxn), fun v H' Hb' d m' e3 r4 hd' q2 => ?_, hE.mono ((hB.trans e1).trans e2)⟩
    obtain ⟨rfl, q3⟩ := q2
    unfold Rp at hd'
    exact ⟨hd', k _ _ _ _ _ ((e1.trans e2).trans e3) r4 rp_s q3⟩

/-! ### attributes -/
theorem zip_get {f : Str} : ∀ {ns : List Str} {ds : List D} {vs : List V} {d : D}, RpL K H ds vs → (ns.zip ds).lookup f = some d → ∃ v, (ns.zip vs).lookup f = some v ∧ Rp K H d v
  | [], _, _, _, _, e => by cases e
  | _ :: _, [], _, _, _, e => by cases e
  | n :: ns, d0 :: ds, vs, d, h, e => by
    unfold RpL at h
    obtain ⟨v, r, rfl, h1, h2⟩ := h
    have e' : List.lookup f ((n, d0) :: ns.zip ds) = some d := e
    show ∃ u, List.lookup f ((n, v) :: ns.zip r) = some u ∧ _
    rw [List.lookup_cons] at e' ⊢
    cases hc : f == n with
    | true =>
      rw [hc] at e'
      cases e'
      exact ⟨v, rfl, h1⟩
    | false =>
      rw [hc] at e'
      exact zip_get h2 e'
/-- the attribute f of an object, data or owned -/
def FldD (m : Mem) (f : Str) (d : D) : D → Addr → Prop
  | .ins C ns ds, C' => C' = C ∧ (ns.zip ds).lookup f = some d
  | .s (.ref a), C => ∃ ns ds, m.own a = some (.ins C ns ds) ∧ (ns.zip ds).lookup f = some d
  | _, _ => False
theorem we_fld {te : TE} {f : Str} {Q : QD} (h : WE K F B te ρ m fun x m1 => ∃ C d, Cls K C ∧ NoAttr K C f ∧ FldD m1 f d x C ∧ Q d m1) : WE K F B (tFld K te f) ρ m Q := fun Hb H σ R hB r hs k =>
  h Hb H σ _ hB r hs fun v H1 Hb1 x m1 e1 r1 hx q1 => by
    obtain ⟨C, d, c, n, hf, q⟩ := q1
    cases x with
    | ins C' ns ds =>
      obtain ⟨rfl, hl⟩ := hf
      unfold Rp at hx
      obtain ⟨p, dx, vs, rfl, h1, h2, h3⟩ := hx
      obtain ⟨u, hu, ru⟩ := zip_get h2 hl
      exact ⟨p, C, dx, _, u, rfl, r1.sub _ _ h1, c, n, hu, k _ _ _ _ _ e1 r1 ru q⟩
    | s v' =>
      cases v' with
      | ref a =>
        obtain ⟨ns, ds, ho, hl⟩ := hf
        unfold Rp at hx
        subst hx
        obtain ⟨_, dx, vs, h1, h2, h3⟩ := r1.own _ _ ho
        obtain ⟨u, hu, ru⟩ := zip_get h2 hl
        exact ⟨a, C, dx, _, u, rfl, h1, c, n, hu, k _ _ _ _ _ e1 r1 ru q⟩
      | _ => exact hf.elim
    | _ => exact hf.elim
def putN (f : Str) : List Str → List Str
  | [] => [f]
  | n :: ns => if n = f then n :: ns else n :: putN f ns
def putE {α : Type} (f : Str) (x : α) : List Str → List α → List α
  | n :: ns, y :: ys => if n = f then x :: ys else y :: putE f x ns ys
  | _, ys => ys ++ [x]
theorem putF_zip (f : Str) (v : V) : ∀ (ns : List Str) (vs : List V), ns.length = vs.length → putF f v (ns.zip vs) = (putN f ns).zip (putE f v ns vs)
  | [], [], _ => rfl
  | n :: ns, u :: vs, h => by
    show putF f v ((n, u) :: ns.zip vs) = _
    unfold putF putN putE
    by_cases hn : n = f
    · rw [if_pos hn, if_pos hn, if_pos hn]
      rfl
    · rw [if_neg hn, if_neg hn, if_neg hn, putF_zip f v ns vs (by simpa using h)]
      rfl
theorem RpL.put {f : Str} {d : D} {v : V} : ∀ {ns : List Str} {ds : List D} {vs : List V}, RpL K H ds vs → Rp K H d v → ns.length = ds.length → RpL K H (putE f d ns ds) (putE f v ns vs)
  | [], ds, vs, h, hd, e => by
    have e1 : ds = [] := List.eq_nil_of_length_eq_zero e.symm
    subst e1
    unfold RpL at h
    subst h
    exact RpL.cons hd RpL.nil
  | n :: ns, [], vs, h, hd, e => by cases e
  | n :: ns, x :: ds, vs, h, hd, e => by
    unfold RpL at h
    obtain ⟨u, r, rfl, h1, h2⟩ := h
    unfold putE
    by_cases hn : n = f
    · rw [if_pos hn, if_pos hn]
      exact RpL.cons hd h2
    · rw [if_neg hn, if_neg hn]
      exact RpL.cons h1 (RpL.put h2 hd (by simpa using e))
theorem put_len {f : Str} {d : D} : ∀ {ns : List Str} {ds : List D}, ns.length = ds.length → (putN f ns).length = (putE f d ns ds).length
  | [], [], _ => rfl
  | n :: ns, x :: ds, e => by
    unfold putN putE
    by_cases hn : n = f
    · rw [if_pos hn, if_pos hn]
      exact e
    · rw [if_neg hn, if_neg hn]
      simp only [List.length_cons, put_len (f := f) (d := d) (show ns.length = ds.length by simpa using e)]
/-- o.f = e, o an owned object -/
theorem ws_fld {to te : TE} {f : Str} {E : DE} (h : WE K F B te ρ m fun y m1 => WE K F B to ρ m1 fun x m2 => ∃ a C ns ds, x = .s (.ref a) ∧ Cls K C ∧ NoAttr K C f ∧ m2.own a = some (.ins C ns ds) ∧ ns.length < 900 ∧
    E.nx ρ { m2 with own := putM m2.own a (.ins C (putN f ns) (putE f y ns ds)) }) : WS K F B (sFld K to te f) ρ m E := fun Hb H σ R hB r hs k =>
  h Hb H σ _ hB r hs fun u H1 Hb1 y m1 e1 r1 hy q1 => q1 Hb1 H1 σ _ (hB.trans e1) r1 (hs.mono e1) fun v H2 Hb2 x m2 e2 r2 hx q2 => by
    obtain ⟨a, C, ns, ds, rfl, c, n, ho, hl, q⟩ := q2
    unfold Rp at hx
    obtain ⟨_, dx, vs, h1, h2, h3⟩ := r2.own _ _ ho
    have h2l := h2.length
    refine ⟨a, C, dx, _, hx, h1, c, n, by rw [List.length_zip]; omega, k.nx _ _ _ _ _ (e1.trans e2) (r2.change (mo' := .ins C (putN f ns) (putE f y ns ds)) ho ?_) (hs.mono (e1.trans e2)) q⟩
    refine ⟨dx, putE f u ns vs, ?_, RpL.put h2 (hy.mono e2) h3, put_len h3⟩
    rw [upd_same, putF_zip f u ns vs (by omega)]
end
end DD

/-! DIter: loops and comprehensions over data. -/
namespace DD
open PySem L2
open PySem.Spec PyProof.Rows

/-- J goes through the data xs -/
def Iters (K : PySem.W.Frag) (Hb0 : Hp) (J : It) (xs : List D) : Prop := ∀ i F Hb H m, Same Hb0 Hb → Rel K F Hb H m → (xs.length ≤ i → J.stop i H) ∧ ∀ d, xs[i]? = some d → J.go i H ∧ ∀ x H', J.yld i H x H' → ∃ Hb', Same Hb Hb' ∧ Rel K F Hb' H' m ∧ Rp K Hb' d x
def WI (K : PySem.W.Frag) (F B : Hp) (wi : TI) (ρ : Env) (m : Mem) (Q : List D → Mem → Prop) : Prop := ∀ Hb H σ R, Same B Hb → Rel K F Hb H m → RpS K Hb ρ σ →
  (∀ J H' Hb' xs m', Same Hb Hb' → Rel K F Hb' H' m' → Iters K Hb' J xs → Q xs m' → R J H') → wi σ H R
section
variable {K : PySem.W.Frag} {B F Hb Hb' H H' : Hp} {m : Mem} {ρ : Env}
theorem Iters.mono {J : It} {xs : List D} (h : Iters K Hb J xs) (e : Same Hb Hb') : Iters K Hb' J xs := fun i F H2 H m e2 r => h i F H2 H m (e.trans e2) r
theorem wi_or1 {t u : TI} {Q : List D → Mem → Prop} (h : WI K F B t ρ m Q) : WI K F B (fun σ H R => t σ H R ∨ u σ H R) ρ m Q := fun Hb H σ R hB r hs k => .inl (h Hb H σ R hB r hs k)
theorem wi_or2 {t u : TI} {Q : List D → Mem → Prop} (h : WI K F B u ρ m Q) : WI K F B (fun σ H R => t σ H R ∨ u σ H R) ρ m Q := fun Hb H σ R hB r hs k => .inr (h Hb H σ R hB r hs k)
theorem it_seq {P : Hp → List V → Prop} {a : Addr} {ds : List D} {vs : List V} (mono : ∀ H H', Same H H' → P H vs → P H' vs) (h : P Hb vs) (hv : RpL K Hb ds vs) (J : It) (hs : ∀ i H, P H vs → vs.length ≤ i → J.stop i H) (hg : ∀ i H x, P H vs → vs[i]? = some x → J.go i H)
    (hy : ∀ i H x H', P H vs → J.yld i H x H' → H' = H ∧ vs[i]? = some x) : Iters K Hb J ds := by
  intro i F Hb1 H m e r
  have h1 : P H vs := mono _ _ r.sub (mono _ _ e h)
  have hl := hv.length
  refine ⟨fun hi => hs i H h1 (by omega), fun d hd => ?_⟩
  obtain ⟨v, hv1, hv2⟩ := hv.get hd
  refine ⟨hg i H v h1 hv1, fun x H' y => ?_⟩
  obtain ⟨rfl, hx⟩ := hy i H x H' h1 y
  rw [hv1] at hx
  cases hx
  exact ⟨Hb1, Same.refl _, r, hv2.mono e⟩
theorem it_list {a : Addr} {ds : List D} {vs : List V} (h : SqL K Hb a vs) (hv : RpL K Hb ds vs) : Iters K Hb (Itl K a) ds :=
  it_seq (P := fun H xs => SqL K H a xs) (a := a) (fun _ _ e q => e.seq q) h hv _ (fun i H q hi => ⟨vs, q, hi⟩) (fun i H x q hx => ⟨vs, x, q, hx⟩) fun i H x H' q y => ⟨y.1, y.2 vs q⟩
theorem it_tup {a : Addr} {ds : List D} {vs : List V} (h : SqT K Hb a vs) (hv : RpL K Hb ds vs) : Iters K Hb (Itt K a) ds :=
  it_seq (P := fun H xs => SqT K H a xs) (a := a) (fun _ _ e q => sameT e q) h hv _ (fun i H q hi => ⟨vs, q, hi⟩) (fun i H x q hx => ⟨vs, x, q, hx⟩) fun i H x H' q y => ⟨y.1, y.2 vs q⟩
theorem wi_list {tl : TE} {Q : List D → Mem → Prop} (h : WE K F B tl ρ m fun x m1 => ∃ xs, x = .lst xs ∧ Q xs m1) : WI K F B (iList K tl) ρ m Q := fun Hb H σ R hB r hs k =>
  h Hb H σ _ hB r hs fun v H1 Hb1 x m1 e1 r1 hx q1 => by
    obtain ⟨xs, rfl, q⟩ := q1
    unfold Rp at hx
    obtain ⟨p, vs, rfl, h1, h2⟩ := hx
    exact ⟨p, rfl, ⟨vs, SqL.of (r1.sub _ _ h1)⟩, k _ _ _ _ _ e1 r1 (it_list (SqL.of h1) h2) q⟩
theorem wi_tup {tl : TE} {Q : List D → Mem → Prop} (h : WE K F B tl ρ m fun x m1 => ∃ xs, x = .tup xs ∧ Q xs m1) : WI K F B (iTup K tl) ρ m Q := fun Hb H σ R hB r hs k =>
  h Hb H σ _ hB r hs fun v H1 Hb1 x m1 e1 r1 hx q1 => by
    obtain ⟨xs, rfl, q⟩ := q1
    unfold Rp at hx
    obtain ⟨p, vs, rfl, h1, h2⟩ := hx
    exact ⟨p, rfl, ⟨vs, sameT r1.sub h1⟩, k _ _ _ _ _ e1 r1 (it_tup h1 h2) q⟩
def chrs (x : Str) : List D := x.cps.toList.map fun c => .s (.str ⟨#[c]⟩)
theorem chrs_length (t : Str) : (chrs t).length = t.length := by
  unfold chrs
  rw [List.length_map]
  rfl
theorem wi_str {tl : TE} {Q : List D → Mem → Prop} (h : WE K F B tl ρ m fun x m1 => ∃ t, x = .s (.str t) ∧ Q (chrs t) m1) : WI K F B (iStr tl) ρ m Q := fun Hb H σ R hB r hs k =>
  h Hb H σ _ hB r hs fun v H1 Hb1 x m1 e1 r1 hx q1 => by
    obtain ⟨t, rfl, q⟩ := q1
    unfold Rp at hx
    refine ⟨t, hx, k _ _ _ _ _ e1 r1 (fun i F Hb2 H2 m2 e2 r2 => ⟨fun hi => ?_, fun d hd => ?_⟩) q⟩
    · show t.cps.size ≤ i
      simpa [chrs] using hi
    · unfold chrs at hd
      rw [List.getElem?_map] at hd
      cases hc : t.cps.toList[i]? with
      | none =>
        rw [hc] at hd
        cases hd
      | some c =>
        rw [hc] at hd
        cases hd
        have hc' : t.cps[i]? = some c := by simpa using hc
        refine ⟨?_, fun x H' y => ?_⟩
        · show i < t.cps.size
          exact (Array.getElem?_eq_some_iff.mp hc').1
        · obtain ⟨rfl, c', h1, rfl⟩ := y
          rw [hc'] at h1
          cases h1
          exact ⟨Hb2, Same.refl _, r2, rp_s⟩
def rngD (lo : Int) (n : Nat) : List D := (List.range n).map fun (i : Nat) => .s (.int (lo + (i : Int)))
theorem rngD_length {lo : Int} {n : Nat} : (rngD lo n).length = n := by simp [rngD]
theorem rngD_get {lo : Int} {n i : Nat} {d : D} (h : (rngD lo n)[i]? = some d) : i < n ∧ d = .s (.int (lo + (i : Int))) := by
  unfold rngD at h
  rw [List.getElem?_map] at h
  by_cases hi : i < n
  · rw [List.getElem?_range hi] at h
    cases h
    exact ⟨hi, rfl⟩
  · rw [List.getElem?_eq_none (by simpa using hi)] at h
    cases h
theorem it_rng {lo : Int} {n : Nat} : Iters K Hb (Itr lo n) (rngD lo n) := fun i F Hb2 H2 m2 e2 r2 => by
  refine ⟨fun hi => ?_, fun d hd => ?_⟩
  · show n ≤ i
    simpa [rngD] using hi
  · obtain ⟨hi, rfl⟩ := rngD_get hd
    refine ⟨hi, fun x H' y => ?_⟩
    obtain ⟨rfl, rfl⟩ := y
    exact ⟨Hb2, Same.refl _, r2, rp_s⟩
theorem wi_rng1 {ta : TA} {Q : List D → Mem → Prop} (h : WA K F B ta ρ m fun xs m1 => ∃ j : Int, xs = [.s (.int j)] ∧ -(2 ^ 62) ≤ j ∧ j < 2 ^ 62 ∧ Q (rngD 0 j.toNat) m1) : WI K F B (iRng1 ta) ρ m Q := fun Hb H σ R hB r hs k =>
  h Hb H σ _ hB r hs fun vs H1 Hb1 xs m1 e1 r1 hx q1 => by
    obtain ⟨j, rfl, h1, h2, q⟩ := q1
    have e : vs = [.int j] := RpL.scal (vs := [.int j]) hx
    subst e
    exact ⟨j, rfl, h1, h2, k _ _ _ _ _ e1 r1 it_rng q⟩
theorem wi_rng2 {ta : TA} {Q : List D → Mem → Prop} (h : WA K F B ta ρ m fun xs m1 => ∃ i j : Int, xs = [.s (.int i), .s (.int j)] ∧ (-(2 ^ 62) ≤ i ∧ i < 2 ^ 62 ∧ -(2 ^ 62) ≤ j ∧ j < 2 ^ 62) ∧ Q (rngD i (j - i).toNat) m1) : WI K F B (iRng2 ta) ρ m Q := fun Hb H σ R hB r hs k =>
  h Hb H σ _ hB r hs fun vs H1 Hb1 xs m1 e1 r1 hx q1 => by
    obtain ⟨i, j, rfl, h1, q⟩ := q1
    have e : vs = [.int i, .int j] := RpL.scal (vs := [.int i, .int j]) hx
    subst e
    exact ⟨i, j, rfl, h1, k _ _ _ _ _ e1 r1 it_rng q⟩
theorem new_pair {F Hb H : Hp} {m : Mem} {T : Addr} {x y : V} {d e : D} (r : Rel K F Hb H m) (hT : H T = none) (hx : Rp K Hb d x) (hy : Rp K Hb e y) :
    ∃ Hb', Same Hb Hb' ∧ Rel K F Hb' (upd H T (.tup [x, y])) m ∧ Rp K Hb' (.tup [d, e]) (.ref T) := by
  have e1 : Same Hb (upd Hb T (.tup [x, y])) := Same.new (r.fresh hT)
  refine ⟨_, e1, r.data hT, ?_⟩
  unfold Rp
  exact ⟨T, _, rfl, SqT.of upd_same, RpL.cons (hx.mono e1) (RpL.cons (hy.mono e1) RpL.nil)⟩
def enumD : Nat → List D → List D
  | _, [] => []
  | n, x :: xs => .tup [.s (.int (n : Int)), x] :: enumD (n + 1) xs
theorem enumD_length : ∀ (n : Nat) (xs : List D), (enumD n xs).length = xs.length
  | _, [] => rfl
  | n, x :: xs => by simp [enumD, enumD_length]
theorem enumD_get : ∀ {n : Nat} {xs : List D} {i : Nat} {d : D}, (enumD n xs)[i]? = some d → ∃ x, xs[i]? = some x ∧ d = .tup [.s (.int ((n + i : Nat) : Int)), x]
  | _, [], _, _, h => by simp [enumD] at h
  | n, x :: xs, 0, d, h => by
    simp [enumD] at h
    exact ⟨x, rfl, h.symm⟩
  | n, x :: xs, i + 1, d, h => by
    obtain ⟨y, h1, h2⟩ := enumD_get (n := n + 1) (xs := xs) (i := i) (by simpa [enumD] using h)
    exact ⟨y, by simpa using h1, by rw [h2, show n + 1 + i = n + (i + 1) by omega]⟩
theorem wi_enum {ta : TA} {Q : List D → Mem → Prop} (h : WA K F B ta ρ m fun xs m1 => ∃ ds, xs = [.lst ds] ∧ Q (enumD 0 ds) m1) : WI K F B (iEnum K ta) ρ m Q := fun Hb H σ R hB r hs k =>
  h Hb H σ _ hB r hs fun vs H1 Hb1 xs m1 e1 r1 hx q1 => by
    obtain ⟨ds, rfl, q⟩ := q1
    unfold RpL at hx
    obtain ⟨v, us, rfl, hv, hu⟩ := hx
    unfold RpL at hu
    subst hu
    unfold Rp at hv
    obtain ⟨p, vs, rfl, h1, h2⟩ := hv
    refine ⟨p, vs, rfl, SqL.of (r1.sub _ _ h1), k _ _ _ _ _ e1 r1 (fun i F Hb2 H2 m2 e2 r2 => ⟨fun hi => ?_, fun d hd => ?_⟩) q⟩
    · exact ⟨vs, SqL.of (r2.sub _ _ (e2 _ _ h1)), by rw [enumD_length] at hi; rw [h2.length]; exact hi⟩
    · obtain ⟨x, hx1, rfl⟩ := enumD_get hd
      obtain ⟨u, hu1, hu2⟩ := h2.get hx1
      have hq : SqL K H2 p vs := SqL.of (r2.sub _ _ (e2 _ _ h1))
      refine ⟨⟨vs, u, hq, hu1⟩, fun y H' hy => ?_⟩
      obtain ⟨T, z, rfl, hT, rfl, hz⟩ := hy
      have hz' := hz vs hq
      rw [hu1] at hz'
      cases hz'
      rw [show (0 + i : Nat) = i by omega]
      exact new_pair r2 hT rp_s (hu2.mono e2)
theorem wi_zip {ta : TA} {Q : List D → Mem → Prop} (h : WA K F B ta ρ m fun xs m1 => ∃ ds es, xs = [.lst ds, .lst es] ∧ Q ((ds.zip es).map fun p => .tup [p.1, p.2]) m1) : WI K F B (iZip K ta) ρ m Q := fun Hb H σ R hB r hs k =>
  h Hb H σ _ hB r hs fun vs H1 Hb1 xs m1 e1 r1 hx q1 => by
    obtain ⟨ds, es, rfl, q⟩ := q1
    unfold RpL at hx
    obtain ⟨v, us, rfl, hv, hu⟩ := hx
    unfold RpL at hu
    obtain ⟨v', us', rfl, hv', hu'⟩ := hu
    unfold RpL at hu'
    subst hu'
    unfold Rp at hv hv'
    obtain ⟨p, vs, rfl, h1, h2⟩ := hv
    obtain ⟨p', vs', rfl, h1', h2'⟩ := hv'
    have hl := h2.length
    have hl' := h2'.length
    refine ⟨p, p', vs, vs', rfl, SqL.of (r1.sub _ _ h1), SqL.of (r1.sub _ _ h1'), k _ _ _ _ _ e1 r1 (fun i F Hb2 H2 m2 e2 r2 => ?_) q⟩
    have hq : SqL K H2 p vs := SqL.of (r2.sub _ _ (e2 _ _ h1))
    have hq' : SqL K H2 p' vs' := SqL.of (r2.sub _ _ (e2 _ _ h1'))
    refine ⟨fun hi => ⟨vs, vs', hq, hq', by simp at hi; omega⟩, fun d hd => ?_⟩
    rw [List.getElem?_map] at hd
    cases hz : (ds.zip es)[i]? with
    | none =>
      rw [hz] at hd
      cases hd
    | some pr =>
      rw [hz] at hd
      cases hd
      obtain ⟨z1, z2⟩ := List.getElem?_zip_eq_some.mp hz
      obtain ⟨u, hu1, hu2⟩ := h2.get z1
      obtain ⟨u', hu1', hu2'⟩ := h2'.get z2
      refine ⟨⟨vs, vs', u, u', hq, hq', hu1, hu1'⟩, fun y H' hy => ?_⟩
      obtain ⟨T, z, z', rfl, hT, rfl, hz, hz'⟩ := hy
      have q1 := hz vs hq
      have q2 := hz' vs' hq'
      rw [hu1] at q1
      rw [hu1'] at q2
      cases q1
      cases q2
      exact new_pair r2 hT (hu2.mono e2) (hu2'.mono e2)

/-! ### a list, a tuple or a text, as it comes -/
def iAny (K : PySem.W.Frag) (te : TE) : TI := fun σ H R => te σ H fun v H1 => (∃ a, v = .ref a ∧ (∃ vs, SqL K H1 a vs) ∧ R (Itl K a) H1) ∨ (∃ a, v = .ref a ∧ (∃ vs, SqT K H1 a vs) ∧ R (Itt K a) H1) ∨ ∃ z, v = .str z ∧ R (Its z) H1
theorem pi_any {X : Cx} {tg e : Expr} {te : TE} (he : PE X e te) : PI X tg e (iAny X.K te) := by
  refine ⟨fun pins s σ H R I h => thn (he.run pins s σ H _ I h) fun v s1 ⟨y, H1, I1, r1, q⟩ => ?_⟩
  rcases q with ⟨a, rfl, ⟨vs, hq⟩, q⟩ | ⟨a, rfl, ⟨vs, hq⟩, q⟩ | ⟨z, rfl, q⟩
  · cases r1
    obtain ⟨its, _, p, _⟩ := I1.list hq
    exact wpAny_pyIter_list p.isList (pi_one (tk := s1.toks) I1 _ (turn_list a _) ⟨_, Heap.get?_push_size _ rfl, rfl, rfl⟩ q)
  · cases r1
    obtain ⟨its, _, p, _⟩ := I1.tuple hq
    exact wpAny_pyIter_tuple (show s1.heap.IsTuple a its.toArray from p) (pi_one (tk := s1.toks) I1 _ (turn_tuple a _) ⟨_, Heap.get?_push_size _ rfl, rfl, rfl⟩ q)
  · obtain ⟨t, rfl⟩ := r1
    cases ha : z.cps.all (· < 128) with
    | false => exact wpAny_pyIter_wide ha (pi_one (tk := s1.toks) I1 _ (turn_str _ z t "str_iterator" (.inr rfl)) ⟨_, Heap.get?_push_size _ rfl, rfl, rfl⟩ q)
    | true => exact wpAny_pyIter_ascii ha (pi_one (tk := s1.toks) I1 _ (turn_str _ z t "str_ascii_iterator" (.inl rfl)) ⟨_, Heap.get?_push_size _ rfl, rfl, rfl⟩ q)
theorem it_str {t : Str} : Iters K Hb (Its t) (chrs t) := fun i F Hb2 H2 m2 e2 r2 => ⟨fun hi => by
    show t.cps.size ≤ i
    simpa [chrs] using hi, fun d hd => by
    unfold chrs at hd
    rw [List.getElem?_map] at hd
    cases hc : t.cps.toList[i]? with
    | none =>
      rw [hc] at hd
      cases hd
    | some c =>
      rw [hc] at hd
      cases hd
      have hc' : t.cps[i]? = some c := by simpa using hc
      refine ⟨?_, fun x H' y => ?_⟩
      · show i < t.cps.size
        exact (Array.getElem?_eq_some_iff.mp hc').1
      · obtain ⟨rfl, c', h1, rfl⟩ := y
        rw [hc'] at h1
        cases h1
        exact ⟨Hb2, Same.refl _, r2, rp_s⟩⟩
def seqD : D → Option (List D)
  | .lst xs => some xs
  | .tup xs => some xs
  | .s (.str t) => some (chrs t)
  | .pl ns => some ((ns.map V.str).map D.s)
  | _ => none
theorem wi_any {te : TE} {Q : List D → Mem → Prop} (h : WE K F B te ρ m fun x m1 => ∃ xs, seqD x = some xs ∧ Q xs m1) : WI K F B (iAny K te) ρ m Q := fun Hb H σ R hB r hs k =>
  h Hb H σ _ hB r hs fun v H1 Hb1 x m1 e1 r1 hx q1 => by
    obtain ⟨xs, hs', q⟩ := q1
    cases x with
    | lst ys =>
      cases hs'
      unfold Rp at hx
      obtain ⟨p, vs, rfl, h1, h2⟩ := hx
      exact .inl ⟨p, rfl, ⟨vs, SqL.of (r1.sub _ _ h1)⟩, k _ _ _ _ _ e1 r1 (it_list (SqL.of h1) h2) q⟩
    | tup ys =>
      cases hs'
      unfold Rp at hx
      obtain ⟨p, vs, rfl, h1, h2⟩ := hx
      exact .inr (.inl ⟨p, rfl, ⟨vs, sameT r1.sub h1⟩, k _ _ _ _ _ e1 r1 (it_tup h1 h2) q⟩)
    | pl ns =>
      cases hs'
      unfold Rp at hx
      obtain ⟨p, rfl, h1⟩ := hx
      exact .inr (.inl ⟨p, rfl, ⟨_, .inl (.inl (r1.sub _ _ h1))⟩, k _ _ _ _ _ e1 r1 (it_tup (.inl (.inl h1)) (RpL.ofScal _)) q⟩)
    | s w =>
      cases w with
      | str t =>
        cases hs'
        unfold Rp at hx
        exact .inr (.inr ⟨t, hx, k _ _ _ _ _ e1 r1 it_str q⟩)
      | _ => cases hs'
    | _ => cases hs'

/-! ### for -/
theorem ws_for {wi : TI} {g : TG} {tb : TS} {E : DE} (h : WI K F B wi ρ m fun xs m1 => ∃ I : Nat → Env → Mem → Prop, I 0 ρ m1 ∧
      (∀ i d ρ' m', xs[i]? = some d → I i ρ' m' → WG K F B g d ρ' m' fun ρ2 m2 => WS K F B tb ρ2 m2 { nx := I (i + 1), ct := I (i + 1), bk := E.nx, rt := E.rt }) ∧ (∀ ρ' m', I xs.length ρ' m' → E.nx ρ' m')) :
    WS K F B (tFor wi g tb) ρ m E := fun Hb H σ R hB r hs k =>
  h Hb H σ _ hB r hs fun J H1 Hb1 xs m1 e1 r1 hj q1 => by
    obtain ⟨I, h0, ht, hd⟩ := q1
    refine ⟨fun i n σ' H' => n = xs.length - i ∧ i ≤ xs.length ∧ ∃ Hb' ρ' m', Same Hb1 Hb' ∧ Rel K F Hb' H' m' ∧ RpS K Hb' ρ' σ' ∧ I i ρ' m', ⟨xs.length, by simp, Nat.zero_le _, Hb1, ρ, m1, Same.refl _, r1, hs.mono e1, h0⟩, ?_⟩
    rintro i n σ' H' ⟨rfl, hi, Hb', ρ', m', e', r', hs', hI⟩
    by_cases hlt : i < xs.length
    · obtain ⟨hgo, hy⟩ := (hj i F Hb' H' m' e' r').2 xs[i] (by simp [hlt])
      refine .inr ⟨hgo, fun σ2 H2 => ∃ Hb2 ρ2 m2, Same Hb1 Hb2 ∧ Rel K F Hb2 H2 m2 ∧ RpS K Hb2 ρ2 σ2 ∧ I (i + 1) ρ2 m2, fun σ2 H2 q2 => ⟨xs.length - (i + 1), by omega, rfl, hlt, q2⟩, fun x H2 y => ?_⟩
      obtain ⟨Hb2, e2, r2, hx⟩ := hy x H2 y
      have eB : Same B Hb2 := (hB.trans e1).trans (e'.trans e2)
      refine ht i xs[i] ρ' m' (by simp [hlt]) hI Hb2 H2 σ' x _ eB r2 (hs'.mono e2) hx fun σ3 H3 Hb3 ρ3 m3 e3 r3 hs3 q3 => ?_
      have e13 : Same Hb1 Hb3 := (e'.trans e2).trans e3
      exact q3 Hb3 H3 σ3 _ (eB.trans e3) r3 hs3 ⟨fun σ4 H4 Hb4 ρ4 m4 e4 r4 hs4 q4 => ⟨Hb4, ρ4, m4, e13.trans e4, r4, hs4, q4⟩, k.rt.mono (e1.trans e13), k.nx.mono (e1.trans e13), fun σ4 H4 Hb4 ρ4 m4 e4 r4 hs4 q4 => ⟨Hb4, ρ4, m4, e13.trans e4, r4, hs4, q4⟩⟩
    · have e : i = xs.length := by omega
      subst e
      exact .inl ⟨(hj _ F Hb' H' m' e' r').1 (Nat.le_refl _), k.nx _ _ _ _ _ (e1.trans e') r' hs' (hd _ _ hI)⟩

/-! ### while -/
theorem ws_while {c : TT} {tb : TS} {E : DE} (I : Nat → Env → Mem → Prop) {n : Nat} (h0 : I n ρ m)
    (ht : ∀ n ρ' m', I n ρ' m' → WT K F B c ρ' m' fun b m1 => (b = true → WS K F B tb ρ' m1 { nx := fun ρ2 m2 => ∃ n', n' < n ∧ I n' ρ2 m2, ct := fun ρ2 m2 => ∃ n', n' < n ∧ I n' ρ2 m2, bk := E.nx, rt := E.rt }) ∧ (b = false → E.nx ρ' m1)) :
    WS K F B (tWhile c tb) ρ m E := fun Hb H σ R hB r hs k => by
  refine ⟨fun n σ' H' => ∃ Hb' ρ' m', Same Hb Hb' ∧ Rel K F Hb' H' m' ∧ RpS K Hb' ρ' σ' ∧ I n ρ' m', ⟨n, Hb, ρ, m, Same.refl _, r, hs, h0⟩, ?_⟩
  rintro n σ' H' ⟨Hb', ρ', m', e', r', hs', hI⟩
  refine ht n ρ' m' hI Hb' H' σ' _ (hB.trans e') r' hs' fun b H1 Hb1 m1 e1 r1 q1 => ?_
  have e01 : Same Hb Hb1 := e'.trans e1
  cases b with
  | true =>
    refine iteT ⟨fun σ2 H2 => ∃ n', n' < n ∧ ∃ Hb2 ρ2 m2, Same Hb Hb2 ∧ Rel K F Hb2 H2 m2 ∧ RpS K Hb2 ρ2 σ2 ∧ I n' ρ2 m2, fun σ2 H2 q => q, ?_⟩
    exact q1.1 rfl Hb1 H1 σ' _ (hB.trans e01) r1 (hs'.mono e1) ⟨fun σ4 H4 Hb4 ρ4 m4 e4 r4 hs4 ⟨n', hn, q4⟩ => ⟨n', hn, Hb4, ρ4, m4, e01.trans e4, r4, hs4, q4⟩, k.rt.mono e01, k.nx.mono e01, fun σ4 H4 Hb4 ρ4 m4 e4 r4 hs4 ⟨n', hn, q4⟩ => ⟨n', hn, Hb4, ρ4, m4, e01.trans e4, r4, hs4, q4⟩⟩
  | false => exact iteF (k.nx _ _ _ _ _ e01 r1 (hs'.mono e1) (q1.2 rfl))

/-! ### comprehensions -/
/-- a target within a comprehension: its own slots vs alone are stored -/
def WGw (K : PySem.W.Frag) (F B : Hp) (g : TG) (vs : List Nat) (x : D) (ρ : Env) (m : Mem) (Q : Env → Mem → Prop) : Prop := ∀ Hb H σ v (R : L2.St → Hp → Prop), Same B Hb → Rel K F Hb H m → RpS K Hb ρ σ → Rp K Hb x v → OkN K F Hb Q R → g v (L2.wipe σ vs) H fun σ2 H2 => L2.wipe σ2 vs = L2.wipe σ vs ∧ R σ2 H2
theorem wipe_set {σ : L2.St} {i : Nat} {x : Option V} : ∀ {vs : List Nat}, i ∈ vs → L2.wipe (σ.set i x) vs = L2.wipe σ vs
  | v :: vs, h => by
    unfold L2.wipe
    by_cases hv : i ∈ vs
    · rw [wipe_set hv]
    · have e : i = v := by
        rcases List.mem_cons.mp h with z | z
        · exact z
        · exact absurd z hv
      subst e
      have comm : ∀ {us : List Nat} {σ : L2.St}, i ∉ us → L2.wipe (σ.set i x) us = (L2.wipe σ us).set i x := fun {us} => by
        induction us with
        | nil =>
          intro σ _
          rfl
        | cons u us ih =>
          intro σ hu
          simp only [List.mem_cons, not_or] at hu
          unfold L2.wipe
          rw [ih hu.2, List.set_comm _ _ hu.1]
      rw [comm hv, List.set_set]
theorem wipe_wipe {σ : L2.St} : ∀ {vs : List Nat}, (∀ us : List Nat, (∀ u ∈ us, u ∈ vs) → L2.wipe (L2.wipe σ us) vs = L2.wipe σ vs) := fun {vs} us => by
  induction us with
  | nil =>
    intro _
    rfl
  | cons u us ih =>
    intro h
    show L2.wipe ((L2.wipe σ us).set u none) vs = L2.wipe σ vs
    rw [wipe_set (h u List.mem_cons_self)]
    exact ih fun z hz => h z (List.mem_cons_of_mem _ hz)
theorem wgw_name {i : Nat} {vs : List Nat} {x : D} {Q : Env → Mem → Prop} (hi : i ∈ vs) (q : Q ((wipeD ρ vs).set i (some x)) m) : WGw K F B (gName i) vs x ρ m Q := fun Hb H σ v R hB r hs hx k => by
  show L2.wipe ((L2.wipe σ vs).set i (some v)) vs = L2.wipe σ vs ∧ R ((L2.wipe σ vs).set i (some v)) H
  exact ⟨by rw [wipe_set hi, wipe_wipe vs fun _ z => z], k.here r ((hs.wipe vs).set hx) q⟩
theorem wgw_pair {i j : Nat} {vs : List Nat} {x y : D} {Q : Env → Mem → Prop} (hi : i ∈ vs) (hj : j ∈ vs) (q : Q (((wipeD ρ vs).set i (some x)).set j (some y)) m) :
    WGw K F B (gTup K 2 (gCons (gName i) (gCons (gName j) gNil))) vs (.tup [x, y]) ρ m Q := fun Hb H σ v R hB r hs hx k => by
  unfold Rp at hx
  obtain ⟨p, us, rfl, h1, h2⟩ := hx
  unfold RpL at h2
  obtain ⟨v1, us, rfl, hv1, h2⟩ := h2
  unfold RpL at h2
  obtain ⟨v2, us, rfl, hv2, h2⟩ := h2
  unfold RpL at h2
  subst h2
  refine ⟨p, [v1, v2], rfl, sameT r.sub h1, rfl, v1, [v2], rfl, v2, [], rfl, rfl, ?_⟩
  exact ⟨by rw [wipe_set hj, wipe_set hi, wipe_wipe vs fun _ z => z], k.here r (((hs.wipe vs).set hv1).set hv2) q⟩
theorem we_lc {wi : TI} {g : TG} {tt : TT} {te : TE} {vs : List Nat} {Q : QD} (h : WI K F B wi ρ m fun xs m1 => ∃ I : Nat → List D → Mem → Prop, I 0 [] m1 ∧
      (∀ F' i d acc m', xs[i]? = some d → I i acc m' → WGw K F' B g vs d ρ m' fun ρ2 m2 => WT K F' B tt ρ2 m2 fun b m3 =>
        (b = true → WE K F' B te ρ2 m3 fun y m4 => acc.length < sizeLine ∧ I (i + 1) (acc ++ [y]) m4) ∧ (b = false → I (i + 1) acc m3)) ∧ (∀ acc m', I xs.length acc m' → Q (.lst acc) m')) :
    WE K F B (tLc wi g tt te vs) ρ m Q := fun Hb H σ R hB r hs k =>
  h Hb H σ _ hB r hs fun J H1 Hb1 xs m1 e1 r1 hj q1 => by
    obtain ⟨I, h0, ht, hd⟩ := q1
    intro A hA
    have hF : F A = none := r1.nofr hA
    refine ⟨fun i n H' => n = xs.length - i ∧ i ≤ xs.length ∧ ∃ Hb' acc us m', Same Hb1 Hb' ∧ Rel K (upd F A (.lst us)) Hb' H' m' ∧ RpL K Hb' acc us ∧ I i acc m', ⟨xs.length, by simp, Nat.zero_le _, Hb1, [], [], m1, Same.refl _, r1.aside hA, RpL.nil, h0⟩, ?_⟩
    rintro i n H' ⟨rfl, hi, Hb', acc, us, m', e', r', ha, hI⟩
    by_cases hlt : i < xs.length
    · obtain ⟨hgo, hy⟩ := (hj i _ Hb' H' m' e' r').2 xs[i] (by simp [hlt])
      refine .inr ⟨hgo, fun H2 => ∃ Hb2 acc2 us2 m2, Same Hb1 Hb2 ∧ Rel K (upd F A (.lst us2)) Hb2 H2 m2 ∧ RpL K Hb2 acc2 us2 ∧ I (i + 1) acc2 m2, fun H2 q2 => ⟨xs.length - (i + 1), by omega, rfl, hlt, q2⟩, fun x H2 y => ?_⟩
      obtain ⟨Hb2, e2, r2, hx⟩ := hy x H2 y
      have eB : Same B Hb2 := (hB.trans e1).trans (e'.trans e2)
      refine ht (upd F A (.lst us)) i xs[i] acc m' (by simp [hlt]) hI Hb2 H2 σ x _ eB r2 (hs.mono ((e1.trans e').trans e2)) hx fun σ3 H3 Hb3 ρ3 m3 e3 r3 hs3 q3 => ?_
      refine q3 Hb3 H3 σ3 _ (eB.trans e3) r3 hs3 fun b H4 Hb4 m4 e4 r4 q4 => ?_
      have e14 : Same Hb1 Hb4 := ((e'.trans e2).trans e3).trans e4
      cases b with
      | true =>
        refine iteT (q4.1 rfl Hb4 H4 σ3 _ ((eB.trans e3).trans e4) r4 (hs3.mono e4) fun v H5 Hb5 y5 m5 e5 r5 hy5 q5 => ?_)
        have hD := (r5.fr A _ upd_same).1
        have ha5 : RpL K Hb5 acc us := ha.mono (((e2.trans e3).trans e4).trans e5)
        refine ⟨us, hD, by rw [ha5.length]; exact q5.1, Hb5, acc ++ [y5], us ++ [v], m5, e14.trans e5, r5.turnA, ha5.app (RpL.cons hy5 RpL.nil), q5.2⟩
      | false => exact iteF ⟨Hb4, acc, us, m4, e14, r4, ha.mono ((e2.trans e3).trans e4), q4.2 rfl⟩
    · have e : i = xs.length := by omega
      subst e
      have e4 : Same Hb' (upd Hb' A (.lst us)) := Same.new (r'.fr A _ upd_same).2.1
      refine .inl ⟨(hj _ _ Hb' H' m' e' r').1 (Nat.le_refl _), k _ _ _ (.lst acc) _ ((e1.trans e').trans e4) (r'.settle hF) ?_ (hd _ _ hI)⟩
      unfold Rp
      exact ⟨A, us, rfl, upd_same, ha.mono e4⟩
/-- a comprehension that changes nothing: what is made is f of the items -/
theorem we_lcMap {wi : TI} {g : TG} {te : TE} {vs : List Nat} {Q : QD} (h : WI K F B wi ρ m fun xs m1 => ∃ f : D → D, xs.length ≤ sizeLine ∧
      (∀ F' d, d ∈ xs → WGw K F' B g vs d ρ m1 fun ρ2 m2 => m2 = m1 ∧ WE K F' B te ρ2 m1 fun y m4 => y = f d ∧ m4 = m1) ∧ Q (.lst (xs.map f)) m1) : WE K F B (tLc wi g tYes te vs) ρ m Q :=
  we_lc fun Hb H σ R hB r hs k => h Hb H σ R hB r hs fun J H' Hb' xs m1 e1 r1 hj ⟨f, hl, hf, q⟩ => k J H' Hb' xs m1 e1 r1 hj ⟨fun i acc m' => acc = (xs.take i).map f ∧ m' = m1, ⟨by simp, rfl⟩, fun F' i d acc m' hd ⟨ha, hm⟩ => by
    subst hm
    have hi : i < xs.length := (List.getElem?_eq_some_iff.mp hd).1
    intro Hb2 H2 σ2 v R2 hB2 r2 hs2 hx2 k2
    refine hf F' d (List.mem_of_getElem? hd) Hb2 H2 σ2 v R2 hB2 r2 hs2 hx2 fun σ3 H3 Hb3 ρ3 m3 e3 r3 hs3 ⟨em, q3⟩ => k2 σ3 H3 Hb3 ρ3 m3 e3 r3 hs3 ?_
    subst em
    refine wt_yes ⟨fun _ => we_imp q3 fun y m4 ⟨ey, em⟩ => ?_, fun z => by cases z⟩
    subst ey em ha
    refine ⟨by simp; omega, ?_, rfl⟩
    rw [List.take_add_one, hd]
    simp, fun acc m' ⟨ha, hm⟩ => by
    subst ha hm
    rw [List.take_length]
    exact q⟩
/-- .. with a test: the items that p lets, f of them -/
theorem we_lcFilter {wi : TI} {g : TG} {tt : TT} {te : TE} {vs : List Nat} {Q : QD} (h : WI K F B wi ρ m fun xs m1 => ∃ (p : D → Bool) (f : D → D), xs.length ≤ sizeLine ∧
      (∀ F' d, d ∈ xs → WGw K F' B g vs d ρ m1 fun ρ2 m2 => m2 = m1 ∧ WT K F' B tt ρ2 m1 fun b m3 => b = p d ∧ m3 = m1 ∧ (b = true → WE K F' B te ρ2 m1 fun y m4 => y = f d ∧ m4 = m1)) ∧ Q (.lst ((xs.filter p).map f)) m1) : WE K F B (tLc wi g tt te vs) ρ m Q :=
  we_lc fun Hb H σ R hB r hs k => h Hb H σ R hB r hs fun J H' Hb' xs m1 e1 r1 hj ⟨p, f, hl, hf, q⟩ => k J H' Hb' xs m1 e1 r1 hj ⟨fun i acc m' => acc = ((xs.take i).filter p).map f ∧ m' = m1, ⟨by simp, rfl⟩, fun F' i d acc m' hd ⟨ha, hm⟩ => by
    subst hm
    have hi : i < xs.length := (List.getElem?_eq_some_iff.mp hd).1
    intro Hb2 H2 σ2 v R2 hB2 r2 hs2 hx2 k2
    refine hf F' d (List.mem_of_getElem? hd) Hb2 H2 σ2 v R2 hB2 r2 hs2 hx2 fun σ3 H3 Hb3 ρ3 m3 e3 r3 hs3 ⟨em, q3⟩ => k2 σ3 H3 Hb3 ρ3 m3 e3 r3 hs3 ?_
    subst em
    have hz : acc.length < sizeLine := by
      rw [ha, List.length_map]
      have z := List.length_filter_le p (xs.take i)
      rw [List.length_take] at z
      omega
    refine wt_imp q3 fun b m4 ⟨eb, em, q4⟩ => ⟨fun z => ?_, fun z => ?_⟩
    · subst em
      refine we_imp (q4 z) fun y m5 ⟨ey, em⟩ => ⟨hz, ?_, em⟩
      subst ey ha
      rw [List.take_add_one, hd, List.filter_append, List.map_append]
      simp [← eb, z]
    · subst ha
      refine ⟨?_, em⟩
      rw [List.take_add_one, hd, List.filter_append, List.map_append]
      simp [← eb, z], fun acc m' ⟨ha, hm⟩ => by
    subst ha hm
    rw [List.take_length]
    exact q⟩
end
end DD

/-! HOwn: operators and len by defs of the program's own classes. -/
namespace HO1
open PySem L2
open PySem.Spec PyProof.Rows

section
variable {X : Cx} {CX : CXT} {k : Nat} {f C : Addr} {fd : FuncData} {ps : List Str} {sp : Sp} {E : XK} {pins : List (Addr × Obj)} {σ : L2.St} {H : Hp} {s : Shared}
theorem vals_rr {a b : Addr} : Vals [V.ref a, V.ref b] [Value.ref a, Value.ref b] := .cons (show RelV (V.ref a) (Value.ref a) from rfl) (.cons (show RelV (V.ref b) (Value.ref b) from rfl) .nil)
theorem vals_rx {a : Addr} {x : V} {u : Value} (r : RelV x u) : Vals [V.ref a, x] [Value.ref a, u] := .cons (show RelV (V.ref a) (Value.ref a) from rfl) (.cons r .nil)
/-- a def of the text called below the running body -/
theorem run_in {A : Around} (F : FnOk X.prog X.w X.K X.mg X.base CX k f fd ps sp) (hr : Room k A) (hfr : A.frames = X.A.frames) (hb : Binds X.K fd ps []) (hx : Passes CX X E)
    (I : Inv X pins σ H s) {us : List Value} {vs : List V} (r : Vals vs us) {Q : VK} (h : sp vs H Q E) : wpAny (model X.prog X.w) A (call (.ref f) us) (EP X pins σ Q) X.xe s := by
  have e0 : Env0 X.prog X.w X.K X.mg X.base A X.stack s H := by
    have e := I.env0
    exact ⟨by rw [hfr]; exact e.frames, e.mod, e.bs, e.bsz, e.funs, e.frf, e.hok, e.bare⟩
  have hl := F.len _ _ _ _ h
  have hu : (us ++ []).length = ps.length := by
    rw [List.append_nil, ← r.length]
    exact hl
  have bb : BindsTo s fd ⟨us, []⟩ (ps.zip us) := by
    have q := hb s us I.kIn hu
    rw [List.append_nil] at q
    exact q
  refine wpAny_call (codeAny_mono (F.run A X.stack s H ⟨us, []⟩ us vs Q E hr e0 bb r h) fun r' s' hq => ?_)
  cases r' with
  | error e => exact hx pins σ H s e s' I hq
  | ok fl =>
    cases fl with
    | ret w => exact I.after hq
    | next => exact False.elim hq
    | brk => exact False.elim hq
    | cont => exact False.elim hq
theorem inst_at {a dx : Addr} {fs : List (Str × V)} (I : Inv X pins σ H s) (h : H a = some (.ins C dx fs)) : ∃ ox od, PySem.W.InstAt s.heap a ox C (some od) := by
  obtain ⟨mA, J, _⟩ := ins_get I.hok h
  obtain ⟨od, J, _⟩ := J.look
  exact ⟨_, od, J⟩
/-- what comes back is no stand-in -/
theorem back_of {Q : VK} {v : Value} {s' : Shared} (h : EP X pins σ Q v s') : PySem.W.CmpBack (EP X pins σ Q) v s' := by
  obtain ⟨z, H', I', r, q⟩ := h
  have h2 : EP X pins σ Q v s' := ⟨z, H', I', r, q⟩
  cases z with
  | non => cases r; exact h2
  | bl _ => cases r; exact h2
  | int _ => obtain ⟨t, rfl⟩ := r; exact h2
  | str _ => obtain ⟨t, rfl⟩ := r; exact h2
  | byt _ => obtain ⟨t, rfl⟩ := r; exact h2
  | flt _ => obtain ⟨t, rfl⟩ := r; exact h2
  | ref _ => cases r; exact h2
  | ty _ => cases r; exact h2

/-! ### len -/
def rLenO (C : Addr) (sp : Sp) (E : XK) : List V → Hp → VK → Prop := fun xs H Q => ∃ a dx fs, xs = [.ref a] ∧ H a = some (.ins C dx fs) ∧ sp [.ref a] H (fun z H' => ∃ n : Int, z = .int n ∧ 0 ≤ n ∧ n < 2 ^ 63 ∧ Q (.int n) H') E
theorem call_lenO (F : FnOk X.prog X.w X.K X.mg X.base CX k f fd ps sp) (hr : Room (k + 1) X.A) (hb : Binds X.K fd ps []) (hx : Passes CX X E)
    (hs : PySem.W.findIn X.K (.ref C) "__len__" = some (some (.ref f))) (hf : PySem.W.isFn X.K (.ref f) = true) : CallR X (.builtin "len") (rLenO C sp E) := by
  intro pins s σ H xs us Q I r h
  obtain ⟨a, dx, fs, rfl, ha, q⟩ := h
  have eu := Vals.ref1 r
  subst eu
  obtain ⟨ox, od, J⟩ := inst_at I ha
  obtain ⟨m, fr⟩ := I.fr
  refine PySem.W.len_K fr I.ok.mod.kin J hs hf (thn (run_in (A := X.A.in1) F hr.in1 rfl hb hx I r q) fun v s' z => ?_)
  obtain ⟨z', H', I', rz, n, en, h0, h1, qz⟩ := z
  subst en
  obtain ⟨t, rfl⟩ := rz
  exact ⟨⟨h0, h1⟩, .int n, H', I'.tok _, ⟨_, rfl⟩, qz⟩

/-! ### operators -/
def rBinO (C : Addr) (sp : Sp) (E : XK) : R2 := fun x y H Q => ∃ a b dx dy fs gs, x = .ref a ∧ y = .ref b ∧ H a = some (.ins C dx fs) ∧ H b = some (.ins C dy gs) ∧ sp [x, y] H Q E
theorem op_binO {op : Operator} (F : FnOk X.prog X.w X.K X.mg X.base CX k f fd ps sp) (hr : Room k X.A) (hb : Binds X.K fd ps []) (hx : Passes CX X E) (hc : PySem.W.selfFirst X.K C = true)
    (hs : PySem.W.findIn X.K (.ref C) (PySem.dunder op.info.2) = some (some (.ref f))) (hf : PySem.W.isFn X.K (.ref f) = true) : OpR X (binaryOp op) (rBinO C sp E) := by
  intro pins s σ H x y v u Q I rx ry h
  obtain ⟨a, b, dx, dy, fs, gs, rfl, rfl, ha, hb', q⟩ := h
  cases rx
  cases ry
  obtain ⟨ox, od, J⟩ := inst_at I ha
  obtain ⟨oy, oe, J'⟩ := inst_at I hb'
  obtain ⟨m, fr⟩ := I.fr
  exact PySem.W.binop_K fr I.ok.mod.kin J J'.type hc hs hf (thn (run_in F hr rfl hb hx I vals_rr q) fun v s' z => back_of z)

/-! ### in -/
def rInO (C : Addr) (sp : Sp) (E : XK) (neg : Bool) : R2 := fun x y H Q => ∃ a dx fs, y = .ref a ∧ H a = some (.ins C dx fs) ∧ sp [y, x] H (fun z H' => ∃ b, z = .bl b ∧ Q (.bl (if neg then !b else b)) H') E
theorem truthy_bl {M : Model} {A : Around} {E : Value → Shared → Prop} {s : Shared} {b : Bool} {Q : Bool → Shared → Prop} (h : Q b s) : wpAny M A (truthy (.bool b)) Q E s := by
  have e : truthy (.bool b) = pure b := by first | rfl | kernel_rfl
  rw [e]
  exact wpAny_pure h
theorem op_inO (F : FnOk X.prog X.w X.K X.mg X.base CX k f fd ps sp) (hr : Room k X.A) (hb : Binds X.K fd ps []) (hx : Passes CX X E)
    (hs : PySem.W.findIn X.K (.ref C) "__contains__" = some (some (.ref f))) (hf : PySem.W.isFn X.K (.ref f) = true) : OpR X (compareOp .In) (rInO C sp E false) := by
  intro pins s σ H x y v u Q I rx ry h
  obtain ⟨a, dx, fs, rfl, ha, q⟩ := h
  cases ry
  obtain ⟨ox, od, J⟩ := inst_at I ha
  obtain ⟨m, fr⟩ := I.fr
  refine PySem.W.in_K fr I.ok.mod.kin J hs hf (thn (run_in F hr rfl hb hx I (vals_rx rx) q) fun v s' z => ?_)
  obtain ⟨z', H', I', rz, b, eb, qz⟩ := z
  subst eb
  cases rz
  exact truthy_bl ⟨.bl b, H', I', rfl, qz⟩
theorem op_notInO (F : FnOk X.prog X.w X.K X.mg X.base CX k f fd ps sp) (hr : Room k X.A) (hb : Binds X.K fd ps []) (hx : Passes CX X E)
    (hs : PySem.W.findIn X.K (.ref C) "__contains__" = some (some (.ref f))) (hf : PySem.W.isFn X.K (.ref f) = true) : OpR X (compareOp .NotIn) (rInO C sp E true) := by
  intro pins s σ H x y v u Q I rx ry h
  obtain ⟨a, dx, fs, rfl, ha, q⟩ := h
  cases ry
  obtain ⟨ox, od, J⟩ := inst_at I ha
  obtain ⟨m, fr⟩ := I.fr
  refine PySem.W.notIn_K fr I.ok.mod.kin J hs hf (thn (run_in F hr rfl hb hx I (vals_rx rx) q) fun v s' z => ?_)
  obtain ⟨z', H', I', rz, b, eb, qz⟩ := z
  subst eb
  cases rz
  exact truthy_bl ⟨.bl (!b), H', I', rfl, qz⟩

/-! ### ==, <= .. and != -/
/-- the type of the other value, and that its class is not one below C -/
def Apart (K : PySem.W.Frag) (C : Addr) (y : V) (H : Hp) : Prop := ∃ t, TyX K H y t ∧ PySem.W.notFirst K C t = true
theorem tyx_type {x : V} {u t : Value} (I : Inv X pins σ H s) (rx : RelV x u) (ty : TyX X.K H x t) {M : Model} : PySem.W.Looks M s.heap (typeOf u) t := by
  cases ty with
  | base b =>
    cases b with
    | non => cases (show u = Value.none from rx); exact PySem.W.Looks.of_pure (by first | rfl | kernel_rfl)
    | bl y => cases (show u = Value.bool y from rx); exact PySem.W.Looks.of_pure (by first | rfl | kernel_rfl)
    | int i => obtain ⟨t, q⟩ := (show ∃ t, u = Value.int i t from rx); cases q; exact PySem.W.Looks.of_pure (by first | rfl | kernel_rfl)
    | str y => obtain ⟨t, q⟩ := (show ∃ t, u = Value.str y t from rx); cases q; exact PySem.W.Looks.of_pure (by first | rfl | kernel_rfl)
    | flt y => obtain ⟨t, q⟩ := (show ∃ t, u = Value.float y t from rx); cases q; exact PySem.W.Looks.of_pure (by first | rfl | kernel_rfl)
    | @lst a xs ea =>
      cases (show u = Value.ref a from rx)
      obtain ⟨_, _, n, _, h1⟩ := (show ObjOk X.prog X.w H s.heap a (.lst xs) from I.hok a _ ea)
      exact (PySem.W.Looks.ld h1).andThen .now
    | @frz a ob xs ea =>
      cases (show u = Value.ref a from rx)
      obtain ⟨_, _, _, n, _, h1⟩ := (show ObjOk X.prog X.w H s.heap a (.frz ob (.lst xs)) from I.hok a _ ea)
      exact (PySem.W.Looks.ld h1).andThen .now
    | @tup a xs ea =>
      cases (show u = Value.ref a from rx)
      obtain ⟨_, _, _, o, h1, h2, _⟩ := (show ObjOk X.prog X.w H s.heap a (.tup xs) from I.hok a _ ea)
      exact h2 ▸ (PySem.W.Looks.ld h1).andThen .now
    | @dK a kvs ea =>
      cases (show u = Value.ref a from rx)
      obtain ⟨_, _, vs, _, o, es, ep, h1, h2, _⟩ := (show ObjOk X.prog X.w H s.heap a (.dK kvs) from I.hok a _ ea)
      exact h2.1 ▸ (PySem.W.Looks.ld h1).andThen .now
    | @dT a kvs ea =>
      cases (show u = Value.ref a from rx)
      obtain ⟨_, _, xs, _, o, es, ep, h1, h2, _⟩ := (show ObjOk X.prog X.w H s.heap a (.dT kvs) from I.hok a _ ea)
      exact h2.1 ▸ (PySem.W.Looks.ld h1).andThen .now
    | @ins a C dx fs ea cl ha hn htk hm =>
      cases (show u = Value.ref a from rx)
      obtain ⟨ox, od, J⟩ := inst_at I ea
      exact J.type
  | byt y => obtain ⟨t, q⟩ := (show ∃ t, u = Value.bytes y t from rx); cases q; exact PySem.W.Looks.of_pure (by first | rfl | kernel_rfl)
  | @set a S n ea =>
    cases (show u = Value.ref a from rx)
    obtain ⟨o, _, _, _, e, ex, _⟩ := I.hok a _ ea
    exact ex.1 ▸ (PySem.W.Looks.ld e).andThen .now
  | @kList a o e c =>
    cases (show u = Value.ref a from rx)
    exact c ▸ (PySem.W.Looks.ld (I.kIn a o e)).andThen .now
  | @kTuple a o e c =>
    cases (show u = Value.ref a from rx)
    exact c ▸ (PySem.W.Looks.ld (I.kIn a o e)).andThen .now
  | @kDict a o e c =>
    cases (show u = Value.ref a from rx)
    exact c ▸ (PySem.W.Looks.ld (I.kIn a o e)).andThen .now
  | @fTuple a ob xs ea =>
    cases (show u = Value.ref a from rx)
    obtain ⟨_, _, _, _, o, h1, h2, _⟩ := (show ObjOk X.prog X.w H s.heap a (.frz ob (.tup xs)) from I.hok a _ ea)
    exact h2 ▸ (PySem.W.Looks.ld h1).andThen .now
  | @fDict a ob kvs ea =>
    cases (show u = Value.ref a from rx)
    obtain ⟨_, _, _, vs, _, o, es, ep, h1, h2, _⟩ := (show ObjOk X.prog X.w H s.heap a (.frz ob (.dK kvs)) from I.hok a _ ea)
    exact h2.1 ▸ (PySem.W.Looks.ld h1).andThen .now
def rCmpO (K : PySem.W.Frag) (C : Addr) (sp : Sp) (E : XK) : R2 := fun x y H Q => ∃ a dx fs, x = .ref a ∧ H a = some (.ins C dx fs) ∧ Apart K C y H ∧ sp [x, y] H Q E
theorem op_cmpO {op : CmpOp} (hop : ∀ a b, compareOp op a b = richCompare op a b) (F : FnOk X.prog X.w X.K X.mg X.base CX k f fd ps sp) (hr : Room k X.A) (hb : Binds X.K fd ps []) (hx : Passes CX X E)
    (hs : PySem.W.findIn X.K (.ref C) (cmpInfo op).2.1 = some (some (.ref f))) (hf : PySem.W.isFn X.K (.ref f) = true) : OpR X (compareOp op) (rCmpO X.K C sp E) := by
  intro pins s σ H x y v u Q I rx ry h
  obtain ⟨a, dx, fs, rfl, ha, ⟨t, ht, hn⟩, q⟩ := h
  cases rx
  obtain ⟨ox, od, J⟩ := inst_at I ha
  obtain ⟨m, fr⟩ := I.fr
  rw [hop]
  exact PySem.W.cmp_K hr.units0 fr I.ok.mod.kin J (tyx_type I ry ht) hn hs hf (thn (run_in F hr rfl hb hx I (vals_rx ry) q) fun v s' z => back_of z)
end

/-! ### != by an own == -/
section
variable {X : Cx} {CX : CXT} {k : Nat} {f C : Addr} {fd : FuncData} {ps : List Str} {sp : Sp} {E : XK}
theorem obj_ne {A : Around} {E : Value → Shared → Prop} {s : Shared} {K : PySem.W.Frag} {x C f : Addr} {ox : Obj} {od : Option Obj} {prog : Program} {w : World} {b : Value} {Q : Fin → Shared → Prop} (hu : A.units < cLine) (KX : K.In s.heap) (J : PySem.W.InstAt s.heap x ox C od)
    (hs : PySem.W.findIn K (.ref C) "__eq__" = some (some (.ref f))) (hf : PySem.W.isFn K (.ref f) = true)
    (h : wpAny (model prog w) A (call (.ref f) [.ref x, b]) (fun v s' => ∃ r, v = .bool r ∧ Q (.done (.ret (.bool (!r)))) s') E s) :
    wpAny (model prog w) A (Builtin.«object.__ne__» ⟨[.ref x, b], []⟩) Q E s := by
  unfold Builtin.«object.__ne__»
  refine wpAny_bind (m := slotArgs "__ne__" 1 ⟨[.ref x, b], []⟩) (wpAny_pure ?_)
  refine wpAny_bind (wpAny_cRoomFor hu ?_)
  refine wpAny_bind (PySem.W.ifBound_K KX J hs hf (wpAny_mono h (fun v s' z => ?_) fun _ _ z => z))
  obtain ⟨r, rfl, q⟩ := z
  exact wpAny_bind (truthy_bl (wpAny_pure q))
theorem ne_own {A : Around} {E : Value → Shared → Prop} {s : Shared} {K : PySem.W.Frag} {x C f : Addr} {ox : Obj} {od : Option Obj} {prog : Program} {w : World} {b : Value} {Q : Value → Shared → Prop} (hu : A.units + 1 < cLine) (KX : K.In s.heap) (J : PySem.W.InstAt s.heap x ox C od)
    (hb : PySem.W.Looks (model prog w) s.heap (typeOf b) tb) (hn : PySem.W.notFirst K C tb = true)
    (he : PySem.W.findIn K (.ref C) "__eq__" = some (some (.ref f))) (hf : PySem.W.isFn K (.ref f) = true) (hne : PySem.W.findIn K (.ref C) "__ne__" = some (some (.builtin "object.__ne__"))) (ho : PySem.W.subIn K (.ref C) (.type "object") = some true)
    (h : wpAny (model prog w) A.in1 (call (.ref f) [.ref x, b]) (fun v s' => ∃ r, v = .bool r ∧ Q (.bool (!r)) s') E s) :
    wpAny (model prog w) A (richCompare .NotEq (.ref x) b) Q E s := by
  have one : wpAny (model prog w) A (tryCompare (.ref x) "__ne__" b) (fun r s' => ∃ v, r = some v ∧ Q v s') E s := by
    unfold tryCompare
    refine wpAny_bind ?_
    simp only [callSpecialIfBound?, bindSpecialIfBound?]
    refine wpAny_holding (wpAny_bind (wpAny_bind (wpAny_bind (J.type.here ((PySem.W.looks_findIn KX hne).here ?_)))))
    simp only [PySem.F.slot_tuple_iterator_ne.bind]
    refine wpAny_bind (wpAny_askSetting (wpAny_ite ?_))
    have go : wpAny (model prog w) A (call (.builtin "object.__ne__") [.ref x, b]) (fun v s' => wpAny (model prog w) A (pure (some v)) (fun a s₁ => wpAny (model prog w) A (match a with | some Value.notImplemented | none => pure none | some v => pure (some v)) (fun r s' => ∃ v, r = some v ∧ Q v s') E s₁) E s') E s := by
      refine wpAny_call (codeAny_call_builtin PySem.F.slot_tuple_iterator_ne.plain PySem.F.cmpEntry_ne (PySem.W.check_slot PySem.F.cmpKind_ne PySem.F.cmpSplit_ne (J.type.andThen (PySem.W.looks_subIn KX ho)) (PySem.F.cmpArgs_ne _ _) ?_))
      refine obj_ne (A := A.in1) hu KX J he hf (wpAny_mono h (fun v s' z => ?_) fun _ _ z => z)
      obtain ⟨r, rfl, q⟩ := z
      exact ⟨r, rfl, wpAny_pure (wpAny_pure ⟨_, rfl, q⟩)⟩
    split
    · exact wpAny_bind (wpAny_pure (wpAny_pure (wpAny_bind go)))
    · exact wpAny_tryCatch (wpAny_bind (wpAny_pure (wpAny_pure (wpAny_bind go))))
  unfold richCompare
  simp only [oneThing_ref]
  refine wpAny_holding (wpAny_bind (wpAny_cRoomFor (by omega) ?_))
  refine wpAny_bind (J.type.here (wpAny_bind (hb.here ?_)))
  have fin : ∀ {T : Option Value → Sem Value}, (∀ v, T (some v) = pure v) → wpAny (model prog w) A (tryCompare (.ref x) "__ne__" b >>= T) Q E s := fun {T} hT => by
    refine wpAny_bind (wpAny_mono one (fun r s' z => ?_) fun _ _ e => e)
    obtain ⟨v, rfl, hq⟩ := z
    rw [hT]
    exact wpAny_pure hq
  split
  · rename_i q
    have e : PySem.W.subIn K tb (.ref C) = some false := by
      rcases Bool.or_eq_true_iff.mp hn with e | e
      · rw [beq_iff_eq.mp e] at q; simp at q
      · exact beq_iff_eq.mp e
    refine wpAny_bind ((PySem.W.looks_subIn KX e).here ?_)
    simp only [Bool.false_eq_true, if_false]
    exact fin fun v => rfl
  · refine wpAny_bind (wpAny_pure ?_)
    simp only [Bool.false_eq_true, if_false]
    exact fin fun v => rfl
def rNeO (K : PySem.W.Frag) (C : Addr) (sp : Sp) (E : XK) : R2 := fun x y H Q => ∃ a dx fs, x = .ref a ∧ H a = some (.ins C dx fs) ∧ Apart K C y H ∧ sp [x, y] H (fun z H' => ∃ b, z = .bl b ∧ Q (.bl (!b)) H') E
theorem op_neO (F : FnOk X.prog X.w X.K X.mg X.base CX k f fd ps sp) (hr : Room (k + 1) X.A) (hb : Binds X.K fd ps []) (hx : Passes CX X E)
    (hs : PySem.W.findIn X.K (.ref C) "__eq__" = some (some (.ref f))) (hf : PySem.W.isFn X.K (.ref f) = true) (hne : PySem.W.findIn X.K (.ref C) "__ne__" = some (some (.builtin "object.__ne__"))) (ho : PySem.W.subIn X.K (.ref C) (.type "object") = some true) : OpR X (compareOp .NotEq) (rNeO X.K C sp E) := by
  intro pins s σ H x y v u Q I rx ry h
  obtain ⟨a, dx, fs, rfl, ha, ⟨t, ht, hn⟩, q⟩ := h
  cases rx
  obtain ⟨ox, od, J⟩ := inst_at I ha
  show wpAny _ _ (richCompare .NotEq _ _) _ _ _
  refine ne_own (by have := hr.un; omega) I.kIn J (tyx_type I ry ht) hn hs hf hne ho (thn (run_in (A := X.A.in1) F hr.in1 rfl hb hx I (vals_rx ry) q) fun v s' z => ?_)
  obtain ⟨z', H', I', rz, b, eb, qz⟩ := z
  subst eb
  cases rz
  exact ⟨b, rfl, .bl (!b), H', I', rfl, qz⟩
end
end HO1

/-! DOps: operators, built-ins and methods over data. -/
namespace DD
open PySem L2
open PySem.Spec PyProof.Rows

/-! ### more rules of the hand layer -/
def rAddS : R2 := fun x y H Q => ∃ i j, x = .str i ∧ y = .str j ∧ i.length + j.length ≤ sizeLine ∧ Q (.str (i ++ j)) H
def rAddI : R2 := rI0 fun i j => .int (i + j)
def rAddA (K : PySem.W.Frag) : R2 := fun x y H Q => rAddI x y H Q ∨ rAddS x y H Q ∨ rCat x y H Q ∨ rCatT K x y H Q
theorem op_addA {X : Cx} : OpR X (binaryOp .Add) (rAddA X.K) := OpR.or op_add (OpR.or op_add_str (OpR.or op_cat op_catT))
def rSubI : R2 := rI0 fun i j => .int (i - j)
def rDivI : R2 := rI CDiv fun i j => .int (i / j)
def rModI : R2 := rI (fun _ j => 0 < j) fun i j => .int (i % j)
def rPowI : R2 := rI CPow fun i j => .int (i ^ j.toNat)
def rLtI : R2 := rI0 fun i j => .bl (decide (i < j))
def rLeI : R2 := rI0 fun i j => .bl (decide (i ≤ j))
def rGtI : R2 := rI0 fun i j => .bl (decide (j < i))
def rGeI : R2 := rI0 fun i j => .bl (decide (j ≤ i))
def rNeg : V → Hp → VK → Prop := rU fun i => .int (-i)
def rIsN : R2 := fun x y H Q => y = .non ∧ Q (.bl (decide (x = .non))) H
def rNotN : R2 := fun x y H Q => y = .non ∧ Q (.bl (!decide (x = .non))) H
theorem op_isN1 {X : Cx} : OpR X (compareOp .Is) rIsN := op_isN
theorem op_notN1 {X : Cx} : OpR X (compareOp .IsNot) rNotN := op_notN
theorem RelV_ref (a : Addr) : RelV (.ref a) (.ref a) := rfl
def repS (x : Str) (n : Nat) : Str := ⟨(List.replicate n x.cps.toList).flatten.toArray⟩
theorem repS_eq (x : Str) (n : Nat) : (⟨(List.replicate n x.cps).foldl (· ++ ·) #[]⟩ : Str) = repS x n := by
  have gen : ∀ (n : Nat) (acc : Array Nat), (List.replicate n x.cps).foldl (· ++ ·) acc = acc ++ (List.replicate n x.cps.toList).flatten.toArray := fun n => by
    induction n with
    | zero =>
      intro acc
      simp
    | succ n ih =>
      intro acc
      rw [List.replicate_succ, List.foldl_cons, ih, List.replicate_succ, List.flatten_cons]
      apply Array.toList_inj.mp
      simp
  unfold repS
  rw [gen]
  simp
def rRepS : R2 := fun x y H Q => ∃ (z : Str) (k : Int), x = .str z ∧ y = .int k ∧ -(2 ^ 63) ≤ k ∧ k < 1000000 ∧ z.length ≤ 1 ∧ Q (.str (repS z k.toNat)) H
theorem op_repS {X : Cx} : OpR X (binaryOp .Mult) rRepS := by
  intro pins s σ H x y v u Q I rx ry h
  obtain ⟨z, k, rfl, rfl, h1, h2, hz, q⟩ := h
  obtain ⟨t, rfl⟩ := rx
  obtain ⟨t', rfl⟩ := ry
  refine P.mul_str ?_ (fun a b => ?_) (fun a b => ?_) ?_
  · have a1 : ¬ k < -(2 ^ 63) := by omega
    have a2 : ¬ k ≥ 2 ^ 63 := by omega
    rw [decide_eq_false a1, decide_eq_false a2]
    rfl
  · have a3 : (z.length : Int) ≤ 1 := by omega
    have a4 : (1 : Int) ≤ (2 ^ 63 - 1) / k := by
      rw [Int.le_ediv_iff_mul_le (by omega)]
      omega
    omega
  · have a5 : z.length * k.toNat ≤ 1 * 1000000 := Nat.mul_le_mul hz (by omega)
    unfold Builtin.Str.tooLong
    have a6 : ¬ z.length * k.toNat > sizeLine := by
      rw [sizeLine_eq]
      omega
    simp [a6]
  · by_cases a : k < 1
    · rw [if_pos a]
      have e : repS z k.toNat = Str.empty := by
        have e2 : k.toNat = 0 := by omega
        rw [e2]
        rfl
      rw [e] at q
      exact ⟨by decide, .str Str.empty, H, I.tok _, ⟨_, rfl⟩, q⟩
    · rw [if_neg a]
      by_cases b : (k == 1 || z.length == 0) = true
      · rw [if_pos b]
        have e : repS z k.toNat = z := by
          rcases Bool.or_eq_true_iff.mp b with b | b
          · have e2 : k.toNat = 1 := by
              have := beq_iff_eq.mp b
              omega
            rw [e2]
            apply Str.ext'
            apply Array.toList_inj.mp
            simp [repS]
          · have e2 : z.cps.toList = [] := by
              have := beq_iff_eq.mp b
              apply List.eq_nil_of_length_eq_zero
              simpa [Str.length] using this
            apply Str.ext'
            apply Array.toList_inj.mp
            simp [repS, e2]
        rw [e] at q
        exact ⟨.str z, H, I, ⟨t, rfl⟩, q⟩
      · rw [if_neg b, repS_eq]
        refine ⟨?_, .str _, H, I.tok _, ⟨_, rfl⟩, q⟩
        have a5 : z.length * k.toNat ≤ 1 * 1000000 := Nat.mul_le_mul hz (by omega)
        have e3 : (repS z k.toNat).length = k.toNat * z.length := by
          simp [repS, Str.length]
        rw [e3, sizeLine_eq]
        rw [Nat.mul_comm] at a5
        omega
def rMulI : R2 := rI CMul fun i j => .int (i * j)
def rMulA : R2 := fun x y H Q => rMulI x y H Q ∨ rRepS x y H Q ∨ rRep x y H Q
theorem op_mulA {X : Cx} : OpR X (binaryOp .Mult) rMulA := OpR.or op_mul (OpR.or op_repS op_rep)
def rEqA (K : PySem.W.Frag) : R2 := fun x y H Q => rEq x y H Q ∨ rEqD K x y H Q
theorem op_eqA {X : Cx} (hu : X.A.units + 64 < cLine) : OpR X (compareOp .Eq) (rEqA X.K) := OpR.or op_eq (op_eqD hu)
def rNeA (K : PySem.W.Frag) : R2 := fun x y H Q => rNe x y H Q ∨ rNeD K x y H Q
theorem op_neA {X : Cx} (hu : X.A.units + 64 < cLine) : OpR X (compareOp .NotEq) (rNeA X.K) := OpR.or op_ne (op_neD hu)
def rInSgn : R2 := fun x y H Q => ∃ (c : Nat) (z : Str), x = .str ⟨#[c]⟩ ∧ y = .str z ∧ Q (.bl (decide (c ∈ z.cps.toList))) H
def rNInSgn : R2 := fun x y H Q => ∃ (c : Nat) (z : Str), x = .str ⟨#[c]⟩ ∧ y = .str z ∧ Q (.bl (!decide (c ∈ z.cps.toList))) H
def rInA (K : PySem.W.Frag) : R2 := fun x y H Q => rIn K false x y H Q ∨ rInSgn x y H Q
def rNInA (K : PySem.W.Frag) : R2 := fun x y H Q => rIn K true x y H Q ∨ rNInSgn x y H Q
theorem op_inA {X : Cx} : OpR X (compareOp .In) (rInA X.K) := OpR.or op_in_seq op_in_sign
theorem op_ninA {X : Cx} : OpR X (compareOp .NotIn) (rNInA X.K) := OpR.or op_notIn_seq op_notIn_sign
def rLenA (K : PySem.W.Frag) : List V → Hp → VK → Prop := fun xs H Q => ∃ x n, xs = [x] ∧ LenV K x H n ∧ Q (.int n) H
theorem call_lenA {X : Cx} : CallR X (.builtin "len") (rLenA X.K) := call_len
/-- isinstance(x, (c1, c2, ..)), whatever tuple it is -/
def rIsiS (K : PySem.W.Frag) : List V → Hp → VK → Prop := fun xs H Q => ∃ (x : V) (tp : Addr) (cs : List V) (t : Value) (us : List Value) (b : Bool), xs = [x, .ref tp] ∧ SqT K H tp cs ∧ Paired ClsV cs us ∧ TyX K H x t ∧ PySem.W.kitAny K t us = some b ∧ Q (.bl b) H
theorem call_isiS {X : Cx} : CallR X (.builtin "isinstance") (rIsiS X.K) := by
  intro pins s σ H xs us Q I r h
  obtain ⟨x, tp, cs, t, ws, b, rfl, hT, k, ty, e, q⟩ := h
  obtain ⟨u1, u2, rfl, r1, r2⟩ := vals2 r
  cases (show u2 = Value.ref tp from r2)
  obtain ⟨P, Z, p, hx⟩ := kit_of I r1 ty
  obtain ⟨its, rv, ⟨o, h1, h2, n, h3⟩, _⟩ := I.tuple hT
  have e3 := ClsV.all k rv
  subst e3
  obtain ⟨oc, od, dt, sl⟩ := o
  simp only at h2 h3
  subst h2 h3
  exact PySem.W.kia_tup Z I.kIn p h1 e hx fun tk => ⟨.bl b, H, I.tok tk, rfl, q⟩
def rIsiA (K : PySem.W.Frag) : List V → Hp → VK → Prop := fun xs H Q => rIsi K xs H Q ∨ rIsiS K xs H Q
theorem call_isiA {X : Cx} : CallR X (.builtin "isinstance") (rIsiA X.K) := CallR.or call_isi call_isiS
def rListA (K : PySem.W.Frag) : List V → Hp → VK → Prop := fun xs H Q => ∃ p ys, xs = [.ref p] ∧ (SqL K H p ys ∨ SqT K H p ys) ∧ ∀ l, H l = none → Q (.ref l) (upd H l (.lst ys))
theorem call_listA {X : Cx} : CallR X (.type "list") (rListA X.K) := call_list_of
def rTupA (K : PySem.W.Frag) : List V → Hp → VK → Prop := fun xs H Q => ∃ p ys, xs = [.ref p] ∧ ((SqL K H p ys ∧ ∀ l, H l = none → Q (.ref l) (upd H l (.tup ys))) ∨ (SqT K H p ys ∧ Q (.ref p) H))
theorem call_tupA {X : Cx} : CallR X (.type "tuple") (rTupA X.K) := call_tuple_of
def rInt1 : List V → Hp → VK → Prop := fun xs H Q => (∃ i, xs = [.int i] ∧ Q (.int i) H) ∨ ∃ k, xs = [.bl k] ∧ Q (.int (if k then 1 else 0)) H
theorem call_intA {X : Cx} : CallR X (.type "int") rInt1 := call_int1
def rSlA (K : PySem.W.Frag) : V → Option Int → Option Int → Hp → VK → Prop := fun x lo hi H Q => rSlS x lo hi H Q ∨ rSlL K x lo hi H Q ∨ rSlT K x lo hi H Q
theorem sl_A {X : Cx} : SlR X (rSlA X.K) := SlR.or sl_str (SlR.or sl_list sl_tup)
/-! methods of texts -/
def rSplit : V → List V → Hp → VK → Prop := fun x xs H Q => ∃ a b, x = .str a ∧ xs = [.str b] ∧ (b.length == 0) = false ∧ a.length + 2 ≤ sizeLine ∧ rNewStrs (Txt.split a b) H Q
theorem mt_splitA {X : Cx} : MtR X "str.split" rSplit := mt_split
def rJoin (K : PySem.W.Frag) : V → List V → Hp → VK → Prop := fun x xs H Q => ∃ a p, ∃ ys : List Str, x = .str a ∧ xs = [.ref p] ∧ (SqL K H p (ys.map V.str) ∨ SqT K H p (ys.map V.str)) ∧
      (ys.map (·.length)).sum + ys.length * a.length ≤ 16777216 ∧ Q (.str (Txt.join a ys)) H
theorem mt_joinA {X : Cx} : MtR X "str.join" (rJoin X.K) := mt_join
/-- a method of a text that gives a text -/
def rTxt (g : Str → Str → Str) : V → List V → Hp → VK → Prop := fun x xs H Q => ∃ a b, x = .str a ∧ xs = [.str b] ∧ a.length ≤ sizeLine ∧ Q (.str (g a b)) H
theorem mt_rstripA {X : Cx} : MtR X "str.rstrip" (rTxt Txt.rstripChars) := mt_rstripChars
theorem mt_lstripA {X : Cx} : MtR X "str.lstrip" (rTxt Txt.lstripChars) := mt_lstripChars
theorem mt_rmsufA {X : Cx} : MtR X "str.removesuffix" (rTxt Txt.removesuffix) := mt_removesuffix
theorem mt_rmpreA {X : Cx} : MtR X "str.removeprefix" (rTxt Txt.removeprefix) := mt_removeprefix
def rStarts : V → List V → Hp → VK → Prop := fun x xs H Q => ∃ a b, x = .str a ∧ xs = [.str b] ∧ Q (.bl (Txt.startswith a b)) H
theorem mt_startsA {X : Cx} : MtR X "str.startswith" rStarts := mt_startswith
/-- .append and .pop as their readings are -/
def rExtA : V → List V → Hp → VK → Prop := rExtend

/-! ### what D says of types -/
/-- what the written part says of a class for isinstance -/
structure InsTy (K : PySem.W.Frag) (C : Addr) : Prop where
  cl : Cls K C
  ha : PySem.W.findIn K (.ref C) "__class__" = some (some (.builtin "object.__class__"))
  hn : PySem.W.specialIn K (.builtin "object.__class__") "__get__" = some (some (.builtin "getset_descriptor.__get__"))
  htk : PySem.W.takesIn K (.builtin "object.__class__") = some true
  hm : PySem.W.mroIn K C (.type "object") = some true
inductive TyD (K : PySem.W.Frag) (m : Mem) : D → Value → Prop
  | non : TyD K m (.s .non) (.type "NoneType")
  | bl (b : Bool) : TyD K m (.s (.bl b)) (.type "bool")
  | int (i : Int) : TyD K m (.s (.int i)) (.type "int")
  | str (x : Str) : TyD K m (.s (.str x)) (.type "str")
  | lst (xs : List D) : TyD K m (.lst xs) (.type "list")
  | tup (xs : List D) : TyD K m (.tup xs) (.type "tuple")
  | dic (ks : List Key) (xs : List D) : TyD K m (.dic ks xs) (.type "dict")
  | ins {C : Addr} (h : InsTy K C) (ns : List Str) (xs : List D) : TyD K m (.ins C ns xs) (.ref C)
  | pl (ns : List Str) : TyD K m (.pl ns) (.type "tuple")
  | ownL {a : Addr} {xs : List D} (h : m.own a = some (.lst xs)) : TyD K m (.s (.ref a)) (.type "list")
  | ownD {a : Addr} {ks : List Key} {xs : List D} (h : m.own a = some (.dK ks xs)) : TyD K m (.s (.ref a)) (.type "dict")
  | ownI {a C : Addr} {ns : List Str} {xs : List D} (hc : InsTy K C) (h : m.own a = some (.ins C ns xs)) : TyD K m (.s (.ref a)) (.ref C)
  | gen {φ : Hp → V → Prop} {t : Value} (h : ∀ Hc H v, Same Hc H → φ Hc v → TyX K H v t) : TyD K m (.gen φ) t
section
variable {K : PySem.W.Frag} {B F Hb Hb' H H' : Hp} {m : Mem} {ρ : Env}
theorem TyD.at {x : D} {t : Value} {v : V} (h : TyD K m x t) (r : Rel K F Hb H m) (hx : Rp K Hb x v) : TyX K H v t := by
  cases h with
  | non => unfold Rp at hx; subst hx; exact .base .non
  | bl b => unfold Rp at hx; subst hx; exact .base (.bl b)
  | int i => unfold Rp at hx; subst hx; exact .base (.int i)
  | str x => unfold Rp at hx; subst hx; exact .base (.str x)
  | lst xs =>
    unfold Rp at hx
    obtain ⟨p, vs, rfl, h1, _⟩ := hx
    exact .base (.lst (r.sub _ _ h1))
  | tup xs =>
    unfold Rp at hx
    obtain ⟨p, vs, rfl, h1, _⟩ := hx
    rcases h1 with (h1 | ⟨o, h1⟩) | ⟨o, its, n, hk, hc, _⟩
    · exact .base (.tup (r.sub _ _ h1))
    · exact .fTuple (r.sub _ _ h1)
    · exact .kTuple hk hc
  | dic ks xs =>
    unfold Rp at hx
    obtain ⟨p, o, vs, rfl, h1, _⟩ := hx
    exact .fDict (r.sub _ _ h1)
  | ins h ns xs =>
    unfold Rp at hx
    obtain ⟨p, dx, vs, rfl, h1, _⟩ := hx
    exact .base (.ins (r.sub _ _ h1) h.cl h.ha h.hn h.htk h.hm)
  | pl ns =>
    unfold Rp at hx
    obtain ⟨p, rfl, h1⟩ := hx
    exact .base (.tup (r.sub _ _ h1))
  | ownL h =>
    unfold Rp at hx
    subst hx
    obtain ⟨_, vs, h1, _⟩ := r.own _ _ h
    exact .base (.lst h1)
  | ownD h =>
    unfold Rp at hx
    subst hx
    obtain ⟨_, vs, h1, _⟩ := r.own _ _ h
    exact .base (.dK h1)
  | ownI hc h =>
    unfold Rp at hx
    subst hx
    obtain ⟨_, dx, vs, h1, _⟩ := r.own _ _ h
    exact .base (.ins h1 hc.cl hc.ha hc.hn hc.htk hc.hm)
  | gen h =>
    unfold Rp at hx
    obtain ⟨Hc, e, hφ⟩ := hx
    exact h _ _ _ (e.trans r.sub) hφ

/-! ### plain data (for ==) -/
mutual
def pyD : D → Option PyData
  | .s .non => some .none
  | .s (.bl b) => some (.bool b)
  | .s (.int i) => some (.int i)
  | .s (.str x) => some (.str x)
  | .lst xs => (pyL xs).map .list
  | .tup xs => (pyL xs).map .tuple
  | .pl ns => some (.tuple (ns.map .str))
  | _ => none
def pyL : List D → Option (List PyData)
  | [] => some []
  | d :: ds => (pyD d).bind fun a => (pyL ds).map (a :: ·)
end
theorem dpAll_strs {H : Hp} : ∀ zs : List Str, DpAll K H (zs.map V.str) (zs.map PyData.str)
  | [] => .nil
  | z :: zs => .cons (.str z) (dpAll_strs zs)
mutual
theorem pyD_dp : ∀ (d : D) (v : V) (p : PyData), pyD d = some p → Rp K Hb d v → Same Hb H → Dp K H v p
  | .s .non, v, p, h, hx, e => by
    unfold pyD at h
    unfold Rp at hx
    cases h
    subst hx
    exact .non
  | .s (.bl b), v, p, h, hx, e => by
    unfold pyD at h
    unfold Rp at hx
    cases h
    subst hx
    exact .bl b
  | .s (.int i), v, p, h, hx, e => by
    unfold pyD at h
    unfold Rp at hx
    cases h
    subst hx
    exact .int i
  | .s (.str x), v, p, h, hx, e => by
    unfold pyD at h
    unfold Rp at hx
    cases h
    subst hx
    exact .str x
  | .s (.byt x), v, p, h, hx, e => by
    unfold pyD at h
    cases h
  | .s (.flt x), v, p, h, hx, e => by
    unfold pyD at h
    cases h
  | .s (.ref x), v, p, h, hx, e => by
    unfold pyD at h
    cases h
  | .s (.ty x), v, p, h, hx, e => by
    unfold pyD at h
    cases h
  | .lst xs, v, p, h, hx, e => by
    unfold pyD at h
    unfold Rp at hx
    cases hq : pyL xs with
    | none =>
      rw [hq] at h
      cases h
    | some ps =>
      rw [hq] at h
      cases h
      obtain ⟨a, vs, rfl, h1, h2⟩ := hx
      exact .lst (SqL.of (e _ _ h1)) (pyL_dp xs vs ps hq h2 e)
  | .tup xs, v, p, h, hx, e => by
    unfold pyD at h
    unfold Rp at hx
    cases hq : pyL xs with
    | none =>
      rw [hq] at h
      cases h
    | some ps =>
      rw [hq] at h
      cases h
      obtain ⟨a, vs, rfl, h1, h2⟩ := hx
      exact .tup (sameT e h1) (pyL_dp xs vs ps hq h2 e)
  | .dic ks xs, v, p, h, hx, e => by
    unfold pyD at h
    cases h
  | .ins C ns xs, v, p, h, hx, e => by
    unfold pyD at h
    cases h
  | .gen φ, v, p, h, hx, e => by
    unfold pyD at h
    cases h
  | .pl ns, v, p, h, hx, e => by
    unfold pyD at h
    unfold Rp at hx
    cases h
    obtain ⟨a, rfl, h1⟩ := hx
    exact .tup (sameT e (.inl (.inl h1))) (dpAll_strs ns)
theorem pyL_dp : ∀ (ds : List D) (vs : List V) (ps : List PyData), pyL ds = some ps → RpL K Hb ds vs → Same Hb H → DpAll K H vs ps
  | [], vs, ps, h, hx, e => by
    unfold pyL at h
    unfold RpL at hx
    cases h
    subst hx
    exact .nil
  | d :: ds, vs, ps, h, hx, e => by
    unfold pyL at h
    unfold RpL at hx
    obtain ⟨v, r, rfl, h1, h2⟩ := hx
    cases hq : pyD d with
    | none =>
      rw [hq] at h
      cases h
    | some a =>
      cases hq2 : pyL ds with
      | none =>
        rw [hq, hq2] at h
        cases h
      | some as =>
        rw [hq, hq2] at h
        cases h
        exact .cons (pyD_dp d v a hq h1 e) (pyL_dp ds r as hq2 h2 e)
end

/-! ### operators over data -/
theorem wo_addI {i j : Int} {Q : QD} (q : Q (.s (.int (i + j))) m) : WO K F B (rAddA K) (.s (.int i)) (.s (.int j)) m Q := fun Hb H vx vy R hB r hx hy k => by
  unfold Rp at hx hy
  exact .inl ⟨i, j, hx, hy, k.here r rp_s q⟩
theorem wo_addS {i j : Str} {Q : QD} (hl : i.length + j.length ≤ sizeLine) (q : Q (.s (.str (i ++ j))) m) : WO K F B (rAddA K) (.s (.str i)) (.s (.str j)) m Q := fun Hb H vx vy R hB r hx hy k => by
  unfold Rp at hx hy
  exact .inr (.inl ⟨i, j, hx, hy, hl, k.here r rp_s q⟩)
theorem wo_addL {xs ys : List D} {Q : QD} (hl : xs.length + ys.length ≤ sizeLine) (q : Q (.lst (xs ++ ys)) m) : WO K F B (rAddA K) (.lst xs) (.lst ys) m Q := fun Hb H vx vy R hB r hx hy k => by
  unfold Rp at hx hy
  obtain ⟨p, vs, rfl, h1, h2⟩ := hx
  obtain ⟨p', vs', rfl, h1', h2'⟩ := hy
  refine .inr (.inr (.inl ⟨p, p', vs, vs', rfl, rfl, r.sub _ _ h1, r.sub _ _ h1', by rw [h2.length, h2'.length]; exact hl, fun a ha => ?_⟩))
  have e := Same.new (o := .lst (vs ++ vs')) (r.fresh ha)
  refine k _ _ _ (.lst (xs ++ ys)) _ e (r.data ha) ?_ q
  unfold Rp
  exact ⟨a, _, rfl, upd_same, (h2.app h2').mono e⟩
theorem wo_addT {xs ys : List D} {Q : QD} (hx0 : xs ≠ []) (hl : xs.length + ys.length ≤ sizeLine) (q : Q (.tup (xs ++ ys)) m) : WO K F B (rAddA K) (.tup xs) (.tup ys) m Q := fun Hb H vx vy R hB r hx hy k => by
  unfold Rp at hx hy
  obtain ⟨p, vs, rfl, h1, h2⟩ := hx
  obtain ⟨p', vs', rfl, h1', h2'⟩ := hy
  have hl1 := h2.length
  have hl2 := h2'.length
  have hv : vs ≠ [] := fun z => by
    rw [z] at hl1
    exact hx0 (List.eq_nil_of_length_eq_zero hl1.symm)
  refine .inr (.inr (.inr ⟨p, p', vs, vs', rfl, rfl, sameT r.sub h1, sameT r.sub h1', hv, by rw [hl1, hl2]; exact hl, fun hn => ?_, fun _ a ha => ?_⟩))
  · have e : ys = [] := by
      apply List.eq_nil_of_length_eq_zero
      rw [← hl2, hn]
      rfl
    subst e
    rw [List.append_nil] at q
    refine k.here (d := .tup xs) r ?_ q
    unfold Rp
    exact ⟨p, vs, rfl, h1, h2⟩
  · have e := Same.new (o := .tup (vs ++ vs')) (r.fresh ha)
    refine k _ _ _ (.tup (xs ++ ys)) _ e (r.data ha) ?_ q
    unfold Rp
    exact ⟨a, _, rfl, SqT.of upd_same, (h2.app h2').mono e⟩
theorem wo_I0 {g : Int → Int → V} {i j : Int} {Q : QD} (q : Q (.s (g i j)) m) : WO K F B (rI0 g) (.s (.int i)) (.s (.int j)) m Q := fun Hb H vx vy R hB r hx hy k => by
  unfold Rp at hx hy
  exact ⟨i, j, hx, hy, k.here r rp_s q⟩
theorem wo_I {C : Int → Int → Prop} {g : Int → Int → V} {i j : Int} {Q : QD} (hc : C i j) (q : Q (.s (g i j)) m) : WO K F B (rI C g) (.s (.int i)) (.s (.int j)) m Q := fun Hb H vx vy R hB r hx hy k => by
  unfold Rp at hx hy
  exact ⟨i, j, hx, hy, hc, k.here r rp_s q⟩
theorem wo_mulI {i j : Int} {Q : QD} (hc : CMul i j) (q : Q (.s (.int (i * j))) m) : WO K F B rMulA (.s (.int i)) (.s (.int j)) m Q := fun Hb H vx vy R hB r hx hy k => by
  unfold Rp at hx hy
  exact .inl ⟨i, j, hx, hy, hc, k.here r rp_s q⟩
theorem wo_repS {z : Str} {n : Int} {Q : QD} (h1 : -(2 ^ 63) ≤ n) (h2 : n < 1000000) (hz : z.length ≤ 1) (q : Q (.s (.str (repS z n.toNat))) m) : WO K F B rMulA (.s (.str z)) (.s (.int n)) m Q := fun Hb H vx vy R hB r hx hy k => by
  unfold Rp at hx hy
  exact .inr (.inl ⟨z, n, hx, hy, h1, h2, hz, k.here r rp_s q⟩)
theorem rpL_rep {xs : List D} {vs : List V} (h : RpL K H xs vs) : ∀ n : Nat, RpL K H (List.replicate n xs).flatten (List.replicate n vs).flatten
  | 0 => RpL.nil
  | n + 1 => by
    rw [List.replicate_succ, List.replicate_succ, List.flatten_cons, List.flatten_cons]
    exact h.app (rpL_rep h n)
theorem wo_repL {xs : List D} {n : Int} {Q : QD} (h1 : -(2 ^ 63) ≤ n) (h2 : n < 2 ^ 63) (hz : xs.length * n.toNat ≤ sizeLine) (q : Q (.lst (List.replicate n.toNat xs).flatten) m) : WO K F B rMulA (.lst xs) (.s (.int n)) m Q := fun Hb H vx vy R hB r hx hy k => by
  unfold Rp at hx hy
  obtain ⟨p, vs, rfl, h3, h4⟩ := hx
  refine .inr (.inr ⟨p, n, vs, rfl, hy, r.sub _ _ h3, h1, h2, by rw [h4.length]; exact hz, fun a ha => ?_⟩)
  have e := Same.new (o := .lst (List.replicate n.toNat vs).flatten) (r.fresh ha)
  refine k _ _ _ (.lst (List.replicate n.toNat xs).flatten) _ e (r.data ha) ?_ q
  unfold Rp
  exact ⟨a, _, rfl, upd_same, (rpL_rep h4 _).mono e⟩
theorem wo_eqS {x y : V} {Q : QD} (h : scal x y = true) (q : Q (.s (.bl (decide (x = y)))) m) : WO K F B (rEqA K) (.s x) (.s y) m Q := fun Hb H vx vy R hB r hx hy k => by
  unfold Rp at hx hy
  subst hx hy
  exact .inl ⟨h, k.here r rp_s q⟩
theorem wo_neS {x y : V} {Q : QD} (h : scal x y = true) (q : Q (.s (.bl (!decide (x = y)))) m) : WO K F B (rNeA K) (.s x) (.s y) m Q := fun Hb H vx vy R hB r hx hy k => by
  unfold Rp at hx hy
  subst hx hy
  exact .inl ⟨h, k.here r rp_s q⟩
theorem wo_eqD {x y : D} {a b : PyData} {Q : QD} (ha : pyD x = some a) (hb : pyD y = some b) (sa : SeqAt.shaped a = true) (sb : SeqAt.shaped b = true) (q : Q (.s (.bl (PyData.eqv a b))) m) : WO K F B (rEqA K) x y m Q := fun Hb H vx vy R hB r hx hy k =>
  .inr ⟨a, b, pyD_dp x vx a ha hx r.sub, pyD_dp y vy b hb hy r.sub, sa, sb, k.here r rp_s q⟩
theorem wo_neD {x y : D} {a b : PyData} {Q : QD} (ha : pyD x = some a) (hb : pyD y = some b) (sa : SeqAt.shaped a = true) (sb : SeqAt.shaped b = true) (q : Q (.s (.bl (!PyData.eqv a b))) m) : WO K F B (rNeA K) x y m Q := fun Hb H vx vy R hB r hx hy k =>
  .inr ⟨a, b, pyD_dp x vx a ha hx r.sub, pyD_dp y vy b hb hy r.sub, sa, sb, k.here r rp_s q⟩
/-- x in xs, both flat -/
theorem wo_inL {x : V} {xs : List V} {Q : QD} (hx0 : flatV x = true) (hf : xs.all flatV = true) (q : Q (.s (.bl (inV x xs))) m) : WO K F B (rInA K) (.s x) (.lst (xs.map D.s)) m Q := fun Hb H vx vy R hB r hx hy k => by
  unfold Rp at hx hy
  subst hx
  obtain ⟨p, vs, rfl, h1, h2⟩ := hy
  have e := h2.scal
  subst e
  exact .inl ⟨p, _, rfl, .inl (SqL.of (r.sub _ _ h1)), hx0, hf, k.here r rp_s q⟩
theorem wo_inT {x : V} {xs : List V} {Q : QD} (hx0 : flatV x = true) (hf : xs.all flatV = true) (q : Q (.s (.bl (inV x xs))) m) : WO K F B (rInA K) (.s x) (.tup (xs.map D.s)) m Q := fun Hb H vx vy R hB r hx hy k => by
  unfold Rp at hx hy
  subst hx
  obtain ⟨p, vs, rfl, h1, h2⟩ := hy
  have e := h2.scal
  subst e
  exact .inl ⟨p, _, rfl, .inr (sameT r.sub h1), hx0, hf, k.here r rp_s q⟩
theorem wo_ninL {x : V} {xs : List V} {Q : QD} (hx0 : flatV x = true) (hf : xs.all flatV = true) (q : Q (.s (.bl (!inV x xs))) m) : WO K F B (rNInA K) (.s x) (.lst (xs.map D.s)) m Q := fun Hb H vx vy R hB r hx hy k => by
  unfold Rp at hx hy
  subst hx
  obtain ⟨p, vs, rfl, h1, h2⟩ := hy
  have e := h2.scal
  subst e
  exact .inl ⟨p, _, rfl, .inl (SqL.of (r.sub _ _ h1)), hx0, hf, k.here r rp_s q⟩
theorem wo_ninT {x : V} {xs : List V} {Q : QD} (hx0 : flatV x = true) (hf : xs.all flatV = true) (q : Q (.s (.bl (!inV x xs))) m) : WO K F B (rNInA K) (.s x) (.tup (xs.map D.s)) m Q := fun Hb H vx vy R hB r hx hy k => by
  unfold Rp at hx hy
  subst hx
  obtain ⟨p, vs, rfl, h1, h2⟩ := hy
  have e := h2.scal
  subst e
  exact .inl ⟨p, _, rfl, .inr (sameT r.sub h1), hx0, hf, k.here r rp_s q⟩
theorem wo_inC {c : Nat} {z : Str} {Q : QD} (q : Q (.s (.bl (decide (c ∈ z.cps.toList)))) m) : WO K F B (rInA K) (.s (.str ⟨#[c]⟩)) (.s (.str z)) m Q := fun Hb H vx vy R hB r hx hy k => by
  unfold Rp at hx hy
  exact .inr ⟨c, z, hx, hy, k.here r rp_s q⟩
theorem wo_ninO {x : V} {a : Addr} {xs : List V} {Q : QD} (ho : m.own a = some (.lst (xs.map D.s))) (hx0 : flatV x = true) (hf : xs.all flatV = true) (q : Q (.s (.bl (!inV x xs))) m) : WO K F B (rNInA K) (.s x) (.s (.ref a)) m Q := fun Hb H vx vy R hB r hx hy k => by
  unfold Rp at hx hy
  subst hx hy
  obtain ⟨_, vs, h1, h2⟩ := r.own _ _ ho
  have e := h2.scal
  subst e
  exact .inl ⟨a, _, rfl, .inl (SqL.of h1), hx0, hf, k.here r rp_s q⟩
theorem wo_isN {x : V} {Q : QD} (q : Q (.s (.bl (decide (x = .non)))) m) : WO K F B rIsN (.s x) (.s .non) m Q := fun Hb H vx vy R hB r hx hy k => by
  unfold Rp at hx hy
  subst hx hy
  exact ⟨rfl, k.here r rp_s q⟩
theorem wo_notN {x : V} {Q : QD} (q : Q (.s (.bl (!decide (x = .non)))) m) : WO K F B rNotN (.s x) (.s .non) m Q := fun Hb H vx vy R hB r hx hy k => by
  unfold Rp at hx hy
  subst hx hy
  exact ⟨rfl, k.here r rp_s q⟩
theorem wo_isB {a b : Bool} {Q : QD} (q : Q (.s (.bl (decide (a = b)))) m) : WO K F B rIsB (.s (.bl a)) (.s (.bl b)) m Q := fun Hb H vx vy R hB r hx hy k => by
  unfold Rp at hx hy
  exact ⟨a, b, hx, hy, k.here r rp_s q⟩
theorem wu_neg {i : Int} {Q : QD} (q : Q (.s (.int (-i))) m) : WU K F B rNeg (.s (.int i)) m Q := fun Hb H vx R hB r hx k => by
  unfold Rp at hx
  exact ⟨i, hx, k.here r rp_s q⟩
theorem we_chain {r1 r2 : R2} {ta tb tc : TE} {Q : QD} (h : WE K F B ta ρ m fun x m1 => WE K F B tb ρ m1 fun y m2 => WO K F B r1 x y m2 fun z m3 => ∃ b, z = .s (.bl b) ∧ (b = true → WE K F B tc ρ m3 fun u m4 => WO K F B r2 y u m4 Q) ∧ (b = false → Q (.s (.bl false)) m3)) :
    WE K F B (tChain r1 r2 ta tb tc) ρ m Q := fun Hb H σ R hB r hs k =>
  h Hb H σ _ hB r hs fun v H1 Hb1 x m1 e1 r1' hx q1 => q1 Hb1 H1 σ _ (hB.trans e1) r1' (hs.mono e1) fun u H2 Hb2 y m2 e2 r2' hy q2 =>
    q2 Hb2 H2 v u _ ((hB.trans e1).trans e2) r2' (hx.mono e2) hy fun z H3 Hb3 d m3 e3 r3' hz q3 => by
      obtain ⟨b, rfl, qt, qf⟩ := q3
      unfold Rp at hz
      refine ⟨b, hz, ?_⟩
      have e123 := (e1.trans e2).trans e3
      cases b with
      | true => exact iteT (qt rfl Hb3 H3 σ _ (hB.trans e123) r3' (hs.mono e123) fun w H4 Hb4 d4 m4 e4 r4' hw q4 => q4 Hb4 H4 u w R ((hB.trans e123).trans e4) r4' (hy.mono (e3.trans e4)) hw (k.mono (e123.trans e4)))
      | false => exact iteF (k _ _ _ _ _ e123 r3' rp_s (qf rfl))
/-- an item of an owned list, of a list, a tuple, a text -/
theorem wo_ixL {xs : List D} {i : Int} {d : D} {Q : QD} (h : atI xs i = some d) (q : Q d m) : WO K F B (rIx K) (.lst xs) (.s (.int i)) m Q := fun Hb H vx vy R hB r hx hy k => by
  unfold Rp at hx hy
  obtain ⟨p, vs, rfl, h1, h2⟩ := hx
  unfold atI at h
  cases hj : ixN xs.length i with
  | none =>
    rw [hj] at h
    cases h
  | some j =>
    rw [hj] at h
    obtain ⟨u, hu, ru⟩ := h2.get h
    refine .inl ⟨p, vs, i, u, rfl, hy, SqL.of (r.sub _ _ h1), ?_, k.here r ru q⟩
    unfold atI
    rw [h2.length, hj]
    exact hu
theorem wo_ixT {xs : List D} {i : Int} {d : D} {Q : QD} (h : atI xs i = some d) (q : Q d m) : WO K F B (rIx K) (.tup xs) (.s (.int i)) m Q := fun Hb H vx vy R hB r hx hy k => by
  unfold Rp at hx hy
  obtain ⟨p, vs, rfl, h1, h2⟩ := hx
  unfold atI at h
  cases hj : ixN xs.length i with
  | none =>
    rw [hj] at h
    cases h
  | some j =>
    rw [hj] at h
    obtain ⟨u, hu, ru⟩ := h2.get h
    refine .inr (.inl ⟨p, vs, i, u, rfl, hy, sameT r.sub h1, ?_, k.here r ru q⟩)
    unfold atI
    rw [h2.length, hj]
    exact hu
theorem wo_ixS {z : Str} {i : Int} {c : Nat} {Q : QD} (hz : z.length ≤ sizeLine) (h : atI z.cps.toList i = some c) (q : Q (.s (.str ⟨#[c]⟩)) m) : WO K F B (rIx K) (.s (.str z)) (.s (.int i)) m Q := fun Hb H vx vy R hB r hx hy k => by
  unfold Rp at hx hy
  exact .inr (.inr ⟨z, i, c, hx, hy, hz, h, k.here r rp_s q⟩)
theorem wo_ixO {a : Addr} {xs : List D} {i : Int} {d : D} {Q : QD} (ho : m.own a = some (.lst xs)) (h : atI xs i = some d) (q : Q d m) : WO K F B (rIx K) (.s (.ref a)) (.s (.int i)) m Q := fun Hb H vx vy R hB r hx hy k => by
  unfold Rp at hx hy
  subst hx
  obtain ⟨_, vs, h1, h2⟩ := r.own _ _ ho
  unfold atI at h
  cases hj : ixN xs.length i with
  | none =>
    rw [hj] at h
    cases h
  | some j =>
    rw [hj] at h
    obtain ⟨u, hu, ru⟩ := h2.get h
    refine .inl ⟨a, vs, i, u, rfl, hy, SqL.of h1, ?_, k.here r ru q⟩
    unfold atI
    rw [h2.length, hj]
    exact hu
/-! slices -/
def WSl (K : PySem.W.Frag) (F B : Hp) (r : V → Option Int → Option Int → Hp → VK → Prop) (x : D) (lo hi : Option Int) (m : Mem) (Q : QD) : Prop := ∀ Hb H vx R, Same B Hb → Rel K F Hb H m → Rp K Hb x vx → OkV K F Hb Q R → r vx lo hi H R
def WPt (K : PySem.W.Frag) (F B : Hp) (t : TO) (ρ : Env) (m : Mem) (Q : Option Int → Mem → Prop) : Prop := ∀ Hb H σ (R : Option Int → Hp → Prop), Same B Hb → Rel K F Hb H m → RpS K Hb ρ σ → (∀ o H' Hb' m', Same Hb Hb' → Rel K F Hb' H' m' → Q o m' → R o H') → t σ H R
theorem wpt_no {Q : Option Int → Mem → Prop} (q : Q none m) : WPt K F B tNoPart ρ m Q := fun Hb H σ R hB r hs k => k _ _ _ _ (Same.refl _) r q
theorem wpt_some {te : TE} {Q : Option Int → Mem → Prop} (h : WE K F B te ρ m fun x m1 => ∃ i, x = .s (.int i) ∧ Q (some i) m1) : WPt K F B (tPart te) ρ m Q := fun Hb H σ R hB r hs k =>
  h Hb H σ _ hB r hs fun v H1 Hb1 x m1 e1 r1 hx q1 => by
    obtain ⟨i, rfl, q⟩ := q1
    unfold Rp at hx
    exact ⟨i, hx, k _ _ _ _ e1 r1 q⟩
theorem we_sl {r : V → Option Int → Option Int → Hp → VK → Prop} {te : TE} {tl th : TO} {Q : QD} (h : WE K F B te ρ m fun x m1 => WPt K F B tl ρ m1 fun lo m2 => WPt K F B th ρ m2 fun hi m3 => WSl K F B r x lo hi m3 Q) : WE K F B (tSl r te tl th) ρ m Q := fun Hb H σ R hB r hs k =>
  h Hb H σ _ hB r hs fun v H1 Hb1 x m1 e1 r1 hx q1 => q1 Hb1 H1 σ _ (hB.trans e1) r1 (hs.mono e1) fun lo H2 Hb2 m2 e2 r2 q2 => q2 Hb2 H2 σ _ ((hB.trans e1).trans e2) r2 (hs.mono (e1.trans e2)) fun hi H3 Hb3 m3 e3 r3 q3 =>
    q3 Hb3 H3 v R (((hB.trans e1).trans e2).trans e3) r3 (hx.mono (e2.trans e3)) (k.mono ((e1.trans e2).trans e3))
def cutD (xs : List D) (lo hi : Option Int) : List D := (xs.drop (HT.sIx xs.length 0 lo)).take (HT.sIx xs.length xs.length hi - HT.sIx xs.length 0 lo)
theorem wsl_L {xs : List D} {lo hi : Option Int} {Q : QD} (q : Q (.lst (cutD xs lo hi)) m) : WSl K F B (rSlA K) (.lst xs) lo hi m Q := fun Hb H vx R hB r hx k => by
  unfold Rp at hx
  obtain ⟨p, vs, rfl, h1, h2⟩ := hx
  refine .inr (.inl ⟨p, vs, rfl, SqL.of (r.sub _ _ h1), fun a ha => ?_⟩)
  have e := Same.new (o := .lst (cutV vs lo hi)) (r.fresh ha)
  refine k _ _ _ (.lst (cutD xs lo hi)) _ e (r.data ha) ?_ q
  have z : RpL K Hb (cutD xs lo hi) (cutV vs lo hi) := by
    unfold cutV cutD
    rw [h2.length]
    exact (h2.drop _).take _
  unfold Rp
  exact ⟨a, _, rfl, upd_same, z.mono e⟩
theorem wsl_S {z : Str} {lo hi : Option Int} {Q : QD} (hz : z.length ≤ sizeLine) (q : Q (.s (.str (cutS z lo hi))) m) : WSl K F B (rSlA K) (.s (.str z)) lo hi m Q := fun Hb H vx R hB r hx k => by
  unfold Rp at hx
  exact .inl ⟨z, hx, hz, k.here r rp_s q⟩

/-! ### built-ins over data -/
def lenD (m : Mem) : D → Nat → Prop
  | .s (.str z), n => z.length ≤ sizeLine ∧ n = z.length
  | .lst xs, n => n = xs.length
  | .tup xs, n => n = xs.length
  | .s (.ref a), n => ∃ xs, m.own a = some (.lst xs) ∧ n = xs.length
  | .pl ns, n => n = ns.length
  | _, _ => False
theorem wc_len {x : D} {n : Nat} {Q : QD} (h : lenD m x n) (q : Q (.s (.int (n : Int))) m) : WC K F B (rLenA K) [x] m Q := fun Hb H vs R hB r hx k => by
  unfold RpL at hx
  obtain ⟨v, us, rfl, hv, hu⟩ := hx
  unfold RpL at hu
  subst hu
  refine ⟨v, n, rfl, ?_, k.here r rp_s q⟩
  cases x with
  | s w =>
    unfold Rp at hv
    subst hv
    cases v with
    | str z => exact ⟨h.1, h.2⟩
    | ref a =>
      obtain ⟨xs, ho, rfl⟩ := h
      obtain ⟨_, vs, h1, h2⟩ := r.own _ _ ho
      exact .inl ⟨vs, SqL.of h1, h2.length.symm⟩
    | _ => exact h.elim
  | lst xs =>
    unfold Rp at hv
    obtain ⟨p, vs, rfl, h1, h2⟩ := hv
    have e : n = xs.length := h
    subst e
    exact .inl ⟨vs, SqL.of (r.sub _ _ h1), h2.length.symm⟩
  | tup xs =>
    unfold Rp at hv
    obtain ⟨p, vs, rfl, h1, h2⟩ := hv
    have e : n = xs.length := h
    subst e
    exact .inr ⟨vs, sameT r.sub h1, h2.length.symm⟩
  | pl ns =>
    unfold Rp at hv
    obtain ⟨p, rfl, h1⟩ := hv
    have e : n = ns.length := h
    subst e
    exact .inr ⟨_, .inl (.inl (r.sub _ _ h1)), (List.length_map _).symm⟩
  | dic ks xs => exact h.elim
  | ins C ns xs => exact h.elim
  | gen φ => exact h.elim
theorem wc_int {i : Int} {Q : QD} (q : Q (.s (.int i)) m) : WC K F B rInt1 [.s (.int i)] m Q := fun Hb H vs R hB r hx k => by
  have e : vs = [.int i] := RpL.scal (vs := [.int i]) hx
  subst e
  exact .inl ⟨i, rfl, k.here r rp_s q⟩
theorem rpL1 {x : D} {vs : List V} (h : RpL K H [x] vs) : ∃ v, vs = [v] ∧ Rp K H x v := by
  unfold RpL at h
  obtain ⟨v, us, rfl, hv, hu⟩ := h
  unfold RpL at hu
  subst hu
  exact ⟨v, rfl, hv⟩
theorem rpL2 {x y : D} {vs : List V} (h : RpL K H [x, y] vs) : ∃ v u, vs = [v, u] ∧ Rp K H x v ∧ Rp K H y u := by
  unfold RpL at h
  obtain ⟨v, us, rfl, hv, hu⟩ := h
  obtain ⟨u, rfl, h2⟩ := rpL1 hu
  exact ⟨v, u, rfl, hv, h2⟩
theorem wc_all {bs : List Bool} {Q : QD} (q : Q (.s (.bl (bs.all id))) m) : WC K F B (rAll K) [.lst (bs.map fun b => .s (.bl b))] m Q := fun Hb H vs R hB r hx k => by
  obtain ⟨v, rfl, hv⟩ := rpL1 hx
  unfold Rp at hv
  obtain ⟨p, vs, rfl, h1, h2⟩ := hv
  have e : vs = bs.map V.bl := RpL.scal (vs := bs.map V.bl) (by rw [List.map_map]; exact h2)
  subst e
  exact ⟨p, bs, rfl, SqL.of (r.sub _ _ h1), k.here r rp_s q⟩
theorem wc_any {bs : List Bool} {Q : QD} (q : Q (.s (.bl (bs.any id))) m) : WC K F B (rAny K) [.lst (bs.map fun b => .s (.bl b))] m Q := fun Hb H vs R hB r hx k => by
  obtain ⟨v, rfl, hv⟩ := rpL1 hx
  unfold Rp at hv
  obtain ⟨p, vs, rfl, h1, h2⟩ := hv
  have e : vs = bs.map V.bl := RpL.scal (vs := bs.map V.bl) (by rw [List.map_map]; exact h2)
  subst e
  exact ⟨p, bs, rfl, SqL.of (r.sub _ _ h1), k.here r rp_s q⟩
/-- the class of a class name's value -/
def clsD : D → Option Value
  | .s (.ty n) => some (.type n)
  | .s (.ref C) => some (.ref C)
  | _ => none
theorem clsD_of {c : D} {u : Value} {v : V} (h : clsD c = some u) (hv : Rp K H c v) : ClsV v u := by
  cases c with
  | s w =>
    unfold Rp at hv
    subst hv
    cases v with
    | ty n =>
      cases h
      exact .ty n
    | ref C =>
      cases h
      exact .own C
    | _ => cases h
  | _ => cases h
theorem wc_isi {x c : D} {t u : Value} {b : Bool} {Q : QD} (ht : TyD K m x t) (hc : clsD c = some u) (hk : PySem.W.kitOne K t u = some b) (q : Q (.s (.bl b)) m) : WC K F B (rIsiA K) [x, c] m Q := fun Hb H vs R hB r hx k => by
  obtain ⟨v, w, rfl, hv, hw⟩ := rpL2 hx
  exact .inl ⟨v, w, t, u, b, rfl, clsD_of hc hw, ht.at r hv, hk, k.here r rp_s q⟩
theorem clsL_of : ∀ {cs : List D} {us : List Value} {vs : List V}, cs.map clsD = us.map some → RpL K H cs vs → Paired ClsV vs us
  | [], us, vs, h, hx => by
    unfold RpL at hx
    subst hx
    cases us with
    | nil => exact .nil
    | cons u us => cases h
  | c :: cs, us, vs, h, hx => by
    unfold RpL at hx
    obtain ⟨v, r, rfl, h1, h2⟩ := hx
    cases us with
    | nil => cases h
    | cons u us =>
      rw [List.map_cons, List.map_cons] at h
      injection h with a b
      exact .cons (clsD_of a h1) (clsL_of b h2)
theorem wc_isiT {x : D} {cs : List D} {t : Value} {us : List Value} {b : Bool} {Q : QD} (ht : TyD K m x t) (hc : cs.map clsD = us.map some) (hk : PySem.W.kitAny K t us = some b) (q : Q (.s (.bl b)) m) : WC K F B (rIsiA K) [x, .tup cs] m Q := fun Hb H vs R hB r hx k => by
  obtain ⟨v, w, rfl, hv, hw⟩ := rpL2 hx
  unfold Rp at hw
  obtain ⟨p, ws, rfl, h1, h2⟩ := hw
  exact .inr ⟨v, p, ws, t, us, b, rfl, sameT r.sub h1, clsL_of hc h2, ht.at r hv, hk, k.here r rp_s q⟩
theorem wc_listL {xs : List D} {Q : QD} (q : Q (.lst xs) m) : WC K F B (rListA K) [.lst xs] m Q := fun Hb H vs R hB r hx k => by
  obtain ⟨v, rfl, hv⟩ := rpL1 hx
  unfold Rp at hv
  obtain ⟨p, vs, rfl, h1, h2⟩ := hv
  refine ⟨p, vs, rfl, .inl (SqL.of (r.sub _ _ h1)), fun a ha => ?_⟩
  have e := Same.new (o := .lst vs) (r.fresh ha)
  refine k _ _ _ (.lst xs) _ e (r.data ha) ?_ q
  unfold Rp
  exact ⟨a, _, rfl, upd_same, h2.mono e⟩
theorem wc_listT {xs : List D} {Q : QD} (q : Q (.lst xs) m) : WC K F B (rListA K) [.tup xs] m Q := fun Hb H vs R hB r hx k => by
  obtain ⟨v, rfl, hv⟩ := rpL1 hx
  unfold Rp at hv
  obtain ⟨p, vs, rfl, h1, h2⟩ := hv
  refine ⟨p, vs, rfl, .inr (sameT r.sub h1), fun a ha => ?_⟩
  have e := Same.new (o := .lst vs) (r.fresh ha)
  refine k _ _ _ (.lst xs) _ e (r.data ha) ?_ q
  unfold Rp
  exact ⟨a, _, rfl, upd_same, h2.mono e⟩
/-- .. a list that is owned -/
theorem wc_listO {xs : List D} {Q : QD} (q : ∀ a, m.own a = none → Q (.s (.ref a)) { m with own := putM m.own a (.lst xs) }) : WC K F B (rListA K) [.lst xs] m Q := fun Hb H vs R hB r hx k => by
  obtain ⟨v, rfl, hv⟩ := rpL1 hx
  unfold Rp at hv
  obtain ⟨p, vs, rfl, h1, h2⟩ := hv
  refine ⟨p, vs, rfl, .inl (SqL.of (r.sub _ _ h1)), fun a ha => ?_⟩
  exact k _ _ _ _ _ (Same.refl _) (r.owned (mo := .lst xs) ha ⟨vs, upd_same, h2⟩) rp_s (q a (r.free ha))
theorem wc_tupL {xs : List D} {Q : QD} (q : Q (.tup xs) m) : WC K F B (rTupA K) [.lst xs] m Q := fun Hb H vs R hB r hx k => by
  obtain ⟨v, rfl, hv⟩ := rpL1 hx
  unfold Rp at hv
  obtain ⟨p, vs, rfl, h1, h2⟩ := hv
  refine ⟨p, vs, rfl, .inl ⟨SqL.of (r.sub _ _ h1), fun a ha => ?_⟩⟩
  have e := Same.new (o := .tup vs) (r.fresh ha)
  refine k _ _ _ (.tup xs) _ e (r.data ha) ?_ q
  unfold Rp
  exact ⟨a, _, rfl, SqT.of upd_same, h2.mono e⟩
theorem wc_tupT {xs : List D} {Q : QD} (q : Q (.tup xs) m) : WC K F B (rTupA K) [.tup xs] m Q := fun Hb H vs R hB r hx k => by
  obtain ⟨v, rfl, hv⟩ := rpL1 hx
  have hv' := hv
  unfold Rp at hv'
  obtain ⟨p, vs, rfl, h1, h2⟩ := hv'
  exact ⟨p, vs, rfl, .inr ⟨sameT r.sub h1, k.here r hv q⟩⟩

/-! ### methods over data -/
def WM (K : PySem.W.Frag) (F B : Hp) (r : V → List V → Hp → VK → Prop) (x : D) (xs : List D) (m : Mem) (Q : QD) : Prop := ∀ Hb H vx vs R, Same B Hb → Rel K F Hb H m → Rp K Hb x vx → RpL K Hb xs vs → OkV K F Hb Q R → r vx vs H R
theorem we_m1 {r : V → List V → Hp → VK → Prop} {to te : TE} {Q : QD} (h : WE K F B to ρ m fun x m1 => (∃ z, x = .s (.str z)) ∧ WE K F B te ρ m1 fun y m2 => WM K F B r x [y] m2 Q) : WE K F B (tM1 r to te) ρ m Q := fun Hb H σ R hB r hs k =>
  h Hb H σ _ hB r hs fun v H1 Hb1 x m1 e1 r1 hx q1 => by
    obtain ⟨⟨z, rfl⟩, q⟩ := q1
    have hx' := hx
    unfold Rp at hx'
    exact ⟨⟨z, hx'⟩, q Hb1 H1 σ _ (hB.trans e1) r1 (hs.mono e1) fun u H2 Hb2 y m2 e2 r2 hy q2 => q2 Hb2 H2 v [u] R ((hB.trans e1).trans e2) r2 (hx.mono e2) (RpL.cons hy RpL.nil) (k.mono (e1.trans e2))⟩
theorem rp_strs {p : Addr} {ys : List Str} (h : H p = some (.lst (ys.map V.str))) : Rp K H (.lst (ys.map fun y => .s (.str y))) (.ref p) := by
  unfold Rp
  refine ⟨p, _, rfl, h, ?_⟩
  have e := RpL.ofScal (K := K) (H := H) (ys.map V.str)
  rw [List.map_map] at e
  exact e
theorem strs_rp {v : V} {ys : List Str} (h : Rp K H (.lst (ys.map fun y => .s (.str y))) v) : ∃ p, v = .ref p ∧ H p = some (.lst (ys.map V.str)) := by
  unfold Rp at h
  obtain ⟨p, vs, rfl, h1, h2⟩ := h
  have e : vs = ys.map V.str := RpL.scal (vs := ys.map V.str) (by rw [List.map_map]; exact h2)
  subst e
  exact ⟨p, rfl, h1⟩
theorem wm_split {a b : Str} {Q : QD} (hb : (b.length == 0) = false) (ha : a.length + 2 ≤ sizeLine) (q : Q (.lst ((Txt.split a b).map fun y => .s (.str y))) m) : WM K F B rSplit (.s (.str a)) [.s (.str b)] m Q := fun Hb H vx vs R hB r hx hxs k => by
  obtain ⟨v, rfl, hv⟩ := rpL1 hxs
  unfold Rp at hx hv
  subst hx hv
  refine ⟨a, b, rfl, rfl, hb, ha, fun p hp => ?_⟩
  exact k _ _ _ _ _ (Same.new (r.fresh hp)) (r.data hp) (rp_strs upd_same) q
theorem wm_join {a : Str} {ys : List Str} {Q : QD} (hl : (ys.map (·.length)).sum + ys.length * a.length ≤ 16777216) (q : Q (.s (.str (Txt.join a ys))) m) : WM K F B (rJoin K) (.s (.str a)) [.lst (ys.map fun y => .s (.str y))] m Q := fun Hb H vx vs R hB r hx hxs k => by
  obtain ⟨v, rfl, hv⟩ := rpL1 hxs
  unfold Rp at hx
  subst hx
  obtain ⟨p, rfl, h1⟩ := strs_rp hv
  exact ⟨a, p, ys, rfl, rfl, .inl (SqL.of (r.sub _ _ h1)), hl, k.here r rp_s q⟩
theorem wm_txt {g : Str → Str → Str} {a b : Str} {Q : QD} (ha : a.length ≤ sizeLine) (q : Q (.s (.str (g a b))) m) : WM K F B (rTxt g) (.s (.str a)) [.s (.str b)] m Q := fun Hb H vx vs R hB r hx hxs k => by
  obtain ⟨v, rfl, hv⟩ := rpL1 hxs
  unfold Rp at hx hv
  subst hx hv
  exact ⟨a, b, rfl, rfl, ha, k.here r rp_s q⟩
/-- xs.append(e), xs an owned list -/
theorem we_append {to te : TE} {Q : QD} (h : WE K F B to ρ m fun x m1 => ∃ a, x = .s (.ref a) ∧ (∃ xs, m1.own a = some (.lst xs)) ∧ WE K F B te ρ m1 fun y m2 => ∃ xs, m2.own a = some (.lst xs) ∧ xs.length < sizeLine ∧ Q (.s .non) { m2 with own := putM m2.own a (.lst (xs ++ [y])) }) :
    WE K F B (tBM K "list" rAppend to (tCons te tNil)) ρ m Q := fun Hb H σ R hB r hs k =>
  h Hb H σ _ hB r hs fun v H1 Hb1 x m1 e1 r1 hx q1 => by
    obtain ⟨a, rfl, ⟨xs0, ho0⟩, q⟩ := q1
    unfold Rp at hx
    subst hx
    obtain ⟨_, vs0, h0, _⟩ := r1.own _ _ ho0
    refine ⟨.inl ⟨rfl, _, SqL.of h0⟩, q Hb1 H1 σ _ (hB.trans e1) r1 (hs.mono e1) fun u H2 Hb2 y m2 e2 r2 hy q2 => ?_⟩
    obtain ⟨xs, ho, hl, q3⟩ := q2
    obtain ⟨_, vs, h1, h2⟩ := r2.own _ _ ho
    exact ⟨a, vs, u, rfl, rfl, h1, by rw [h2.length]; exact hl, k _ _ _ _ _ (e1.trans e2) (r2.change (mo' := .lst (xs ++ [y])) ho ⟨_, upd_same, h2.app (RpL.cons hy RpL.nil)⟩) rp_s q3⟩
/-- an owned list becomes data -/
theorem we_freeze {te : TE} {Q : QD} (h : WE K F B te ρ m fun x m1 => ∃ a xs, x = .s (.ref a) ∧ m1.own a = some (.lst xs) ∧ Q (.lst xs) { m1 with own := dropM m1.own a }) : WE K F B te ρ m Q := fun Hb H σ R hB r hs k =>
  h Hb H σ _ hB r hs fun v H1 Hb1 x m1 e1 r1 hx q1 => by
    obtain ⟨a, xs, rfl, ho, q⟩ := q1
    unfold Rp at hx
    subst hx
    obtain ⟨hn, vs, h1, h2⟩ := r1.own _ _ ho
    have e4 : Same Hb1 (upd Hb1 a (.lst vs)) := Same.new hn
    refine k _ _ _ (.lst xs) _ (e1.trans e4) (r1.freeze ho h1) ?_ q
    unfold Rp
    exact ⟨a, vs, rfl, upd_same, h2.mono e4⟩
end
end DD

/-! DText: texts of paths as lists of codes. -/
namespace DT
open PySem L2
open TL

/-- the pieces between bars -/
def pcs : List Nat → List (List Nat)
  | [] => [[]]
  | c :: r => if c = 47 then [] :: pcs r else (c :: (pcs r).headD []) :: (pcs r).tail
theorem pcs_bar (r : List Nat) : pcs (47 :: r) = [] :: pcs r := if_pos rfl
theorem pcs_cons {c : Nat} (r : List Nat) (h : c ≠ 47) : pcs (c :: r) = (c :: (pcs r).headD []) :: (pcs r).tail := if_neg h
theorem pcs_ne : ∀ l : List Nat, pcs l ≠ []
  | [] => by simp [pcs]
  | c :: r => by
    unfold pcs
    split <;> simp
theorem pcs_head (l : List Nat) : (pcs l).headD [] :: (pcs l).tail = pcs l := by
  cases h : pcs l with
  | nil => exact absurd h (pcs_ne l)
  | cons a b => rfl
theorem spl_pcs : ∀ (l acc : List Nat), spl [47] 0 acc l = (acc ++ (pcs l).headD []) :: (pcs l).tail
  | [], acc => by
    rw [spl_nil]
    simp [pcs]
  | c :: r, acc => by
    by_cases hc : c = 47
    · subst hc
      have hp : pre [47] (47 :: r) = true := by simp [pre]
      rw [spl_hit hp]
      unfold pcs
      rw [if_pos rfl]
      simp only [List.headD_cons, List.tail_cons, List.append_nil]
      have e := spl_pcs r []
      rw [List.nil_append, pcs_head] at e
      exact congrArg (acc :: ·) e
    · have hp : pre [47] (c :: r) = false := pre_of_head [] r hc
      rw [spl_miss hp, spl_pcs r, pcs_cons r hc]
      simp only [List.headD_cons, List.tail_cons, List.append_assoc, List.singleton_append]
def mk (l : List Nat) : Str := ⟨l.toArray⟩
theorem mk_inj {a b : List Nat} (h : mk a = mk b) : a = b := by
  have := congrArg (fun s : Str => s.cps.toList) h
  simpa [mk] using this
theorem tl_mk' (l : List Nat) : tl (mk l) = l := rfl
theorem mk_tl' (x : Str) : mk (tl x) = x := mk_tl x
def pieces (t : Str) : List Str := (pcs (tl t)).map mk
theorem split_eq (t : Str) : Txt.split t "/" = pieces t := by
  have h := split_spl t "/" (by decide +kernel) (kind_ok (by decide +kernel))
  have e : tl ("/" : Str) = [47] := by decide +kernel
  rw [e, spl_pcs, List.nil_append, pcs_head] at h
  apply map_tl_inj
  rw [h]
  unfold pieces
  rw [List.map_map]
  exact (List.map_id (pcs (tl t))).symm.trans (List.map_congr_left fun a _ => rfl)
theorem pcs_noslash : ∀ {l p : List Nat}, p ∈ pcs l → 47 ∉ p
  | [], p, h => by
    simp [pcs] at h
    subst h
    simp
  | c :: r, p, h => by
    unfold pcs at h
    split at h
    · rcases List.mem_cons.mp h with z | z
      · subst z
        simp
      · exact pcs_noslash z
    · rename_i hc
      rcases List.mem_cons.mp h with z | z
      · subst z
        intro q
        rcases List.mem_cons.mp q with z | z
        · exact hc z.symm
        · have hm : (pcs r).headD [] ∈ pcs r := by
            have e := pcs_head r
            rw [← e]
            exact List.mem_cons_self
          exact pcs_noslash hm z
      · have hm : p ∈ pcs r := by
          have e := pcs_head r
          rw [← e]
          exact List.mem_cons_of_mem _ z
        exact pcs_noslash hm
/-- bars between -/
def jn : List (List Nat) → List Nat
  | [] => []
  | [p] => p
  | p :: q :: r => p ++ 47 :: jn (q :: r)
theorem jn_pcs : ∀ l : List Nat, jn (pcs l) = l
  | [] => rfl
  | c :: r => by
    have ih := jn_pcs r
    have hd := pcs_head r
    unfold pcs
    split
    · rename_i hc
      subst hc
      cases h : pcs r with
      | nil => exact absurd h (pcs_ne r)
      | cons a b =>
        rw [h] at ih
        show [] ++ 47 :: jn (a :: b) = _
        rw [ih]
        rfl
    · cases h : pcs r with
      | nil => exact absurd h (pcs_ne r)
      | cons a b =>
        rw [h] at ih
        cases b with
        | nil =>
          show c :: a = c :: r
          rw [show a = r from ih]
        | cons b bs =>
          show (c :: a) ++ 47 :: jn (b :: bs) = c :: r
          rw [List.cons_append]
          exact congrArg (c :: ·) ih
theorem pcs_app : ∀ (a b : List Nat), 47 ∉ a → pcs (a ++ 47 :: b) = a :: pcs b
  | [], b, _ => by simp [pcs]
  | c :: a, b, h => by
    have hc : c ≠ 47 := fun z => h (z ▸ List.mem_cons_self)
    have ha : 47 ∉ a := fun z => h (List.mem_cons_of_mem _ z)
    rw [List.cons_append, pcs_cons _ hc, pcs_app a b ha]
    rfl
theorem pcs_one : ∀ (a : List Nat), 47 ∉ a → pcs a = [a]
  | [], _ => rfl
  | c :: a, h => by
    have hc : c ≠ 47 := fun z => h (z ▸ List.mem_cons_self)
    have ha : 47 ∉ a := fun z => h (List.mem_cons_of_mem _ z)
    rw [pcs_cons _ hc, pcs_one a ha]
    rfl
theorem pcs_cat : ∀ (a b : List Nat), pcs (a ++ 47 :: b) = pcs a ++ pcs b
  | [], b => by simp [pcs]
  | c :: a, b => by
    have ih := pcs_cat a b
    have hne := pcs_ne a
    show (if c = 47 then [] :: pcs (a ++ 47 :: b) else (c :: (pcs (a ++ 47 :: b)).headD []) :: (pcs (a ++ 47 :: b)).tail) = (if c = 47 then [] :: pcs a else (c :: (pcs a).headD []) :: (pcs a).tail) ++ pcs b
    rw [ih]
    split
    · rfl
    · cases h : pcs a with
      | nil => exact absurd h hne
      | cons x y => rfl
theorem pcs_jn : ∀ ps : List (List Nat), ps ≠ [] → (∀ p ∈ ps, 47 ∉ p) → pcs (jn ps) = ps
  | [], h, _ => absurd rfl h
  | [p], _, h => pcs_one p (h p List.mem_cons_self)
  | p :: q :: r, _, h => by
    show pcs (p ++ 47 :: jn (q :: r)) = _
    rw [pcs_app _ _ (h p List.mem_cons_self), pcs_jn (q :: r) (by simp) fun x hx => h x (List.mem_cons_of_mem _ hx)]

/-! ### names and paths -/
def letters : List Nat := tl ("abcdefghijklmnopqrstuvwxyz" : Str)
def isName (z : Str) : Bool := decide (1 ≤ z.length) && (decide (z.length ≤ 8) && (tl z).all fun c => decide (c ∈ letters))
def dotty (p : Str) : Bool := inV (.str p) [.str "", .str ".", .str ".."]
def isPath (z : Str) : Bool := !decide (z = "") && (pieces z).all fun p => dotty p || isName p
def steps (z : Str) : List Str := (pieces z).filter fun p => !decide (p = "")
def rooted (z : Str) : Bool := decide ((tl z).head? = some 47)
def lastP (z : Str) : Str := mk ((pcs (tl z)).getLastD [])
def ended (z : Str) : Bool := dotty (lastP z)
theorem pieces_ne (z : Str) : pieces z ≠ [] := by
  unfold pieces
  intro h
  exact pcs_ne _ (List.map_eq_nil_iff.mp h)
theorem dotty_iff (p : Str) : dotty p = (decide (p = "") || (decide (p = ".") || decide (p = ".."))) := by
  unfold dotty inV eqV
  simp only [List.any_cons, List.any_nil, Bool.or_false]
  have e : ∀ a b : Str, (a == b) = decide (b = a) := fun a b => by
    by_cases h : a = b
    · subst h
      simp
    · have h2 : ¬ b = a := fun z => h z.symm
      rw [decide_eq_false h2]
      exact beq_eq_false_iff_ne.mpr h
  rw [e, e, e]

/-! ### the last bars, the beginning -/
def tlLast (z : Str) : Option Nat := (tl z).getLast?
/-- without the empty ones at the end -/
def dropE (ps : List (List Nat)) : List (List Nat) := (ps.reverse.dropWhile fun p => p.isEmpty).reverse
def beginL (l : List Nat) : List Nat := jn (dropE (dropE (pcs l)).dropLast)
def begin (z : Str) : Str := if steps z = [] then z else if beginL (tl z) = [] then (if rooted z = true then ("/" : Str) else ("." : Str)) else mk (beginL (tl z))
end DT

/-! DLaw: what the laws' own defs share. -/
namespace DD
open PySem L2
open PySem.Spec PyProof.Rows

theorem le_line {n : Nat} (h : n ≤ 1000000) : n ≤ sizeLine := by
  rw [sizeLine_eq]
  omega
theorem lt_line {n : Nat} (h : n ≤ 1000000) : n < sizeLine := by
  rw [sizeLine_eq]
  omega
/-! ### the law and its stream -/
def spLaw (K : PySem.W.Frag) : Sp := fun vs H Q _ => ∃ (a : Addr) (ns : List Int), vs = [.ref a] ∧ SqL K H a (ns.map V.int) ∧ ns.length ≤ 63 ∧ ∀ H', Q (.bl true) H'
def spStart (K : PySem.W.Frag) : Sp := fun vs H Q _ => ∃ (a : Addr) (ns : List Int), vs = [.ref a] ∧ SqL K H a (ns.map V.int) ∧ ns.length ≤ 63 ∧
  ∀ c p, H c = none → upd H c (.lst (ns.map V.int)) p = none → Q (.ref p) (upd (upd H c (.lst (ns.map V.int))) p (.lst [.ref c, .int 0, .int 0, .int 11]))
section
variable {P : Program} {w : World} {K : PySem.W.Frag} {mg : Str → Option Value} {base : Heap} {B F Hb H : Hp} {m : Mem} {ρ : Env}
theorem we_start {E : XK} {ta : TA} {Q : QD} (h : WA K F B ta ρ m fun ds m1 => ∃ (a : Addr) (ns : List Int), ds = [.s (.ref a)] ∧ SqL K B a (ns.map V.int) ∧ ns.length ≤ 63 ∧
      ∀ c p : Addr, p ≠ c → m1.own c = none → m1.own p = none → Q (.s (.ref p)) { m1 with own := putM (putM m1.own c .cel) p (.stm c) }) : WE K F B (tCall (spStart K) [] E ta) ρ m Q := fun Hb H σ R hB r hs k =>
  h Hb H σ _ hB r hs fun vs H1 Hb1 ds m1 e1 r1 hx q1 => by
    obtain ⟨a, ns, rfl, hS, hl, q⟩ := q1
    have e : vs = [.ref a] := RpL.scal (vs := [.ref a]) hx
    subst e
    refine ⟨a, ns, rfl, (hB.trans (e1.trans r1.sub)).seq hS, hl, fun c p hc hp => ?_⟩
    have hpc : p ≠ c := fun z => by
      rw [z, upd_same] at hp
      cases hp
    have r2 : Rel K F Hb1 (upd H1 c (.lst (ns.map V.int))) { m1 with own := putM m1.own c .cel } := r1.owned (mo := .cel) hc ⟨ns, upd_same, hl⟩
    have r3 : Rel K F Hb1 (upd (upd H1 c (.lst (ns.map V.int))) p (.lst [.ref c, .int 0, .int 0, .int 11])) { m1 with own := putM (putM m1.own c .cel) p (.stm c) } :=
      r2.owned (mo := .stm c) hp ⟨0, 0, 11, upd_same, by decide, ⟨by decide, Int.natCast_nonneg _⟩, by decide, by decide⟩
    have hp1 : H1 p = none := by
      rw [upd_ne hpc] at hp
      exact hp
    exact k _ _ _ _ _ e1 r3 rp_s (q c p hpc (r1.free hc) (r1.free hp1))
/-- the law -/
theorem ok_lawD {CX : CXT} {x qual : Str} {st : Stmt} {f : Addr} {fd : FuncData} {N : List Str} {y : Str} {k : Nat} (F : Fun K x qual st f fd) (S : FnScope N [y] (defScope st))
    (hbody : ∀ (cdv : Value) (A : Around) (outer : List PySem.Env) (s : Shared) (H : Hp) (E : XK), Room k (A.deeper (envOfC qual (defScope st) s.heap.objs.size f cdv)) →
      ∃ t, PSs (cxOf CX P w K mg base N qual (defScope st) f cdv A outer s H E) (defBody st) t ∧ ∀ (a : Addr) (ns : List Int) (B : Hp), SqL K B a (ns.map V.int) → ns.length ≤ 63 →
        WS K (fun _ => none) B t (startD N [.s (.ref a)]) ⟨0, fun _ => none⟩ { nx := fun _ _ => False, rt := fun d _ => d = .s (.bl true) }) : FnOk P w K mg base CX (k + 1) f fd [y] (spLaw K) := by
  refine okC F S (fun vs H Q E h => by obtain ⟨a, ns, rfl, _⟩ := h; rfl) fun cdv A outer s H vs Q E hr h => ?_
  obtain ⟨a, ns, rfl, hS, hl, q⟩ := h
  obtain ⟨t, ht, hw⟩ := hbody cdv A outer s H E hr
  refine ⟨t, ht, hw a ns H hS hl H H _ _ (Same.refl _) ⟨Same.refl _, (fun _ _ z => nomatch z), (fun _ _ z => nomatch z), (fun _ _ z => nomatch z)⟩ (RpS.start (RpL.cons rp_s RpL.nil)) ⟨fun _ _ _ _ _ _ _ _ z => z.elim, fun v H' Hb' d m' e r hd z => ?_, fun _ _ _ _ _ _ _ _ z => z.elim, fun _ _ _ _ _ _ _ _ z => z.elim⟩⟩
  subst z
  unfold Rp at hd
  subst hd
  exact q _
/-- the stream has turned -/
theorem Rel.stream {p c : Addr} {s1 s2 s3 : Int} {ns : List Int} {H' : Hp} (r : Rel K F Hb H m) (hp : m.own p = some (.stm c)) (hc : m.own c = some .cel) (hpc : p ≠ c) (h1 : H' p = some (.lst [.ref c, .int s1, .int s2, .int s3])) (h2 : H' c = some (.lst (ns.map V.int)))
    (hk : ∀ b, b ≠ p → b ≠ c → H' b = H b) (ho : StOk s1 s2 s3 (m.cnt + 1)) (hn : CelOk ns) : Rel K F Hb H' { m with cnt := m.cnt + 1 } := by
  have np : ∀ b o, Hb b = some o → b ≠ p := fun b o e z => by
    rw [z, (r.own p _ hp).1] at e
    cases e
  have nc : ∀ b o, Hb b = some o → b ≠ c := fun b o e z => by
    rw [z, (r.own c _ hc).1] at e
    cases e
  refine ⟨fun b o e => ?_, fun b o e => ?_, fun b mo e => ?_, r.nt⟩
  · rw [hk b (np b o e) (nc b o e)]
    exact r.sub b o e
  · have z1 := ne_fr e (r.ownF hp)
    have z2 := ne_fr e (r.ownF hc)
    rw [hk b z1 z2]
    exact r.fr b o e
  · have e' : m.own b = some mo := e
    obtain ⟨q1, q2⟩ := r.own b mo e'
    refine ⟨q1, ?_⟩
    by_cases z1 : b = p
    · subst z1
      rw [hp] at e'
      cases e'
      exact ⟨s1, s2, s3, h1, ho⟩
    · by_cases z2 : b = c
      · subst z2
        rw [hc] at e'
        cases e'
        exact ⟨ns, h2, hn⟩
      · exact q2.mono (Same.refl _) (hk b z1 z2) (Nat.le_succ _)

/-! ### isinstance of built-in types, by several -/
def kitAnyB (a : String) : List String → Option Bool
  | [] => some false
  | b :: r => match kitB a b with
    | some true => some true
    | some false => kitAnyB a r
    | none => none
theorem kit_any {a : String} : ∀ {bs : List String} {r : Bool}, kitAnyB a bs = some r → PySem.W.kitAny K (.type a) (bs.map Value.type) = some r
  | [], r, h => h
  | b :: bs, r, h => by
    unfold kitAnyB at h
    rw [List.map_cons]
    unfold PySem.W.kitAny
    cases hq : kitB a b with
    | none =>
      rw [hq] at h
      cases h
    | some q =>
      rw [hq] at h
      rw [kit_ty hq]
      cases q with
      | true => exact h
      | false => exact kit_any h

/-! ### plain data -/
def SameOk : Nat → D → Prop
  | _, .s .non => True
  | _, .s (.bl _) => True
  | _, .s (.int _) => True
  | _, .s (.str _) => True
  | n + 1, .lst xs => xs.length ≤ 1000000 ∧ ∀ x ∈ xs, SameOk n x
  | n + 1, .tup xs => xs.length ≤ 1000000 ∧ ∀ x ∈ xs, SameOk n x
  | _, _ => False

/-! ### zip of lists or of tuples -/
theorem wi_zipL {ta : TA} {Q : List D → Mem → Prop} (h : WA K F B ta ρ m fun xs m1 => ∃ ds es, ((xs = [.lst ds, .lst es]) ∨ xs = [.tup ds, .tup es]) ∧ Q ((ds.zip es).map fun p => .tup [p.1, p.2]) m1) : WI K F B (RZ.iZipA K ta) ρ m Q := fun Hb H σ R hB r hs k =>
  h Hb H σ _ hB r hs fun vs H1 Hb1 xs m1 e1 r1 hx q1 => by
    obtain ⟨ds, es, hd, q⟩ := q1
    rcases hd with rfl | rfl
    · obtain ⟨v, v', rfl, hv, hv'⟩ := rpL2 hx
      unfold Rp at hv hv'
      obtain ⟨p, vs, rfl, h1, h2⟩ := hv
      obtain ⟨p', vs', rfl, h1', h2'⟩ := hv'
      have hl := h2.length
      have hl' := h2'.length
      refine ⟨p, p', vs, vs', rfl, .inl ⟨SqL.of (r1.sub _ _ h1), SqL.of (r1.sub _ _ h1'), k _ _ _ _ _ e1 r1 (fun i F Hb2 H2 m2 e2 r2 => ?_) q⟩⟩
      have hq : SqL K H2 p vs := SqL.of (r2.sub _ _ (e2 _ _ h1))
      have hq' : SqL K H2 p' vs' := SqL.of (r2.sub _ _ (e2 _ _ h1'))
      refine ⟨fun hi => ⟨vs, vs', hq, hq', by simp at hi; omega⟩, fun d hd => ?_⟩
      rw [List.getElem?_map] at hd
      cases hz : (ds.zip es)[i]? with
      | none =>
        rw [hz] at hd
        cases hd
      | some pr =>
        rw [hz] at hd
        cases hd
        obtain ⟨z1, z2⟩ := List.getElem?_zip_eq_some.mp hz
        obtain ⟨u, hu1, hu2⟩ := h2.get z1
        obtain ⟨u', hu1', hu2'⟩ := h2'.get z2
        refine ⟨⟨vs, vs', u, u', hq, hq', hu1, hu1'⟩, fun y H' hy => ?_⟩
        obtain ⟨T, z, z', rfl, hT, rfl, hz, hz'⟩ := hy
        have q1 := hz vs hq
        have q2 := hz' vs' hq'
        rw [hu1] at q1
        rw [hu1'] at q2
        cases q1
        cases q2
        exact new_pair r2 hT (hu2.mono e2) (hu2'.mono e2)
    · obtain ⟨v, v', rfl, hv, hv'⟩ := rpL2 hx
      unfold Rp at hv hv'
      obtain ⟨p, vs, rfl, h1, h2⟩ := hv
      obtain ⟨p', vs', rfl, h1', h2'⟩ := hv'
      have hl := h2.length
      have hl' := h2'.length
      refine ⟨p, p', vs, vs', rfl, .inr ⟨sameT r1.sub h1, sameT r1.sub h1', k _ _ _ _ _ e1 r1 (fun i F Hb2 H2 m2 e2 r2 => ?_) q⟩⟩
      have hq : SqT K H2 p vs := sameT r2.sub (sameT e2 h1)
      have hq' : SqT K H2 p' vs' := sameT r2.sub (sameT e2 h1')
      refine ⟨fun hi => ⟨vs, vs', hq, hq', by simp at hi; omega⟩, fun d hd => ?_⟩
      rw [List.getElem?_map] at hd
      cases hz : (ds.zip es)[i]? with
      | none =>
        rw [hz] at hd
        cases hd
      | some pr =>
        rw [hz] at hd
        cases hd
        obtain ⟨z1, z2⟩ := List.getElem?_zip_eq_some.mp hz
        obtain ⟨u, hu1, hu2⟩ := h2.get z1
        obtain ⟨u', hu1', hu2'⟩ := h2'.get z2
        refine ⟨⟨vs, vs', u, u', hq, hq', hu1, hu1'⟩, fun y H' hy => ?_⟩
        obtain ⟨T, z, z', rfl, hT, rfl, hz, hz'⟩ := hy
        have q1 := hz vs hq
        have q2 := hz' vs' hq'
        rw [hu1] at q1
        rw [hu1'] at q2
        cases q1
        cases q2
        exact new_pair r2 hT (hu2.mono e2) (hu2'.mono e2)
end
end DD

/-! DPath: bars at the end, the beginning of a path. -/
namespace DT
open PySem L2
open TL PySem.Builtin PySem.Builtin.Str

/-- without the bars at the end -/
def rst (l : List Nat) : List Nat := (l.reverse.dropWhile fun c => decide (c = 47)).reverse
theorem rst_nil : rst [] = [] := rfl
theorem rst_bar (l : List Nat) : rst (l ++ [47]) = rst l := by
  unfold rst
  rw [List.reverse_append]
  rfl
theorem rst_not {l : List Nat} {c : Nat} (h : c ≠ 47) : rst (l ++ [c]) = l ++ [c] := by
  unfold rst
  rw [List.reverse_append]
  show (List.dropWhile (fun c => decide (c = 47)) (c :: l.reverse)).reverse = _
  rw [List.dropWhile_cons_of_neg (by simpa using h)]
  simp
theorem dropE_nil : dropE [] = [] := rfl
theorem dropE_e (ps : List (List Nat)) : dropE (ps ++ [[]]) = dropE ps := by
  unfold dropE
  rw [List.reverse_append]
  rfl
theorem dropE_ne {ps : List (List Nat)} {p : List Nat} (h : p ≠ []) : dropE (ps ++ [p]) = ps ++ [p] := by
  unfold dropE
  rw [List.reverse_append]
  show (List.dropWhile (fun p => p.isEmpty) (p :: ps.reverse)).reverse = _
  rw [List.dropWhile_cons_of_neg (by simpa using h)]
  simp
theorem snocInd {α : Type} {P : List α → Prop} (h0 : P []) (h1 : ∀ l a, P l → P (l ++ [a])) : ∀ l, P l := fun l => by
  have key : ∀ n (l : List α), l.length = n → P l := fun n => by
    induction n with
    | zero =>
      intro l h
      rw [List.eq_nil_of_length_eq_zero h]
      exact h0
    | succ n ih =>
      intro l h
      have hne : l ≠ [] := fun z => by
        rw [z] at h
        cases h
      rw [← List.dropLast_concat_getLast hne]
      exact h1 _ _ (ih _ (by rw [List.length_dropLast]; omega))
  exact key l.length l rfl
theorem pcs_snoc {c : Nat} (hc : c ≠ 47) : ∀ l : List Nat, ∃ qs q, pcs (l ++ [c]) = qs ++ [q ++ [c]] ∧ pcs l = qs ++ [q]
  | [] => ⟨[], [], by simp [pcs, hc], rfl⟩
  | d :: l => by
    obtain ⟨qs, q, h1, h2⟩ := pcs_snoc hc l
    by_cases hd : d = 47
    · subst hd
      exact ⟨[] :: qs, q, by rw [List.cons_append, pcs_bar, h1]; rfl, by rw [pcs_bar, h2]; rfl⟩
    · rw [List.cons_append, pcs_cons _ hd, pcs_cons _ hd, h1, h2]
      cases qs with
      | nil => exact ⟨[], d :: q, rfl, rfl⟩
      | cons a as => exact ⟨(d :: a) :: as, q, rfl, rfl⟩
theorem jn_dropE (l : List Nat) : jn (dropE (pcs l)) = rst l := by
  refine snocInd (P := fun l => jn (dropE (pcs l)) = rst l) rfl (fun l c ih => ?_) l
  by_cases hc : c = 47
  · subst hc
    rw [pcs_cat l []]
    show jn (dropE (pcs l ++ [[]])) = _
    rw [dropE_e, rst_bar, ih]
  · obtain ⟨qs, q, h1, h2⟩ := pcs_snoc hc l
    rw [h1, dropE_ne (by simp), ← h1, jn_pcs, rst_not hc]
theorem rst_jn {ps : List (List Nat)} (h : ∀ p ∈ ps, 47 ∉ p) : rst (jn ps) = jn (dropE ps) := by
  by_cases h0 : ps = []
  · subst h0
    rfl
  · have e := jn_dropE (jn ps)
    rw [pcs_jn ps h0 h] at e
    exact e.symm
theorem jn_snoc {qs : List (List Nat)} {p : List Nat} : jn (qs ++ [p]) = if qs = [] then p else jn qs ++ 47 :: p := by
  induction qs with
  | nil => rfl
  | cons a as ih =>
    rw [if_neg (by simp)]
    cases as with
    | nil => rfl
    | cons b bs =>
      rw [if_neg (by simp)] at ih
      show a ++ 47 :: jn (b :: bs ++ [p]) = (a ++ 47 :: jn (b :: bs)) ++ 47 :: p
      rw [ih]
      simp
/-- the empty ones at the end -/
theorem dropE_cut (ps : List (List Nat)) : (dropE ps = [] ∧ ∀ p ∈ ps, p = []) ∨ ∃ qs p k, p ≠ [] ∧ ps = qs ++ p :: List.replicate k [] ∧ dropE ps = qs ++ [p] := by
  refine snocInd (P := fun ps => (dropE ps = [] ∧ ∀ p ∈ ps, p = []) ∨ ∃ qs p k, p ≠ [] ∧ ps = qs ++ p :: List.replicate k [] ∧ dropE ps = qs ++ [p]) (.inl ⟨rfl, by simp⟩) (fun ps p ih => ?_) ps
  by_cases hp : p = []
  · subst hp
    rcases ih with ⟨h1, h2⟩ | ⟨qs, q, k, h1, h2, h3⟩
    · refine .inl ⟨by rw [dropE_e, h1], fun p hp => ?_⟩
      rcases List.mem_append.mp hp with z | z
      · exact h2 p z
      · simpa using z
    · refine .inr ⟨qs, q, k + 1, h1, ?_, by rw [dropE_e, h3]⟩
      rw [List.replicate_succ', h2]
      simp
  · exact .inr ⟨ps, p, 0, hp, rfl, dropE_ne hp⟩
theorem mem_dropE {ps : List (List Nat)} {p : List Nat} (h : p ∈ dropE ps) : p ∈ ps := by
  rcases dropE_cut ps with ⟨h1, h2⟩ | ⟨qs, q, k, h1, h2, h3⟩
  · rw [h1] at h
    cases h
  · rw [h3] at h
    rw [h2]
    rcases List.mem_append.mp h with z | z
    · exact List.mem_append_left _ z
    · have e : p = q := by simpa using z
      subst e
      simp

/-! ### texts -/
theorem tl_strip {z : Str} : tl (Txt.rstripChars z "/") = rst (tl z) := by
  have e : ("/" : Str).cps = #[47] := by decide +kernel
  unfold Txt.rstripChars
  rw [PySem.W.stripBy_eq]
  show tl (strSub z 0 (z.length - (((tl z).drop 0).reverse.takeWhile ("/" : Str).cps.contains).length)) = _
  rw [tl_strSub, List.drop_zero, e, len_tl]
  have e2 : (fun c => (#[47] : Array Nat).contains c) = fun c => decide (c = 47) := by
    funext c
    simp
  show ((tl z).drop 0).take ((tl z).length - ((tl z).reverse.takeWhile (fun c => (#[47] : Array Nat).contains c)).length - 0) = _
  rw [e2]
  unfold rst
  generalize tl z = l
  generalize (fun c => decide (c = 47)) = f
  have h1 : l.reverse = l.reverse.takeWhile f ++ l.reverse.dropWhile f := (List.takeWhile_append_dropWhile).symm
  have h2 : l = (l.reverse.dropWhile f).reverse ++ (l.reverse.takeWhile f).reverse := by
    rw [← List.reverse_append, ← h1, List.reverse_reverse]
  have h3 : l.length = (l.reverse.dropWhile f).length + (l.reverse.takeWhile f).length := by
    have := congrArg List.length h2
    simpa using this
  rw [List.drop_zero]
  have h4 : l.length - (l.reverse.takeWhile f).length - 0 = (l.reverse.dropWhile f).reverse.length := by
    rw [List.length_reverse]
    omega
  rw [h4]
  have h5 : List.take (l.reverse.dropWhile f).reverse.length ((l.reverse.dropWhile f).reverse ++ (l.reverse.takeWhile f).reverse) = (l.reverse.dropWhile f).reverse := List.take_left
  rw [← h2] at h5
  exact h5
theorem tl_rmsuf {z y : Str} {a : List Nat} (h : tl z = a ++ tl y) (hy : tl y ≠ []) : tl (Txt.removesuffix z y) = a := by
  have hl : z.length = a.length + y.length := by
    rw [len_tl, len_tl y, h, List.length_append]
  have hy1 : 1 ≤ y.length := len1 hy
  have hs : subAt z y (z.length - y.length) = true := by
    rw [PySem.StrLaws.subAt_eq]
    rw [show z.length - y.length = a.length by omega]
    have e : z.cps.toList = a ++ tl y := h
    rw [e, List.drop_left, len_tl y, List.take_length]
    simp [tl]
  unfold Txt.removesuffix
  rw [hs, Bool.and_true, if_pos (decide_eq_true (show y.length ≤ z.length by omega))]
  show tl (if (z.length - y.length - 0 == z.length) = true then z else strSub z 0 (z.length - y.length)) = a
  rw [if_neg (by simp; omega)]
  rw [tl_strSub, h, List.drop_zero]
  rw [show z.length - y.length - 0 = a.length by omega]
  exact List.take_left
theorem tl_ext {x : Str} {l : List Nat} (h : tl x = l) : x = mk l := by
  rw [← h]
  exact (mk_tl x).symm
theorem steps_tl (z : Str) : (steps z) = ((pcs (tl z)).filter fun p => !p.isEmpty).map mk := by
  unfold steps pieces
  rw [List.filter_map]
  congr 1
  refine List.filter_congr fun p _ => ?_
  show (!decide (mk p = "")) = !p.isEmpty
  congr 1
  cases p with
  | nil => exact decide_eq_true (by decide +kernel)
  | cons a b =>
    refine decide_eq_false fun z => ?_
    have e : tl (mk (a :: b)) = tl ("" : Str) := congrArg tl z
    have e2 : tl ("" : Str) = [] := by decide +kernel
    rw [e2] at e
    cases e
theorem mk_nil : mk [] = ("" : Str) := by decide +kernel
theorem mk_eq_nil {l : List Nat} : mk l = ("" : Str) ↔ l = [] := by
  constructor
  · intro h
    rw [← mk_nil] at h
    exact mk_inj h
  · rintro rfl
    exact mk_nil
/-- a path that has steps: all ahead of the last, the last -/
theorem steps_cut (z : Str) : (steps z = []) ∨ ∃ qs p k, p ≠ [] ∧ pcs (tl z) = qs ++ p :: List.replicate k [] ∧ dropE (pcs (tl z)) = qs ++ [p] ∧ (steps z).getLast? = some (mk p) ∧ steps z ≠ [] := by
  rcases dropE_cut (pcs (tl z)) with ⟨h1, h2⟩ | ⟨qs, p, k, h1, h2, h3⟩
  · left
    rw [steps_tl]
    have e : (pcs (tl z)).filter (fun p => !p.isEmpty) = [] := by
      rw [List.filter_eq_nil_iff]
      intro p hp
      rw [h2 p hp]
      simp
    rw [e]
    rfl
  · right
    have e : steps z = ((qs.filter fun p => !p.isEmpty) ++ [p]).map mk := by
      rw [steps_tl, h2, List.filter_append]
      have e2 : (p :: List.replicate k []).filter (fun p => !p.isEmpty) = [p] := by
        rw [List.filter_cons_of_pos (by simpa using h1)]
        congr 1
        rw [List.filter_eq_nil_iff]
        intro q hq
        rw [(List.mem_replicate.mp hq).2]
        simp
      rw [e2]
    refine ⟨qs, p, k, h1, h2, h3, ?_, ?_⟩
    · rw [e, List.map_append]
      exact List.getLast?_concat
    · rw [e]
      simp
theorem pcs_suf {z : Str} {qs : List (List Nat)} {p : List Nat} (h : dropE (pcs (tl z)) = qs ++ [p]) : beginL (tl z) = jn (dropE qs) := by
  unfold beginL
  rw [h, List.dropLast_concat]
/-- what the program's head is -/
theorem head_eq {z : Str} {qs : List (List Nat)} {p : List Nat} (hp : p ≠ []) (h : dropE (pcs (tl z)) = qs ++ [p]) : Txt.rstripChars (Txt.removesuffix (Txt.rstripChars z "/") (mk p)) "/" = mk (beginL (tl z)) := by
  apply ext_tl
  have hm : ∀ q ∈ qs, 47 ∉ q := fun q hq => pcs_noslash (l := tl z) (mem_dropE (by rw [h]; exact List.mem_append_left _ hq))
  have e1 : tl (Txt.rstripChars z "/") = jn (qs ++ [p]) := by rw [tl_strip, ← jn_dropE, h]
  rw [tl_strip, pcs_suf h]
  rw [jn_snoc] at e1
  by_cases h0 : qs = []
  · subst h0
    rw [if_pos rfl] at e1
    rw [tl_rmsuf (a := []) e1 hp]
    rfl
  · rw [if_neg h0] at e1
    have e2 : jn qs ++ 47 :: p = (jn qs ++ [47]) ++ tl (mk p) := by
      show _ = (jn qs ++ [47]) ++ p
      simp
    rw [e2] at e1
    rw [tl_rmsuf e1 hp, rst_bar, rst_jn hm]
    rfl
/-- all pieces are allowed -/
def Good (l : List Nat) : Prop := ∀ p ∈ pcs l, (dotty (mk p) || isName (mk p)) = true
theorem isPath_iff {z : Str} : isPath z = true ↔ z ≠ "" ∧ Good (tl z) := by
  unfold isPath Good pieces
  rw [Bool.and_eq_true, List.all_map, List.all_eq_true]
  simp
theorem dotty_nil : dotty (mk []) = true := by decide +kernel
theorem good_cat {a b : List Nat} (ha : Good a) (hb : Good b) : Good (a ++ 47 :: b) := fun p hp => by
  rw [pcs_cat] at hp
  rcases List.mem_append.mp hp with z | z
  · exact ha p z
  · exact hb p z
theorem good_nil : Good [] := fun p hp => by
  have e : p = [] := by simpa [pcs] using hp
  subst e
  decide +kernel
theorem good_cut {a b : List Nat} (h : Good (a ++ 47 :: b)) : Good a ∧ Good b := by
  unfold Good at h ⊢
  rw [pcs_cat] at h
  exact ⟨fun p hp => h p (List.mem_append_left _ hp), fun p hp => h p (List.mem_append_right _ hp)⟩
theorem good_bars {a b : List Nat} (ha : Good a) (hb : Good b) : ∀ n : Nat, Good (a ++ List.replicate (n + 1) 47 ++ b)
  | 0 => by
    have := good_cat ha hb
    simpa using this
  | n + 1 => by
    have e : a ++ List.replicate (n + 1 + 1) 47 ++ b = a ++ List.replicate (n + 1) 47 ++ (47 :: b) := by
      rw [List.replicate_succ' (n := n + 1)]
      simp
    rw [e]
    exact good_bars ha (good_cat good_nil hb) n
theorem begin_path {z : Str} (h : isPath z = true) : isPath (begin z) = true := by
  unfold begin
  by_cases h1 : steps z = []
  · rw [if_pos h1]
    exact h
  · rw [if_neg h1]
    by_cases h2 : beginL (tl z) = []
    · rw [if_pos h2]
      split <;> decide +kernel
    · rw [if_neg h2]
      rcases steps_cut z with z1 | ⟨qs, p, k, q1, q2, q3, q4, q5⟩
      · exact absurd z1 h1
      · have hb := pcs_suf q3
        rw [hb] at h2 ⊢
        have hm : ∀ q ∈ dropE qs, q ∈ pcs (tl z) := fun q hq => by
          rw [q2]
          exact List.mem_append_left _ (mem_dropE hq)
        refine isPath_iff.mpr ⟨fun z => h2 (mk_eq_nil.mp z), fun q hq => ?_⟩
        rw [tl_mk', pcs_jn _ (fun z => h2 (by rw [z]; rfl)) fun q hq => pcs_noslash (hm q hq)] at hq
        exact (isPath_iff.mp h).2 q (hm q hq)
theorem jn_len : ∀ {ps : List (List Nat)}, (jn ps).length + 1 = (ps.map fun p => p.length + 1).sum ∨ ps = []
  | [] => .inr rfl
  | [p] => .inl (by simp [jn])
  | p :: q :: r => .inl (by
    rcases jn_len (ps := q :: r) with h | h
    · show (p ++ 47 :: jn (q :: r)).length + 1 = _
      rw [List.map_cons, List.sum_cons, ← h]
      simp
      omega
    · cases h)
theorem rst_len (l : List Nat) : (rst l).length ≤ l.length := by
  unfold rst
  rw [List.length_reverse]
  have z := (List.dropWhile_sublist (fun c => decide (c = 47)) (l := l.reverse)).length_le
  rw [List.length_reverse] at z
  exact z
end DT

/-! DDraw: the stream opened; lists compared with lists. -/
namespace DD
open PySem L2
open PySem.Spec PyProof.Rows

/-- what m describes m' describes too -/
def Conv (m m' : Mem) : Prop := ∀ (K : PySem.W.Frag) (F Hb H : Hp), Rel K F Hb H m → Rel K F Hb H m'
section
variable {K : PySem.W.Frag} {B F Hb H : Hp} {m : Mem} {ρ : Env}
theorem Conv.refl : Conv m m := fun _ _ _ _ r => r
theorem we_conv {te : TE} {Q Q' : QD} (h : WE K F B te ρ m Q) (hq : ∀ d m', Q d m' → ∃ m2, Conv m' m2 ∧ Q' d m2) : WE K F B te ρ m Q' := fun Hb H σ R hB r hs k =>
  h Hb H σ R hB r hs fun v H1 Hb1 d m1 e1 r1 hd q1 => by
    obtain ⟨m2, c, q⟩ := hq d m1 q1
    exact k v H1 Hb1 d m2 e1 (c _ _ _ _ r1) hd q
theorem we_pre {te : TE} {m2 : Mem} {Q : QD} (c : Conv m m2) (h : WE K F B te ρ m2 Q) : WE K F B te ρ m Q := fun Hb H σ R hB r hs k => h Hb H σ R hB (c _ _ _ _ r) hs k
theorem ws_pre {t : TS} {m2 : Mem} {E : DE} (c : Conv m m2) (h : WS K F B t ρ m2 E) : WS K F B t ρ m E := fun Hb H σ R hB r hs k => h Hb H σ R hB (c _ _ _ _ r) hs k
theorem wt_pre {t : TT} {m2 : Mem} {Q : Bool → Mem → Prop} (c : Conv m m2) (h : WT K F B t ρ m2 Q) : WT K F B t ρ m Q := fun Hb H σ R hB r hs k => h Hb H σ R hB (c _ _ _ _ r) hs k
theorem Conv.count {n : Nat} (h : m.cnt ≤ n) : Conv m { m with cnt := n } := fun _ _ _ _ r => r.count h
def opened (own : Addr → Option MO) (p c : Addr) (s1 s2 s3 : Int) (ns : List Int) : Addr → Option MO :=
  putM (putM own c (.lst ((ns.map V.int).map D.s))) p (.lst [.s (.ref c), .s (.int s1), .s (.int s2), .s (.int s3)])
theorem opened_p {own : Addr → Option MO} {p c : Addr} {s1 s2 s3 : Int} {ns : List Int} : opened own p c s1 s2 s3 ns p = some (.lst [.s (.ref c), .s (.int s1), .s (.int s2), .s (.int s3)]) := putM_same
theorem opened_c {own : Addr → Option MO} {p c : Addr} {s1 s2 s3 : Int} {ns : List Int} (h : p ≠ c) : opened own p c s1 s2 s3 ns c = some (.lst ((ns.map V.int).map D.s)) := by
  unfold opened
  rw [putM_ne (Ne.symm h)]
  exact putM_same
theorem put4 {own : Addr → Option MO} {p c : Addr} {s1 s2 s3 t1 t2 t3 : Int} {ns : List Int} : putM (opened own p c s1 s2 s3 ns) p (.lst [.s (.ref c), .s (.int t1), .s (.int t2), .s (.int t3)]) = opened own p c t1 t2 t3 ns := putM_put
theorem putc {own : Addr → Option MO} {p c : Addr} {s1 s2 s3 : Int} {ns ns' : List Int} (h : p ≠ c) : putM (opened own p c s1 s2 s3 ns) c (.lst ((ns'.map V.int).map D.s)) = opened own p c s1 s2 s3 ns' := by
  funext b
  unfold opened putM
  by_cases h1 : b = c
  · have h2 : ¬ b = p := fun z => h (z.symm.trans h1)
    rw [if_pos h1, if_neg h2, if_pos h1]
  · rw [if_neg h1, if_neg h1, if_neg h1]
/-- the stream is opened -/
theorem ws_open {t : TS} {E : DE} {p c : Addr} (hp : m.own p = some (.stm c)) (hc : m.own c = some .cel) (hpc : p ≠ c)
    (h : ∀ s1 s2 s3 ns, StOk s1 s2 s3 m.cnt → ns.length ≤ 63 → WS K F B t ρ { m with own := opened m.own p c s1 s2 s3 ns } E) : WS K F B t ρ m E := fun Hb H σ R hB r hs k => by
  obtain ⟨np, s1, s2, s3, h1, h2⟩ := r.own _ _ hp
  obtain ⟨nc, ns, h3, h4⟩ := r.own _ _ hc
  refine h s1 s2 s3 ns h2 h4 Hb H σ R hB ⟨r.sub, fun b o e => ⟨(r.fr b o e).1, (r.fr b o e).2.1, ?_⟩, fun b mo e => ?_, r.nt⟩ hs k
  · have z1 := ne_fr e (r.ownF hp)
    have z2 := ne_fr e (r.ownF hc)
    show opened m.own p c s1 s2 s3 ns b = none
    unfold opened
    rw [putM_ne z1, putM_ne z2]
    exact (r.fr b o e).2.2
  · have e' : opened m.own p c s1 s2 s3 ns b = some mo := e
    by_cases z1 : b = p
    · subst z1
      rw [opened_p] at e'
      cases e'
      exact ⟨np, _, h1, RpL.ofScal [.ref c, .int s1, .int s2, .int s3]⟩
    · by_cases z2 : b = c
      · subst z2
        rw [opened_c (Ne.symm z1)] at e'
        cases e'
        exact ⟨nc, _, h3, RpL.ofScal _⟩
      · unfold opened at e'
        rw [putM_ne z1, putM_ne z2] at e'
        exact r.own b mo e'
/-- .. and closed -/
theorem Conv.close {own : Addr → Option MO} {n n' : Nat} {p c : Addr} {s1 s2 s3 : Int} {ns : List Int} (hp : own p = some (.stm c)) (hc : own c = some .cel) (hpc : p ≠ c) (hn : n ≤ n') (hs : StOk s1 s2 s3 n') (hl : ns.length ≤ 63) :
    Conv ⟨n, opened own p c s1 s2 s3 ns⟩ ⟨n', own⟩ := fun K F Hb H r => by
  obtain ⟨np, vs, h1, h2⟩ := r.own p _ opened_p
  obtain ⟨nc, us, h3, h4⟩ := r.own c _ (opened_c hpc)
  have e1 : vs = [.ref c, .int s1, .int s2, .int s3] := RpL.scal (vs := [.ref c, .int s1, .int s2, .int s3]) h2
  have e2 := RpL.scal h4
  subst e1 e2
  refine ⟨r.sub, fun b o e => ⟨(r.fr b o e).1, (r.fr b o e).2.1, ?_⟩, fun b mo e => ?_, r.nt⟩
  · have z1 := ne_fr e (r.ownF opened_p)
    have z2 := ne_fr e (r.ownF (opened_c hpc))
    have z3 := (r.fr b o e).2.2
    have z4 : opened own p c s1 s2 s3 ns b = none := z3
    unfold opened at z4
    rw [putM_ne z1, putM_ne z2] at z4
    exact z4
  · have e' : own b = some mo := e
    by_cases z1 : b = p
    · subst z1
      rw [hp] at e'
      cases e'
      exact ⟨np, s1, s2, s3, h1, hs⟩
    · by_cases z2 : b = c
      · subst z2
        rw [hc] at e'
        cases e'
        exact ⟨nc, ns, h3, hl⟩
      · obtain ⟨q1, q2⟩ := r.own b mo (by show opened own p c s1 s2 s3 ns b = some mo; unfold opened; rw [putM_ne z1, putM_ne z2]; exact e')
        exact ⟨q1, q2.mono (Same.refl _) rfl hn⟩
/-- o[i] = e, o an owned list -/
theorem ws_setO {te to ti : TE} {E : DE} (h : WE K F B te ρ m fun y m1 => WE K F B to ρ m1 fun x m2 => WE K F B ti ρ m2 fun z m3 => ∃ a xs i j, x = .s (.ref a) ∧ z = .s (.int i) ∧ m3.own a = some (.lst xs) ∧ ixN xs.length i = some j ∧
      E.nx ρ { m3 with own := putM m3.own a (.lst (xs.set j y)) }) : WS K F B (tAsg te (gSub to ti rSetL)) ρ m E := fun Hb H σ R hB r hs k =>
  h Hb H σ _ hB r hs fun u H1 Hb1 y m1 e1 r1 hy q1 => q1 Hb1 H1 σ _ (hB.trans e1) r1 (hs.mono e1) fun o H2 Hb2 x m2 e2 r2 hx q2 =>
    q2 Hb2 H2 σ _ ((hB.trans e1).trans e2) r2 (hs.mono (e1.trans e2)) fun w H3 Hb3 z m3 e3 r3 hz q3 => by
      obtain ⟨a, xs, i, j, rfl, rfl, ho, hj, q⟩ := q3
      unfold Rp at hx hz
      obtain ⟨_, vs, h1, h2⟩ := r3.own _ _ ho
      refine ⟨a, vs, i, j, hx, hz, h1, by rw [h2.length]; exact hj, k.nx _ _ _ _ _ ((e1.trans e2).trans e3) (r3.change (mo' := .lst (xs.set j y)) ho ⟨_, upd_same, ?_⟩) (hs.mono ((e1.trans e2).trans e3)) q⟩
      exact h2.set j (hy.mono (e2.trans e3))
/-- xs.pop(0), xs an owned list -/
theorem we_pop0 {to ti : TE} {Q : QD} (h : WE K F B to ρ m fun x m1 => ∃ a, x = .s (.ref a) ∧ (∃ xs, m1.own a = some (.lst xs)) ∧ WE K F B ti ρ m1 fun z m2 => z = .s (.int 0) ∧ ∃ y ys, m2.own a = some (.lst (y :: ys)) ∧ Q y { m2 with own := putM m2.own a (.lst ys) }) :
    WE K F B (tBM K "list" rPopAt to (tCons ti tNil)) ρ m Q := fun Hb H σ R hB r hs k =>
  h Hb H σ _ hB r hs fun v H1 Hb1 x m1 e1 r1 hx q1 => by
    obtain ⟨a, rfl, ⟨xs0, ho0⟩, q⟩ := q1
    unfold Rp at hx
    subst hx
    obtain ⟨_, vs0, h0, _⟩ := r1.own _ _ ho0
    refine ⟨.inl ⟨rfl, _, SqL.of h0⟩, q Hb1 H1 σ _ (hB.trans e1) r1 (hs.mono e1) fun u H2 Hb2 z m2 e2 r2 hz q2 => ?_⟩
    obtain ⟨rfl, y, ys, ho, q3⟩ := q2
    unfold Rp at hz
    subst hz
    obtain ⟨_, vs, h1, h2⟩ := r2.own _ _ ho
    unfold RpL at h2
    obtain ⟨v0, vr, rfl, h3, h4⟩ := h2
    have hk : seqIndex? 0 (v0 :: vr).length = some 0 := by
      unfold seqIndex?
      simp
    refine ⟨a, v0 :: vr, 0, 0, v0, rfl, rfl, h1, by decide, by decide, hk, rfl, ?_⟩
    exact k _ _ _ _ _ (e1.trans e2) (r2.change (mo' := .lst ys) ho ⟨vr, upd_same, h4⟩) (h3) q3
/-- an owned list against a list -/
theorem wo_neO {a : Addr} {xs : List D} {y : D} {ps : List PyData} {b : PyData} {Q : QD} (ho : m.own a = some (.lst xs)) (ha : pyL xs = some ps) (hb : pyD y = some b) (sa : SeqAt.shaped (.list ps) = true) (sb : SeqAt.shaped b = true) (q : Q (.s (.bl (!PyData.eqv (.list ps) b))) m) : WO K F B (rNeA K) (.s (.ref a)) y m Q := fun Hb H vx vy R hB r hx hy k => by
  unfold Rp at hx
  subst hx
  obtain ⟨_, vs, h1, h2⟩ := r.own _ _ ho
  exact .inr ⟨_, b, .lst (SqL.of h1) (pyL_dp xs vs ps ha h2 r.sub), pyD_dp y vy b hb hy r.sub, sa, sb, k.here r rp_s q⟩
theorem pyL_ints : ∀ ns : List Int, pyL ((ns.map V.int).map D.s) = some (ns.map PyData.int)
  | [] => by simp [pyL]
  | n :: ns => by
    have ih := pyL_ints ns
    rw [List.map_cons, List.map_cons]
    unfold pyL
    rw [ih]
    rfl
theorem pyL_strs : ∀ zs : List Str, pyL (zs.map fun z => D.s (.str z)) = some (zs.map PyData.str)
  | [] => by simp [pyL]
  | z :: zs => by
    have ih := pyL_strs zs
    rw [List.map_cons]
    unfold pyL
    rw [ih]
    rfl
theorem shp_ints : ∀ ns : List Int, PyData.canLayAll0 (ns.map PyData.int) = true ∧ PyData.depthAll (ns.map PyData.int) = 0
  | [] => ⟨rfl, rfl⟩
  | n :: ns => by
    obtain ⟨h1, h2⟩ := shp_ints ns
    exact ⟨by rw [List.map_cons]; unfold PyData.canLayAll0; rw [h1]; rfl, by rw [List.map_cons]; unfold PyData.depthAll; rw [h2]; rfl⟩
theorem shp_strs : ∀ {zs : List Str}, (∀ z ∈ zs, PyData.strOk z = true) → PyData.canLayAll0 (zs.map PyData.str) = true ∧ PyData.depthAll (zs.map PyData.str) = 0
  | [], _ => ⟨rfl, rfl⟩
  | z :: zs, h => by
    obtain ⟨h1, h2⟩ := shp_strs (zs := zs) fun y hy => h y (List.mem_cons_of_mem _ hy)
    exact ⟨by rw [List.map_cons]; unfold PyData.canLayAll0; rw [h1]; unfold PyData.canLay0; rw [h z List.mem_cons_self]; rfl, by rw [List.map_cons]; unfold PyData.depthAll; rw [h2]; rfl⟩
theorem shaped_ints (ns : List Int) : SeqAt.shaped (.list (ns.map PyData.int)) = true := by
  obtain ⟨h1, h2⟩ := shp_ints ns
  unfold SeqAt.shaped PyData.canLay0 PyData.depth
  rw [h1, h2]
  rfl
theorem shaped_strs {zs : List Str} (h : ∀ z ∈ zs, PyData.strOk z = true) : SeqAt.shaped (.list (zs.map PyData.str)) = true := by
  obtain ⟨h1, h2⟩ := shp_strs h
  unfold SeqAt.shaped PyData.canLay0 PyData.depth
  rw [h1, h2]
  rfl
theorem eqv_nil (ps : List PyData) : PyData.eqv (.list ps) (.list []) = ps.isEmpty := by
  cases ps <;> rfl
/-- a list of numbers, of texts, and the empty list -/
theorem wo_neNilS {zs : List Str} {Q : QD} (h : ∀ z ∈ zs, PyData.strOk z = true) (q : Q (.s (.bl (!decide (zs = [])))) m) : WO K F B (rNeA K) (.lst (zs.map fun z => .s (.str z))) (.lst []) m Q := by
  refine wo_neD (a := .list (zs.map PyData.str)) (b := .list []) (by unfold pyD; rw [pyL_strs]; rfl) (by simp [pyD, pyL]) (shaped_strs h) (by decide) ?_
  rw [eqv_nil]
  cases zs with
  | nil => exact q
  | cons a b => exact q
theorem wo_eqNilI {ns : List Int} {Q : QD} (q : Q (.s (.bl (decide (ns = [])))) m) : WO K F B (rEqA K) (.lst ((ns.map V.int).map D.s)) (.lst []) m Q := by
  refine wo_eqD (a := .list (ns.map PyData.int)) (b := .list []) (by unfold pyD; rw [pyL_ints]; rfl) (by simp [pyD, pyL]) (shaped_ints ns) (by decide) ?_
  rw [eqv_nil]
  cases ns with
  | nil => exact q
  | cons a b => exact q
theorem wo_neNilO {a : Addr} {ns : List Int} {Q : QD} (ho : m.own a = some (.lst ((ns.map V.int).map D.s))) (q : Q (.s (.bl (!decide (ns = [])))) m) : WO K F B (rNeA K) (.s (.ref a)) (.lst []) m Q := by
  refine wo_neO ho (pyL_ints ns) (b := .list []) (by simp [pyD, pyL]) (shaped_ints ns) (by decide) ?_
  rw [eqv_nil]
  cases ns with
  | nil => exact q
  | cons a b => exact q
theorem eqvAll_strs : ∀ (xs ys : List Str), PyData.eqvAll (xs.map PyData.str) (ys.map PyData.str) = decide (xs = ys)
  | [], [] => rfl
  | [], _ :: _ => rfl
  | _ :: _, [] => rfl
  | x :: xs, y :: ys => by
    rw [List.map_cons, List.map_cons]
    unfold PyData.eqvAll
    rw [eqvAll_strs xs ys]
    unfold PyData.eqv
    rw [Bool.eq_iff_iff]
    simp
theorem wo_neStrs {xs ys : List Str} {Q : QD} (h : ∀ z ∈ xs, PyData.strOk z = true) (h' : ∀ z ∈ ys, PyData.strOk z = true) (q : Q (.s (.bl (!decide (xs = ys)))) m) : WO K F B (rNeA K) (.lst (xs.map fun z => .s (.str z))) (.lst (ys.map fun z => .s (.str z))) m Q := by
  refine wo_neD (a := .list (xs.map PyData.str)) (b := .list (ys.map PyData.str)) (by unfold pyD; rw [pyL_strs]; rfl) (by unfold pyD; rw [pyL_strs]; rfl) (shaped_strs h) (shaped_strs h') ?_
  unfold PyData.eqv
  rw [eqvAll_strs]
  exact q
theorem wo_eqStrs {xs ys : List Str} {Q : QD} (h : ∀ z ∈ xs, PyData.strOk z = true) (h' : ∀ z ∈ ys, PyData.strOk z = true) (q : Q (.s (.bl (decide (xs = ys)))) m) : WO K F B (rEqA K) (.lst (xs.map fun z => .s (.str z))) (.lst (ys.map fun z => .s (.str z))) m Q := by
  refine wo_eqD (a := .list (xs.map PyData.str)) (b := .list (ys.map PyData.str)) (by unfold pyD; rw [pyL_strs]; rfl) (by unfold pyD; rw [pyL_strs]; rfl) (shaped_strs h) (shaped_strs h') ?_
  unfold PyData.eqv
  rw [eqvAll_strs]
  exact q
end
end DD
namespace DT
open PySem L2 TL
theorem strOk_of {z : Str} (h : ∀ c ∈ tl z, c < 128) : PyData.strOk z = true := by
  unfold PyData.strOk
  simp only [Array.all_eq_true', decide_eq_true_eq]
  intro c hc
  have := h c (by simpa [tl] using hc)
  show c < 1114112
  omega
theorem letters_lt : letters.all (fun c => decide (97 ≤ c ∧ c < 123)) = true := by decide +kernel
theorem name_lt {z : Str} (h : isName z = true) : ∀ c ∈ tl z, 97 ≤ c ∧ c < 123 := fun c hc => by
  unfold isName at h
  simp only [Bool.and_eq_true, List.all_eq_true, decide_eq_true_eq] at h
  exact of_decide_eq_true (List.all_eq_true.mp letters_lt c (h.2.2 c hc))
theorem dotty_lt {z : Str} (h : dotty z = true) : ∀ c ∈ tl z, c = 46 := by
  rw [dotty_iff] at h
  simp only [Bool.or_eq_true, decide_eq_true_eq] at h
  rcases h with rfl | rfl | rfl
  · have e : tl ("" : Str) = [] := by decide +kernel
    intro c hc
    rw [e] at hc
    cases hc
  · have e : tl ("." : Str) = [46] := by decide +kernel
    intro c hc
    rw [e] at hc
    simpa using hc
  · have e : tl (".." : Str) = [46, 46] := by decide +kernel
    intro c hc
    rw [e] at hc
    simpa using hc
theorem mem_pcs : ∀ {l : List Nat} {c : Nat}, c ∈ l → c = 47 ∨ ∃ p ∈ pcs l, c ∈ p
  | d :: l, c, h => by
    by_cases hd : d = 47
    · subst hd
      rw [pcs_bar]
      rcases List.mem_cons.mp h with z | z
      · exact .inl z
      · rcases mem_pcs z with z | ⟨p, h1, h2⟩
        · exact .inl z
        · exact .inr ⟨p, List.mem_cons_of_mem _ h1, h2⟩
    · rw [pcs_cons _ hd]
      rcases List.mem_cons.mp h with z | z
      · subst z
        exact .inr ⟨_, List.mem_cons_self, List.mem_cons_self⟩
      · rcases mem_pcs z with z | ⟨p, h1, h2⟩
        · exact .inl z
        · have e := pcs_head l
          rw [← e] at h1
          rcases List.mem_cons.mp h1 with z | z
          · refine .inr ⟨_, List.mem_cons_self, List.mem_cons_of_mem _ ?_⟩
            rw [← z]
            exact h2
          · exact .inr ⟨p, List.mem_cons_of_mem _ z, h2⟩
theorem piece_lt {p : Str} (h : (dotty p || isName p) = true) : ∀ c ∈ tl p, c < 128 := fun c hc => by
  rcases (Bool.or_eq_true _ _).mp h with z | z
  · rw [dotty_lt z c hc]
    decide
  · have := name_lt z c hc
    omega
theorem path_lt {z : Str} (h : isPath z = true) : ∀ c ∈ tl z, c < 128 := fun c hc => by
  rcases mem_pcs hc with q | ⟨p, h1, h2⟩
  · rw [q]
    decide
  · exact piece_lt ((isPath_iff.mp h).2 p h1) c h2
theorem path_ok {z : Str} (h : isPath z = true) : PyData.strOk z = true := strOk_of (path_lt h)
theorem steps_ok {z : Str} (h : isPath z = true) : ∀ p ∈ steps z, PyData.strOk p = true := fun p hp => by
  unfold steps pieces at hp
  obtain ⟨q, hq, rfl⟩ := List.mem_map.mp (List.mem_filter.mp hp).1
  exact strOk_of (piece_lt ((isPath_iff.mp h).2 q hq))
theorem name_ok {z : Str} (h : isName z = true) : PyData.strOk z = true := strOk_of fun c hc => by
  have := name_lt h c hc
  omega
theorem name_bar {z : Str} (h : isName z = true) : 47 ∉ tl z := fun hc => by
  have := name_lt h 47 hc
  omega
end DT

/-! DOwn: operators of one's own classes, over data. -/
namespace DD
open PySem L2
open PySem.Spec PyProof.Rows
/-- an object of the class C, data or owned -/
def ObjD (m : Mem) (C : Addr) : D → Prop
  | .ins C' _ _ => C' = C
  | .s (.ref a) => ∃ ns ds, m.own a = some (.ins C ns ds)
  | _ => False
section
variable {K : PySem.W.Frag} {B F Hb H : Hp} {m : Mem} {ρ : Env} {C : Addr} {φ : Phi} {E : XK} {X : XD}
theorem ObjD.at {x : D} {v : V} (q : ObjD m C x) (r : Rel K F Hb H m) (hx : Rp K Hb x v) : ∃ a dx fs, v = .ref a ∧ H a = some (.ins C dx fs) := by
  cases x with
  | ins C' ns ds =>
    have e : C' = C := q
    subst e
    unfold Rp at hx
    obtain ⟨p, dx, vs, rfl, h1, h2, h3⟩ := hx
    exact ⟨p, dx, _, rfl, r.sub _ _ h1⟩
  | s v' =>
    cases v' with
    | ref a =>
      obtain ⟨ns, ds, ho⟩ := q
      unfold Rp at hx
      subst hx
      obtain ⟨_, dx, vs, h1, h2, h3⟩ := r.own _ _ ho
      exact ⟨a, dx, _, rfl, h1⟩
    | _ => exact q.elim
  | _ => exact q.elim
theorem wc_lenO {x : D} {Q : QD} (hE : OkX K F B X E) (hx : ObjD m C x) (h : φ [x] m (fun d m' => ∃ n : Int, d = .s (.int n) ∧ 0 ≤ n ∧ n < 2 ^ 63 ∧ Q (.s (.int n)) m') X) : WC K F B (HO1.rLenO C (spOf K φ) E) [x] m Q := fun Hb H vs R hB r hv k => by
  obtain ⟨v, rfl, hv1⟩ := rpL1 hv
  obtain ⟨a, dx, fs, rfl, ha⟩ := hx.at r hv1
  refine ⟨a, dx, fs, rfl, ha, _, m, F, Hb, _, X, hv, r, h, fun w H' Hb' d m' e r' hd q => ?_, hE.mono hB⟩
  obtain ⟨n, rfl, h0, h1, q⟩ := q
  unfold Rp at hd
  exact ⟨n, hd, h0, h1, k _ _ _ _ _ e r' rp_s q⟩
theorem wo_binO {x y : D} {Q : QD} (hE : OkX K F B X E) (hx : ObjD m C x) (hy : ObjD m C y) (h : φ [x, y] m Q X) : WO K F B (HO1.rBinO C (spOf K φ) E) x y m Q := fun Hb H vx vy R hB r hvx hvy k => by
  obtain ⟨a, dx, fs, rfl, ha⟩ := hx.at r hvx
  obtain ⟨b, dy, gs, rfl, hb⟩ := hy.at r hvy
  exact ⟨a, b, dx, dy, fs, gs, rfl, rfl, ha, hb, _, m, F, Hb, Q, X, RpL.cons hvx (RpL.cons hvy RpL.nil), r, h, k, hE.mono hB⟩
theorem wo_inO {neg : Bool} {x y : D} {Q : QD} (hE : OkX K F B X E) (hy : ObjD m C y) (h : φ [y, x] m (fun d m' => ∃ b, d = .s (.bl b) ∧ Q (.s (.bl (if neg then !b else b))) m') X) : WO K F B (HO1.rInO C (spOf K φ) E neg) x y m Q := fun Hb H vx vy R hB r hvx hvy k => by
  obtain ⟨a, dx, fs, rfl, ha⟩ := hy.at r hvy
  refine ⟨a, dx, fs, rfl, ha, _, m, F, Hb, _, X, RpL.cons hvy (RpL.cons hvx RpL.nil), r, h, fun w H' Hb' d m' e r' hd q => ?_, hE.mono hB⟩
  obtain ⟨b, rfl, q⟩ := q
  unfold Rp at hd
  exact ⟨b, hd, k _ _ _ _ _ e r' rp_s q⟩
theorem wo_cmpO {x y : D} {t : Value} {Q : QD} (hE : OkX K F B X E) (hx : ObjD m C x) (hy : TyD K m y t) (hn : PySem.W.notFirst K C t = true) (h : φ [x, y] m Q X) : WO K F B (HO1.rCmpO K C (spOf K φ) E) x y m Q := fun Hb H vx vy R hB r hvx hvy k => by
  obtain ⟨a, dx, fs, rfl, ha⟩ := hx.at r hvx
  exact ⟨a, dx, fs, rfl, ha, ⟨t, hy.at r hvy, hn⟩, _, m, F, Hb, Q, X, RpL.cons hvx (RpL.cons hvy RpL.nil), r, h, k, hE.mono hB⟩
theorem wo_neOwn {x y : D} {t : Value} {Q : QD} (hE : OkX K F B X E) (hx : ObjD m C x) (hy : TyD K m y t) (hn : PySem.W.notFirst K C t = true) (h : φ [x, y] m (fun d m' => ∃ b, d = .s (.bl b) ∧ Q (.s (.bl (!b))) m') X) : WO K F B (HO1.rNeO K C (spOf K φ) E) x y m Q := fun Hb H vx vy R hB r hvx hvy k => by
  obtain ⟨a, dx, fs, rfl, ha⟩ := hx.at r hvx
  refine ⟨a, dx, fs, rfl, ha, ⟨t, hy.at r hvy, hn⟩, _, m, F, Hb, _, X, RpL.cons hvx (RpL.cons hvy RpL.nil), r, h, fun w H' Hb' d m' e r' hd q => ?_, hE.mono hB⟩
  obtain ⟨b, rfl, q⟩ := q
  unfold Rp at hd
  exact ⟨b, hd, k _ _ _ _ _ e r' rp_s q⟩
/-- the item at the end -/
theorem atI_last {α : Type} {xs : List α} {d : α} (h : xs.getLast? = some d) : atI xs (-1) = some d := by
  have hne : xs ≠ [] := fun z => by
    rw [z] at h
    cases h
  have hl : 0 < xs.length := List.length_pos_iff.mpr hne
  rw [List.getLast?_eq_getElem?] at h
  unfold atI ixN
  rw [if_neg (by decide), if_pos (by omega)]
  show xs[(-1 + (xs.length : Int)).toNat]? = some d
  rw [show (-1 + (xs.length : Int)).toNat = xs.length - 1 by omega]
  exact h
theorem atI_zero {α : Type} {xs : List α} {d : α} (h : xs.head? = some d) : atI xs 0 = some d := by
  cases xs with
  | nil => cases h
  | cons a as =>
    cases h
    unfold atI ixN
    rw [if_pos (by decide), if_pos (by simp)]
    rfl
theorem atI_nat {α : Type} {xs : List α} {i : Nat} {d : α} (h : xs[i]? = some d) : atI xs (i : Int) = some d := by
  have hi : i < xs.length := (List.getElem?_eq_some_iff.mp h).1
  unfold atI ixN
  rw [if_pos (by omega), if_pos (by omega)]
  show xs[(i : Int).toNat]? = some d
  rw [Int.toNat_natCast]
  exact h
theorem atI_int {α : Type} {xs : List α} {i : Int} (h0 : 0 ≤ i) (h1 : i < xs.length) : ∃ d, atI xs i = some d ∧ d ∈ xs := by
  have hi : i.toNat < xs.length := by omega
  refine ⟨xs[i.toNat], ?_, List.getElem_mem _⟩
  unfold atI ixN
  rw [if_pos h0, if_pos h1]
  exact List.getElem?_eq_getElem hi
/-- a cut between two statements -/
theorem ws_seqI {t u : TS} {E : DE} (I : DD.Env → Mem → Prop) (h1 : WS K F B t ρ m { E with nx := I }) (h2 : ∀ ρ1 m1, I ρ1 m1 → WS K F B u ρ1 m1 E) : WS K F B (tSeq t u) ρ m E :=
  ws_seq (ws_imp h1 (fun ρ1 m1 q => h2 ρ1 m1 q) (fun _ _ q => q) (fun _ _ q => q) (fun _ _ q => q))
/-- an item of a list, a tuple or a text -/
theorem wo_ixP {ns : List Str} {i : Int} {d : D} {Q : QD} (h : atI ((ns.map V.str).map D.s) i = some d) (q : Q d m) : WO K F B (rIx K) (.pl ns) (.s (.int i)) m Q := fun Hb H vx vy R hB r hx hy k => by
  refine wo_ixT h q Hb H vx vy R hB r ?_ hy k
  unfold Rp at hx ⊢
  obtain ⟨p, rfl, h2⟩ := hx
  exact ⟨p, _, rfl, SqT.of h2, RpL.ofScal _⟩
theorem wo_ixSeq {x : D} {xs : List D} {i : Int} {d : D} {Q : QD} (hs : seqD x = some xs) (hl : xs.length ≤ 1000000) (h : atI xs i = some d) (q : Q d m) : WO K F B (rIx K) x (.s (.int i)) m Q := by
  cases x with
  | lst ys =>
    cases hs
    exact wo_ixL h q
  | tup ys =>
    cases hs
    exact wo_ixT h q
  | pl ns =>
    cases hs
    exact wo_ixP h q
  | s w =>
    cases w with
    | str t =>
      cases hs
      unfold atI at h
      rw [chrs_length] at h hl
      cases hj : ixN t.length i with
      | none =>
        rw [hj] at h
        cases h
      | some j =>
        rw [hj] at h
        have h' : (chrs t)[j]? = some d := h
        unfold chrs at h'
        rw [List.getElem?_map] at h'
        cases hc : t.cps.toList[j]? with
        | none =>
          rw [hc] at h'
          cases h'
        | some c =>
          rw [hc] at h'
          cases h'
          refine wo_ixS (le_line hl) (c := c) ?_ q
          unfold atI
          rw [show t.cps.toList.length = t.length from (TL.len_tl t).symm, hj]
          exact hc
    | _ => cases hs
  | _ => cases hs
theorem lenD_seq {x : D} {xs : List D} (hs : seqD x = some xs) (hl : xs.length ≤ 1000000) : lenD m x xs.length := by
  cases x with
  | lst ys =>
    cases hs
    rfl
  | tup ys =>
    cases hs
    rfl
  | pl ns =>
    cases hs
    show _ = _
    simp
  | s w =>
    cases w with
    | str t =>
      cases hs
      rw [chrs_length] at hl ⊢
      exact ⟨le_line hl, rfl⟩
    | _ => cases hs
  | _ => cases hs
theorem zip_self : ∀ {xs : List D} {p : D × D}, p ∈ xs.zip xs → p.1 = p.2 ∧ p.1 ∈ xs
  | [], p, h => by cases h
  | x :: xs, p, h => by
    rw [List.zip_cons_cons] at h
    rcases List.mem_cons.mp h with z | z
    · subst z
      exact ⟨rfl, List.mem_cons_self⟩
    · obtain ⟨z1, z2⟩ := zip_self z
      exact ⟨z1, List.mem_cons_of_mem _ z2⟩
theorem len_le_of_sub {α : Type} [DecidableEq α] : ∀ {xs ys : List α}, xs.Nodup → (∀ x ∈ xs, x ∈ ys) → xs.length ≤ ys.length
  | [], ys, _, _ => Nat.zero_le _
  | x :: xs, ys, hn, hs => by
    have hx := hs x List.mem_cons_self
    obtain ⟨h1, h2⟩ := List.nodup_cons.mp hn
    have ih := len_le_of_sub (xs := xs) (ys := ys.erase x) h2 fun y hy => by
      have hne : y ≠ x := fun z => h1 (z ▸ hy)
      exact (List.mem_erase_of_ne hne).mpr (hs y (List.mem_cons_of_mem _ hy))
    rw [List.length_erase_of_mem hx] at ih
    have := List.length_pos_of_mem hx
    simp only [List.length_cons]
    omega
end
end DD
namespace DT
open PySem L2 TL PySem.StrLaws
theorem tl_emp : tl Str.empty = [] := rfl
theorem tl_join0 : ∀ zs : List Str, tl (Txt.join "" zs) = (zs.map tl).flatten := fun zs => by
  have e0 : tl ("" : Str) = [] := by decide +kernel
  show tl (Builtin.Str.glued "" zs) = _
  rw [glued_eq_join]
  induction zs with
  | nil => rfl
  | cons z zs ih =>
    cases zs with
    | nil => simp [Str.join]
    | cons y ys =>
      show tl (z ++ "" ++ Str.join "" (y :: ys)) = _
      rw [tl_append, tl_append, e0, ih]
      simp
theorem tl_joinB : ∀ ps : List (List Nat), tl (Txt.join "/" (ps.map mk)) = jn ps := fun ps => by
  have e0 : tl ("/" : Str) = [47] := by decide +kernel
  show tl (Builtin.Str.glued "/" (ps.map mk)) = _
  rw [glued_eq_join]
  induction ps with
  | nil => rfl
  | cons z zs ih =>
    cases zs with
    | nil => rfl
    | cons y ys =>
      show tl (mk z ++ "/" ++ Str.join "/" ((y :: ys).map mk)) = _
      rw [tl_append, tl_append, e0, ih]
      show z ++ [47] ++ _ = z ++ 47 :: _
      simp
end DT

/-! DKw: defs with defaults, calls by keywords, pop, a constant tuple. -/
namespace DD
open PySem L2
open PySem.Spec PyProof.Rows
section
variable {P : Program} {w : World} {K : PySem.W.Frag} {mg : Str → Option Value} {base : Heap} {B F Hb H : Hp} {m : Mem} {ρ : DD.Env}
theorem funD_mk {x qual : Str} {st : Stmt} {f T : Addr} {oc ot : Value} {od an odT : Option Addr} {osl slT : Array (Option Value)} {kV doc pm cdv ct : Value} {its : List Value} {n : Nat} {dvs : List V}
    (l : K.lookup f = some ⟨oc, od, .func (PySem.W.fnOf x qual (defArgs st) (defBody st) (defScope st) (.ref T) kV doc pm an cdv ct), osl⟩) (c : PySem.W.codeIn K cdv qual = true) (k : PySem.W.keepIn K (.ref f) = true)
    (lT : K.lookup T = some ⟨ot, odT, .seq its.toArray n, slT⟩) (r : Vals dvs its) (hd : dvs ≠ []) :
    FunD K x qual (defArgs st) (defBody st) (defScope st) dvs [] f (PySem.W.fnOf x qual (defArgs st) (defBody st) (defScope st) (.ref T) kV doc pm an cdv ct) :=
  ⟨⟨oc, od, .ref T, kV, doc, pm, an, cdv, ct, osl, rfl, l, c, .inr ⟨hd, T, _, its, n, rfl, lT, rfl, r⟩, .inl rfl⟩, k⟩
theorem allB {x qual : Str} {pa : Arguments} {bo : List Stmt} {sc : Scope} {dvs : List V} {f : Addr} {fd : FuncData} {ps : List Str} (F : FunD K x qual pa bo sc dvs [] f fd) (hd : dvs ≠ [])
    (h : ∀ (T : Addr) (kV doc pm : Value) (an : Option Addr) (cdv ct : Value) (us its : List Value), us.length = ps.length → its.length = dvs.length →
      ∃ k, bindArgs (PySem.W.fnOf x qual pa bo sc (.ref T) kV doc pm an cdv ct) ⟨us, []⟩ = seqItems? (.ref T) >>= k ∧ k (some its.toArray) = pure (ps.zip us)) : Binds K fd ps [] := by
  obtain ⟨ds, r, b⟩ := F.binds1 (ps := ps) ps.length dvs.length hd (by omega) fun T kV doc pm an cdv ct us its l1 l2 => by
    obtain ⟨k, e1, e2⟩ := h T kV doc pm an cdv ct us its l1 l2
    refine ⟨k, e1, ?_⟩
    rw [e2, ← l2, List.drop_length, List.append_nil]
  rw [List.drop_length] at r
  cases r
  exact b
theorem ok_DD {CX : CXT} {x qual : Str} {st : Stmt} {dvs : List V} {f : Addr} {fd : FuncData} {N ps : List Str} {k : Nat} {φ : Phi} (F : FunD K x qual (defArgs st) (defBody st) (defScope st) dvs [] f fd) (S : FnScope N ps (defScope st)) (hl : ∀ ds m nx X, φ ds m nx X → ds.length = ps.length)
    (hbody : ∀ (cdv : Value) (A : Around) (outer : List PySem.Env) (s : Shared) (H : Hp) (E : XK), Room k (A.deeper (envOfC qual (defScope st) s.heap.objs.size f cdv)) →
      ∃ t, PSs (cxOf CX P w K mg base N qual (defScope st) f cdv A outer s H E) (defBody st) t ∧ BodyOk K φ N E t) : FnOk P w K mg base CX (k + 1) f fd ps (spOf K φ) := by
  refine F.ok S (spOf_len hl) fun cdv A outer s H vs Q E hr h => ?_
  obtain ⟨ds, m, F', Hb, nx, X, h1, h2, h3, h4, h5⟩ := h
  obtain ⟨t, ht, hw⟩ := hbody cdv A outer s H E hr
  exact ⟨t, ht, hw ds m nx X F' Hb h3 h5 Hb H _ _ (Same.refl _) h2 (RpS.start h1) ⟨fun σ H' Hb' ρ m' e r hs q => h4 _ _ _ _ _ e r rp_s q, h4, fun _ _ _ _ _ _ _ _ z => z.elim, fun _ _ _ _ _ _ _ _ z => z.elim⟩⟩
theorem vals_app {vs zs : List V} {us ws : List Value} (h : Vals vs us) (h' : Vals zs ws) : Vals (vs ++ zs) (us ++ ws) := h.append h'
theorem kbn_mk {x qual : Str} {st : Stmt} {f : Addr} {fd : FuncData} {ps ks : List Str} {n : Nat} (F : Fun K x qual st f fd)
    (h : ∀ (kV doc pm : Value) (an : Option Addr) (cdv ct : Value) (us ws : List Value), us.length = n → ws.length = ks.length → bindArgs (PySem.W.fnOf x qual (defArgs st) (defBody st) (defScope st) .none kV doc pm an cdv ct) ⟨us, ks.zip ws⟩ = pure (ps.zip (us ++ ws))) :
    KBn K fd ps n ks (fun us ws => us ++ ws) (fun vs zs => vs ++ zs) := by
  obtain ⟨oc, od, kV, doc, pm, an, cdv, ct, osl, rfl, lk, hcd⟩ := F.ex
  exact ⟨fun s us ws X l1 l2 => .of_eq (h kV doc pm an cdv ct us ws l1 l2), fun r1 r2 => vals_app r1 r2⟩
theorem we_callN {φ : Phi} {E : XK} {n l : Nat} {ta tk : TA} {X : XD} {Q : QD} (hE : OkX K F B X E) (h : WA K F B ta ρ m fun ds m1 => WA K F B tk ρ m1 fun es m2 => ds.length = n ∧ es.length = l ∧ φ (ds ++ es) m2 Q X) :
    WE K F B (tCallN n l (spOf K φ) (fun vs zs => vs ++ zs) E ta tk) ρ m Q := fun Hb H σ R hB r hs k =>
  h Hb H σ _ hB r hs fun vs H1 Hb1 ds m1 e1 r1 hx q1 => q1 Hb1 H1 σ _ (hB.trans e1) r1 (hs.mono e1) fun zs H2 Hb2 es m2 e2 r2 hz q2 =>
    ⟨by rw [hx.length]; exact q2.1, by rw [hz.length]; exact q2.2.1, _, m2, F, Hb2, Q, X, (hx.mono e2).app hz, r2, q2.2.2, k.mono (e1.trans e2), hE.mono (hB.trans (e1.trans e2))⟩
/-- xs.pop(), xs an owned list -/
theorem we_pop {to : TE} {Q : QD} (h : WE K F B to ρ m fun x m1 => ∃ a xs y, x = .s (.ref a) ∧ m1.own a = some (.lst (xs ++ [y])) ∧ Q y { m1 with own := putM m1.own a (.lst xs) }) :
    WE K F B (tBM0 K "list" rPop to) ρ m Q := fun Hb H σ R hB r hs k =>
  h Hb H σ _ hB r hs fun v H1 Hb1 x m1 e1 r1 hx q1 => by
    obtain ⟨a, xs, y, rfl, ho, q⟩ := q1
    unfold Rp at hx
    subst hx
    obtain ⟨_, vs, h1, h2⟩ := r1.own _ _ ho
    have hl := h2.length
    obtain ⟨u, hu, ru⟩ := h2.get (i := xs.length) (d := y) (by simp)
    have e : vs.dropLast = vs.take xs.length := by
      rw [List.dropLast_eq_take, hl]
      simp
    refine ⟨.inl ⟨rfl, _, SqL.of h1⟩, a, vs, u, rfl, rfl, h1, ?_, ?_⟩
    · rw [hl]
      simpa using hu
    · refine k _ _ _ _ _ e1 (r1.change (mo' := .lst xs) ho ⟨_, upd_same, ?_⟩) ru q
      rw [e]
      have z := h2.take xs.length
      rw [List.take_left] at z
      exact z
/-- a constant tuple of the top -/
theorem we_cT {a : Addr} {vs : List V} {Q : QD} (h : ∀ H, SqT K H a vs) (q : Q (.tup (vs.map D.s)) m) : WE K F B (tC (.ref a)) ρ m Q := fun Hb H σ R hB r hs k => by
  refine k.here r (d := .tup (vs.map D.s)) ?_ q
  unfold Rp
  exact ⟨a, vs, rfl, h Hb, RpL.ofScal vs⟩
/-- any list against the empty one -/
theorem wo_neNil {xs : List D} {ps : List PyData} {Q : QD} (h : pyL xs = some ps) (s : SeqAt.shaped (.list ps) = true) (q : Q (.s (.bl (!decide (xs = [])))) m) : WO K F B (rNeA K) (.lst xs) (.lst []) m Q := by
  refine wo_neD (a := .list ps) (b := .list []) (by unfold pyD; rw [h]; rfl) (by simp [pyD, pyL]) s (by decide) ?_
  rw [eqv_nil]
  cases xs with
  | nil =>
    have e : ps = [] := by
      unfold pyL at h
      exact (Option.some.inj h).symm
    subst e
    exact q
  | cons a b =>
    cases ps with
    | nil =>
      unfold pyL at h
      cases e1 : pyD a with
      | none =>
        rw [e1] at h
        cases h
      | some y =>
        rw [e1] at h
        cases e2 : pyL b with
        | none =>
          rw [e2] at h
          cases h
        | some z =>
          rw [e2] at h
          cases h
    | cons y z => exact q
theorem wo_neNilOS {a : Addr} {zs : List Str} {Q : QD} (ho : m.own a = some (.lst (zs.map fun z => .s (.str z)))) (h : ∀ z ∈ zs, PyData.strOk z = true) (q : Q (.s (.bl (!decide (zs = [])))) m) : WO K F B (rNeA K) (.s (.ref a)) (.lst []) m Q := by
  refine wo_neO ho (pyL_strs zs) (b := .list []) (by simp [pyD, pyL]) (shaped_strs h) (by decide) ?_
  rw [eqv_nil]
  cases zs with
  | nil => exact q
  | cons a b => exact q
/-- a comprehension whose list is owned from then on -/
theorem we_lcO {wi : TI} {g : TG} {tt : TT} {te : TE} {vs : List Nat} {Q : QD} (h : WI K F B wi ρ m fun xs m1 => ∃ I : Nat → List D → Mem → Prop, I 0 [] m1 ∧
      (∀ F' i d acc m', xs[i]? = some d → I i acc m' → WGw K F' B g vs d ρ m' fun ρ2 m2 => WT K F' B tt ρ2 m2 fun b m3 =>
        (b = true → WE K F' B te ρ2 m3 fun y m4 => acc.length < sizeLine ∧ I (i + 1) (acc ++ [y]) m4) ∧ (b = false → I (i + 1) acc m3)) ∧ (∀ acc m' A, m'.own A = none → I xs.length acc m' → Q (.s (.ref A)) { m' with own := putM m'.own A (.lst acc) })) :
    WE K F B (tLc wi g tt te vs) ρ m Q := fun Hb H σ R hB r hs k =>
  h Hb H σ _ hB r hs fun J H1 Hb1 xs m1 e1 r1 hj q1 => by
    obtain ⟨I, h0, ht, hd⟩ := q1
    intro A hA
    have hF : F A = none := r1.nofr hA
    refine ⟨fun i n H' => n = xs.length - i ∧ i ≤ xs.length ∧ ∃ Hb' acc us m', Same Hb1 Hb' ∧ Rel K (upd F A (.lst us)) Hb' H' m' ∧ RpL K Hb' acc us ∧ I i acc m', ⟨xs.length, by simp, Nat.zero_le _, Hb1, [], [], m1, Same.refl _, r1.aside hA, RpL.nil, h0⟩, ?_⟩
    rintro i n H' ⟨rfl, hi, Hb', acc, us, m', e', r', ha, hI⟩
    by_cases hlt : i < xs.length
    · obtain ⟨hgo, hy⟩ := (hj i _ Hb' H' m' e' r').2 xs[i] (by simp [hlt])
      refine .inr ⟨hgo, fun H2 => ∃ Hb2 acc2 us2 m2, Same Hb1 Hb2 ∧ Rel K (upd F A (.lst us2)) Hb2 H2 m2 ∧ RpL K Hb2 acc2 us2 ∧ I (i + 1) acc2 m2, fun H2 q2 => ⟨xs.length - (i + 1), by omega, rfl, hlt, q2⟩, fun x H2 y => ?_⟩
      obtain ⟨Hb2, e2, r2, hx⟩ := hy x H2 y
      have eB : Same B Hb2 := (hB.trans e1).trans (e'.trans e2)
      refine ht (upd F A (.lst us)) i xs[i] acc m' (by simp [hlt]) hI Hb2 H2 σ x _ eB r2 (hs.mono ((e1.trans e').trans e2)) hx fun σ3 H3 Hb3 ρ3 m3 e3 r3 hs3 q3 => ?_
      refine q3 Hb3 H3 σ3 _ (eB.trans e3) r3 hs3 fun b H4 Hb4 m4 e4 r4 q4 => ?_
      have e14 : Same Hb1 Hb4 := ((e'.trans e2).trans e3).trans e4
      cases b with
      | true =>
        refine iteT (q4.1 rfl Hb4 H4 σ3 _ ((eB.trans e3).trans e4) r4 (hs3.mono e4) fun v H5 Hb5 y5 m5 e5 r5 hy5 q5 => ?_)
        have hD := (r5.fr A _ upd_same).1
        have ha5 : RpL K Hb5 acc us := ha.mono (((e2.trans e3).trans e4).trans e5)
        refine ⟨us, hD, by rw [ha5.length]; exact q5.1, Hb5, acc ++ [y5], us ++ [v], m5, e14.trans e5, r5.turnA, ha5.app (RpL.cons hy5 RpL.nil), q5.2⟩
      | false => exact iteF ⟨Hb4, acc, us, m4, e14, r4, ha.mono ((e2.trans e3).trans e4), q4.2 rfl⟩
    · have e : i = xs.length := by omega
      subst e
      have z := r'.fr A _ upd_same
      exact .inl ⟨(hj _ _ Hb' H' m' e' r').1 (Nat.le_refl _), k _ _ _ _ _ (e1.trans e') (r'.take hF (mo := .lst acc) ⟨us, z.1, ha⟩) rp_s (hd _ _ A z.2.2 hI)⟩
end
end DD

/-! DStrk: paths tidied, by lists of steps. -/
namespace DT
open PySem L2 TL
/-- a step -/
def isStep (s : Str) : Prop := s = "." ∨ s = ".." ∨ isName s = true
def lastN (st : List Str) : Bool := match st.getLast? with | some x => isName x | none => false
/-- one step is laid: d dot, u up, r root up and rooted -/
def lay (d u r : Bool) (st : List Str) (s : Str) : List Str :=
  if s = "." ∧ d = true then st else if s = ".." ∧ u = true ∧ lastN st = true then st.dropLast else if s = ".." ∧ r = true ∧ st = [] then st else st ++ [s]
def tidyS (d u r : Bool) (l : List Str) : List Str := l.foldl (lay d u r) []
theorem name_nd {s : Str} (h : isName s = true) : s ≠ "." ∧ s ≠ ".." := by
  constructor
  · rintro rfl
    revert h
    decide +kernel
  · rintro rfl
    revert h
    decide +kernel
theorem isStep_ne {s : Str} (h : isStep s) : tl s ≠ [] ∧ 47 ∉ tl s := by
  rcases h with rfl | rfl | h
  · decide +kernel
  · decide +kernel
  · refine ⟨fun e => ?_, name_bar h⟩
    unfold isName at h
    simp only [Bool.and_eq_true, decide_eq_true_eq] at h
    rw [len_tl, e] at h
    exact absurd h.1 (by decide)
theorem isStep_len {s : Str} (h : isStep s) : s.length ≤ 8 := by
  rcases h with rfl | rfl | h
  · decide +kernel
  · decide +kernel
  · unfold isName at h
    simp only [Bool.and_eq_true, decide_eq_true_eq] at h
    exact h.2.1
theorem isStep_piece {s : Str} (h : isStep s) : (dotty s || isName s) = true := by
  rcases h with rfl | rfl | h
  · decide +kernel
  · decide +kernel
  · rw [h, Bool.or_true]
theorem isStep_name {s : Str} (h : isStep s) : isName s = !(dotty s) := by
  rcases h with rfl | rfl | h
  · decide +kernel
  · decide +kernel
  · obtain ⟨h1, h2⟩ := name_nd h
    have h3 := isStep_ne (.inr (.inr h)) |>.1
    rw [h, dotty_iff, decide_eq_false h1, decide_eq_false h2, decide_eq_false (fun e => h3 (by rw [e]; decide +kernel))]
    rfl
theorem isStep_ok {s : Str} (h : isStep s) : PyData.strOk s = true := strOk_of (piece_lt (isStep_piece h))
theorem steps_isStep {z : Str} (h : isPath z = true) : ∀ s ∈ steps z, isStep s := fun s hs => by
  unfold steps pieces at hs
  obtain ⟨h1, h2⟩ := List.mem_filter.mp hs
  obtain ⟨q, hq, rfl⟩ := List.mem_map.mp h1
  have h3 := (isPath_iff.mp h).2 q hq
  have h4 : mk q ≠ "" := by simpa using h2
  rcases (Bool.or_eq_true _ _).mp h3 with w | w
  · rw [dotty_iff, decide_eq_false h4, Bool.false_or] at w
    rcases (Bool.or_eq_true _ _).mp w with w | w
    · exact .inl (of_decide_eq_true w)
    · exact .inr (.inl (of_decide_eq_true w))
  · exact .inr (.inr w)
section
variable {d u r : Bool}
theorem lay_cases (st : List Str) (s : Str) : lay d u r st s = st ∨ (lay d u r st s = st.dropLast) ∨ lay d u r st s = st ++ [s] := by
  unfold lay
  split
  · exact .inl rfl
  · split
    · exact .inr (.inl rfl)
    · split
      · exact .inl rfl
      · exact .inr (.inr rfl)
theorem lay_len (st : List Str) (s : Str) : (lay d u r st s).length ≤ st.length + 1 := by
  rcases lay_cases (d := d) (u := u) (r := r) st s with e | e | e <;> rw [e]
  · omega
  · rw [List.length_dropLast]
    omega
  · simp
theorem fold_len : ∀ (l st : List Str), (l.foldl (lay d u r) st).length ≤ st.length + l.length
  | [], st => Nat.le_refl _
  | s :: l, st => by
    have h1 := fold_len l (lay d u r st s)
    have h2 := lay_len (d := d) (u := u) (r := r) st s
    rw [List.foldl_cons, List.length_cons]
    omega
theorem tidy_snoc (l : List Str) (s : Str) : tidyS d u r (l ++ [s]) = lay d u r (tidyS d u r l) s := by
  unfold tidyS
  rw [List.foldl_append]
  rfl
theorem tidy_len (l : List Str) : (tidyS d u r l).length ≤ l.length := by
  have := fold_len (d := d) (u := u) (r := r) l []
  simpa [tidyS] using this
theorem lay_stable {st : List Str} (s : Str) (h : tidyS d u r st = st) : tidyS d u r (lay d u r st s) = lay d u r st s := by
  rcases lay_cases (d := d) (u := u) (r := r) st s with e | e | e
  · rw [e, h]
  · rw [e]
    by_cases hn : st = []
    · subst hn
      rfl
    · have es := List.dropLast_concat_getLast hn
      generalize st.getLast hn = x at es
      generalize st.dropLast = st' at es ⊢
      rw [← es, tidy_snoc] at h
      have hl := tidy_len (d := d) (u := u) (r := r) st'
      generalize tidyS d u r st' = y at h hl ⊢
      rcases lay_cases (d := d) (u := u) (r := r) y x with e2 | e2 | e2
      · rw [e2] at h
        rw [h] at hl
        simp at hl
        omega
      · rw [e2] at h
        have := congrArg List.length h
        simp at this
        omega
      · rw [e2] at h
        exact List.append_inj_left' h rfl
  · rw [e, tidy_snoc, h, e]
theorem tidy_idem (l : List Str) : tidyS d u r (tidyS d u r l) = tidyS d u r l := by
  refine snocInd (P := fun l => tidyS d u r (tidyS d u r l) = tidyS d u r l) rfl (fun l s ih => ?_) l
  rw [tidy_snoc]
  exact lay_stable s ih
theorem lay_mem {P : Str → Prop} {st : List Str} {s : Str} (h : ∀ x ∈ st, P x) (hs : P s) : ∀ x ∈ lay d u r st s, P x := by
  rcases lay_cases (d := d) (u := u) (r := r) st s with e | e | e <;> rw [e]
  · exact h
  · exact fun x hx => h x (List.dropLast_subset st hx)
  · intro x hx
    rcases List.mem_append.mp hx with w | w
    · exact h x w
    · have : x = s := by simpa using w
      rw [this]
      exact hs
theorem tidy_mem {P : Str → Prop} {l : List Str} (h : ∀ x ∈ l, P x) : ∀ x ∈ tidyS d u r l, P x := by
  revert h
  refine snocInd (P := fun l => (∀ x ∈ l, P x) → ∀ x ∈ tidyS d u r l, P x) (fun _ x hx => by cases hx) (fun l s ih h => ?_) l
  rw [tidy_snoc]
  exact lay_mem (ih fun x hx => h x (List.mem_append_left _ hx)) (h s (by simp))
/-! ### strikes -/
theorem fold_cut (l1 l2 m st : List Str) (h : ∀ st, st = tidyS d u r l1 → m.foldl (lay d u r) st = st) : tidyS d u r (l1 ++ (m ++ l2)) = tidyS d u r (l1 ++ l2) := by
  unfold tidyS at h ⊢
  rw [List.foldl_append, List.foldl_append, List.foldl_append, h _ rfl]
/-- what may be struck: (b, e) -/
def Strike (d u r : Bool) (l : List Str) (b e : Nat) : Prop :=
  (d = true ∧ e = b + 1 ∧ l[b]? = some ("." : Str)) ∨ (u = true ∧ e = b + 2 ∧ (∃ x : Str, l[b]? = some x ∧ x ≠ "." ∧ x ≠ "..") ∧ l[b + 1]? = some (".." : Str)) ∨ (r = true ∧ b = 0 ∧ e = 1 ∧ l[0]? = some (".." : Str))
theorem split_at {l : List Str} {b : Nat} {x : Str} (h : l[b]? = some x) : l = l.take b ++ x :: l.drop (b + 1) := by
  obtain ⟨hl, e⟩ := List.getElem?_eq_some_iff.mp h
  rw [← e]
  simp
theorem strike_len {l : List Str} {b e : Nat} (h : Strike d u r l b e) : b < e ∧ e ≤ l.length := by
  rcases h with ⟨_, rfl, h⟩ | ⟨_, rfl, _, h⟩ | ⟨_, rfl, rfl, h⟩
  · have := (List.getElem?_eq_some_iff.mp h).1
    omega
  · have := (List.getElem?_eq_some_iff.mp h).1
    omega
  · have := (List.getElem?_eq_some_iff.mp h).1
    omega
theorem strike_same {l : List Str} {b e : Nat} (hl : ∀ s ∈ l, isStep s) (h : Strike d u r l b e) : tidyS d u r (l.take b ++ l.drop e) = tidyS d u r l := by
  have key : ∀ m, l = l.take b ++ (m ++ l.drop e) → (∀ st, st = tidyS d u r (l.take b) → m.foldl (lay d u r) st = st) → tidyS d u r (l.take b ++ l.drop e) = tidyS d u r l := fun m e1 h1 => by
    have := fold_cut (d := d) (u := u) (r := r) (l.take b) (l.drop e) m [] h1
    rw [← e1] at this
    exact this.symm
  rcases h with ⟨hd, rfl, h⟩ | ⟨hu, rfl, ⟨x, hx, n1, n2⟩, h⟩ | ⟨hr, rfl, rfl, h⟩
  · refine key ["."] (split_at h) fun st _ => ?_
    show lay d u r st "." = st
    unfold lay
    rw [if_pos ⟨rfl, hd⟩]
  · have e1 := split_at hx
    have e2 : l.drop (b + 1) = (".." : Str) :: l.drop (b + 2) := by
      obtain ⟨hb, e⟩ := List.getElem?_eq_some_iff.mp h
      rw [List.drop_eq_getElem_cons hb, e]
    rw [e2] at e1
    have hxn : isName x = true := by
      have := hl x (List.mem_of_getElem? hx)
      rcases this with w | w | w
      · exact absurd w n1
      · exact absurd w n2
      · exact w
    refine key [x, ".."] e1 fun st _ => ?_
    show lay d u r (lay d u r st x) ".." = st
    have h1 : lay d u r st x = st ++ [x] := by
      unfold lay
      rw [if_neg (fun z => n1 z.1), if_neg (fun z => n2 z.1), if_neg (fun z => n2 z.1)]
    rw [h1]
    have h2 : lastN (st ++ [x]) = true := by
      unfold lastN
      rw [List.getLast?_concat]
      exact hxn
    unfold lay
    rw [if_neg (fun z => absurd z.1 (by decide +kernel)), if_pos ⟨rfl, hu, h2⟩, List.dropLast_concat]
  · refine key [".."] (split_at h) fun st e1 => ?_
    subst e1
    show lay d u r [] ".." = []
    unfold lay
    rw [if_neg (fun z => absurd z.1 (by decide +kernel)), if_neg (fun z => by simp [lastN] at z), if_pos ⟨rfl, hr, rfl⟩]
theorem strike_done {l : List Str} (hn : ∀ b e, ¬ Strike d u r l b e) : tidyS d u r l = l := by
  have key : ∀ n, n ≤ l.length → tidyS d u r (l.take n) = l.take n := fun n => by
    induction n with
    | zero =>
      intro _
      rw [List.take_zero]
      rfl
    | succ n ih =>
      intro h
      have hlt : n < l.length := by omega
      have hg : l[n]? = some l[n] := List.getElem?_eq_getElem hlt
      generalize l[n] = s at hg
      rw [List.take_add_one, hg]
      show tidyS d u r (l.take n ++ [s]) = l.take n ++ [s]
      rw [tidy_snoc, ih (by omega)]
      unfold lay
      rw [if_neg (fun z => hn n (n + 1) (.inl ⟨z.2, rfl, by rw [hg, z.1]⟩)), if_neg, if_neg]
      · rintro ⟨z1, z2, z3⟩
        have h0 : n = 0 := by
          have := congrArg List.length z3
          rw [List.length_take, List.length_nil] at this
          omega
        subst h0
        exact hn 0 1 (.inr (.inr ⟨z2, rfl, rfl, by rw [hg, z1]⟩))
      · rintro ⟨z1, z2, z3⟩
        cases n with
        | zero => simp [lastN] at z3
        | succ n =>
          have hlt' : n < l.length := by omega
          have hg' : l[n]? = some l[n] := List.getElem?_eq_getElem hlt'
          generalize l[n] = x at hg'
          have e : (l.take (n + 1)).getLast? = some x := by
            rw [List.take_add_one, hg']
            exact List.getLast?_concat
          unfold lastN at z3
          rw [e] at z3
          obtain ⟨w1, w2⟩ := name_nd z3
          exact hn n (n + 2) (.inr (.inl ⟨z2, rfl, ⟨x, hg', w1, w2⟩, by rw [hg, z1]⟩))
  have := key l.length (Nat.le_refl _)
  rw [List.take_length] at this
  exact this
end
/-! ### a path of steps -/
def bodyL (st : List Str) (rt : Bool) : List Nat := (if rt = true then [47] else []) ++ jn (st.map tl)
def plainL (st : List Str) (rt en : Bool) : List Nat := if bodyL st rt = [] then [46] else bodyL st rt ++ (if en = true ∧ lastN st = true then [47] else [])
def plainT (st : List Str) (rt en : Bool) : Str := mk (plainL st rt en)
theorem jn_ne {st : List (List Nat)} (h : ∀ s ∈ st, s ≠ []) (h0 : st ≠ []) : jn st ≠ [] := by
  cases st with
  | nil => exact absurd rfl h0
  | cons a as =>
    have ha := h a List.mem_cons_self
    cases as with
    | nil => exact ha
    | cons b bs => exact fun z => ha (List.append_eq_nil_iff.mp z).1
theorem body_nil {st : List Str} {rt : Bool} (h : ∀ s ∈ st, isStep s) : bodyL st rt = [] ↔ rt = false ∧ st = [] := by
  unfold bodyL
  constructor
  · intro z
    obtain ⟨z1, z2⟩ := List.append_eq_nil_iff.mp z
    refine ⟨?_, ?_⟩
    · cases rt with
      | true => cases z1
      | false => rfl
    · by_cases h0 : st = []
      · exact h0
      · refine absurd z2 (jn_ne (fun s hs => ?_) fun w => h0 (List.map_eq_nil_iff.mp w))
        obtain ⟨x, hx, rfl⟩ := List.mem_map.mp hs
        exact (isStep_ne (h x hx)).1
  · rintro ⟨rfl, rfl⟩
    rfl
theorem pcs_body {st : List Str} {rt : Bool} (h : ∀ s ∈ st, isStep s) (h0 : st ≠ []) : pcs (bodyL st rt) = (if rt = true then [[]] else []) ++ st.map tl := by
  have hj : pcs (jn (st.map tl)) = st.map tl := pcs_jn _ (fun w => h0 (List.map_eq_nil_iff.mp w)) fun p hp => by
    obtain ⟨x, hx, rfl⟩ := List.mem_map.mp hp
    exact (isStep_ne (h x hx)).2
  unfold bodyL
  cases rt with
  | true =>
    show pcs (47 :: jn (st.map tl)) = _
    rw [pcs_bar, hj]
    rfl
  | false => exact hj
theorem map_mk_tl (st : List Str) : (st.map tl).map mk = st := by
  rw [List.map_map]
  exact (List.map_congr_left fun x _ => mk_tl x).trans (List.map_id st)
/-- what a path with steps is, read again -/
theorem plain_read {st : List Str} {rt en : Bool} (h : ∀ s ∈ st, isStep s) (h0 : st ≠ []) :
    pcs (plainL st rt en) = (if rt = true then [[]] else []) ++ st.map tl ++ (if en = true ∧ lastN st = true then [[]] else []) := by
  have hb : bodyL st rt ≠ [] := fun z => h0 ((body_nil h).mp z).2
  unfold plainL
  rw [if_neg hb]
  split
  · rw [pcs_cat, pcs_body h h0]
    rfl
  · rw [List.append_nil, List.append_nil, pcs_body h h0]
theorem plain_steps {st : List Str} {rt en : Bool} (h : ∀ s ∈ st, isStep s) (h0 : st ≠ []) : steps (plainT st rt en) = st := by
  rw [steps_tl]
  show ((pcs (plainL st rt en)).filter fun p => !p.isEmpty).map mk = st
  rw [plain_read h h0, List.filter_append, List.filter_append]
  have e1 : (if rt = true then [([] : List Nat)] else []).filter (fun p => !p.isEmpty) = [] := by split <;> rfl
  have e2 : (if en = true ∧ lastN st = true then [([] : List Nat)] else []).filter (fun p => !p.isEmpty) = [] := by split <;> rfl
  have e3 : (st.map tl).filter (fun p => !p.isEmpty) = st.map tl := by
    rw [List.filter_eq_self]
    intro p hp
    obtain ⟨x, hx, rfl⟩ := List.mem_map.mp hp
    have := (isStep_ne (h x hx)).1
    simpa using this
  rw [e1, e2, e3, List.nil_append, List.append_nil, map_mk_tl]
theorem plain_rooted {st : List Str} {rt en : Bool} (h : ∀ s ∈ st, isStep s) (h0 : st ≠ []) : rooted (plainT st rt en) = rt := by
  have hb : bodyL st rt ≠ [] := fun z => h0 ((body_nil h).mp z).2
  unfold rooted
  show decide ((plainL st rt en).head? = some 47) = rt
  unfold plainL
  rw [if_neg hb]
  cases rt with
  | true =>
    refine decide_eq_true ?_
    unfold bodyL
    rfl
  | false =>
    refine decide_eq_false fun z => ?_
    unfold bodyL at z
    cases st with
    | nil => exact h0 rfl
    | cons a as =>
      obtain ⟨n1, n2⟩ := isStep_ne (h a List.mem_cons_self)
      cases ha : tl a with
      | nil => exact n1 ha
      | cons c cs =>
        have e : (jn ((a :: as).map tl)).head? = some c := by
          cases as with
          | nil =>
            show (tl a).head? = _
            rw [ha]
            rfl
          | cons b bs =>
            show (tl a ++ 47 :: jn ((b :: bs).map tl)).head? = _
            rw [ha]
            rfl
        have e2 : (([] ++ jn ((a :: as).map tl)) ++ (if en = true ∧ lastN (a :: as) = true then [47] else [])).head? = some c := by
          rw [List.nil_append, List.head?_append, e]
          rfl
        have z2 : (([] ++ jn ((a :: as).map tl)) ++ (if en = true ∧ lastN (a :: as) = true then [47] else [])).head? = some 47 := z
        rw [e2] at z2
        have : c = 47 := Option.some.inj z2
        exact n2 (by rw [ha, this]; exact List.mem_cons_self)
theorem plain_ended {st : List Str} {rt en : Bool} (h : ∀ s ∈ st, isStep s) (h0 : st ≠ []) : ended (plainT st rt en) = (!(lastN st) || en) := by
  unfold ended lastP
  show dotty (mk ((pcs (plainL st rt en)).getLastD [])) = _
  rw [plain_read h h0]
  have hl := List.getLast?_eq_some_getLast h0
  have hx := List.getLast_mem h0
  generalize st.getLast h0 = x at hl hx
  have hn : lastN st = isName x := by
    unfold lastN
    rw [hl]
  rw [List.getLastD_eq_getLast?, List.getLast?_append]
  by_cases hc : en = true ∧ lastN st = true
  · rw [if_pos hc, hc.1, Bool.or_true]
    show dotty (mk []) = true
    decide +kernel
  · rw [if_neg hc]
    have e2 : (((if rt = true then [([] : List Nat)] else []) ++ st.map tl).getLast?) = some (tl x) := by
      rw [List.getLast?_append, List.getLast?_map, hl]
      rfl
    show dotty (mk ((Option.or none (((if rt = true then [([] : List Nat)] else []) ++ st.map tl).getLast?)).getD [])) = _
    rw [e2]
    show dotty (mk (tl x)) = _
    rw [mk_tl', hn, isStep_name (h x hx)]
    rw [hn, isStep_name (h x hx)] at hc
    cases hd : dotty x with
    | true => rfl
    | false =>
      rw [hd] at hc
      cases en with
      | true => exact absurd ⟨rfl, rfl⟩ hc
      | false => rfl
theorem plain_path {st : List Str} {rt en : Bool} (h : ∀ s ∈ st, isStep s) : isPath (plainT st rt en) = true := by
  by_cases h0 : st = []
  · subst h0
    cases rt <;> cases en <;> decide +kernel
  · have hb : bodyL st rt ≠ [] := fun z => h0 ((body_nil h).mp z).2
    refine isPath_iff.mpr ⟨fun z => ?_, fun p hp => ?_⟩
    · have z2 := mk_eq_nil.mp z
      unfold plainL at z2
      rw [if_neg hb] at z2
      exact hb (List.append_eq_nil_iff.mp z2).1
    · have hp' : p ∈ pcs (plainL st rt en) := hp
      rw [plain_read h h0] at hp'
      rcases List.mem_append.mp hp' with w | w
      · rcases List.mem_append.mp w with w | w
        · split at w
          · have e : p = [] := by simpa using w
            subst e
            decide +kernel
          · cases w
        · obtain ⟨x, hx, rfl⟩ := List.mem_map.mp w
          rw [mk_tl']
          exact isStep_piece (h x hx)
      · split at w
        · have e : p = [] := by simpa using w
          subst e
          decide +kernel
        · cases w
/-- tidied once more nothing changes -/
theorem plain_again {d u r e : Bool} {st : List Str} {rt en : Bool} (h : ∀ s ∈ st, isStep s) (hf : tidyS d u (r && rt) st = st) (z : Str) (hz : z = plainT st rt (en && !e)) :
    plainT (tidyS d u (r && rooted z) (steps z)) (rooted z) (ended z && !e) = z := by
  by_cases h0 : st = []
  · subst h0
    subst hz
    cases rt <;> cases en <;> cases e <;> cases d <;> cases u <;> cases r <;> decide +kernel
  · have e1 := plain_steps (rt := rt) (en := en && !e) h h0
    have e2 := plain_rooted (rt := rt) (en := en && !e) h h0
    have e3 := plain_ended (rt := rt) (en := en && !e) h h0
    rw [← hz] at e1 e2 e3
    rw [e1, e2, e3, hf, hz]
    unfold plainT plainL
    congr 1
    split
    · rfl
    · congr 1
      cases hl : lastN st <;> cases en <;> cases e <;> rfl
theorem jn_le {b : Nat} : ∀ {st : List Str}, (∀ s ∈ st, s.length ≤ b) → (jn (st.map tl)).length ≤ st.length * (b + 1)
  | [], _ => Nat.zero_le _
  | [a], h => by
    have := h a List.mem_cons_self
    rw [len_tl] at this
    show (tl a).length ≤ 1 * (b + 1)
    omega
  | a :: c :: r, h => by
    have ih := jn_le (st := c :: r) fun s hs => h s (List.mem_cons_of_mem _ hs)
    have := h a List.mem_cons_self
    rw [len_tl] at this
    show (tl a ++ 47 :: jn ((c :: r).map tl)).length ≤ _
    rw [List.length_append, List.length_cons, List.length_cons (as := c :: r), Nat.succ_mul]
    omega
theorem plain_len {st : List Str} {rt en : Bool} (h : ∀ s ∈ st, isStep s) : (plainT st rt en).length ≤ st.length * 9 + 2 := by
  have h1 := jn_le (b := 8) (st := st) fun s hs => isStep_len (h s hs)
  rw [len_tl]
  show (plainL st rt en).length ≤ _
  unfold plainL
  split
  · show 1 ≤ _
    omega
  · unfold bodyL
    rw [List.length_append, List.length_append]
    have e1 : (if rt = true then [47] else []).length ≤ 1 := by split <;> decide
    have e2 : (if en = true ∧ lastN st = true then [47] else []).length ≤ 1 := by split <;> decide
    omega
end DT

/-! HExc: own exceptions whose __init__ calls the base's by its class; try around calls. -/
namespace HX1
open PySem PySem.Spec PyProof.Rows L2
section
variable {X : Cx} {o e : Expr} {es : List Expr} {to te : TE} {ta : TA} {f : Str} {p p' p1 p2 pos : Pos}
/-- B.__init__(self, ..), B an own class over ValueError without __init__ -/
theorem pe_peinit {x : Str} {C0 : Addr} {pl : Sem Bool} (hg : Gl X x) (hm : X.mg x = some (.ref C0)) (rd : PySem.W.readsIn X.K C0 (.type "type") = true) (ga : PySem.W.specialIn X.K (.ref C0) "__getattribute__" = some (some (.builtin "type.__getattribute__")))
    (vV : PySem.W.findCls X.K (.ref C0) (.type "type") "__init__" = some (.val (.builtin "ValueError.__init__"))) (ha : PA X (e :: es) ta)
    (hdb : (x == ("__debug__" : Str)) = false := by decide)
    (hc : eval (.Call (.Attribute (.Name x p1) "__init__" p2) (e :: es) [] pos) X.env = (do
      let ov ← eval (.Name x p1) X.env
      standAt p2.atName
      let (f, first) ← holding [ov] (getMethod ov "__init__" pl)
      callWith pos f first (backTo pos (starEach (e :: es) X.env)) (backToKw pos (keywordEach [] X.env))) := by rfl)
    (he : starEach (e :: es) X.env = (false, eval e X.env) :: starEach es X.env := by rfl) (hpl : (backTo pos (starEach es X.env)).any (·.1) = false := by rfl) :
    PE X (.Call (.Attribute (.Name x p1) "__init__" p2) (e :: es) [] pos) (tVeI X.K ta) := by
  refine ⟨fun pins s σ H Q I h => ?_⟩
  refine PySem.W.methodCall_KW (ld_glob I hg hm ?_ hdb) hc
  refine PySem.W.method_cls I.kIn ga ?_
  refine PySem.W.cls_value I.kIn rd vV (by decide +kernel) ?_
  show wpAny _ _ (callWith pos (Value.builtin "ValueError.__init__") [] (backTo pos (starEach (e :: es) X.env)) []) _ _ _
  refine PyProof.Rows.callWith_method1 (thn (ha.run pos pins _ σ H _ (I.tok _) h) fun us s1 ⟨vs, H1, I1, r1, a, C, ws, ev, hl, T, ea, q⟩ => ?_) he hpl
  subst ev
  cases r1 with
  | @cons _ u0 _ ur ra rw' =>
    obtain rfl : u0 = Value.ref a := ra
    have hlen : ur.length ≤ sizeLine := by
      rw [← Paired.length rw', sizeLine_eq]
      omega
    exact oinit_ok T I1 ea hlen fun s' J => ⟨.non, H1, J, rfl, q⟩
/-- what a callee lets out is taken, the slots' number known -/
theorem passes_len {W : WX} {E : XK} (tk : Takes X W) (hW : ∀ cls d σ H, σ.length = X.N.length → E cls d H → W cls d σ H) : Passes (L2.CX X.prog X.w) X E :=
  fun _ σ _ _ e s' I c => tk e s' (XE.of_call I (fun cls d H' h => hW cls d σ H' I.len h) c)
end
/-- the promise of an __init__ with one attribute f -/
def spExc (C : Addr) (f : Str) : Sp := fun vs H Q _ => ∃ a v, vs = [.ref a, v] ∧ H a = some (exo a C none) ∧ ∀ dx, H dx = none → dx ≠ a → Q .non (upd (upd H dx (exd dx [(f, v)])) a (exo a C (some dx)))
/-- its reading keeps the promise -/
theorem exc_init {K : PySem.W.Frag} {C : Addr} {f msg : Str} (T : OexC K C) (hno : PySem.W.findIn K (.ref C) f = some none) {N : List Str} {x y : Str} (hN : N = [x, y]) {vs : List V} {H : Hp} {Q : VK} {E : XK} (h : spExc C f vs H Q E) :
    (tSeq (tDrop (tVeI K (tCons (tVar 0) (tCons (tC (.str msg)) tNil)))) (tOst K f (tVar 0) (tVar 1))) { nx := fun _ H' => Q .non H', rt := Q } (L2.start N vs) H := by
  obtain ⟨a, v, rfl, ha, q⟩ := h
  subst hN
  refine ⟨.ref a, rfl, ⟨a, C, [.str msg], rfl, (by show 1 ≤ 1000; decide), T, ha, ?_⟩⟩
  exact ⟨v, rfl, .ref a, rfl, a, C, rfl, T, hno, .inl ⟨ha, fun dx h1 h2 => q dx h1 h2⟩⟩
/-- raise C(e) within a def -/
def tRaise (C : Addr) (sp : Sp) (ta : TA) (E : XK) : TS := fun _ σ H => tMkO C sp [] ta σ H fun cls d H' => E cls d H'
/-- try: body, except c as n: suite; n-th slot i -/
def tTry (K : PySem.W.Frag) (n : Nat) (c : Value) (i : Nat) (tb : XK → TS) (ts : Addr → Value → Option Addr → TS) : TS := fun D σ H => tb (fun cls d H' => ∀ σ' : L2.St, σ'.length = n → wAs K c i ts (fun _ _ _ _ => False) D cls d σ' H') D σ H
/-- a class's own clause takes its exceptions -/
theorem exm_own {K : PySem.W.Frag} {S : Addr} (h1 : PySem.W.subIn K (.ref S) (.type "BaseException") = some true) (h2 : PySem.W.isClsIn K S = true) (h3 : PySem.W.typeIn K (.ref S) = some (.type "type")) (h4 : PySem.W.subIn K (.ref S) (.ref S) = some true) :
    PySem.W.exmOne K (.ref S) (.ref S) = some true := by
  have e1 : (PySem.W.subIn K (.ref S) (.type "BaseException") == some true) = true := by rw [h1] <;> rfl
  have e2 : ((PySem.W.clsIn K S).isSome && PySem.W.typeIn K (.ref S) == some (.type "type")) = true := by
    have h2' : (PySem.W.clsIn K S).isSome = true := h2
    rw [h2', h3] <;> rfl
  show (if (PySem.W.subIn K (.ref S) (.type "BaseException") == some true) = true then (if ((PySem.W.clsIn K S).isSome && PySem.W.typeIn K (.ref S) == some (.type "type")) = true then PySem.W.subIn K (.ref S) (.ref S) else none) else none) = some true
  rw [if_pos e1, if_pos e2]
  exact h4
section
variable {X : Cx} {x n : Str} {c : Value} {i : Nat} {body suite : List Stmt} {b₀ : Stmt} {np pos pos' : Pos} {tb : XK → TS} {ts : Addr → Value → Option Addr → TS}
theorem ps_tryT (hs : X.stack = X.env :: X.outer) (hf : X.env.frame = some X.env.locals) (hN : X.N.Nodup) (hi : X.N[i]? = some n) (hln : X.env.kindOf n = some .local) (hc : Names X x c)
    (hb : ∀ (E : XK) (pn : List (Addr × Obj)) (xe : Value → Shared → Prop), Passes (L2.CX X.prog X.w) (X.tr pn xe) E → PassesOwn (model X.prog X.w) X.A X.env xe → PSs (X.tr pn xe) body (tb E))
    (hsu : ∀ (a : Addr) (oe : Obj) (cls : Value) (d : Option Addr) (pn : List (Addr × Obj)), Zc cls d oe → (∃ vs, oe.data = .fields vs) → PSs (X.suite a ((a, oe) :: pn)) (b₀ :: suite) (ts a cls d)) :
    PS X (.Try body [.ExceptHandler (some (.Name x np)) (some n) (b₀ :: suite) pos'] [] [] pos) (tTry X.K X.N.length c i tb ts) :=
  ps_try_as (tb := fun W => tb (fun cls d H' => ∀ σ' : L2.St, σ'.length = X.N.length → W cls d σ' H')) hs hf hN hi hln hc takes0 (fun W pn xe tk po => hb _ pn xe (passes_len (X := X.tr pn xe) tk fun cls d σ H hl h => h σ hl) po) hsu
end
end HX1

/-! DExc: raise and try over data. -/
namespace DD
open PySem L2
open PySem.Spec PyProof.Rows
section
variable {K : PySem.W.Frag} {B F Hb H : Hp} {m : Mem} {ρ : DD.Env}
theorem Rel.unframe {dd : Addr} {o : HO} (r : Rel K (upd F dd o) Hb H m) (h : F dd = none) : Rel K F Hb H m :=
  ⟨r.sub, fun b u e => r.fr b u (by rw [upd_ne (ne_fr e h)]; exact e), r.own, nt_of r.nt h⟩
theorem xd_put {H1 : Hp} {a dx : Addr} {C : Addr} {fs : List (Str × V)} {o1 o2 o3 u : HO} (ha : H1 a = none) (hne : dx ≠ a) : upd (del (upd (upd (upd H1 a o1) dx o2) a o3) a) dx u = upd H1 dx u := by
  funext b
  by_cases h1 : b = dx
  · subst h1
    rw [upd_same, upd_same]
  · rw [upd_ne h1, upd_ne h1]
    by_cases h2 : b = a
    · subst h2
      rw [del_same, ha]
    · rw [del_ne h2, upd_ne h2, upd_ne h1, upd_ne h2]
/-- raise C(e), C with one attribute -/
theorem ws_raise {C : Addr} {f : Str} {ta : TA} {EX : XK} {X : XD} {E : DE} (hE : OkX K F B X EX) (h : WA K F B ta ρ m fun ds m1 => ∃ d, ds = [d] ∧ X C [f] [d] m1) : WS K F B (HX1.tRaise C (HX1.spExc C f) ta EX) ρ m E := fun Hb H σ R hB r hs k =>
  h Hb H σ _ hB r hs fun vs H1 Hb1 ds m1 e1 r1 hx q1 => by
    obtain ⟨d, rfl, q⟩ := q1
    obtain ⟨v, rfl, hv⟩ := rpL1 hx
    refine ⟨by show 1 ≤ 1000; decide, fun a ha => ⟨a, v, rfl, upd_same, fun dx h1 h2 => ⟨rfl, dx, [(f, v)], upd_same, ?_, ?_, ?_⟩⟩⟩
    · rw [upd_ne h2, upd_same]
    · rw [upd_ne h2] at h1
      exact h1
    · rw [upd_ne h2] at h1
      rw [xd_put (C := C) (fs := [(f, v)]) ha h2]
      exact hE C (some dx) _ Hb1 [f] [d] [v] m1 (hB.trans e1) ⟨r1.nofr h1, r1.aside h1⟩ (RpL.cons hv RpL.nil) rfl q
theorem rpS_none {n : Nat} {σ : L2.St} (h : σ.length = n) : RpS K Hb (List.replicate n none) σ := by
  refine ⟨by rw [List.length_replicate, h], fun i d q => ?_⟩
  rw [List.getElem?_replicate] at q
  split at q <;> cases q
/-- try: body, except c as the i-th slot: suite -/
theorem ws_try {n i : Nat} {c : Value} {tb : XK → TS} {ts : Addr → Value → Option Addr → TS} {X : XD} {E : DE}
    (hb : ∀ B' EX, Same B B' → OkX K F B' X EX → WS K F B' (tb EX) ρ m E)
    (hX : ∀ C ns ds m', X C ns ds m' → ns ≠ [] ∧ PySem.W.exmOne K (.ref C) c = some true ∧ ∀ F' B' dd vs a, Same B B' → F' dd = some (.xd (ns.zip vs)) → RpL K B' ds vs → ns.length = ds.length →
      WS K F' B' (ts a (.ref C) (some dd)) ((List.replicate n none).set i (some (.s (.ref a)))) m' { nx := fun ρ m => E.nx (ρ.set i none) m, rt := E.rt, bk := fun ρ m => E.bk (ρ.set i none) m, ct := fun ρ m => E.ct (ρ.set i none) m }) :
    WS K F B (HX1.tTry K n c i tb ts) ρ m E := fun Hb H σ R hB r hs k => by
  refine hb Hb _ hB (fun C d H' Hb' ns ds vs m' eH rX hv hl hx => ?_) Hb H σ R (Same.refl _) r hs k
  obtain ⟨hne, hex, hw⟩ := hX C ns ds m' hx
  cases d with
  | none => exact absurd rX.1 hne
  | some dd =>
    obtain ⟨hF, rr⟩ := rX
    intro σ' hσ
    refine ⟨true, hex, fun _ a ha => ?_, fun z => nomatch z⟩
    refine hw (upd F dd (.xd (ns.zip vs))) Hb' dd vs a (hB.trans eH) upd_same hv hl Hb' H' _ _ (Same.refl _) rr ((rpS_none hσ).set rp_s) ?_
    exact ⟨fun σ1 H1 Hb1 ρ1 m1 e r1 hs1 q => k.nx _ _ _ _ _ (eH.trans e) (r1.unframe hF) hs1.unset q, fun v H1 Hb1 d1 m1 e r1 hd q => k.rt _ _ _ _ _ (eH.trans e) (r1.unframe hF) hd q,
      fun σ1 H1 Hb1 ρ1 m1 e r1 hs1 q => k.bk _ _ _ _ _ (eH.trans e) (r1.unframe hF) hs1.unset q, fun σ1 H1 Hb1 ρ1 m1 e r1 hs1 q => k.ct _ _ _ _ _ (eH.trans e) (r1.unframe hF) hs1.unset q⟩
/-- e.f of the exception that is caught -/
theorem we_xf {a C dd : Addr} {f : Str} {te : TE} {ns : List Str} {vs : List V} {ds : List D} {dv : D} {Q : QD} (hF : F dd = some (.xd (ns.zip vs))) (hv : RpL K B ds vs) (hd : (ns.zip ds).lookup f = some dv)
    (h : WE K F B te ρ m fun x m1 => x = .s (.ref a) ∧ Q dv m1) : WE K F B (tXf a (.ref C) (some dd) C f te) ρ m Q := fun Hb H σ R hB r hs k =>
  h Hb H σ _ hB r hs fun v H1 Hb1 x m1 e1 r1 hx q1 => by
    obtain ⟨rfl, q⟩ := q1
    unfold Rp at hx
    obtain ⟨u, hu, ru⟩ := zip_get (hv.mono (hB.trans e1)) hd
    exact ⟨hx, rfl, dd, _, u, rfl, (r1.fr dd _ hF).1, hu, k _ _ _ _ _ e1 r1 ru q⟩
/-- an owned object is let go -/
theorem Conv.leave {a : Addr} : Conv m { m with own := dropM m.own a } := fun _ _ _ _ r => r.leave a
end
end DD

/-! HRefl: a built-in value on the left of ==, an own instance on the right. -/
namespace HR1
open PySem PySem.Spec PyProof.Rows L2 PySem.SeqAt
open AutoSeq1 (wpAny_loadPart')
open MeetsSeq
section
theorem int_declines (b : Int) (u : Tok) (l C dx : Addr) : Meets (Builtin.«int.__eq__» ⟨[.int b u, .ref l], []⟩) (fun _ R s => s.heap.get? l = some (PySem.W.instObj C dx) ∧ R (.ok (.ret .notImplemented)) s) :=
  .of_wp fun prog w A R s h => by obtain ⟨hp, g, d, tk, os⟩ := s; obtain ⟨hl, h⟩ := h; wp_walk using wpAny_loadPart' hl, wpAny_load hl; exact ⟨_, rfl, h⟩
theorem bool_declines (b : Bool) (l C dx : Addr) : Meets (Builtin.«int.__eq__» ⟨[.bool b, .ref l], []⟩) (fun _ R s => s.heap.get? l = some (PySem.W.instObj C dx) ∧ R (.ok (.ret .notImplemented)) s) :=
  .of_wp fun prog w A R s h => by obtain ⟨hp, g, d, tk, os⟩ := s; obtain ⟨hl, h⟩ := h; wp_walk using wpAny_loadPart' hl, wpAny_load hl; exact ⟨_, rfl, h⟩
theorem str_declines (b : Str) (u : Tok) (l C dx : Addr) : Meets (Builtin.«str.__eq__» ⟨[.str b u, .ref l], []⟩) (fun _ R s => s.heap.get? l = some (PySem.W.instObj C dx) ∧ R (.ok (.ret .notImplemented)) s) :=
  .of_wp fun prog w A R s h => by obtain ⟨hp, g, d, tk, os⟩ := s; obtain ⟨hl, h⟩ := h; wp_walk using wpAny_loadPart' hl, wpAny_load hl; exact ⟨_, rfl, h⟩
theorem list_declines (a l : Addr) (items : Array Value) (n : Nat) (dd : Option Addr) (sl : Array (Option Value)) :
    Meets (Builtin.«list.__eq__» ⟨[.ref a, .ref l], []⟩) (fun _ R s => s.heap.get? a = some { cls := .type "list", dict := dd, data := .seq items n, slots := sl } ∧ (∀ M, PySem.W.Looks M s.heap (isInstance (.ref l) (.type "list")) false) ∧ R (.ok (.ret .notImplemented)) s) :=
  .of_wp fun prog w A R s h => by
    obtain ⟨hp, g, d, tk, os⟩ := s
    obtain ⟨hl, hI, h⟩ := h
    wp_walk using wpAny_loadPart' hl, (hI _).here
    exact ⟨_, rfl, h⟩
theorem tuple_declines (a l : Addr) (items : Array Value) (n : Nat) (dd : Option Addr) (sl : Array (Option Value)) :
    Meets (Builtin.«tuple.__eq__» ⟨[.ref a, .ref l], []⟩) (fun _ R s => s.heap.get? a = some { cls := .type "tuple", dict := dd, data := .seq items n, slots := sl } ∧ (∀ M, PySem.W.Looks M s.heap (isInstance (.ref l) (.type "tuple")) false) ∧ R (.ok (.ret .notImplemented)) s) :=
  .of_wp fun prog w A R s h => by
    obtain ⟨hp, g, d, tk, os⟩ := s
    obtain ⟨hl, hI, h⟩ := h
    wp_walk using wpAny_loadPart' hl, (hI _).here
    exact ⟨_, rfl, h⟩
theorem dict_declines (a l : Addr) (es : Array DictEntry) (ep : Nat) (dd : Option Addr) (sl : Array (Option Value)) :
    Meets (Builtin.«dict.__eq__» ⟨[.ref a, .ref l], []⟩) (fun _ R s => s.heap.get? a = some { cls := .type "dict", dict := dd, data := .dict es ep, slots := sl } ∧ (∀ M, PySem.W.Looks M s.heap (isInstance (.ref l) (.type "dict")) false) ∧ R (.ok (.ret .notImplemented)) s) :=
  .of_wp fun prog w A R s h => by
    obtain ⟨hp, g, d, tk, os⟩ := s
    obtain ⟨hl, hI, h⟩ := h
    wp_walk using wpAny_loadPart' hl, (hI _).here
    exact ⟨_, rfl, h⟩
end
end HR1
namespace HR1
open PySem L2
open PySem.Spec PyProof.Rows
theorem refl_K {prog : Program} {w : World} {A : Around} {E : Value → Shared → Prop} {s : Shared} {K : PySem.W.Frag} {x C f : Addr} {ox : Obj} {od : Option Obj} {a : Value} {T id : String} {Q : Value → Shared → Prop} (hu : A.units < cLine) (X : K.In s.heap)
    (I : PySem.W.InstAt s.heap x ox C od) (ha : s.TypeIs a T) (hsub : PySem.W.subIn K (.ref C) (.type T) = some false) (h1 : Slot T (cmpInfo .Eq).2.1 id)
    (hdec : ∀ Q' : Value → Shared → Prop, Q' .notImplemented s → wpAny (model prog w) A (call (.builtin id) [a, .ref x]) Q' E s)
    (hs : PySem.W.findIn K (.ref C) "__eq__" = some (some (.ref f))) (hf : PySem.W.isFn K (.ref f) = true)
    (h : wpAny (model prog w) A (call (.ref f) [.ref x, a]) (PySem.W.CmpBack Q) E s) : wpAny (model prog w) A (richCompare .Eq a (.ref x)) Q E s := by
  have two : wpAny (model prog w) A (tryCompare (.ref x) "__eq__" a) (fun r s' => ∃ v, r = some v ∧ Q v s') E s := by
    unfold tryCompare
    refine wpAny_bind (PySem.W.ifBound_K X I hs hf (wpAny_mono h (fun v s' hv => ?_) fun _ _ e => e))
    cases v <;> first | exact hv.elim | exact wpAny_pure ⟨_, rfl, hv⟩
  simp only [richCompare, cmpInfo_Eq, ha.oneThing_none] at h1 ⊢
  refine wpAny_holding (wpAny_bind (wpAny_cRoomFor hu ?_))
  refine wpAny_bind (wpAny_typeOf ha (wpAny_bind (I.type.here ?_)))
  split
  · refine wpAny_bind ((PySem.W.looks_subIn X hsub).here ?_)
    simp only [Bool.false_eq_true, if_false, Bool.not_false, if_true]
    refine wpAny_bind (m := tryCompare a _ (.ref x)) (wpAny_tryCompare_declines ha h1 (hdec _ ⟨rfl, ?_⟩))
    refine wpAny_bind (m := tryCompare (.ref x) _ a) (wpAny_mono two (fun r s2 z => ?_) fun _ _ e => e)
    obtain ⟨v, rfl, hq⟩ := z
    exact wpAny_pure hq
  · rename_i q
    exact absurd (by simp) q
end HR1
namespace HR1
open PySem L2
open PySem.Spec PyProof.Rows
/-- a value of a built-in type -/
inductive Bi (K : PySem.W.Frag) (H : Hp) : V → Prop
  | non : Bi K H .non
  | bl (b : Bool) : Bi K H (.bl b)
  | int (i : Int) : Bi K H (.int i)
  | str (z : Str) : Bi K H (.str z)
  | lst {p : Addr} {xs : List V} (h : SqL K H p xs) : Bi K H (.ref p)
  | tup {p : Addr} {xs : List V} (h : SqT K H p xs) : Bi K H (.ref p)
  | dic {p : Addr} {o : Obj} {kvs : List (Key × V)} (h : H p = some (.frz o (.dK kvs))) : Bi K H (.ref p)
/-- the class at C is below none of the built-in types -/
structure Aloof (K : PySem.W.Frag) (C : Addr) : Prop where
  non : PySem.W.subIn K (.ref C) (.type "NoneType") = some false
  bl : PySem.W.subIn K (.ref C) (.type "bool") = some false
  int : PySem.W.subIn K (.ref C) (.type "int") = some false
  str : PySem.W.subIn K (.ref C) (.type "str") = some false
  lst : PySem.W.subIn K (.ref C) (.type "list") = some false
  tup : PySem.W.subIn K (.ref C) (.type "tuple") = some false
  dic : PySem.W.subIn K (.ref C) (.type "dict") = some false
def rEqRefl (K : PySem.W.Frag) (C : Addr) (sp : Sp) (E : XK) : R2 := fun x y H Q => ∃ a dx fs, y = .ref a ∧ H a = some (.ins C dx fs) ∧ Bi K H x ∧ sp [y, x] H Q E
theorem op_eqRefl {X : Cx} {CX : CXT} {k : Nat} {f C : Addr} {fd : FuncData} {ps : List Str} {sp : Sp} {E : XK} (F0 : FnOk X.prog X.w X.K X.mg X.base CX k f fd ps sp) (hr : Room k X.A) (hb : Binds X.K fd ps []) (hx : Passes CX X E)
    (hs : PySem.W.findIn X.K (.ref C) "__eq__" = some (some (.ref f))) (hf : PySem.W.isFn X.K (.ref f) = true) (al : Aloof X.K C) : OpR X (compareOp .Eq) (rEqRefl X.K C sp E) := by
  intro pins s σ H x y v u Q I rx ry h
  obtain ⟨a, dx, fs, rfl, ha, hbi, q⟩ := h
  cases ry
  obtain ⟨mA, J0, _⟩ := ins_get I.hok ha
  obtain ⟨od, J, _⟩ := J0.look
  have ho : s.heap.get? a = some (PySem.W.instObj C dx) := J0.1
  have hI : ∀ T : String, PySem.W.subIn X.K (.ref C) (.type T) = some false → ∀ M, PySem.W.Looks M s.heap (isInstance (.ref a) (.type T)) false := fun T hT M => J.type.andThen (PySem.W.looks_subIn I.kIn hT)
  have fin : wpAny (model X.prog X.w) X.A (call (.ref f) [.ref a, v]) (PySem.W.CmpBack (EP X pins σ Q)) X.xe s := thn (HO1.run_in F0 hr rfl hb hx I (HO1.vals_rx rx) q) fun v s' z => HO1.back_of z
  show wpAny _ _ (richCompare .Eq v (.ref a)) _ _ _
  cases hbi with
  | non =>
    cases (show v = Value.none from rx)
    exact refl_K hr.units0 I.kIn J (show s.TypeIs .none "NoneType" from rfl) al.non F.slot_NoneType_eq
      (fun Q' hq => call_gives F.slot_NoneType_eq rfl F.entry_NoneType_eq (F.args_NoneType_eq_2 _ _) (PySem.SeqAt.NoneType___eq___none_ref_0 a) hq) hs hf fin
  | bl b =>
    cases (show v = Value.bool b from rx)
    exact refl_K hr.units0 I.kIn J (PySem.typeIs_bool s b) al.bl F.slot_bool_eq
      (fun Q' hq => call_meets F.slot_bool_eq (PySem.typeIs_bool s b) F.entry_int_eq (F.args_int_eq_2 _ _) (bool_declines b a C dx) ⟨ho, hq⟩) hs hf fin
  | int i =>
    obtain ⟨t, rfl⟩ := (show ∃ t, v = Value.int i t from rx)
    exact refl_K hr.units0 I.kIn J (typeIs_int s i t) al.int F.slot_int_eq
      (fun Q' hq => call_meets F.slot_int_eq (typeIs_int s i t) F.entry_int_eq (F.args_int_eq_2 _ _) (int_declines i t a C dx) ⟨ho, hq⟩) hs hf fin
  | str z =>
    obtain ⟨t, rfl⟩ := (show ∃ t, v = Value.str z t from rx)
    exact refl_K hr.units0 I.kIn J (typeIs_str s z t) al.str F.slot_str_eq
      (fun Q' hq => call_meets F.slot_str_eq (typeIs_str s z t) F.entry_str_eq (F.args_str_eq_2 _ _) (str_declines z t a C dx) ⟨ho, hq⟩) hs hf fin
  | @lst p xs hq0 =>
    cases (show v = Value.ref p from rx)
    obtain ⟨its, r, ⟨o, n, e, e1, e2, e3⟩, _⟩ := I.list hq0
    obtain ⟨oc, odd, odt, osl⟩ := o
    dsimp only at e1 e2 e3
    subst e1 e2 e3
    exact refl_K hr.units0 I.kIn J ⟨_, e, rfl⟩ al.lst F.slot_list_eq
      (fun Q' hq => call_meets F.slot_list_eq ⟨_, e, rfl⟩ F.entry_list_eq (F.args_list_eq_2 _ _) (list_declines p a _ n _ osl) ⟨e, hI "list" al.lst, hq⟩) hs hf fin
  | @tup p xs hq0 =>
    cases (show v = Value.ref p from rx)
    obtain ⟨its, r, ⟨o, e, e1, n, e3⟩, _⟩ := I.tuple hq0
    obtain ⟨oc, odd, odt, osl⟩ := o
    dsimp only at e1 e3
    subst e1 e3
    exact refl_K hr.units0 I.kIn J ⟨_, e, rfl⟩ al.tup F.slot_tuple_eq
      (fun Q' hq => call_meets F.slot_tuple_eq ⟨_, e, rfl⟩ F.entry_tuple_eq (F.args_tuple_eq_2 _ _) (tuple_declines p a _ n _ osl) ⟨e, hI "tuple" al.tup, hq⟩) hs hf fin
  | @dic p ob kvs e0 =>
    cases (show v = Value.ref p from rx)
    obtain ⟨_, _, _, vs, _, o, es, ep, e, e1, e3, _⟩ := (show ObjOk X.prog X.w H s.heap p (.frz ob (.dK kvs)) from I.hok p _ e0)
    obtain ⟨oc, odd, odt, osl⟩ := o
    obtain ⟨e1, e2⟩ := e1
    dsimp only at e1 e3
    subst e1 e3
    exact refl_K hr.units0 I.kIn J ⟨_, e, rfl⟩ al.dic F.slot_dict_eq
      (fun Q' hq => call_meets F.slot_dict_eq ⟨_, e, rfl⟩ F.entry_dict_eq (F.args_dict_eq_2 _ _) (dict_declines p a es ep _ osl) ⟨e, hI "dict" al.dic, hq⟩) hs hf fin
end HR1

/-! HTok: arguments behind a written text; replace over data; == with an own instance on the right, over data; {}. -/
namespace HT1
open PySem PySem.Spec PyProof.Rows L2
section
variable {X : Cx}
/-- the first item ends by a written text: behind it a token is out -/
theorem pa_consT {a : Expr} {es : List Expr} {ta : TE} {t : TA} {op : Operator} {r : R2} {c : Str} {j : Nat} {p2 p : Pos} (ho : OpR X (binaryOp op) r) (ha : PE X a ta) (hr : PAT X es t)
    (hs : starEach (.BinOp a op (.Constant (.str c) j p2) p :: es) X.env = (false, eval (.BinOp a op (.Constant (.str c) j p2) p) X.env) :: starEach es X.env := by rfl) :
    PA X (.BinOp a op (.Constant (.str c) j p2) p :: es) (tCons (tOp r ta (tC (.str c))) t) := by
  refine ⟨fun pos pins s σ H Q I h => ?_⟩
  rw [hs]
  show wpAny _ _ (spliced ((false, eval (.BinOp a op (.Constant (.str c) j p2) p) X.env) :: backTo pos (starEach es X.env))) _ _ s
  refine Calls.spliced_cons (wpAny_BinOp (thn (ha.run pins s σ H _ I h) fun v s1 ⟨x, H1, I1, r1, q1⟩ => ?_))
  refine Calls.Constant_str ?_
  refine wpAny_mono (PySem.wpAny_toks (ho pins _ σ H1 x (.str c) v (.str c s1.toks) _ (I1.tok _) r1 ⟨_, rfl⟩ q1)) (fun z s2 q => ?_) fun _ _ z => z.2
  obtain ⟨hk, x2, H2, I2, r2, q2⟩ := q
  have hk' : s1.toks + 1 ≤ s2.toks := hk
  exact thn (hr pos pins s2 σ H2 _ (by omega) I2 q2) fun us s3 ⟨xs, H3, I3, r3, q3⟩ => ⟨x2 :: xs, H3, I3, .cons r2 r3, q3⟩
theorem pat_of {e : Expr} {es : List Expr} {te : TE} {t : TA} (ha : PE X e te) (hr : PAT X es t) (hs : starEach (e :: es) X.env = (false, eval e X.env) :: starEach es X.env := by rfl) : PAT X (e :: es) (tCons te t) :=
  pat_cons (CwR.PET.of ha) hr hs
end
end HT1
namespace DD
open PySem L2
open PySem.Spec PyProof.Rows
section
variable {K : PySem.W.Frag} {B F Hb H : Hp} {m : Mem} {ρ : DD.Env} {C : Addr} {φ : Phi} {E : XK} {X : XD}
theorem we_repl {to : TE} {y z : Str} {Q : QD} (h : WE K F B to ρ m fun d m1 => ∃ x, d = .s (.str x) ∧ x.length + (x.length + 1) * z.length ≤ 16777216 ∧ Q (.s (.str (Txt.replace x y z))) m1) : WE K F B (CwR.tReplC to y z) ρ m Q := fun Hb H σ R hB r hs k =>
  h Hb H σ _ hB r hs fun v H1 Hb1 d m1 e1 r1 hd q1 => by
    obtain ⟨x, rfl, hl, q⟩ := q1
    unfold Rp at hd
    exact ⟨x, hd, hl, k _ _ _ _ _ e1 r1 rp_s q⟩
/-- a value of a built-in type -/
def BiD : D → Prop
  | .s .non => True
  | .s (.bl _) => True
  | .s (.int _) => True
  | .s (.str _) => True
  | .lst _ => True
  | .tup _ => True
  | .dic _ _ => True
  | _ => False
theorem BiD.at {x : D} {v : V} (h : BiD x) (r : Rel K F Hb H m) (hx : Rp K Hb x v) : HR1.Bi K H v := by
  cases x with
  | s w =>
    unfold Rp at hx
    subst hx
    cases v with
    | non => exact .non
    | bl b => exact .bl b
    | int i => exact .int i
    | str z => exact .str z
    | _ => exact h.elim
  | lst xs =>
    unfold Rp at hx
    obtain ⟨p, vs, rfl, h1, _⟩ := hx
    exact .lst (SqL.of (r.sub _ _ h1))
  | tup xs =>
    unfold Rp at hx
    obtain ⟨p, vs, rfl, h1, _⟩ := hx
    exact .tup (sameT r.sub h1)
  | dic ks xs =>
    unfold Rp at hx
    obtain ⟨p, o, vs, rfl, h1, _⟩ := hx
    exact .dic (r.sub _ _ h1)
  | _ => exact h.elim
theorem wo_eqRefl {x y : D} {Q : QD} (hE : OkX K F B X E) (hx : BiD x) (hy : ObjD m C y) (h : φ [y, x] m Q X) : WO K F B (HR1.rEqRefl K C (spOf K φ) E) x y m Q := fun Hb H vx vy R hB r hvx hvy k => by
  obtain ⟨a, dx, fs, rfl, ha⟩ := hy.at r hvy
  exact ⟨a, dx, fs, rfl, ha, hx.at r hvx, _, m, F, Hb, Q, X, RpL.cons hvy (RpL.cons hvx RpL.nil), r, h, k, hE.mono hB⟩
/-- {}, that stays as it is -/
def tDNewF : TE := fun _ H Q => ∀ p o, H p = none → Q (.ref p) (upd H p (.frz o (.dK [])))
theorem pe_dnewF {X : Cx} {pos : Pos} : PE X (.Dict [] [] pos) tDNewF := by
  refine ⟨fun pins s σ H Q I h => wpAny_Dict_empty ?_⟩
  have hn := I.hok.fresh (Nat.le_refl s.heap.objs.size)
  have I1 := I.laid (a := s.heap.objs.size) (o := .dK []) (h' := s.heap.push { cls := .type "dict", data := .dict #[] }) (t' := s.toks) (fun _ _ q => Heap.get?_push_of_some _ q) (Nat.le_refl _) (dk_empty s.heap I.big)
  obtain ⟨od, I2⟩ := I1.lock upd_same trivial
  rw [upd_upd] at I2
  exact ⟨.ref s.heap.objs.size, _, I2, rfl, h _ od hn⟩
theorem we_dnew {Q : QD} (q : Q (.dic [] []) m) : WE K F B tDNewF ρ m Q := fun Hb H σ R hB r hs k => fun p o hp =>
  k _ _ _ (.dic [] []) _ (Same.new (r.fresh hp)) (r.data hp) (by
    unfold Rp
    exact ⟨p, o, [], rfl, upd_same, RpL.nil, rfl⟩) q
/-- {} == {} -/
def rEqE : R2 := fun x y H Q => ∃ a b o o', x = .ref a ∧ y = .ref b ∧ H a = some (.frz o (.dK [])) ∧ H b = some (.frz o' (.dK [])) ∧ Q (.bl true) H
theorem op_eqE {X : Cx} (hu : X.A.units < cLine) : OpR X (compareOp .Eq) rEqE := by
  intro pins s σ H x y v u Q I rx ry h
  obtain ⟨a, b, o, o', rfl, rfl, ea, eb, q⟩ := h
  obtain rfl : v = Value.ref a := rx
  obtain rfl : u = Value.ref b := ry
  obtain ⟨_, _, ya, va, ra, da⟩ := (show ObjOk X.prog X.w H s.heap a (.frz o (.dK [])) from I.hok a _ ea)
  obtain ⟨_, _, yb, vb, rb, db⟩ := (show ObjOk X.prog X.w H s.heap b (.frz o' (.dK [])) from I.hok b _ eb)
  cases ra
  cases rb
  exact PySem.W.keq_eq (knd := mixKind X.prog X.w) (r := true) ya yb da db hu (fun _ => .nil) (fin_bl I q (by simp))
theorem wo_eqE {Q : QD} (q : Q (.s (.bl true)) m) : WO K F B rEqE (.dic [] []) (.dic [] []) m Q := fun Hb H vx vy R hB r hvx hvy k => by
  unfold Rp at hvx hvy
  obtain ⟨a, o, vs, rfl, h1, _⟩ := hvx
  obtain ⟨b, o', vs', rfl, h2, _⟩ := hvy
  exact ⟨a, b, o, o', rfl, rfl, r.sub _ _ h1, r.sub _ _ h2, k.here r rp_s q⟩
end
end DD

/-! HHot: list comprehensions, and dict() of nothing, while an exception is handled. -/
namespace HH1
open PySem PySem.Spec PyProof.Rows L2 HotX L2H
section
variable {prog : Program} {w : World} {A : Around} {E : Value → Shared → Prop} {s : Shared}
theorem list_end_hot {it l x1 : Addr} {i : Nat} {items : Array Value} {Q : Option Value → Shared → Prop} (hot : HotAt A x1 s.heap) (hne : x1 ≠ it)
    (hit : s.heap.IsListIter it l i) (hl : s.heap.IsList l items) (hx : items[i]? = none)
    (hQ : ∀ h', (∀ b o, b ≠ it → s.heap.get? b = some o → h'.get? b = some o) → Q none { s with heap := h' }) : wpAny (model prog w) A (pyNext (.ref it)) Q E s := by
  obtain ⟨hh, o1, vs1, h1, d1, c1⟩ := hot
  obtain ⟨o, ho, hc, hd⟩ := id hit
  obtain ⟨ol, hol, _, nl, hdl⟩ := hl
  unfold pyNext
  refine wpAny_bind (wpAny_attempt (wpAny_callSpecial?_slot (name := Str.ofString "__next__") hit.typeIs slot_listiter_next
    (wpAny_call_entry slot_listiter_next hit.typeIs entry_listiter_next ?_ (args_listiter_next _))))
  show wpAny _ _ (field (.ref it) 0 >>= _) _ _ s
  refine wpAny_bind (wpAny_field ho hd (x := .ref l) rfl ?_)
  show wpAny _ _ (if (Value.ref l == Value.none) = true then _ else _) _ _ s
  rw [if_neg (show ¬ ((Value.ref l == Value.none) = true) from Bool.false_ne_true)]
  show wpAny _ _ (field (.ref it) 1 >>= _) _ _ s
  refine wpAny_bind (wpAny_field ho hd (x := .int i 0) rfl ?_)
  show wpAny _ _ (seqItems? (.ref l) >>= _) _ _ s
  refine wpAny_bind (wpAny_seqItems hol hdl ?_)
  simp only [Int.toNat_natCast, hx]
  refine wpAny_bind (wpAny_rule (wpAny_bind (wpAny_setField ho hd (by simp) ?_)))
  show wpAny _ _ (newExc (.type "StopIteration") [] >>= _) _ _ _
  refine wpAny_bind ?_
  simp only [newExc, newTuple]
  refine wpAny_bind (wpAny_newObj_type ?_ (by size_fits))
  refine wpAny_bind (m := firstArgMember _ _) (wpAny_of_eq (a := Value.none) (by first | rfl | (simp only [firstArgMember]; rfl)) ?_)
  refine wpAny_newObj_type ?_ (by size_fits)
  refine raiseNew_hot ⟨hh, o1, vs1, Heap.get?_push_of_some _ (Heap.get?_push_of_some _ ((Heap.get?_update_other _ _ hne.symm).trans h1)), d1, c1⟩ (Nat.ne_of_lt (Heap.lt_size (Heap.get?_push_of_some _ ((Heap.get?_update_other _ _ hne.symm).trans h1)))) (Heap.get?_push_size _ rfl) rfl (by first | (simp; done) | (simp; omega) | (simp only [Array.size_append]; simp; omega)) ?_
  refine wpAny_bind (wpAny_isInstance (T := "StopIteration") (b := true) ⟨_, Heap.get?_update_self _ (Heap.get?_push_size _ rfl) rfl, rfl⟩ isSubtype_stop ?_)
  refine wpAny_pure (hQ _ fun b u hb e => ?_)
  rw [Heap.get?_update_other _ _ (Nat.ne_of_gt (Heap.lt_size (Heap.get?_push_of_some _ ((Heap.get?_update_other _ _ hb.symm).trans e))))]
  exact Heap.get?_push_of_some _ (Heap.get?_push_of_some _ ((Heap.get?_update_other _ _ hb.symm).trans e))
theorem tuple_end_hot {it t x1 : Addr} {i : Nat} {items : Array Value} {Q : Option Value → Shared → Prop} (hot : HotAt A x1 s.heap) (hne : x1 ≠ it)
    (hit : s.heap.IsTupleIter it t i) (ht : s.heap.IsTuple t items) (hx : items[i]? = none)
    (hQ : ∀ h', (∀ b o, b ≠ it → s.heap.get? b = some o → h'.get? b = some o) → Q none { s with heap := h' }) : wpAny (model prog w) A (pyNext (.ref it)) Q E s := by
  obtain ⟨hh, o1, vs1, h1, d1, c1⟩ := hot
  obtain ⟨o, ho, hc, hd⟩ := id hit
  obtain ⟨ol, hol, _, nl, hdl⟩ := ht
  unfold pyNext
  refine wpAny_bind (wpAny_attempt (wpAny_callSpecial?_slot (name := Str.ofString "__next__") hit.typeIs F.slot_tuple_iterator_next
    (wpAny_call_entry F.slot_tuple_iterator_next hit.typeIs F.entry_tuple_iterator_next ?_ (F.args_tuple_iterator_next_1 _))))
  show wpAny _ _ (field (.ref it) 0 >>= _) _ _ s
  refine wpAny_bind (wpAny_field ho hd (x := .ref t) rfl ?_)
  show wpAny _ _ (if (Value.ref t == Value.none) = true then _ else _) _ _ s
  rw [if_neg (show ¬ ((Value.ref t == Value.none) = true) from Bool.false_ne_true)]
  show wpAny _ _ (field (.ref it) 1 >>= _) _ _ s
  refine wpAny_bind (wpAny_field ho hd (x := .int i 0) rfl ?_)
  show wpAny _ _ (seqItems? (.ref t) >>= _) _ _ s
  refine wpAny_bind (wpAny_seqItems hol hdl ?_)
  simp only [Int.toNat_natCast, hx]
  refine wpAny_bind (wpAny_rule (wpAny_bind (wpAny_setField ho hd (by simp) ?_)))
  show wpAny _ _ (newExc (.type "StopIteration") [] >>= _) _ _ _
  refine wpAny_bind ?_
  simp only [newExc, newTuple]
  refine wpAny_bind (wpAny_newObj_type ?_ (by size_fits))
  refine wpAny_bind (m := firstArgMember _ _) (wpAny_of_eq (a := Value.none) (by first | rfl | (simp only [firstArgMember]; rfl)) ?_)
  refine wpAny_newObj_type ?_ (by size_fits)
  refine raiseNew_hot ⟨hh, o1, vs1, Heap.get?_push_of_some _ (Heap.get?_push_of_some _ ((Heap.get?_update_other _ _ hne.symm).trans h1)), d1, c1⟩ (Nat.ne_of_lt (Heap.lt_size (Heap.get?_push_of_some _ ((Heap.get?_update_other _ _ hne.symm).trans h1)))) (Heap.get?_push_size _ rfl) rfl (by first | (simp; done) | (simp; omega) | (simp only [Array.size_append]; simp; omega)) ?_
  refine wpAny_bind (wpAny_isInstance (T := "StopIteration") (b := true) ⟨_, Heap.get?_update_self _ (Heap.get?_push_size _ rfl) rfl, rfl⟩ isSubtype_stop ?_)
  refine wpAny_pure (hQ _ fun b u hb e => ?_)
  rw [Heap.get?_update_other _ _ (Nat.ne_of_gt (Heap.lt_size (Heap.get?_push_of_some _ ((Heap.get?_update_other _ _ hb.symm).trans e))))]
  exact Heap.get?_push_of_some _ (Heap.get?_push_of_some _ ((Heap.get?_update_other _ _ hb.symm).trans e))
theorem key_end_hot {it d x1 : Addr} {i n ep : Nat} {od : Obj} {es : Array DictEntry} {Q : Option Value → Shared → Prop} (hot : HotAt A x1 s.heap) (hne : x1 ≠ it) (hit : s.heap.IsKeyIter it d i n ep) (hod : s.heap.get? d = some od) (hdd : od.data = .dict es ep)
    (hsz : es.size = n) (hge : n ≤ i) (hQ : ∀ h', (∀ b o, b ≠ it → s.heap.get? b = some o → h'.get? b = some o) → Q none { s with heap := h' }) : wpAny (model prog w) A (pyNext (.ref it)) Q E s := by
  obtain ⟨hh, o1, vs1, h1, d1, c1⟩ := hot
  obtain ⟨o, ho, hc, hd⟩ := id hit
  unfold pyNext
  refine wpAny_bind (wpAny_attempt (wpAny_callSpecial?_slot (name := Str.ofString "__next__") hit.typeIs F.slot_dict_keyiterator_next
    (wpAny_call_entry F.slot_dict_keyiterator_next hit.typeIs F.entry_dict_keyiterator_next ?_ (F.args_dict_keyiterator_next_1 _))))
  refine wpAny_bind (wpAny_pure ?_)
  refine wpAny_bind ?_
  refine wpAny_bind ?_
  first | refine wpAny_bind (wpAny_typeNameOfWhole_keyiter hit.typeIs (wpAny_pure ?_)) | refine wpAny_bind (wpAny_typeNameOf_keyiter hit.typeIs (wpAny_pure ?_))
  refine wpAny_bind (wpAny_fieldsOf ho hd ?_)
  have hown : Builtin.Dict_items.ownsTuple "dict_keyiterator" = false := by decide
  simp only [hown, Bool.false_eq_true, if_false]
  show wpAny _ _ (if (Value.ref d == Value.none) = true then _ else _) _ _ s
  rw [if_neg (show ¬ ((Value.ref d == Value.none) = true) from Bool.false_ne_true)]
  refine wpAny_bind (wpAny_pure ?_)
  refine wpAny_bind (wpAny_dictEntries hod hdd ?_)
  rw [if_neg (by rw [hsz]; simp)]
  refine wpAny_bind (wpAny_pure ?_)
  refine wpAny_bind (wpAny_dictEpoch hod hdd ?_)
  rw [if_neg (by simp)]
  refine wpAny_pure ?_
  have hge' : es.size ≤ i := by rw [hsz]; exact hge
  simp only [show ¬ ((i : Int) < 0) from by omega, if_false, Int.toNat_natCast, Array.getElem?_eq_none hge']
  refine wpAny_bind ?_
  first | refine wpAny_bind (wpAny_typeNameOfWhole_keyiter hit.typeIs (wpAny_pure ?_)) | refine wpAny_bind (wpAny_typeNameOf_keyiter hit.typeIs (wpAny_pure ?_))
  show wpAny _ _ (setField (.ref it) 0 .none >>= _) _ _ s
  refine wpAny_bind (wpAny_setField ho hd (by simp) ?_)
  show wpAny _ _ (newExc (.type "StopIteration") [] >>= _) _ _ _
  refine wpAny_bind ?_
  simp only [newExc, newTuple]
  refine wpAny_bind (wpAny_newObj_type ?_ (by size_fits))
  refine wpAny_bind (m := firstArgMember _ _) (wpAny_of_eq (a := Value.none) (by first | rfl | (simp only [firstArgMember]; rfl)) ?_)
  refine wpAny_newObj_type ?_ (by size_fits)
  refine raiseNew_hot ⟨hh, o1, vs1, Heap.get?_push_of_some _ (Heap.get?_push_of_some _ ((Heap.get?_update_other _ _ hne.symm).trans h1)), d1, c1⟩ (Nat.ne_of_lt (Heap.lt_size (Heap.get?_push_of_some _ ((Heap.get?_update_other _ _ hne.symm).trans h1)))) (Heap.get?_push_size _ rfl) rfl (by first | (simp; done) | (simp; omega) | (simp only [Array.size_append]; simp; omega)) ?_
  refine wpAny_bind (wpAny_isInstance (T := "StopIteration") (b := true) ⟨_, Heap.get?_update_self _ (Heap.get?_push_size _ rfl) rfl, rfl⟩ isSubtype_stop ?_)
  refine wpAny_pure (hQ _ fun b u hb e => ?_)
  rw [Heap.get?_update_other _ _ (Nat.ne_of_gt (Heap.lt_size (Heap.get?_push_of_some _ ((Heap.get?_update_other _ _ hb.symm).trans e))))]
  exact Heap.get?_push_of_some _ (Heap.get?_push_of_some _ ((Heap.get?_update_other _ _ hb.symm).trans e))

theorem raiseAttr_hot {α : Type} {o : Value} {name msg : Str} {x1 : Addr} {Q : α → Shared → Prop} (hot : HotAt A x1 s.heap)
    (h : ∀ h' tk e, (∀ b ob, s.heap.get? b = some ob → h'.get? b = some ob) → (∃ t u, h'.get? e = some { cls := .type "AttributeError", data := .fields #[t, .none, .ref x1, .none, .bool false, .none, .str name u, o] }) → E (.ref e) { s with heap := h', toks := tk }) (hm : msg.length ≤ sizeLine := by size_fits) :
    wpAny (model prog w) A (raiseAttrError o name msg : Sem α) Q E s := by
  obtain ⟨hh, o1, vs1, h1, d1, c1⟩ := hot
  unfold raiseAttrError
  refine wpAny_bind (wpAny_mkStr (wpAny_bind ?_) hm)
  unfold newExc newTuple
  refine wpAny_bind (wpAny_newObj_type ?_ (by size_fits))
  refine wpAny_bind (m := firstArgMember _ _) (wpAny_of_eq (a := Value.none) (by simp only [firstArgMember, attrError_no_first]; rfl) ?_)
  rw [ownMembersOf_AttributeError]
  refine wpAny_newObj_type ?_ (by size_fits)
  obtain ⟨hp, g, d, tk, os⟩ := s
  have f1 := sub_AttributeError
  repeat (any_goals (first | assumption | wp_step))
  have hlt : x1 < hp.objs.size := Heap.lt_size h1
  refine raiseNew_hot ⟨hh, o1, vs1, (Heap.get?_update_other _ _ ?_).trans (Heap.get?_push_of_some _ (Heap.get?_push_of_some _ h1)), d1, c1⟩ ?_ (Heap.get?_update_self _ (Heap.get?_push_size _ rfl) rfl) rfl (by first | (simp; done) | (simp; omega) | (simp only [Array.size_append]; simp; omega)) ?_
  · simp only [Heap.size_push]
    exact Nat.ne_of_gt (Nat.lt_succ_of_lt hlt)
  · simp only [Heap.size_push]
    exact Nat.ne_of_lt (Nat.lt_succ_of_lt hlt)
  · dsimp only
    refine h _ _ _ (fun b ob hb => ?_) ?_
    · have hlt : b < hp.objs.size := Heap.lt_size hb
      refine (Heap.get?_update_other _ _ ?_).trans ((Heap.get?_update_other _ _ ?_).trans (Heap.get?_push_of_some _ (Heap.get?_push_of_some _ hb)))
      · simp only [Heap.size_push]
        exact Nat.ne_of_gt (Nat.lt_succ_of_lt hlt)
      · simp only [Heap.size_push]
        exact Nat.ne_of_gt (Nat.lt_succ_of_lt hlt)
    · exact ⟨_, _, Heap.get?_update_self _ (Heap.get?_update_self _ (Heap.get?_push_size _ rfl) rfl) rfl⟩
/-- raisesAttr while x1 is handled -/
def raisesAttrH (x1 : Addr) (o : Value) (name : Str) : PySem.Spec := fun A R s => HotAt A x1 s.heap ∧ ∀ h' tk e, (∀ b ob, s.heap.get? b = some ob → h'.get? b = some ob) → (∃ t u, h'.get? e = some { cls := .type "AttributeError", data := .fields #[t, .none, .ref x1, .none, .bool false, .none, .str name u, o] }) → R (.error (.ref e)) { s with heap := h', toks := tk }
theorem meets_miss_listH (x1 a : Addr) (xs : Array Value) (k : Nat) (sl : Array (Option Value)) (name : Str) (u : Tok) (hmiss : typeLookup (.type "list") name = pure none) (hname : (["__module__", "__name__", "__qualname__", "__doc__", "__annotations__"] : List Str).contains name = false) (hsz : name.length + 100 ≤ sizeLine := by size_fits) :
    Meets (Builtin.«object.__getattribute__» ⟨[.ref a, .str name u], []⟩) (fun A R s => s.heap.get? a = some { cls := .type "list", dict := none, data := .seq xs k, slots := sl } ∧ raisesAttrH x1 (.ref a) name A R s) :=
  Meets.of_wp fun prog w A R s hs => by
    obtain ⟨hp, g, d, tk, os⟩ := s
    obtain ⟨hx, hs⟩ := hs
    have hT : (⟨hp, g, d, tk, os⟩ : Shared).TypeIs (.ref a) "list" := ⟨_, hx, rfl⟩
    unfold Builtin.«object.__getattribute__»
    repeat (any_goals (first | assumption | wp_step))
    simp only [hname, Bool.false_eq_true, if_false]
    repeat (any_goals (first | assumption | wp_step))
    exact raiseAttr_hot hs.1 hs.2 (attrMsg_fits (by decide +kernel) hsz)
theorem miss_list_hot {s : Shared} {a x1 : Addr} {o : Obj} {xs : Array Value} {k : Nat} {Q : Option Value → Shared → Prop} (hx : s.heap.get? a = some o) (hc : o.cls = .type "list") (hdat : o.data = .seq xs k) (hd : o.dict = none) (hot : HotAt A x1 s.heap)
    (h : ∀ h' tk, (∀ b ob, s.heap.get? b = some ob → h'.get? b = some ob) → Q none { s with heap := h', toks := tk }) : wpAny (model prog w) A (getAttr? (.ref a) "keys") Q E s := by
  obtain ⟨c, dct, dat, sl⟩ := o
  simp only at hc hdat hd
  subst hc hdat hd
  obtain ⟨hp, g, d, tk, os⟩ := s
  have hT : ∀ tk', (⟨hp, g, d, tk', os⟩ : Shared).TypeIs (.ref a) "list" := fun _ => ⟨_, hx, rfl⟩
  have hmiss := list_keys_none
  have hname : (["__module__", "__name__", "__qualname__", "__doc__", "__annotations__"] : List Str).contains "keys" = false := by decide +kernel
  have hsz : ("keys" : Str).length + 100 ≤ sizeLine := by first | size_fits | decide +kernel
  have f1 := sub_AttributeError
  have f3 := PySem.F.slot_list_getattribute.lookup
  have f4 := PySem.F.slot_list_getattribute.bind (.ref a)
  have f5 := am_list_getattr_none
  unfold getAttr? getAttrBy? getAttrBy
  repeat (any_goals (first | assumption | exact hT _ | ((with_reducible show wpAny _ _ (call (Value.builtin "list.__getattribute__") _ _) _ _ _); refine call_meets PySem.F.slot_list_getattribute (hT _) am_entry_list_getattribute (PySem.F.args_list_getattribute_2 _ _) (meets_miss_listH x1 a xs k sl "keys" _ hmiss hname hsz) ⟨hx, hot, fun h' tk' e hk' hx' => ?_⟩) | wp_step))
  obtain ⟨t', u', he⟩ := hx'
  show wpAny _ _ (getattributeRaised _ _ _ _ _ _ _) _ _ _
  unfold getattributeRaised
  repeat (any_goals (first | assumption | wp_step))
  all_goals first | exact h _ _ hk' | (dsimp only; repeat (any_goals (first | assumption | exact h _ _ hk' | wp_step)))
/-- dict([]) -/
theorem dict_nil_hot {s : Shared} {l x1 : Addr} {ol : Obj} {n : Nat} {Q : Value → Shared → Prop} (hot : HotAt A x1 s.heap) (hl : s.heap.get? l = some ol) (hc : ol.cls = .type "list") (hd : ol.dict = none)
    (hdat : ol.data = .seq #[] n)
    (h : ∀ h' tk, h'.DictOf (mixKind prog w) s.heap.objs.size [] → (∀ b o, s.heap.get? b = some o → h'.get? b = some o) → Q (.ref s.heap.objs.size) { s with heap := h', toks := tk }) :
    wpAny (model prog w) A (call (.type "dict") [.ref l]) Q E s := by
  obtain ⟨hh, o1, vs1, ho1, d1, c1⟩ := hot
  refine callType_codes (Q₁ := fun obj s₁ => obj = .ref s.heap.objs.size ∧ s₁ = { s with heap := s.heap.push { cls := .type "dict", data := .dict #[] } }) PySem.F.kt_called_dict (PySem.F.kt_typeCall_dict_1 _) PySem.F.entry_dict_init (kt_code_dict_new _ ⟨rfl, rfl⟩) ?_
  rintro obj s₁ ⟨rfl, rfl⟩
  have hnew : (s.heap.push { cls := .type "dict", data := .dict #[] }).DictOf (mixKind prog w) s.heap.objs.size [] := Heap.DictOf.new s.heap
  have k0 : ∀ b o, s.heap.get? b = some o → (s.heap.push { cls := .type "dict", data := .dict #[] }).get? b = some o := fun b o e => Heap.get?_push_of_some _ e
  refine ⟨hnew.typeIs, PySem.F.args_dict_init_2 _ _, ?_⟩
  unfold Builtin.«dict.__init__»
  refine wpAny_bind ?_
  unfold Builtin.Dict.selfAndRest
  refine wpAny_bind (wpAny_notOrdered_dict hnew.typeIs ?_)
  show wpAny _ _ (pure (s.heap.objs.size, [Value.ref l])) _ _ _
  refine wpAny_pure ?_
  show wpAny _ _ (Builtin.Dict.updateFrom "dict.__init__" s.heap.objs.size (.ref l) [] .none) _ _ _
  unfold Builtin.Dict.updateFrom
  refine wpAny_bind (wpAny_typeOf (T := "list") ⟨ol, k0 _ _ hl, hc⟩ ?_)
  rw [if_pos (by first | decide | rfl | simp)]
  refine wpAny_bind (miss_list_hot (x1 := x1) (k0 _ _ hl) hc hdat hd ⟨hh, o1, vs1, k0 _ _ ho1, d1, c1⟩ fun h1 tk1 hk1 => ?_)
  rw [if_pos (show (none : Option Value).isNone = true from rfl)]
  refine wpAny_bind (wpAny_rule ?_)
  have hl1 : h1.IsList l #[] := ⟨ol, hk1 _ _ (k0 _ _ hl), hc, n, hdat⟩
  have hS1 : s.heap.objs.size < h1.objs.size := by
    have e : (s.heap.push { cls := .type "dict", data := .dict #[] }).get? s.heap.objs.size = some { cls := .type "dict", data := .dict #[] } := Heap.get?_push_size _ rfl
    exact Heap.lt_size (hk1 _ _ e)
  refine wpAny_bind (wpAny_pyIter_list hl1 ?_)
  have k2 : ∀ b o, h1.get? b = some o → (h1.push { cls := .type "list_iterator", data := .fields #[.ref l, .int 0 0] }).get? b = some o := fun b o e => Heap.get?_push_of_some _ e
  have hlt : l < s.heap.objs.size := Heap.lt_size hl
  have hx1 : x1 < s.heap.objs.size := Heap.lt_size ho1
  have key : codeAny (model prog w) A.in1 (.builtin "dict.update.loop" ⟨[.ref s.heap.objs.size, .ref h1.objs.size, .int 0 0, .none], []⟩) (wants (fun r s₂ => r = .none ∧ Q (.ref s.heap.objs.size) s₂) E)
      { s with heap := h1.push { cls := .type "list_iterator", data := .fields #[.ref l, .int 0 0] }, toks := tk1 } := by
    refine codeAny_builtin ud_entry ?_
    rw [Around.under_plainId ud_plain _]
    show wpAny _ A.in1.in1 (pyNext (.ref h1.objs.size) >>= _) _ _ _
    refine wpAny_bind (list_end_hot (A := A.in1.in1) (i := 0) (x1 := x1) (l := l) (items := #[]) ⟨hh, o1, vs1, k2 _ _ (hk1 _ _ (k0 _ _ ho1)), d1, c1⟩ (Nat.ne_of_lt (Nat.lt_trans hx1 hS1)) ⟨_, Heap.get?_push_size _ rfl, rfl, rfl⟩ (hl1.at fun o e => k2 _ _ e) rfl fun h' he => ?_)
    show wpAny _ A.in1.in1 (Builtin.Dict.addKeywords s.heap.objs.size [] >>= _) _ _ _
    refine wpAny_bind (wpAny_pure (wpAny_pure ?_))
    refine ⟨rfl, h h' tk1 (((hnew.at fun o e => hk1 _ _ e).at fun o e => k2 _ _ e).at fun o e => he _ _ (Nat.ne_of_lt hS1) e) fun b o e => ?_⟩
    exact he b o (Nat.ne_of_lt (Nat.lt_trans (Heap.lt_size e) hS1)) (k2 _ _ (hk1 _ _ (k0 _ _ e)))
  first
    | exact wpAny_pure ⟨plainId_quiet ud_plain _, key⟩
    | exact wpAny_bind (wpAny_pure (wpAny_pure ⟨plainId_quiet ud_plain _, key⟩))
end
/-! ### walks -/
section
variable {P : Program} {w : World} {K : PySem.W.Frag} {tg : Expr}
theorem turn_listH (a it : Addr) : TurnH P w K tg (Itl K a) [it] it (fun i h => h.IsListIter it a i) where
  mem := by simp
  obj := fun i h st b hb => by
    have e : b = it := by simpa using hb
    subst e
    obtain ⟨o, e, c, d⟩ := st
    exact ⟨o, e, fun v z => by rw [d] at z; cases z⟩
  keep := fun i h h' st k => st.at fun o e => k it (by simp) o e
  item := by
    intro X hP hw hK hc i pins s σ H E I hf st hg
    subst hP hw hK
    obtain ⟨xs, x, hq, hx⟩ := hg
    obtain ⟨its, rv, p, hz⟩ := I.list hq
    obtain ⟨u, hu, ru⟩ := rv.get hx
    obtain ⟨f0, f1, f2, f3, f4, f5⟩ := hf it (by simp)
    refine wpAny_pyNext_list_item st p.isList (x := u) (by simpa using hu) fun h' st' sb => ?_
    have I1 : Inv X pins σ H { s with heap := h' } := I.turned (t' := s.toks) (fun b o hb e => (sb.2 b hb).trans e) f0 f1 f3 f4 f5
    obtain ⟨o, e, c, d⟩ := id st'
    exact ⟨u, rfl, go_of (s := { s with heap := h' }) e c d (by decide) ⟨x, H, I1, ru, ⟨rfl, fun ys hy => by rw [I.list_inj hy hq]; exact hx⟩, st', fun b hb => (hf b hb).1⟩⟩
  done := by
    intro X hP hw hK hc i pins s σ H E I hf st hg
    subst hP hw hK
    obtain ⟨xs, hq, hx⟩ := hg
    obtain ⟨its, rv, p, hz⟩ := I.list hq
    obtain ⟨f0, f1, f2, f3, f4, f5⟩ := hf it (by simp)
    have hl := rv.length
    obtain ⟨q, hq1, hq2⟩ := hc
    obtain ⟨hh, v1, e1, c1⟩ := hq1
    have hot : HotAt X.A q.1 s.heap := ⟨hh, q.2, v1, (I.pin q (List.mem_append_left _ hq2)).1, e1, c1⟩
    exact list_end_hot hot (f5 q (List.mem_append_left _ hq2)) st p.isList (by simp; omega) fun h' eb => ⟨rfl, I.turned (t' := s.toks) (fun b o hb e => eb b o hb e) f0 f1 f3 f4 f5⟩
  self := fun _ _ _ _ _ st h => wpAny_pyIter_listiter st h
theorem turn_tupleH (a it : Addr) : TurnH P w K tg (Itt K a) [it] it (fun i h => h.IsTupleIter it a i) where
  mem := by simp
  obj := fun i h st b hb => by
    have e : b = it := by simpa using hb
    subst e
    obtain ⟨o, e, c, d⟩ := st
    exact ⟨o, e, fun v z => by rw [d] at z; cases z⟩
  keep := fun i h h' st k => st.at fun o e => k it (by simp) o e
  item := by
    intro X hP hw hK hc i pins s σ H E I hf st hg
    subst hP hw hK
    obtain ⟨xs, x, hq, hx⟩ := hg
    obtain ⟨its, rv, p, hz⟩ := I.tuple hq
    obtain ⟨u, hu, ru⟩ := rv.get hx
    obtain ⟨f0, f1, f2, f3, f4, f5⟩ := hf it (by simp)
    refine wpAny_pyNext_tuple_item st (show s.heap.IsTuple a its.toArray from p) (x := u) (by simpa using hu) fun h' st' sb => ?_
    have I1 : Inv X pins σ H { s with heap := h' } := I.turned (t' := s.toks) (fun b o hb e => (sb.2 b hb).trans e) f0 f1 f3 f4 f5
    obtain ⟨o, e, c, d⟩ := id st'
    exact ⟨u, rfl, go_of (s := { s with heap := h' }) e c d (by decide) ⟨x, H, I1, ru, ⟨rfl, fun ys hy => by rw [I.tuple_inj hy hq]; exact hx⟩, st', fun b hb => (hf b hb).1⟩⟩
  done := by
    intro X hP hw hK hc i pins s σ H E I hf st hg
    subst hP hw hK
    obtain ⟨xs, hq, hx⟩ := hg
    obtain ⟨its, rv, p, hz⟩ := I.tuple hq
    obtain ⟨f0, f1, f2, f3, f4, f5⟩ := hf it (by simp)
    have hl := rv.length
    obtain ⟨q, hq1, hq2⟩ := hc
    obtain ⟨hh, v1, e1, c1⟩ := hq1
    have hot : HotAt X.A q.1 s.heap := ⟨hh, q.2, v1, (I.pin q (List.mem_append_left _ hq2)).1, e1, c1⟩
    exact tuple_end_hot hot (f5 q (List.mem_append_left _ hq2)) st (show s.heap.IsTuple a its.toArray from p) (by simp; omega) fun h' eb => ⟨rfl, I.turned (t' := s.toks) (fun b o hb e => eb b o hb e) f0 f1 f3 f4 f5⟩
  self := fun _ _ _ _ _ st h => wpAny_pyIter_tupleiter st h
theorem turn_keysH {d : Addr} {o : Obj} {es : Array DictEntry} {ep : Nat} {kvs : List (L2.Key × V)} (it : Addr) (hod : o.data = .dict es ep) : TurnH P w K tg (Itk d o kvs) [it] it (fun i h => h.IsKeyIter it d i kvs.length ep) where
  mem := by simp
  obj := fun i h st b hb => by
    have e : b = it := by simpa using hb
    subst e
    obtain ⟨oi, e, c, dd⟩ := st
    exact ⟨oi, e, fun v z => by rw [dd] at z; cases z⟩
  keep := fun i h h' st k => st.at fun oi e => k it (by simp) oi e
  item := by
    intro X hP hw hK hc i pins s σ H E I hf st hg
    subst hP hw hK
    obtain ⟨hd, hi⟩ := hg
    obtain ⟨f0, f1, f2, f3, f4, f5⟩ := hf it (by simp)
    obtain ⟨hs, hgd, hx, es', ep', vs, hdt, hsz, kv, hm⟩ := I.frzK hd
    obtain ⟨rfl, rfl⟩ := dict_ep hod hdt
    obtain ⟨⟨k, v⟩, hkv⟩ : ∃ p, kvs[i]? = some p := ⟨kvs[i], List.getElem?_eq_getElem hi⟩
    obtain ⟨u, hu, ru⟩ := kv_get kv hkv
    have hl : kvs.length = vs.length := Paired.length kv
    rw [hl] at st
    refine wpAny_pyNext_dict_item st hm hu fun key h' hkey st' sb => ?_
    have I1 : Inv X pins σ H { s with heap := h' } := I.turned (t' := s.toks) (fun b ob hb e => (sb.2 b hb).trans e) f0 f1 f3 f4 f5
    obtain ⟨oi, e, c, dd⟩ := id st'
    refine ⟨key, rfl, go_of (s := { s with heap := h' }) e c dd (by decide) ⟨kV k, H, I1, relV_key (show keyIs k key = true from hkey), ⟨rfl, k, v, hkv, rfl⟩, ?_, fun b hb => (hf b hb).1⟩⟩
    show h'.IsKeyIter it d (i + 1) kvs.length _
    rw [hl]
    exact st'
  done := by
    intro X hP hw hK hc i pins s σ H E I hf st hg
    subst hP hw hK
    obtain ⟨hd, hi⟩ := hg
    obtain ⟨f0, f1, f2, f3, f4, f5⟩ := hf it (by simp)
    obtain ⟨hs, hgd, hx, es', ep', vs, hdt, hsz, kv, hm⟩ := I.frzK hd
    obtain ⟨rfl, rfl⟩ := dict_ep hod hdt
    obtain ⟨q, hq1, hq2⟩ := hc
    obtain ⟨hh, v1, e1, c1⟩ := hq1
    have hot : HotAt X.A q.1 s.heap := ⟨hh, q.2, v1, (I.pin q (List.mem_append_left _ hq2)).1, e1, c1⟩
    exact key_end_hot hot (f5 q (List.mem_append_left _ hq2)) st hgd hdt hsz hi fun h' eb => ⟨rfl, I.turned (t' := s.toks) (fun b ob hb e => eb b ob hb e) f0 f1 f3 f4 f5⟩
  self := fun A i s Q E st h => wpAny_pyIter_keyiter st h
end
section
variable {X : Cx} {tg e : Expr} {te : TE}
theorem pi_oneH {pins : List (Addr × Obj)} {σ : L2.St} {H : Hp} {s : Shared} {R : It → Hp → Prop} {J : It} {tn : Nat → Heap → Prop} {tk : Nat} (I : Inv X pins σ H s) (o : Obj)
    (T : TurnH X.prog X.w X.K tg J [s.heap.objs.size] s.heap.objs.size tn) (st : tn 0 (s.heap.push o)) (q : R J H) : PIEH X pins σ tg R (.ref s.heap.objs.size) { s with heap := s.heap.push o, toks := tk } := by
  refine ⟨s.heap.objs.size, [s.heap.objs.size], tn, J, H, rfl, I.kept fun b ob e => Heap.get?_push_of_some _ e, T, st, fun b hb => ?_, q⟩
  have e : b = s.heap.objs.size := by simpa using hb
  subst e
  exact I.fpOk (Nat.le_refl _) (I.hok.fresh (Nat.le_refl _))
/-- a list or a tuple, as it comes -/
def iLT (K : PySem.W.Frag) (te : TE) : TI := fun σ H R => te σ H fun v H1 => (∃ a, v = .ref a ∧ (∃ vs, SqL K H1 a vs) ∧ R (Itl K a) H1) ∨ (∃ a, v = .ref a ∧ (∃ vs, SqT K H1 a vs) ∧ R (Itt K a) H1)
theorem pi_LT (he : PE X e te) : PI X tg e (iLT X.K te) := by
  refine ⟨fun pins s σ H R I h => thn (he.run pins s σ H _ I h) fun v s1 ⟨y, H1, I1, r1, q⟩ => ?_⟩
  rcases q with ⟨a, rfl, ⟨vs, hq⟩, q⟩ | ⟨a, rfl, ⟨vs, hq⟩, q⟩
  · cases r1
    obtain ⟨its, _, p, _⟩ := I1.list hq
    exact wpAny_pyIter_list p.isList (pi_one (tk := s1.toks) I1 _ (turn_list a _) ⟨_, Heap.get?_push_size _ rfl, rfl, rfl⟩ q)
  · cases r1
    obtain ⟨its, _, p, _⟩ := I1.tuple hq
    exact wpAny_pyIter_tuple (show s1.heap.IsTuple a its.toArray from p) (pi_one (tk := s1.toks) I1 _ (turn_tuple a _) ⟨_, Heap.get?_push_size _ rfl, rfl, rfl⟩ q)
theorem pi_LTH (he : PE X e te) : PIH X tg e (iLT X.K te) := by
  refine ⟨fun pins s σ H R I h => thn (he.run pins s σ H _ I h) fun v s1 ⟨y, H1, I1, r1, q⟩ => ?_⟩
  rcases q with ⟨a, rfl, ⟨vs, hq⟩, q⟩ | ⟨a, rfl, ⟨vs, hq⟩, q⟩
  · cases r1
    obtain ⟨its, _, p, _⟩ := I1.list hq
    exact wpAny_pyIter_list p.isList (pi_oneH (tk := s1.toks) I1 _ (turn_listH a _) ⟨_, Heap.get?_push_size _ rfl, rfl, rfl⟩ q)
  · cases r1
    obtain ⟨its, _, p, _⟩ := I1.tuple hq
    exact wpAny_pyIter_tuple (show s1.heap.IsTuple a its.toArray from p) (pi_oneH (tk := s1.toks) I1 _ (turn_tupleH a _) ⟨_, Heap.get?_push_size _ rfl, rfl, rfl⟩ q)
/-- the keys of a locked dict -/
def iKy (td : TE) : TI := fun σ H R => td σ H fun x H1 => ∃ d o, x = .ref d ∧ ∃ kvs, H1 d = some (.frz o (.dK kvs)) ∧ R (Itk d o kvs) H1
theorem pi_ky (he : PE X e te) : PI X tg e (iKy te) := by
  refine ⟨fun pins s σ H R I h => ?_⟩
  refine thn (he.run pins s σ H _ I h) fun u s1 ⟨x, H1, I1, rx, d, o, ex, kvs, hd, q⟩ => ?_
  subst ex
  obtain rfl : u = Value.ref d := rx
  obtain ⟨hs, hgd, hx, es, ep, vs, hdt, hsz, kv, hm⟩ := I1.frzK hd
  refine iter_keys hs hgd hx hdt (pi_one (tk := s1.toks) I1 _ (turn_keys _ hdt) ⟨_, Heap.get?_push_size _ rfl, rfl, ?_⟩ q)
  rw [hsz] <;> rfl
theorem pi_kyH (he : PE X e te) : PIH X tg e (iKy te) := by
  refine ⟨fun pins s σ H R I h => ?_⟩
  refine thn (he.run pins s σ H _ I h) fun u s1 ⟨x, H1, I1, rx, d, o, ex, kvs, hd, q⟩ => ?_
  subst ex
  obtain rfl : u = Value.ref d := rx
  obtain ⟨hs, hgd, hx, es, ep, vs, hdt, hsz, kv, hm⟩ := I1.frzK hd
  refine iter_keys hs hgd hx hdt (pi_oneH (tk := s1.toks) I1 _ (turn_keysH _ hdt) ⟨_, Heap.get?_push_size _ rfl, rfl, ?_⟩ q)
  rw [hsz] <;> rfl
end
/-! ### the comprehension -/
/-- the block's context, the handled exception still pinned -/
abbrev blkH (X : Cx) (s : Shared) (H : Hp) (scope : Scope) (cenv : PySem.Env) (fp : List Addr) : Cx := { X with s_0 := s, H_0 := H, env := cenv, outer := X.stack, ex := fp, fn := fun x => scope.names.lookup x == some .cell, xe := fun _ _ => False }
section
variable {X : Cx}
theorem hotC_blk {s : Shared} {H : Hp} {scope : Scope} {cenv : PySem.Env} {fp : List Addr} (hc : HotC X) : HotC (blkH X s H scope cenv fp) := hc
theorem blk_pinned {pins : List (Addr × Obj)} {σ σ' : L2.St} {H : Hp} {s s' : Shared} {scope : Scope} {cenv : PySem.Env} {fp : List Addr} (I : Inv X pins σ H s) (hL : s.heap.objs.size ≤ cenv.locals)
    (k : ∀ b o, s.heap.get? b = some o → s'.heap.get? b = some o) (J : Inv (X.blk s H scope cenv fp) [] σ' H s') : Inv (blkH X s H scope cenv fp) [] σ' H s' :=
  ⟨⟨J.ok.mod, J.ok.kind, J.ok.glob, J.ok.blt, J.ok.above, J.ok.inj, J.ok.has, J.ok.cab, J.ok.hd, J.ok.frames, J.ok.stk, J.ok.exf, J.ok.bs, J.ok.bsz, J.ok.noex, J.ok.exfs, J.ok.funs, J.ok.frf⟩, J.os, J.bare, J.base, J.loc, J.cell, J.free, J.freeC, fun p hp => by
    have hp' : p ∈ X.pn := by simpa using hp
    have q := I.pin p (List.mem_append_left _ hp')
    refine ⟨k _ _ q.1, q.2.1, fun z => ?_, fun hm => ?_, q.2.2.2.2⟩
    · exact absurd (Nat.lt_of_lt_of_le (Heap.lt_size q.1) (by rw [z]; exact hL)) (Nat.lt_irrefl _)
    · exact (List.mem_cons.mp (I.stkSub p.1 hm)).elim q.2.2.1 q.2.2.2.1, J.hok, J.len⟩
theorem lc_coreH {pins : List (Addr × Obj)} {s : Shared} {σ : L2.St} {H : Hp} {Q : VK} {elt tg iter : Expr} {ifs : List Expr} {scope : Scope} {own : List (Str × Nat)} {pos pos' : Pos} {wi : TI} {g : TG} {tt : TT} {te : TE} {use : Option (Value → Sem Unit)} {Qf : Value → Shared → Prop}
    (hc : HotC X) (hN : X.N.Nodup) (I : Inv X pins σ H s) (hi : PIH X tg iter wi) (ok : BlkOk X.N X.env.scope scope own)
    (hg : ∀ (s : Shared) (H : Hp) (C : Addr) (cl : List (Str × Addr)) (fp : List Addr), PG (blkH X s H scope (compEnvC scope cl C X.env) fp) tg g) (ht : ∀ (s : Shared) (H : Hp) (C : Addr) (cl : List (Str × Addr)) (fp : List Addr), PTs (blkH X s H scope (compEnvC scope cl C X.env) fp) ifs tt)
    (he : ∀ (s : Shared) (H : Hp) (C : Addr) (cl : List (Str × Addr)) (fp : List Addr), PE (blkH X s H scope (compEnvC scope cl C X.env) fp) elt te) (hs : ∀ x, foldedSetIterable iter X.env x = pure x)
    (h : tLc wi g tt te (own.map (·.2)) σ H Q)
    (hRR : ∀ D C s' m H', Inv X pins σ H' s' → Q (.ref D) H' → s'.heap.Ns C m → FpOk X pins H' C → compPost (model X.prog X.w) X.A X.xe use Qf (.ref D) C (.ok .next) s') :
    wpAny (model X.prog X.w) X.A (comprehension (.ListComp elt [⟨tg, iter, ifs, 0⟩] scope pos) scope X.env pos' (newList []) false (eval iter X.env) use) Qf X.xe s := by
  have hfree : ∀ y ∈ scope.names, y.2 = .free → ∃ c, X.env.cells.lookup y.1 = some c := fun y hy e => by
    rcases ok.free y hy e with k | k
    · exact I.ok.has _ (.inl k)
    · exact I.ok.has _ (.inr k)
  refine wpAny_comprehension_free (use := use) rfl hs (closure_ok hfree) ok.kind (fun y hy e => by rw [ok.uniq y hy, e])
    (thn (hi.run pins s σ H _ I h) fun xv s1 hx => thn hx fun itv s2 h2 => ?_)
  obtain ⟨it, fp, tn, J, H2, e, I2, T, st2, f2, q⟩ := h2
  subst e
  refine wpAny_newObj_type (newEnv_comp ?_) (by show 0 ≤ sizeLine; decide)
  generalize hD : s2.heap.objs.size = D
  have hDn : H2 D = none := I2.hok.fresh (Nat.le_of_eq hD)
  obtain ⟨W, ⟨m0, w0⟩, turn⟩ := q D hDn
  generalize hs3 : ({ s2 with heap := s2.heap.push { cls := .type "list", data := .seq ([] : List Value).toArray } } : Shared) = s3
  have I3 : Inv X pins σ (upd H2 D (.lst [])) s3 := by
    rw [← hs3]
    refine I2.laid (t' := s2.toks) (fun b o e => Heap.get?_push_of_some _ e) (Nat.le_of_eq hD) ⟨Nat.zero_le _, [], 0, .nil, ?_⟩
    rw [← hD]
    exact Heap.get?_push_size _ rfl
  have h3 : s3.heap = s2.heap.push { cls := .type "list", data := .seq ([] : List Value).toArray } := by rw [← hs3]
  have sz : ∀ b ∈ fp, b < s2.heap.objs.size := fun b hb => by
    obtain ⟨o, e, _⟩ := T.obj _ _ st2 b hb
    exact Heap.lt_size e
  have f3 : ∀ b ∈ fp, FpOk X pins (upd H2 D (.lst [])) b ∧ b < s3.heap.objs.size := fun b hb => by
    have hlt := sz b hb
    refine ⟨⟨?_, (f2 b hb).2⟩, by rw [h3, Heap.size_push]; exact Nat.lt_succ_of_lt hlt⟩
    rw [upd_ne (by rw [← hD]; exact Nat.ne_of_lt hlt)]
    exact (f2 b hb).1
  have st3 : tn 0 s3.heap := T.keep _ _ _ st2 fun b _ o e => by rw [h3]; exact Heap.get?_push_of_some _ e
  have I4 : Inv (blkH X s3 (upd H2 D (.lst [])) scope (compEnvC scope (cellsFrom (s3.heap.objs.size + 1) scope.names (cloFrom X.env.cells scope.names [])) s3.heap.objs.size X.env) fp) [] (wipe σ (own.map (·.2))) (upd H2 D (.lst [])) { s3 with heap := pushCells (s3.heap.push { cls := .type "dict", data := .dict #[] }) scope.names } :=
    blk_pinned I3 (Nat.le_refl _) (fun b o e => pushCells_keeps _ _ _ _ (Heap.get?_push_of_some _ e)) (block_start I3 ok hN f3)
  have pg := hg s3 (upd H2 D (.lst [])) s3.heap.objs.size (cellsFrom (s3.heap.objs.size + 1) scope.names (cloFrom X.env.cells scope.names [])) fp
  have pt := ht s3 (upd H2 D (.lst [])) s3.heap.objs.size (cellsFrom (s3.heap.objs.size + 1) scope.names (cloFrom X.env.cells scope.names [])) fp
  have pe := he s3 (upd H2 D (.lst [])) s3.heap.objs.size (cellsFrom (s3.heap.objs.size + 1) scope.names (cloFrom X.env.cells scope.names [])) fp
  show codeAny _ _ (.compStart (.ListComp elt [⟨tg, iter, ifs, 0⟩] scope pos) 0 (.ref it) (.ref D) (compEnvC scope (cellsFrom (s3.heap.objs.size + 1) scope.names (cloFrom X.env.cells scope.names [])) s3.heap.objs.size X.env)) (compPost (model X.prog X.w) X.A X.xe use Qf (.ref D) s3.heap.objs.size) { s3 with heap := pushCells (s3.heap.push { cls := .type "dict", data := .dict #[] }) scope.names }
  have nfp : ∀ b ∈ fp, (upd H2 D (.lst [])) b = none := fun b hb => (f3 b hb).1.1
  generalize hce : compEnvC scope (cellsFrom (s3.heap.objs.size + 1) scope.names (cloFrom X.env.cells scope.names [])) s3.heap.objs.size X.env = ce at I4 pg pt pe ⊢
  have cL : ce.locals = s3.heap.objs.size := by subst hce; rfl
  generalize hH3 : upd H2 D (.lst []) = H3 at I3 I4 pg pt pe w0 nfp f3
  generalize hs4 : ({ s3 with heap := pushCells (s3.heap.push { cls := .type "dict", data := .dict #[] }) scope.names } : Shared) = s4 at I4 ⊢
  have st4 : tn 0 s4.heap := T.keep _ _ _ st3 fun b _ o e => by rw [← hs4]; exact pushCells_keeps _ _ _ _ (Heap.get?_push_of_some _ e)
  have stat : ∀ {σ' : L2.St} {H' : Hp} {s' : Shared}, Inv (blkH X s3 H3 scope ce fp) [] σ' H' s' → (∀ b ∈ fp, H' b = none) → ∀ b ∈ fp, FpOk (blkH X s3 H3 scope ce fp) [] H' b := fun {σ' H' s'} I' hn b hb =>
    ⟨hn b hb, (I'.ok.exf b hb).1, I'.ok.exfs b hb, .inl hb, fun x c e => (I'.ok.exf b hb).2 x c e, fun p hp => (f3 b hb).1.2.2.2.2.2 p (List.mem_append_left _ (by simpa using hp))⟩
  have loop : codeAny (model X.prog X.w) X.A (.compLoop (.ListComp elt [⟨tg, iter, ifs, 0⟩] scope pos) 0 (.ref it) (.ref D) ce) (compPost (model X.prog X.w) X.A X.xe use Qf (.ref D) s3.heap.objs.size) s4 := by
    refine compLoop_any (fun n s' => ∃ i H', Inv (blkH X s3 H3 scope ce fp) [] (wipe σ (own.map (·.2))) H' s' ∧ tn i s'.heap ∧ (∀ b ∈ fp, H' b = none) ∧ W i n H') ?_ m0 ⟨0, H3, I4, st4, nfp, w0⟩
    rintro n s5 ⟨i, H5, I5, st5, n5, w5⟩
    rcases turn i n H5 w5 with ⟨stop, qq⟩ | ⟨go, Nx, hNx, step⟩
    · have td := T.done (blkH X s3 H3 scope ce fp) rfl rfl rfl hc i [] s5 _ H5 (fun _ _ => False) I5 (stat I5 n5) st5 stop
      refine thnF td fun r s6 ⟨hr, I6⟩ => ?_
      subst hr
      have I7 : Inv X pins σ H5 s6 := I3.call' (ch := fp) I6.os I6.base I6.hok I6.bare fun b hb => ⟨(f3 b hb).1.2.2.2.1, (f3 b hb).1.2.1, (f3 b hb).1.2.2.2.2.1, (f3 b hb).1.2.2.2.2.2⟩
      have nC : H5 s3.heap.objs.size = none := by
        have z : H5 ce.locals = none := I6.free
        rw [cL] at z
        exact z
      obtain ⟨m, hn, _⟩ := I6.loc
      have hn : s6.heap.Ns ce.locals m := hn
      rw [cL] at hn
      exact hRR D s3.heap.objs.size s6 m H5 I7 qq hn (I3.fpOk (Nat.le_refl _) nC)
    · have ti := T.item (blkH X s3 H3 scope ce fp) rfl rfl rfl hc i [] s5 _ H5 (fun _ _ => False) I5 (stat I5 n5) st5 go
      refine thnF ti fun r s6 ⟨u, hr, h6⟩ => ?_
      subst hr
      refine thnF h6 fun _ s7 ⟨x, H7, I7, r7, y7, st7, n7⟩ => ?_
      have I7' := I7.pinned (stat I7 n7) (T.obj _ _ st7)
      refine thnF (pg.run _ s7 _ H7 x u _ I7' r7 (step x H7 y7)) fun _ s8 ⟨σ8, H8, I8, hw8, q8⟩ => ?_
      refine thnF (pt.run _ s8 σ8 H8 _ I8 q8) fun b s9 ⟨H9, I9, q9⟩ => ?_
      have fin : ∀ {s' : Shared} {H' : Hp}, Inv (blkH X s3 H3 scope ce fp) ([] ++ pinsAt fp s7.heap) σ8 H' s' → Nx H' → ∃ m, m < n ∧ ∃ i H', Inv (blkH X s3 H3 scope ce fp) [] (wipe σ (own.map (·.2))) H' s' ∧ tn i s'.heap ∧ (∀ b ∈ fp, H' b = none) ∧ W i m H' := fun {s' H'} I' nx => by
        obtain ⟨m', hm, w'⟩ := hNx H' nx
        have pin' : ∀ b ∈ fp, ∀ o, s7.heap.get? b = some o → s'.heap.get? b = some o ∧ H' b = none := fun b hb o e =>
          let z := I'.pin (b, o) (List.mem_append_right _ (List.mem_append_right _ (mem_pinsAt hb e)))
          ⟨z.1, z.2.1⟩
        have hl : (wipe σ (own.map (·.2))).length = σ8.length := by rw [← hw8, wipe_length]
        refine ⟨m', hm, i + 1, H', (I'.unpinned (pins := [])).weak hl (fun j v e => ?_), T.keep _ _ _ st7 fun b hb o e => (pin' b hb o e).1, fun b hb => ?_, w'⟩
        · rw [← hw8] at e
          exact (wipe_some e).1
        · obtain ⟨o, e, _⟩ := T.obj _ _ st7 b hb
          exact (pin' b hb o e).2
      cases b with
      | false =>
        simp only [Bool.false_eq_true, if_false] at q9 ⊢
        exact fin I9 q9
      | true =>
        simp only [if_true] at q9 ⊢
        refine thnF (pe.run _ s9 σ8 H9 _ I9 q9) fun z s10 ⟨yv, H10, I10, r10, acc, hD10, hz10, nx⟩ => ?_
        exact app_ok (X := blkH X s3 H3 scope ce fp) I10 hD10 hz10 r10 fun s11 I11 => fin I11 nx
  exact codeAny_compStart_list loop (T.self X.A 0 _ _ _ st4 loop)
theorem pe_lcH {elt tg iter : Expr} {ifs : List Expr} {scope : Scope} {own : List (Str × Nat)} {pos : Pos} {wi : TI} {g : TG} {tt : TT} {te : TE} (hc : HotC X) (hN : X.N.Nodup) (hi : PIH X tg iter wi) (ok : BlkOk X.N X.env.scope scope own)
    (hg : ∀ (s : Shared) (H : Hp) (C : Addr) (cl : List (Str × Addr)) (fp : List Addr), PG (blkH X s H scope (compEnvC scope cl C X.env) fp) tg g) (ht : ∀ (s : Shared) (H : Hp) (C : Addr) (cl : List (Str × Addr)) (fp : List Addr), PTs (blkH X s H scope (compEnvC scope cl C X.env) fp) ifs tt)
    (he : ∀ (s : Shared) (H : Hp) (C : Addr) (cl : List (Str × Addr)) (fp : List Addr), PE (blkH X s H scope (compEnvC scope cl C X.env) fp) elt te) (hs : ∀ x, foldedSetIterable iter X.env x = pure x := by intro _; rfl) :
    PE X (.ListComp elt [⟨tg, iter, ifs, 0⟩] scope pos) (tLc wi g tt te (own.map (·.2))) := by
  refine ⟨fun pins s σ H Q I h => ?_⟩
  rw [eval_ListComp]
  refine lc_coreH hc hN I hi ok hg ht he hs h fun D C s' m H' I' q hn f => ⟨m, hn, fun h'' sb => ?_⟩
  obtain ⟨f0, f1, f2, f3, f4, f5⟩ := f
  exact ⟨.ref D, H', I'.turned (t' := s'.toks) (fun b o hb e => (sb.2 b hb).trans e) f0 f1 f3 f4 f5, rfl, q⟩
end
end HH1

/-! HHotD: dict([]), calls, defs while an exception is handled; exceptions whose context is None; over data. -/
namespace HH1
open PySem PySem.Spec PyProof.Rows L2 HotX L2H
/-! ### dict([]) -/
def rDictE (K : PySem.W.Frag) : List V → Hp → VK → Prop := fun xs H Q => ∃ a, xs = [.ref a] ∧ SqL K H a [] ∧ ∀ p o, H p = none → Q (.ref p) (upd H p (.frz o (.dK [])))
theorem call_dictE {X : Cx} (hc : X.calm = true) : CallR X (.type "dict") (rDictE X.K) := by
  intro pins s σ H xs us Q I r q
  obtain ⟨a, rfl, hq, q⟩ := q
  refine thn (call_dictP hc pins s σ H [.ref a] us (fun v H' => ∃ p, v = .ref p ∧ H p = none ∧ H' = upd H p (.dK [])) I r ⟨a, [], [], rfl, hq, .nil, fun p hp => ⟨p, rfl, hp, rfl⟩⟩) fun v s' ⟨x, H', I', rv, p, hv, hp, hH⟩ => ?_
  subst hv hH
  obtain ⟨od, I2⟩ := I'.lock upd_same trivial
  rw [upd_upd] at I2
  exact ⟨.ref p, _, I2, rv, q p od hp⟩
theorem call_dictEH {X : Cx} (hc : HotC X) : CallR X (.type "dict") (rDictE X.K) := by
  intro pins s σ H xs us Q I r q
  obtain ⟨a, rfl, hq, q⟩ := q
  obtain ⟨u, eu, rx⟩ := vals1 r
  subst eu
  cases rx
  obtain ⟨x1, hot⟩ := hc.at I
  obtain ⟨its, rv, pl, hz⟩ := I.list hq
  cases rv
  obtain ⟨o, n, ho, hcl, hd, hdat⟩ := pl
  refine dict_nil_hot hot ho hcl hd hdat fun h' tk hd' k => ?_
  have hm : (s.heap.objs.size == sysModules) = false := beq_eq_false_iff_ne.mpr (Nat.ne_of_gt I.big)
  have hn : H s.heap.objs.size = none := I.hok.fresh (Nat.le_refl _)
  have I1 : Inv X pins σ (upd H s.heap.objs.size (.dK [])) { s with heap := h', toks := tk } :=
    I.laid (a := s.heap.objs.size) (o := .dK []) (t' := tk) k (Nat.le_refl _) ⟨Nat.zero_le _, hm, [], .nil, hd'⟩
  obtain ⟨od, I2⟩ := I1.lock upd_same trivial
  rw [upd_upd] at I2
  exact ⟨.ref s.heap.objs.size, _, I2, rfl, q _ od hn⟩
/-! ### list(text) -/
theorem vals_at : ∀ {xs : List V} {us : List Value}, xs.length = us.length → (∀ (j : Nat) (x : V) (u : Value), xs[j]? = some x → us[j]? = some u → RelV x u) → Vals xs us
  | [], [], _, _ => .nil
  | [], _ :: _, h, _ => by simp at h
  | _ :: _, [], h, _ => by simp at h
  | x :: xs, u :: us, h, k => .cons (k 0 x u rfl rfl) (vals_at (by simpa using h) fun j y v h1 h2 => k (j + 1) y v (by simpa using h1) (by simpa using h2))
def chV (z : Str) : List V := z.cps.toList.map fun c => V.str ⟨#[c]⟩
def rListS : List V → Hp → VK → Prop := fun xs H Q => ∃ z, xs = [.str z] ∧ z.length ≤ sizeLine ∧ ∀ p, H p = none → Q (.ref p) (upd H p (.lst (chV z)))
theorem call_listS {X : Cx} (hc : X.calm = true) : CallR X (.type "list") rListS := by
  intro pins s σ H xs us Q I r q
  obtain ⟨z, rfl, hz, q⟩ := q
  obtain ⟨u, eu, rx⟩ := vals1 r
  subst eu
  obtain ⟨t, rfl⟩ := rx
  refine call_list_str (I.ok.hd hc) z t (fun h' tk acc' c' k e it => ?_) (by show z.cps.size ≤ sizeLine; exact hz)
  have hl : (chV z).length = acc'.toList.length := by simp [chV, it.1]
  have hv : Vals (chV z) acc'.toList := vals_at hl fun j x u h1 h2 => by
    obtain ⟨c, t', h3, rfl⟩ := it.2 j u (by rw [← Array.getElem?_toList]; exact h2)
    unfold chV at h1
    rw [List.getElem?_map, Array.getElem?_toList, h3] at h1
    cases h1
    exact ⟨_, rfl⟩
  refine ⟨.ref s.heap.objs.size, _, I.laid (t' := tk) k (Nat.le_refl _) (show ObjOk X.prog X.w _ h' _ (.lst (chV z)) from ⟨?_, acc'.toList, c', hv, by rw [Array.toArray_toList]; exact e⟩), rfl, q _ (I.hok.fresh (Nat.le_refl _))⟩
  rw [hl]
  have a1 := it.1
  simp only [Array.length_toList]
  rw [a1]
  exact hz
/-! ### calls -/
theorem pe_callH0 {X : Cx} {CX : CXT} {k : Nat} {f : Addr} {fd : FuncData} {ps : List Str} {sp : Sp} {E : XK} {x : Str} {q pos : Pos} {e : Expr} {es : List Expr} {t : TA}
    (F : FnH X.prog X.w X.K X.mg X.base CX k f fd ps sp) (hr : RoomH k X.A) (hc : HotC X) (hg : Gl X x) (hm : X.mg x = some (.ref f)) (hk : PySem.W.keepIn X.K (.ref f) = true) (hb : Binds X.K fd ps []) (hx : Passes CX X E)
    (ha : PA X (e :: es) t) (hdb : (x == ("__debug__" : Str)) = false := by decide) (he : starEach (e :: es) X.env = (false, eval e X.env) :: starEach es X.env := by rfl) (hpl : (backTo pos (starEach es X.env)).any (·.1) = false := by rfl) :
    PE X (.Call (.Name x q) (e :: es) [] pos) (tCall sp [] E t) := by
  refine ⟨fun pins s σ H Q I h => (pe_callH F hr hc hg hm hk hb (E := fun _ => E) (fun σ pins H s e s' I c => hx pins σ H s e s' I c) ha hdb he hpl).run pins s σ H Q I ?_⟩
  have e : (fun (vs : List V) (H1 : Hp) => sp (vs ++ []) H1 Q E) = fun vs H1 => sp vs H1 Q E := by
    funext vs H1
    rw [List.append_nil]
  show t σ H fun vs H1 => sp vs H1 Q E
  rw [← e]
  exact h
/-! ### exceptions whose context is None -/
theorem passN {X : Cx} : Passes (L2N.CX X.prog X.w) X E0 := fun _ _ _ _ _ _ _ h => by
  obtain ⟨_, _, _, _, _, _, _, _, _, _, _, _, z⟩ := h
  exact z.elim
theorem takesN0 {X : Cx} : L2N.Takes X (fun _ _ _ _ => False) := fun _ _ x => by
  obtain ⟨_, _, _, _, _, _, _, _, _, _, _, _, _, _, _, _, z⟩ := x
  exact z.elim
theorem passesN_len {X : Cx} {W : WX} {E : XK} (tk : L2N.Takes X W) (hW : ∀ cls d σ H, σ.length = X.N.length → E cls d H → W cls d σ H) : Passes (L2N.CX X.prog X.w) X E :=
  fun _ σ _ _ e s' I c => tk e s' (L2N.XE.of_call I (fun cls d H' h => hW cls d σ H' I.len h) c)
section
variable {X : Cx} {e : Expr} {es : List Expr} {ta : TA} {p pos : Pos}
theorem pmkN_oex {CX : CXT} {x : Str} {C fI : Addr} {k : Nat} {fd : FuncData} {ps : List Str} {sp : Sp} {ds : List Value} {dvs : List V} (T : OexC X.K C) (iC : PySem.W.findIn X.K (.ref C) "__init__" = some (some (.ref fI))) (tI : PySem.W.typeIn X.K (.ref fI) = some (.type "function"))
    (F1 : FnOk X.prog X.w X.K X.mg X.base CX k fI fd ps sp) (hr : Room (k + 1) X.A) (hb : Binds X.K fd ps ds) (hd : Vals dvs ds) (hx : Passes CX X (fun _ _ _ => False)) (hg : Gl X x) (hm : X.mg x = some (.ref C)) (ha : PA X (e :: es) ta)
    (hdb : (x == ("__debug__" : Str)) = false := by decide) (he : starEach (e :: es) X.env = (false, eval e X.env) :: starEach es X.env := by rfl) (hpl : (backTo pos (starEach es X.env)).any (·.1) = false := by rfl) :
    L2N.PMk X (.Call (.Name x p) (e :: es) [] pos) (tMkO C sp dvs ta) := by
  intro pins s σ H Q I h
  obtain ⟨nm, q, N, bs, bm, sn, sub, ab, col, dd, k0, k1, k2, k3, k5, hC, hbm⟩ := T.cls
  refine wpAny_Call_Name_kw (ld_glob I hg hm ?_ hdb)
  refine PySem.W.callWith_K (h₀ := X.base) I.ok.mod.kin T.kC (thn (ha.run pos pins s σ H _ I h) fun us s1 ⟨vs, H1, I1, r1, hz, q1⟩ => ⟨I1.kIn, ?_⟩) he hpl
  show wpAny _ _ (call (.ref C) us) _ _ _
  obtain ⟨hp, g, dr, tk, os⟩ := s1
  have hsz : hp.objs.size ≤ hp.objs.size + 1 := Nat.le_succ _
  have hn : H1 (hp.objs.size + 1) = none := I1.hok.fresh hsz
  have hq := q1 (hp.objs.size + 1) hn
  have kk : ∀ b o, hp.get? b = some o → ((hp.push (PySem.W.kdv_tup us)).push (PySem.HandSPX.excO C hp.objs.size)).get? b = some o := fun b o e => Heap.get?_push_of_some _ (Heap.get?_push_of_some _ e)
  have hget : ((hp.push (PySem.W.kdv_tup us)).push (PySem.HandSPX.excO C hp.objs.size)).get? (hp.objs.size + 1) = some (PySem.HandSPX.excO C hp.objs.size) := by heap_get
  have I2 : Inv X pins σ (upd H1 (hp.objs.size + 1) (exo (hp.objs.size + 1) C none)) ⟨(hp.push (PySem.W.kdv_tup us)).push (PySem.HandSPX.excO C hp.objs.size), g, dr, tk, os⟩ :=
    I1.laid (t' := tk) (a := hp.objs.size + 1) (o := exo (hp.objs.size + 1) C none) (h' := (hp.push (PySem.W.kdv_tup us)).push (PySem.HandSPX.excO C hp.objs.size)) kk hsz (exo_ok hget)
  have r2 : Vals (V.ref (hp.objs.size + 1) :: (vs ++ dvs)) (Value.ref (hp.objs.size + 1) :: (us ++ ds)) := .cons rfl (r1.append hd)
  have hl : (Value.ref (hp.objs.size + 1) :: us ++ ds).length = ps.length := by
    have e := r2.length
    rw [F1.len _ _ _ _ hq] at e
    exact e.symm
  have hus : us.length ≤ sizeLine := by
    rw [← Paired.length r1, sizeLine_eq]
    omega
  refine wpAny_call (PySem.HandSPX.call_own F.excBase_ValueError (fun Y => PySem.HandSPX.refsVE_contains Y bm hbm) (I1.kIn _ _ hC) (PySem.W.looks_findIn I1.kIn iC) (fun self => PySem.W.bind_fn I1.kIn self tI) hus
    (codeAny_mono (F1.run _ X.stack _ _ ⟨Value.ref (hp.objs.size + 1) :: us, []⟩ (Value.ref (hp.objs.size + 1) :: (us ++ ds)) _ _ (fun _ _ _ => False) (hr.make C us []) (I2.env0.make C us []) (hb _ (Value.ref (hp.objs.size + 1) :: us) I2.kIn hl) r2 hq) fun r s' hq' => ?_))
  cases r with
  | error er => exact hx pins σ _ _ er s' I2 hq'
  | ok fl =>
    cases fl with
    | ret u =>
      obtain ⟨v, H2, os2, bare2, un2, hok2, rv, ev, d, fs, ea, ed, hd1, q2⟩ := hq'
      subst ev
      obtain ⟨h2, g2, d2, t2, os'⟩ := s'
      obtain ⟨t0, G, J, kG, ge, hoe, na⟩ := mk_end0 (d2 := d2) (t2 := t2) I1 hsz kk un2 hok2 os2 bare2 ea ed hd1
      refine ⟨rv, hp.objs.size + 1, _, _, ⟨G, g2, d2, t2, os'⟩, _, .ref C, some d, rfl, J, kG, ge, hoe, ⟨rfl, rfl, fun vs hv => ?_⟩, rfl, rfl, na, rfl, bare2, raises_own T.exC T.tyC, q2⟩
      cases hv
      rfl
    | next => exact False.elim hq'
    | brk => exact False.elim hq'
    | cont => exact False.elim hq'
end
/-- the suite is hot -/
theorem hot_suite {X : Cx} {a : Addr} {oe : Obj} {cls : Value} {d : Option Addr} {pn : List (Addr × Obj)} (hz : L2N.Zn cls d oe) (hd : ∃ vs, oe.data = .fields vs) : HotC (X.suite a ((a, oe) :: pn)) := by
  obtain ⟨vs, e⟩ := hd
  exact ⟨(a, oe), ⟨rfl, vs, e, hz.2.2 vs e⟩, List.mem_cons_self⟩
theorem room_suite {X : Cx} {k : Nat} {a : Addr} {pn : List (Addr × Obj)} (r : Room k X.A) : RoomH k (X.suite a pn).A := ⟨r.dp, r.un⟩
section
variable {X : Cx} {x n : Str} {c : Value} {i : Nat} {body suite : List Stmt} {b₀ : Stmt} {np pos pos' : Pos} {tb : XK → TS} {ts : Addr → Value → Option Addr → TS}
theorem ps_tryN (hs : X.stack = X.env :: X.outer) (hf : X.env.frame = some X.env.locals) (hN : X.N.Nodup) (hi : X.N[i]? = some n) (hln : X.env.kindOf n = some .local) (hc : Names X x c)
    (hb : ∀ (E : XK) (pn : List (Addr × Obj)) (xe : Value → Shared → Prop), Passes (L2N.CX X.prog X.w) (X.tr pn xe) E → PassesOwn (model X.prog X.w) X.A X.env xe → PSs (X.tr pn xe) body (tb E))
    (hsu : ∀ (a : Addr) (oe : Obj) (cls : Value) (d : Option Addr) (pn : List (Addr × Obj)), L2N.Zn cls d oe → (∃ vs, oe.data = .fields vs) → PSs (X.suite a ((a, oe) :: pn)) (b₀ :: suite) (ts a cls d)) :
    PS X (.Try body [.ExceptHandler (some (.Name x np)) (some n) (b₀ :: suite) pos'] [] [] pos) (HX1.tTry X.K X.N.length c i tb ts) :=
  L2N.ps_try_as (tb := fun W => tb (fun cls d H' => ∀ σ' : L2.St, σ'.length = X.N.length → W cls d σ' H')) hs hf hN hi hln hc takesN0 (fun W pn xe tk po => hb _ pn xe (passesN_len (X := X.tr pn xe) tk fun cls d σ H hl h => h σ hl) po) hsu
end
end HH1
namespace DD
open PySem L2 HotX L2H
def rLeS : R2 := fun x y H Q => ∃ i j, x = .str i ∧ y = .str j ∧ Q (.bl (!decide (j.cps.toList < i.cps.toList))) H
theorem op_leS {X : Cx} : OpR X (compareOp .LtE) rLeS := op_le_str
open PySem.Spec PyProof.Rows
section
variable {P : Program} {w : World} {K : PySem.W.Frag} {mg : Str → Option Value} {base : Heap} {B F Hb H : Hp} {m : Mem} {ρ : DD.Env}
/-- a def called while an exception is handled -/
theorem ok_DH {CX : CXT} {x qual : Str} {st : Stmt} {f : Addr} {fd : FuncData} {N ps : List Str} {k : Nat} {φ : Phi} (F : Fun K x qual st f fd) (S : FnScope N ps (defScope st)) (hl : ∀ ds m nx X, φ ds m nx X → ds.length = ps.length)
    (hbody : ∀ (cdv : Value) (A : Around) (outer : List PySem.Env) (s : Shared) (H : Hp) (E : XK) (p : Addr × Obj), HotC (cxH CX P w K mg base N qual (defScope st) f cdv A outer s H E p) → RoomH k (A.deeper (envOfC qual (defScope st) s.heap.objs.size f cdv)) →
      ∃ t, PSs (cxH CX P w K mg base N qual (defScope st) f cdv A outer s H E p) (defBody st) t ∧ BodyOk K φ N E t) : FnH P w K mg base CX (k + 1) f fd ps (spOf K φ) := by
  obtain ⟨oc, od, kV, doc, pm, an, cdv, ct, osl, rfl, lk, hcd⟩ := F.ex
  refine fn_ofH lk hcd S (spOf_len hl) fun A outer s H vs Q E p hot hr h => ?_
  obtain ⟨ds, m, F', Hb, nx, X, h1, h2, h3, h4, h5⟩ := h
  obtain ⟨t, ht, hw⟩ := hbody cdv A outer s H E p ⟨p, ⟨hot.1, hot.2⟩, List.mem_singleton_self p⟩ hr
  exact ⟨t, ht, hw ds m nx X F' Hb h3 h5 Hb H _ _ (Same.refl _) h2 (RpS.start h1) ⟨fun σ H' Hb' ρ m' e r hs q => h4 _ _ _ _ _ e r rp_s q, h4, fun _ _ _ _ _ _ _ _ z => z.elim, fun _ _ _ _ _ _ _ _ z => z.elim⟩⟩
theorem wc_dictE {Q : QD} (q : Q (.dic [] []) m) : WC K F B (HH1.rDictE K) [.lst []] m Q := fun Hb H vs R hB r hx k => by
  obtain ⟨v, rfl, hv⟩ := rpL1 hx
  unfold Rp at hv
  obtain ⟨p, us, rfl, h1, h2⟩ := hv
  cases us with
  | cons u us => exact absurd h2.length (by simp)
  | nil =>
    refine ⟨p, rfl, SqL.of (r.sub _ _ h1), fun a o ha => ?_⟩
    refine k _ _ _ (.dic [] []) _ (Same.new (r.fresh ha)) (r.data ha) ?_ q
    unfold Rp
    exact ⟨a, o, [], rfl, upd_same, RpL.nil, rfl⟩
theorem wc_listS {z : Str} {Q : QD} (hz : z.length ≤ sizeLine) (q : Q (.lst (chrs z)) m) : WC K F B HH1.rListS [.s (.str z)] m Q := fun Hb H vs R hB r hx k => by
  obtain ⟨v, rfl, hv⟩ := rpL1 hx
  unfold Rp at hv
  subst hv
  refine ⟨z, rfl, hz, fun p hp => ?_⟩
  refine k _ _ _ (.lst (chrs z)) _ (Same.new (r.fresh hp)) (r.data hp) ?_ q
  unfold Rp
  refine ⟨p, _, rfl, upd_same, ?_⟩
  have e : chrs z = (HH1.chV z).map D.s := by
    unfold chrs HH1.chV
    rw [List.map_map]
    rfl
  rw [e]
  exact RpL.ofScal _
theorem wo_leS {i j : Str} {Q : QD} (q : Q (.s (.bl (!decide (j.cps.toList < i.cps.toList)))) m) : WO K F B rLeS (.s (.str i)) (.s (.str j)) m Q := fun Hb H vx vy R hB r hx hy k => by
  unfold Rp at hx hy
  subst hx hy
  exact ⟨i, j, rfl, rfl, k.here r rp_s q⟩
theorem wi_LT {te : TE} {Q : List D → Mem → Prop} (h : WE K F B te ρ m fun x m1 => ∃ xs, (x = .lst xs ∨ x = .tup xs) ∧ Q xs m1) : WI K F B (HH1.iLT K te) ρ m Q := fun Hb H σ R hB r hs k =>
  h Hb H σ _ hB r hs fun v H1 Hb1 x m1 e1 r1 hx q1 => by
    obtain ⟨xs, hxx, q⟩ := q1
    rcases hxx with rfl | rfl
    · unfold Rp at hx
      obtain ⟨p, vs, rfl, h1, h2⟩ := hx
      exact .inl ⟨p, rfl, ⟨vs, SqL.of (r1.sub _ _ h1)⟩, k _ _ _ _ _ e1 r1 (it_list (SqL.of h1) h2) q⟩
    · unfold Rp at hx
      obtain ⟨p, vs, rfl, h1, h2⟩ := hx
      exact .inr ⟨p, rfl, ⟨vs, sameT r1.sub h1⟩, k _ _ _ _ _ e1 r1 (it_tup h1 h2) q⟩
theorem wi_ky0 {te : TE} {Q : List D → Mem → Prop} (h : WE K F B te ρ m fun x m1 => x = .dic [] [] ∧ Q [] m1) : WI K F B (HH1.iKy te) ρ m Q := fun Hb H σ R hB r hs k =>
  h Hb H σ _ hB r hs fun v H1 Hb1 x m1 e1 r1 hx q1 => by
    obtain ⟨rfl, q⟩ := q1
    unfold Rp at hx
    obtain ⟨p, o, vs, rfl, h1, _⟩ := hx
    refine ⟨p, o, rfl, [], r1.sub _ _ h1, k _ _ _ _ _ e1 r1 (fun i F' Hb2 H2 m2 e2 r2 => ⟨fun _ => ⟨r2.sub _ _ (e2 _ _ h1), Nat.zero_le _⟩, fun d hd => by simp at hd⟩) q⟩
end
end DD

/-! HBind: arguments that are left to the defaults. -/
namespace HB1
open PySem PySem.Spec PyProof.Rows L2
def det : V → Bool
  | .non => true
  | .bl _ => true
  | .ref _ => true
  | _ => false
theorem det_eq {v : V} {u u' : Value} (h : det v = true) (r : RelV v u) (r' : RelV v u') : u = u' := by
  cases v with
  | non => exact (show u = Value.none from r).trans (show u' = Value.none from r').symm
  | bl b => exact (show u = Value.bool b from r).trans (show u' = Value.bool b from r').symm
  | ref a => exact (show u = Value.ref a from r).trans (show u' = Value.ref a from r').symm
  | _ => exact nomatch h
theorem det_all : ∀ {vs : List V} {us us' : List Value}, vs.all det = true → Vals vs us → Vals vs us' → us = us'
  | [], _, _, _, .nil, .nil => rfl
  | v :: vs, _, _, h, .cons r t, .cons r' t' => by
    have h2 : (det v && vs.all det) = true := h
    rw [Bool.and_eq_true] at h2
    rw [det_eq h2.1 r r', det_all h2.2 t t']
theorem dflB {K : PySem.W.Frag} {x qual : Str} {pa : Arguments} {bo : List Stmt} {sc : Scope} {dvs : List V} {f : Addr} {fd : FuncData} {ps : List Str} {ds : List Value} (n j : Nat) (F : FunD K x qual pa bo sc dvs [] f fd) (hd : dvs ≠ []) (hv : Vals (dvs.drop j) ds) (hdet : (dvs.drop j).all det = true) (hn : n + (dvs.length - j) = ps.length)
    (h : ∀ (T : Addr) (kV doc pm : Value) (an : Option Addr) (cdv ct : Value) (us its : List Value), us.length = n → its.length = dvs.length →
      ∃ k, bindArgs (PySem.W.fnOf x qual pa bo sc (.ref T) kV doc pm an cdv ct) ⟨us, []⟩ = seqItems? (.ref T) >>= k ∧ k (some its.toArray) = pure (ps.zip (us ++ its.drop j))) : Binds K fd ps ds := by
  obtain ⟨ds', r, b⟩ := F.binds1 (ps := ps) n j hd hn h
  rw [det_all hdet hv r]
  exact b
end HB1

/-! DLend: owned lists that are walked, asked, extended, made tuples of. -/
namespace DD
open PySem L2
open PySem.Spec PyProof.Rows
section
variable {K : PySem.W.Frag} {B F Hb H : Hp} {m : Mem} {ρ : DD.Env}
/-- the memory without a, with a again -/
def offM (m : Mem) (a : Addr) : Mem := { m with own := dropM m.own a }
def onM (m : Mem) (a : Addr) (o : MO) : Mem := { m with own := putM m.own a o }
theorem on_off {a : Addr} {o : MO} (h : m.own a = some o) : onM (offM m a) a o = m := by
  unfold onM offM
  have e : putM (dropM m.own a) a o = m.own := by
    funext b
    by_cases hb : b = a
    · subst hb
      rw [putM_same, h]
    · rw [putM_ne hb, dropM_ne hb]
  rw [e]
/-- an owned list is put into the frame -/
theorem Rel.lend {a : Addr} {xs : List D} (r : Rel K F Hb H m) (h : m.own a = some (.lst xs)) : ∃ vs, RpL K Hb xs vs ∧ F a = none ∧ Rel K (upd F a (.lst vs)) Hb H (offM m a) := by
  obtain ⟨h1, vs, h2, h3⟩ := r.own a _ h
  have hF : F a = none := r.ownF h
  refine ⟨vs, h3, hF, r.sub, fun b o e => ?_, fun b mo e => ?_, nt_upd r.nt (fun _ z => nomatch z)⟩
  · by_cases hb : b = a
    · subst hb
      rw [upd_same] at e
      cases e
      exact ⟨h2, h1, dropM_same⟩
    · rw [upd_ne hb] at e
      obtain ⟨z1, z2, z3⟩ := r.fr b o e
      exact ⟨z1, z2, (dropM_ne hb).trans z3⟩
  · by_cases hb : b = a
    · subst hb
      have q : (none : Option MO) = some mo := by
        rw [← e]
        exact dropM_same.symm
      cases q
    · exact r.own b mo (by rw [← e]; exact (dropM_ne hb).symm)
theorem Rel.back {a : Addr} {xs : List D} {vs : List V} (r : Rel K (upd F a (.lst vs)) Hb H m) (hF : F a = none) (h : RpL K Hb xs vs) : Rel K F Hb H (onM m a (.lst xs)) :=
  r.take hF ⟨vs, (r.fr a _ upd_same).1, h⟩
theorem upd_swap {H : Hp} {a b : Addr} {o u : HO} (h : a ≠ b) : upd (upd H a o) b u = upd (upd H b u) a o := by
  funext c
  by_cases h1 : c = b
  · subst h1
    rw [upd_same, upd_ne h.symm, upd_same]
  · rw [upd_ne h1]
    by_cases h2 : c = a
    · subst h2
      rw [upd_same, upd_same]
    · rw [upd_ne h2, upd_ne h2, upd_ne h1]
/-- what is let out, the list lent -/
theorem OkX.lend {a : Addr} {xs : List D} {vs : List V} {X : XD} {E : XK} (h : OkX K F Hb X E) (hF : F a = none) (hv : RpL K Hb xs vs) : OkX K (upd F a (.lst vs)) Hb (fun C ns ds m => X C ns ds (onM m a (.lst xs))) E := by
  intro C d H' Hb' ns ds us m' e rX hu hl hx
  refine h C d H' Hb' ns ds us (onM m' a (.lst xs)) e ?_ hu hl hx
  cases d with
  | none => exact ⟨rX.1, rX.2.1, rX.2.2.back hF (hv.mono e)⟩
  | some dd =>
    obtain ⟨h1, r⟩ := rX
    have hne : dd ≠ a := fun z => by
      rw [z, upd_same] at h1
      cases h1
    have h2 : F dd = none := by rw [upd_ne hne] at h1; exact h1
    refine ⟨h2, ?_⟩
    rw [upd_swap hne.symm] at r
    exact r.back (by rw [upd_ne hne.symm]; exact hF) (hv.mono e)
/-- for over an owned list -/
theorem ws_forO {te : TE} {g : TG} {tb : TS} {E : DE} {a : Addr} {xs : List D} {X : XD} {EX : XK} (hE : OkX K F B X EX) (h : WE K F B te ρ m fun x m1 => x = .s (.ref a) ∧ m1.own a = some (.lst xs) ∧ ∃ I : Nat → DD.Env → Mem → Prop, I 0 ρ (offM m1 a) ∧
      (∀ F' B' i d ρ' m', Same B B' → OkX K F' B' (fun C ns ds m => X C ns ds (onM m a (.lst xs))) EX → xs[i]? = some d → I i ρ' m' → WG K F' B' g d ρ' m' fun ρ2 m2 => WS K F' B' tb ρ2 m2 { nx := I (i + 1), ct := I (i + 1), bk := fun ρ m => E.nx ρ (onM m a (.lst xs)), rt := fun d m => E.rt d (onM m a (.lst xs)) }) ∧
      (∀ ρ' m', I xs.length ρ' m' → E.nx ρ' (onM m' a (.lst xs)))) :
    WS K F B (tFor (iAny K te) g tb) ρ m E := fun Hb H σ R hB r hs k =>
  h Hb H σ _ hB r hs fun v H1 Hb1 x m1 e1 r1 hx q1 => by
    obtain ⟨rfl, ho, I, h0, ht, hd⟩ := q1
    unfold Rp at hx
    subst hx
    obtain ⟨vs, hv, hF, rL⟩ := r1.lend ho
    have hl : vs.length = xs.length := hv.length
    have hq : ∀ {H' Hb' : Hp} {m' : Mem}, Rel K (upd F a (.lst vs)) Hb' H' m' → SqL K H' a vs := fun {H' Hb' m'} r' => SqL.of (r'.fr a _ upd_same).1
    refine .inl ⟨a, rfl, ⟨vs, hq rL⟩, ?_⟩
    refine ⟨fun i n σ' H' => n = xs.length - i ∧ i ≤ xs.length ∧ ∃ Hb' ρ' m', Same Hb1 Hb' ∧ Rel K (upd F a (.lst vs)) Hb' H' m' ∧ RpS K Hb' ρ' σ' ∧ I i ρ' m', ⟨xs.length, by simp, Nat.zero_le _, Hb1, ρ, _, Same.refl _, rL, hs.mono e1, h0⟩, ?_⟩
    rintro i n σ' H' ⟨rfl, hi, Hb', ρ', m', e', r', hs', hI⟩
    by_cases hlt : i < xs.length
    · obtain ⟨u, hu, ru⟩ := hv.get (i := i) (d := xs[i]) (by simp [hlt])
      refine .inr ⟨⟨vs, u, hq r', hu⟩, fun σ2 H2 => ∃ Hb2 ρ2 m2, Same Hb1 Hb2 ∧ Rel K (upd F a (.lst vs)) Hb2 H2 m2 ∧ RpS K Hb2 ρ2 σ2 ∧ I (i + 1) ρ2 m2, fun σ2 H2 q2 => ⟨xs.length - (i + 1), by omega, rfl, hlt, q2⟩, fun x H2 y => ?_⟩
      obtain ⟨rfl, y2⟩ := y
      have hx := y2 vs (hq r')
      rw [hu] at hx
      cases hx
      have eB : Same B Hb' := (hB.trans e1).trans e'
      have hE' := (hE.mono eB).lend hF (hv.mono e')
      refine ht _ Hb' i xs[i] ρ' m' eB hE' (by simp [hlt]) hI Hb' H2 σ' _ _ (Same.refl _) r' hs' (ru.mono e') fun σ3 H3 Hb3 ρ3 m3 e3 r3 hs3 q3 => ?_
      have e13 : Same Hb1 Hb3 := e'.trans e3
      refine q3 Hb3 H3 σ3 _ e3 r3 hs3 ⟨fun σ4 H4 Hb4 ρ4 m4 e4 r4 hs4 q4 => ⟨Hb4, ρ4, m4, e13.trans e4, r4, hs4, q4⟩, fun v4 H4 Hb4 d4 m4 e4 r4 hd4 q4 => ?_, fun σ4 H4 Hb4 ρ4 m4 e4 r4 hs4 q4 => ?_, fun σ4 H4 Hb4 ρ4 m4 e4 r4 hs4 q4 => ⟨Hb4, ρ4, m4, e13.trans e4, r4, hs4, q4⟩⟩
      · exact k.rt _ _ _ _ _ ((e1.trans e13).trans e4) (r4.back hF (hv.mono (e13.trans e4))) hd4 q4
      · exact k.nx _ _ _ _ _ ((e1.trans e13).trans e4) (r4.back hF (hv.mono (e13.trans e4))) hs4 q4
    · have e : i = xs.length := by omega
      subst e
      exact .inl ⟨⟨vs, hq r', by omega⟩, k.nx _ _ _ _ _ (e1.trans e') (r'.back hF (hv.mono e')) hs' (hd _ _ hI)⟩
theorem wo_inOL {x : V} {a : Addr} {xs : List V} {Q : QD} (ho : m.own a = some (.lst (xs.map D.s))) (hx0 : flatV x = true) (hf : xs.all flatV = true) (q : Q (.s (.bl (inV x xs))) m) : WO K F B (rInA K) (.s x) (.s (.ref a)) m Q := fun Hb H vx vy R hB r hx hy k => by
  unfold Rp at hx hy
  subst hx hy
  obtain ⟨_, vs, h1, h2⟩ := r.own a _ ho
  have e := RpL.scal h2
  subst e
  exact .inl ⟨a, vs, rfl, .inl (SqL.of h1), hx0, hf, k.here r rp_s q⟩
/-- xs.extend(ys), xs owned, ys data -/
theorem we_extend {to te : TE} {Q : QD} (h : WE K F B to ρ m fun x m1 => ∃ a, x = .s (.ref a) ∧ (∃ xs, m1.own a = some (.lst xs)) ∧ WE K F B te ρ m1 fun y m2 => ∃ xs ys, m2.own a = some (.lst xs) ∧ y = .lst ys ∧ xs.length + ys.length ≤ sizeLine ∧ Q (.s .non) { m2 with own := putM m2.own a (.lst (xs ++ ys)) }) :
    WE K F B (tBM K "list" rExtA to (tCons te tNil)) ρ m Q := fun Hb H σ R hB r hs k =>
  h Hb H σ _ hB r hs fun v H1 Hb1 x m1 e1 r1 hx q1 => by
    obtain ⟨a, rfl, ⟨xs0, ho0⟩, q1⟩ := q1
    unfold Rp at hx
    subst hx
    obtain ⟨_, vs0, h0, _⟩ := r1.own a _ ho0
    refine ⟨.inl ⟨rfl, vs0, SqL.of h0⟩, ?_⟩
    refine q1 Hb1 H1 σ _ (hB.trans e1) r1 (hs.mono e1) fun u H2 Hb2 y m2 e2 r2 hy q2 => ?_
    obtain ⟨xs, ys, ho, rfl, hz, q⟩ := q2
    unfold Rp at hy
    obtain ⟨p, us, rfl, h1, h2⟩ := hy
    obtain ⟨h3, vs, h4, h5⟩ := r2.own a _ ho
    refine ⟨a, p, vs, us, rfl, rfl, h4, r2.sub _ _ h1, by rw [h5.length, h2.length]; exact hz, ?_⟩
    exact k _ _ _ (.s .non) _ (e1.trans e2) (r2.change (mo' := .lst (xs ++ ys)) ho ⟨vs ++ us, upd_same, h5.app h2⟩) rp_s q
/-- tuple(xs), xs owned -/
theorem wc_tupO {a : Addr} {xs : List D} {Q : QD} (ho : m.own a = some (.lst xs)) (q : Q (.tup xs) m) : WC K F B (rTupA K) [.s (.ref a)] m Q := fun Hb H vs R hB r hx k => by
  obtain ⟨v, rfl, hv⟩ := rpL1 hx
  unfold Rp at hv
  subst hv
  obtain ⟨_, us, h1, h2⟩ := r.own a _ ho
  refine ⟨a, us, rfl, .inl ⟨SqL.of h1, fun l hl => ?_⟩⟩
  refine k _ _ _ (.tup xs) _ (Same.new (r.fresh hl)) (r.data hl) ?_ q
  unfold Rp
  exact ⟨l, us, rfl, .inl (.inl upd_same), h2.mono (Same.new (r.fresh hl))⟩
end
end DD

/-! HTup: dicts whose keys are tuples, the key read in any way (also one that the module holds); sorted(d). -/
namespace HP1
open PySem PySem.W PySem.Calls PySem.Spec PyProof.Rows L2
open PySem.SeqAt (EqAt)
section
variable {X : Cx} {pins : List (Addr × Obj)} {σ : L2.St} {H : Hp} {s : Shared} {a b : Addr} {y v : V} {u r : Value} {o : Option V} {A : Around} {E : Value → Shared → Prop}
theorem keyq {k : List Key} (I : Inv X pins σ H s) (e : SqT X.K H b (k.map kV)) : (tupleKind (mixKind X.prog X.w)).is s.heap k b := by
  obtain ⟨its, r, ⟨o, h1, h2, n, h3⟩, _⟩ := I.tuple e
  exact ⟨o, its.toArray, n, h1, h2, h3, by simpa using items_are r⟩
/-- what the dict at a holds at the tuple y -/
def DGetQ (K : PySem.W.Frag) (H : Hp) (a : Addr) (y : V) (r : Option V) : Prop := ∃ kvs k b, Rd H a (.dT kvs) ∧ y = .ref b ∧ SqT K H b (k.map kV) ∧ r = valV kvs k
theorem dq_getItem {Q : Value → Shared → Prop} (hu : A.units + 1 < cLine) (I : Inv X pins σ H s) (g : DGetQ X.K H a y (some v)) (ry : RelV y u) (h : ∀ w' s', Inv X pins σ H s' → RelV v w' → Q w' s') :
    wpAny (model X.prog X.w) A (getItem (.ref a) u) Q E s := by
  obtain ⟨kvs, k, b, e, ey, eb, l⟩ := g
  subst ey
  cases (show u = Value.ref b from ry)
  obtain ⟨z, hd, xs, rel, dd⟩ := dt_rd I.hok e
  obtain ⟨w', hw, rw'⟩ := RelO.some_of (v := v) (o := (atKey xs k).map (·.2)) (by rw [l]; exact rel.val k)
  obtain ⟨p, hp, hp2⟩ := Option.map_eq_some_iff.mp hw
  refine wpAny_getItem_heap (tupleKind_room_in1 hu) (keyq I eb) dd hp ?_
  rw [hp2]
  exact h w' _ (I.tok _) rw'
theorem dq_in {Q : Value → Shared → Prop} (hu : A.units + 1 < cLine) (I : Inv X pins σ H s) (g : DGetQ X.K H a y o) (ry : RelV y u) (h : ∀ s', Inv X pins σ H s' → Q (.bool o.isSome) s') :
    wpAny (model X.prog X.w) A (compareOp .In u (.ref a)) Q E s := by
  obtain ⟨kvs, k, b, e, ey, eb, l⟩ := g
  subst ey
  cases (show u = Value.ref b from ry)
  obtain ⟨z, hd, xs, rel, dd⟩ := dt_rd I.hok e
  refine wpAny_in_heap (tupleKind_room_in1 hu) (keyq I eb) hd dd ?_
  have q := (rel.val k).isSome_eq
  rw [Option.isSome_map] at q
  rw [← q, ← l]
  exact h _ (I.tok _)
theorem dq_notIn {Q : Value → Shared → Prop} (hu : A.units + 1 < cLine) (I : Inv X pins σ H s) (g : DGetQ X.K H a y o) (ry : RelV y u) (h : ∀ s', Inv X pins σ H s' → Q (.bool (!o.isSome)) s') :
    wpAny (model X.prog X.w) A (compareOp .NotIn u (.ref a)) Q E s := by
  obtain ⟨kvs, k, b, e, ey, eb, l⟩ := g
  subst ey
  cases (show u = Value.ref b from ry)
  obtain ⟨z, hd, xs, rel, dd⟩ := dt_rd I.hok e
  refine wpAny_notIn_heap (tupleKind_room_in1 hu) (keyq I eb) hd dd ?_
  have q := (rel.val k).isSome_eq
  rw [Option.isSome_map] at q
  rw [← q, ← l]
  exact h _ (I.tok _)
theorem dq_get2 {d : V} {Q : Value → Shared → Prop} (hu : A.units + 1 < cLine) (I : Inv X pins σ H s) (g : DGetQ X.K H a y o) (ry : RelV y u) (rd : RelV d r) (h : ∀ w' s', Inv X pins σ H s' → RelV (o.getD d) w' → Q w' s') :
    wpAny (model X.prog X.w) A (call (.builtin "dict.get") [.ref a, u, r]) Q E s := by
  obtain ⟨kvs, k, b, e, ey, eb, l⟩ := g
  subst ey
  cases (show u = Value.ref b from ry)
  obtain ⟨z, hd, xs, rel, dd⟩ := dt_rd I.hok e
  refine call_meetsIn PySem.F.slot_dict_get dd.typeIs PySem.F.entry_dict_get (PySem.F.args_dict_get_3 _ _ _) (meetsH_dict_get_default (tupleKind (mixKind X.prog X.w)) a b hd r) ⟨tupleKind_room_in1 hu, k, xs, keyq I eb, dd, h _ _ (I.tok _) ?_⟩
  rw [l]
  exact (rel.val k).getD rd
theorem dq_typeIs (I : Inv X pins σ H s) (g : DGetQ X.K H a y o) : s.TypeIs (.ref a) "dict" := by
  obtain ⟨kvs, k, b, e, _, _, _⟩ := g
  obtain ⟨_, _, xs, _, dd⟩ := dt_rd I.hok e
  exact dd.typeIs
end
/-- y in d, y not in d -/
def rInQ (K : PySem.W.Frag) (neg : Bool) : R2 := fun y x H Q => ∃ a o, x = .ref a ∧ DGetQ K H a y o ∧ Q (.bl (if neg = true then !o.isSome else o.isSome)) H
/-- d[y] -/
def rIxQ (K : PySem.W.Frag) : R2 := fun x y H Q => ∃ a v, x = .ref a ∧ DGetQ K H a y (some v) ∧ Q v H
/-- d.get(y, z) -/
def tGetQ (K : PySem.W.Frag) (td ty tx : TE) : TE := fun σ H Q => td σ H fun x H1 => ∃ a, x = .ref a ∧ IsD H1 a ∧ ty σ H1 fun y H2 => tx σ H2 fun z H3 => ∃ o, DGetQ K H3 a y o ∧ Q (o.getD z) H3
section
variable {X : Cx} {o i e f : Expr} {pos apos cpos : Pos} {td ty tx : TE}
theorem op_inQ (hu : X.A.units + 1 < cLine) : OpR X (compareOp .In) (rInQ X.K false) := by
  intro pins s σ H y x u v Q I ry rx h
  obtain ⟨a, o, rfl, g, q⟩ := h
  obtain rfl : v = Value.ref a := rx
  exact dq_in hu I g ry fun s' I' => ⟨.bl o.isSome, H, I', rfl, q⟩
theorem op_ninQ (hu : X.A.units + 1 < cLine) : OpR X (compareOp .NotIn) (rInQ X.K true) := by
  intro pins s σ H y x u v Q I ry rx h
  obtain ⟨a, o, rfl, g, q⟩ := h
  obtain rfl : v = Value.ref a := rx
  exact dq_notIn hu I g ry fun s' I' => ⟨.bl (!o.isSome), H, I', rfl, q⟩
theorem pe_ixQ (hu : X.A.units + 1 < cLine) (ho : PE X o td) (hi : PE X i ty) (hs : NoSl i) : PE X (.Subscript o i pos) (tOp (rIxQ X.K) td ty) := by
  refine ⟨fun pins s σ H Q I h => ?_⟩
  refine subD_of PySem.F.slot_dict_getitem.lookup hs (thn (ho.run pins s σ H _ I h) fun u s1 ⟨x, H1, I1, rx, q1⟩ => thn (hi.run pins s1 σ H1 _ I1 q1) fun iv s2 ⟨y, H2, I2, ry, a, v, ex, g, q2⟩ => ?_)
  subst ex
  obtain rfl : u = Value.ref a := rx
  exact ⟨dq_typeIs I2 g, dq_getItem hu I2 g ry fun w' s3 I3 rw' => ⟨v, H2, I3, rw', q2⟩⟩
theorem pe_getQ (hu : X.A.units + 1 < cLine) (ho : PE X o td) (he : PE X e ty) (hf : PE X f tx) (m : M2 X o "get" apos e f cpos) : PE X (.Call (.Attribute o "get" apos) [e, f] [] cpos) (tGetQ X.K td ty tx) := by
  refine ⟨fun pins s σ H Q I h => ?_⟩
  refine wpAny_Call_method m.base m.few m.line PySem.F.plainAttrs_dict PySem.F.slot_dict_get PySem.F.type_dict_get (thn (ho.run pins s σ H _ I h) fun u s1 ⟨x, H1, I1, rx, a, ex, d, q1⟩ => ?_)
  subst ex
  obtain rfl : u = Value.ref a := rx
  obtain ⟨t1, t2, _⟩ := isD_at I1 d
  refine ⟨t1, t2, ?_⟩
  rw [m.trees]
  refine Calls.callWith_builtin rfl (Calls.evalArgs_plain (Calls.spliced_cons (thn (he.run pins s1 σ H1 _ I1 q1) fun iv s2 ⟨y, H2, I2, ry, q2⟩ =>
    Calls.spliced_cons (thn (hf.run pins s2 σ H2 _ I2 q2) fun fv s3 ⟨z, H3, I3, rz, ov, g, q3⟩ => Calls.spliced_nil ?_))))
  exact dq_get2 hu I3 g ry rz fun w' s4 I4 rw' => ⟨_, H3, I4, rw', q3⟩
end

/-! ### the order of tuples of texts -/
@[reducible] def txtOrd : PyProof.Rows.KeyOrd where
  α := List Nat
  blt := fun a b => decide (a < b)
  irrefl := strKind.irrefl
  trans := strKind.trans
  negTrans := strKind.negTrans
  total := strKind.total
abbrev tlt : List (List Nat) → List (List Nat) → Bool := PyProof.Rows.lexLt txtOrd
theorem tlt_swo {α : Type} (k : α → List (List Nat)) : SrtO.Swo (fun v u : α => tlt (k v) (k u)) := by
  refine ⟨fun x y h => ?_, fun x y z h1 h2 => ?_⟩
  · cases e : tlt (k y) (k x) with
    | false => rfl
    | true =>
      have := PyProof.Rows.lex_trans (O := txtOrd) _ _ _ h e
      rw [PyProof.Rows.lex_irrefl] at this
      cases this
  · cases e : tlt (k z) (k x) with
    | false => rfl
    | true =>
      rcases PyProof.Rows.lex_negTrans (O := txtOrd) _ (k y) _ e with q | q
      · exact absurd (q.symm.trans h2) (by decide)
      · exact absurd (q.symm.trans h1) (by decide)
/-- of the heap: what the texts of a tuple are -/
def cpsV : Value → List Nat
  | .str x _ => x.cps.toList
  | _ => []
def tupT (h : Heap) : Value → List (List Nat)
  | .ref a => match h.get? a with
    | some o => match o.data with
      | .seq xs _ => xs.toList.map cpsV
      | _ => []
    | none => []
  | _ => []
def TupS (h : Heap) (v : Value) (ns : List Str) : Prop := ∃ a its, v = .ref a ∧ IsTup h a its.toArray ∧ Vals (ns.map V.str) its
theorem cps_vals : ∀ {ns : List Str} {its : List Value}, Vals (ns.map V.str) its → its.map cpsV = ns.map (fun x => x.cps.toList)
  | [], its, r => by
    rw [List.map_nil] at r
    cases r
    rfl
  | n :: ns, its, r => by
    rw [List.map_cons] at r
    cases r with
    | cons h t =>
      obtain ⟨k, rfl⟩ := h
      rw [List.map_cons, List.map_cons, cps_vals t]
      rfl
theorem TupS.k {h : Heap} {v : Value} {ns : List Str} (x : TupS h v ns) : tupT h v = ns.map (fun x => x.cps.toList) := by
  obtain ⟨a, its, rfl, ⟨o, ho, hc, n, hd⟩, r⟩ := x
  unfold tupT
  simp only [ho, hd]
  exact cps_vals r
theorem TupS.keeps {h h' : Heap} {v : Value} {ns : List Str} (x : TupS h v ns) (k : ∀ b o, v = .ref b → h.get? b = some o → h'.get? b = some o) : TupS h' v ns := by
  obtain ⟨a, its, rfl, ⟨o, ho, r⟩, q⟩ := x
  exact ⟨a, its, rfl, ⟨o, k a o rfl ho, r⟩, q⟩
theorem TupS.type {M : Model} {h : Heap} {v : Value} {ns : List Str} (x : TupS h v ns) : Looks M h (typeOf v) (.type "tuple") := by
  obtain ⟨a, its, rfl, ⟨o, ho, hc, _⟩, _⟩ := x
  rw [← hc]
  exact (Looks.ld ho).andThen .now
theorem lexAt_tlt {e r : Nat → Bool} {n0 m0 : Nat} : ∀ (ns ms : List (List Nat)) (i : Nat), (∀ (j : Nat) a b, ns[j]? = some a → ms[j]? = some b → e (i + j) = decide (a = b)) → (∀ (j : Nat) a b, ns[j]? = some a → ms[j]? = some b → a ≠ b → r (i + j) = decide (a < b)) → n0 = i + ns.length → m0 = i + ms.length →
    Ob.lexAt e r (decide (n0 < m0)) i (min ns.length ms.length) = tlt ns ms
  | [], [], i, _, _, h1, h2 => by
    subst h1 h2
    simp [Ob.lexAt, tlt, PyProof.Rows.lexLt]
  | [], m :: ms, i, _, _, h1, h2 => by
    subst h1 h2
    simp [Ob.lexAt, tlt, PyProof.Rows.lexLt]
  | n :: ns, [], i, _, _, h1, h2 => by
    subst h1 h2
    simp [Ob.lexAt, tlt, PyProof.Rows.lexLt]
  | n :: ns, m :: ms, i, he, hr, h1, h2 => by
    have em : min (n :: ns).length (m :: ms).length = min ns.length ms.length + 1 := by simp only [List.length_cons]; omega
    rw [em, Ob.lexAt_succ]
    have e0 := he 0 n m rfl rfl
    rw [Nat.add_zero] at e0
    by_cases hnm : n = m
    · rw [e0, decide_eq_true hnm, if_pos rfl, lexAt_tlt ns ms (i + 1) (fun j a b q1 q2 => by
        have := he (j + 1) a b (by simpa using q1) (by simpa using q2)
        rw [← this]
        congr 1
        omega) (fun j a b q1 q2 q3 => by
        have := hr (j + 1) a b (by simpa using q1) (by simpa using q2) q3
        rw [← this]
        congr 1
        omega) (by rw [h1]; simp only [List.length_cons]; omega) (by rw [h2]; simp only [List.length_cons]; omega)]
      subst hnm
      exact (PyProof.Rows.lex_self (O := txtOrd) n ns ms).symm
    · have r0 := hr 0 n m rfl rfl hnm
      rw [Nat.add_zero] at r0
      rw [e0, decide_eq_false hnm, if_neg Bool.false_ne_true, r0]
      exact (PyProof.Rows.lex_diff (O := txtOrd) hnm).symm
section
variable {prog : Program} {w : World} {A : Around} {E : Value → Shared → Prop} {s : Shared}
theorem call_ltT {a b : Addr} {i1 i2 : List Value} {ns ms : List Str} {Q : Value → Shared → Prop} (ha : IsTup s.heap a i1.toArray) (hb : IsTup s.heap b i2.toArray) (ra : Vals (ns.map V.str) i1) (rb : Vals (ms.map V.str) i2)
    (h : Q (.bool (tlt (ns.map fun x => x.cps.toList) (ms.map fun x => x.cps.toList))) s) : wpAny (model prog w) A (call (.builtin "tuple.__lt__") [.ref a, .ref b]) Q E s := by
  have tya := ha.typeIs
  obtain ⟨⟨cls, dd, data, sl⟩, ho, hc, n, hd⟩ := id ha
  obtain ⟨⟨cls2, dd2, data2, sl2⟩, ho2, hc2, n2, hd2⟩ := id hb
  simp only at hc hd hc2 hd2
  subst hc hd hc2 hd2
  have get : ∀ {ns : List Str} {its : List Value} {j : Nat}, Vals (ns.map V.str) its → (hj : j < its.toArray.size) → ∃ x t, ns[j]? = some x ∧ its.toArray[j] = .str x t := fun {ns its j} r hj => by
    have hj' : j < its.length := by simpa using hj
    have hl := r.length
    rw [List.length_map] at hl
    have hk : ns[j]? = some ns[j] := List.getElem?_eq_getElem (by omega)
    obtain ⟨v, ev, rv⟩ := r.get (i := j) (by rw [List.getElem?_map, hk]; rfl)
    obtain ⟨t, rfl⟩ := rv
    refine ⟨ns[j], t, hk, ?_⟩
    rw [List.getElem?_eq_getElem hj'] at ev
    simpa using Option.some.inj ev
  let f : Str → List Nat := fun x => x.cps.toList
  have el : ∀ x y : Str, decide (f x = f y) = (x == y) := fun x y => by
    by_cases z : x = y
    · subst z
      simp
    · have z' : f x ≠ f y := fun q => z (by
        cases x with | mk x => cases y with | mk y => 
        congr 1
        exact Array.toList_inj.mp q)
      rw [decide_eq_false z']
      exact (beq_eq_false_iff_ne.mpr z).symm
  have L1 : ns.length = i1.length := by have := ra.length; rw [List.length_map] at this; exact this
  have L2' : ms.length = i2.length := by have := rb.length; rw [List.length_map] at this; exact this
  let e : Nat → Bool := fun j => decide ((ns.map f)[j]? = (ms.map f)[j]?)
  let r : Nat → Bool := fun j => match (ns.map f)[j]?, (ms.map f)[j]? with | some x, some y => decide (x < y) | _, _ => false
  have P1 : ∀ j (h1 : j < i1.toArray.size) (h2 : j < i2.toArray.size), EqAt A.in1 s i1.toArray[j] i2.toArray[j] (e j) := fun j h1 h2 => by
    obtain ⟨x, t, e1, e2⟩ := get ra h1
    obtain ⟨y, u, e3, e4⟩ := get rb h2
    have ee : e j = (x == y) := by
      show decide ((ns.map f)[j]? = (ms.map f)[j]?) = _
      rw [List.getElem?_map, List.getElem?_map, e1, e3, ← el x y]
      simp
    rw [e2, e4, ee]
    exact EqAt.str_str x t y u
  have P2 : ∀ j (h1 : j < i1.toArray.size) (h2 : j < i2.toArray.size), e j = false → Ob.RcOp .Lt A.in1 s i1.toArray[j] i2.toArray[j] (r j) := fun j h1 h2 _ => by
    obtain ⟨x, t, e1, e2⟩ := get ra h1
    obtain ⟨y, u, e3, e4⟩ := get rb h2
    have er : r j = decide (f x < f y) := by
      show (match (ns.map f)[j]?, (ms.map f)[j]? with | some x, some y => decide (x < y) | _, _ => false) = _
      rw [List.getElem?_map, List.getElem?_map, e1, e3]
      rfl
    rw [e2, e4, er]
    exact fun prog w E Q h => PySem.P.lt_str h
  have P3 : wants Q E (.ok (.ret (.bool (Ob.lexAt e r (decide (i1.toArray.size < i2.toArray.size)) 0 (min i1.toArray.size i2.toArray.size))))) s := by
    have q := lexAt_tlt (e := e) (r := r) (n0 := i1.toArray.size) (m0 := i2.toArray.size) (ns.map f) (ms.map f) 0 (fun j a b e1 e2 => by
      rw [Nat.zero_add]
      show decide ((ns.map f)[j]? = (ms.map f)[j]?) = _
      rw [e1, e2]
      simp) (fun j a b e1 e2 _ => by
      rw [Nat.zero_add]
      show (match (ns.map f)[j]?, (ms.map f)[j]? with | some x, some y => decide (x < y) | _, _ => false) = _
      rw [e1, e2]) (by simp [L1]) (by simp [L2'])
    rw [show min i1.toArray.size i2.toArray.size = min (ns.map f).length (ms.map f).length from by simp [L1, L2'], q]
    exact h
  have M := Ob.tuple_ltAt a b i1.toArray i2.toArray n n2 dd dd2 sl sl2 e r prog w A (wants Q E) s ⟨ho, ho2, P1, P2, P3⟩
  refine wpAny_call (codeAny_call_builtin PySem.F.slot_tuple_lt.plain PySem.F.entry_tuple_lt (PySem.F.slot_tuple_lt.check _ _ _ _ _ _ _ _ tya (PySem.F.args_tuple_lt_2 _ _) (wpAny_mono M (fun fin s' q => ?_) fun _ _ z => z)))
  cases fin with
  | done f => exact q
  | again c => exact q
theorem lt_tupS {v u : Value} {ns ms : List Str} {Q : Bool → Shared → Prop} (hu : A.units < cLine) (hv : TupS s.heap v ns) (hw : TupS s.heap u ms) (h : Q (tlt (tupT s.heap v) (tupT s.heap u)) s) : wpAny (model prog w) A (keyLt' oneType' v u) Q E s := by
  rw [hv.k, hw.k] at h
  have tv : Looks (model prog w) s.heap (typeOf v) (.type "tuple") := hv.type
  have sp : Looks (model prog w) s.heap (specialOf v "__lt__") (some (.builtin "tuple.__lt__")) := tv.andThen (Looks.of_pure PySem.F.slot_tuple_lt.lookup)
  obtain ⟨a, i1, rfl, ga, ia⟩ := hv
  obtain ⟨b, i2, rfl, gb, ib⟩ := hw
  rw [keyLt'_oneType, oneLt'_eq]
  simp only [if_true]
  refine wpAny_bind (wpAny_cRoomFor hu ?_)
  refine wpAny_bind (NtL.csib (E := E) sp (PySem.F.slot_tuple_lt.bind _) (call_ltT ga gb ia ib ?_))
  exact wpAny_truthy_bool h
theorem first_of {M : Model} {v : Value} {ns : List Str} {Q : Option Value → Shared → Prop} (x : TupS s.heap v ns) (h : ∀ o, (ns = [] → o = none) → Q o s) : wpAny M A (firstOfTuple' v) Q E s := by
  have tv := x.type (M := M)
  obtain ⟨a, its, rfl, ⟨o, ho, hc, n, hd⟩, r⟩ := x
  rw [kas_first_eq]
  refine wpAny_bind (tv.here ?_)
  rw [if_neg (by first | decide | simp)]
  refine wpAny_bind (listItems_at ho hd (wpAny_pure (h _ fun e => ?_)))
  subst e
  cases r
  rfl
theorem firsts_in {M : Model} : ∀ (vs : List Value) {Q : List (Option Value) → Shared → Prop}, (∀ v ∈ vs, ∃ ns, TupS s.heap v ns) → (∀ os : List (Option Value), os.length = vs.length → (∀ v r, vs = v :: r → TupS s.heap v [] → ∃ os', os = none :: os') → Q os s) → wpAny M A (vs.mapM firstOfTuple') Q E s
  | [], Q, _, h => by
    rw [List.mapM_nil]
    exact wpAny_pure (h [] rfl fun v r e => by cases e)
  | v :: vs, Q, hv, h => by
    obtain ⟨ns, x⟩ := hv v List.mem_cons_self
    rw [List.mapM_cons]
    refine wpAny_bind (first_of x fun o ho => wpAny_bind (firsts_in vs (Q := fun bs s' => wpAny M A (pure (o :: bs)) Q E s') (fun u hu => hv u (List.mem_cons_of_mem _ hu)) fun os hl _ => wpAny_pure (h _ (by simp [hl]) fun v' r e t0 => ?_)))
    cases e
    have e2 : ns = [] := by
      have k1 := x.k
      rw [t0.k] at k1
      cases ns with
      | nil => rfl
      | cons a r => cases k1
    exact ⟨os, by rw [ho e2]⟩
theorem kind_in {M : Model} {v : Value} {vs : List Value} {Q : SortKind → Shared → Prop} (hv : ∀ u ∈ v :: vs, ∃ ns, TupS s.heap u ns) (h0 : TupS s.heap v []) (h : Q oneType' s) : wpAny M A (keyKind' (v :: vs).toArray) Q E s := by
  rw [keyKind'_eq, List.mapM_toArray, map_eq_pure_bind]
  refine wpAny_bind (wpAny_bind (firsts_in (v :: vs) hv fun os hl hos => wpAny_pure ?_))
  obtain ⟨os', rfl⟩ := hos v vs rfl h0
  rw [if_neg (by simp), if_neg (by simp)]
  rw [oneTypeOnly'_eq, List.mapM_toArray, map_eq_pure_bind]
  refine wpAny_bind (wpAny_bind (wpAny_bind (kas_mapM (r := Value.type "tuple") _ (fun u hu Q' hq => by
    obtain ⟨ns, x⟩ := hv u hu
    exact x.type.here hq) (wpAny_pure ?_))))
  have hall : ((List.map (fun _ => Value.type "tuple") (v :: vs)).toArray.all fun x => x == Value.type "tuple") = true := by
    simp only [List.all_toArray, List.all_map, List.all_eq_true]
    intro _ _
    rfl
  have h0 : (List.map (fun _ => Value.type "tuple") (v :: vs)).toArray[0]? = some (Value.type "tuple") := by simp
  rw [h0]
  simp only [hall, if_true]
  exact wpAny_pure (wpAny_pure h)
theorem tupT_eq {h h' : Heap} {v : Value} {ns : List Str} (x : TupS h v ns) (y : TupS h' v ns) : tupT h v = tupT h' v := by rw [x.k, y.k]
theorem sortable {a : Addr} {vs : List Value} (hu : A.units < cLine) (hv : ∀ u ∈ vs, ∃ ns, TupS s.heap u ns) (h0 : ∃ v r, vs = v :: r ∧ TupS s.heap v []) (ha : ∀ u ∈ vs, u ≠ .ref a) :
    SrtO.SortableO prog w A s a vs fun x y => tlt (tupT s.heap x) (tupT s.heap y) := by
  obtain ⟨v, vs, rfl, h0⟩ := h0
  intro h' keep
  have kp : ∀ u ∈ v :: vs, ∀ ns, TupS s.heap u ns → TupS h' u ns := fun u hm ns x => x.keeps fun b o e g => keep b o (fun z => ha u hm (by rw [e, z])) g
  refine ⟨oneType', fun Q E hq => kind_in (s := { s with heap := h' }) (fun u hm => ?_) (kp v List.mem_cons_self _ h0) hq, fun p q hp hq => ?_⟩
  · obtain ⟨ns, x⟩ := hv u hm
    exact ⟨ns, kp u hm ns x⟩
  · obtain ⟨n1, x1⟩ := hv p.1 hp
    obtain ⟨n2, x2⟩ := hv q.1 hq
    refine lt_tupS (s := { s with heap := h' }) hu (kp _ hp _ x1) (kp _ hq _ x2) ⟨rfl, ?_⟩
    show tlt (tupT h' p.1) (tupT h' q.1) = tlt (tupT s.heap p.1) (tupT s.heap q.1)
    rw [tupT_eq x1 (kp _ hp _ x1), tupT_eq x2 (kp _ hq _ x2)]
end
/-! ### sorted(d) -/
theorem perm_map_ex {α β : Type} {f : α → β} {l m : List β} (h : l.Perm m) : ∀ {ks : List α}, m = ks.map f → ∃ zs : List α, zs.Perm ks ∧ l = zs.map f := by
  induction h with
  | nil => 
    intro ks e
    exact ⟨ks, List.Perm.refl _, e⟩
  | cons x h ih =>
    intro ks e
    cases ks with
    | nil => cases e
    | cons k ks =>
      rw [List.map_cons] at e
      injection e with e1 e2
      obtain ⟨zs, z1, z2⟩ := ih e2
      exact ⟨k :: zs, z1.cons k, by rw [List.map_cons, z2, e1]⟩
  | swap x y l =>
    intro ks e
    match ks, e with
    | [], e => cases e
    | [k], e => cases e
    | k1 :: k2 :: ks, e =>
      rw [List.map_cons, List.map_cons] at e
      injection e with e1 e2
      injection e2 with e2 e3
      exact ⟨k2 :: k1 :: ks, List.Perm.swap _ _ _, by rw [List.map_cons, List.map_cons, e1, e2, e3]⟩
  | trans h1 h2 ih1 ih2 =>
    intro ks e
    obtain ⟨zs, z1, z2⟩ := ih2 e
    obtain ⟨ys, y1, y2⟩ := ih1 z2
    exact ⟨ys, y1.trans z1, y2⟩
abbrev cpsT (k : List Str) : List (List Nat) := k.map fun x => x.cps.toList
abbrev inrs (k : List Str) : List Key := k.map Sum.inr
def unT (k : List Key) : List Str := k.filterMap fun | .inr x => some x | .inl _ => none
theorem un_in : ∀ k : List Str, unT (inrs k) = k
  | [] => rfl
  | x :: k => by
    show unT (Sum.inr x :: inrs k) = _
    unfold unT
    rw [List.filterMap_cons]
    show x :: unT (inrs k) = _
    rw [un_in k]
theorem kV_inrs (k : List Str) : (inrs k).map kV = k.map V.str := by
  rw [List.map_map]
  rfl
/-- sorted(d): the keys are tuples of texts, the first one has none -/
def rSortedT : List V → Hp → VK → Prop := fun vs H Q => ∃ (a : Addr) (ks : List (List Str)) (ws : List V), vs = [.ref a] ∧ Rd H a (.dT ((ks.map inrs).zip ws)) ∧ ks.length = ws.length ∧ (∃ r, ks = [] :: r) ∧
  ∀ (p : Addr) (zs : List (Addr × List Str)), H p = none → (zs.map (·.2)).Perm ks → (zs.map (·.2)).Pairwise (fun x y => tlt (cpsT y) (cpsT x) = false) → (∀ z ∈ zs, H z.1 = some (.tup (z.2.map V.str))) → Q (.ref p) (upd H p (.lst (zs.map fun z => V.ref z.1)))
section
variable {X : Cx}
theorem call_sortedT (hc : X.calm = true) (hu : X.A.units + 64 < cLine) : CallR X (.builtin "sorted") rSortedT := by
  intro pins s σ H xs us Q I r h
  obtain ⟨d, ks, ws, rfl, hd, hl, ⟨r0, h0⟩, q⟩ := h
  obtain ⟨u, rfl, rx⟩ := r.one
  cases rx
  obtain ⟨z, hs, ks', pr, o, es, ep, ho, hx, hdt, he, hn⟩ := (show ObjOk X.prog X.w H s.heap d (.dT ((ks.map inrs).zip ws)) from hd.ok I.hok)
  have l1 : es.size = ks'.length := size_of_entries he
  have l2 : ((ks.map inrs).zip ws).length = ks'.length := Paired.length pr
  have ek : ks'.map (·.1) = ks.map inrs := by
    have e : ∀ {l : List (List Key × V)} {m : List (List Key × Addr × Value)}, KT H l m → m.map (·.1) = l.map (·.1) := by
      intro l m q
      induction q with
      | nil => rfl
      | cons h t ih => rw [List.map_cons, List.map_cons, ih, h.1]
    rw [e pr, List.map_fst_zip (by simp [hl])]
  have hm : ∀ x ∈ ks', x.1 = inrs (unT x.1) ∧ H x.2.1 = some (.tup ((unT x.1).map V.str)) := fun x hx => by
    have e1 : x.1 = inrs (unT x.1) := by
      have : x.1 ∈ ks'.map (·.1) := List.mem_map_of_mem hx
      rw [ek] at this
      obtain ⟨k, _, e⟩ := List.mem_map.mp this
      rw [← e, un_in]
    refine ⟨e1, ?_⟩
    have e : ∀ {l : List (List Key × V)} {m : List (List Key × Addr × Value)}, KT H l m → ∀ x ∈ m, H x.2.1 = some (.tup (x.1.map kV)) := by
      intro l m q
      induction q with
      | nil =>
        intro x hx
        cases hx
      | cons h t ih =>
        intro x hx
        rcases List.mem_cons.mp hx with e | hx
        · subst e
          rw [← h.1]
          exact h.2.1
        · exact ih x hx
    rw [e pr x hx, ← kV_inrs, ← e1]
  have eu : ks'.map (fun x => unT x.1) = ks := by
    have := congrArg (List.map unT) ek
    rw [List.map_map, List.map_map] at this
    rw [show (fun x : List Key × Addr × Value => unT x.1) = unT ∘ (·.1) from rfl, this]
    rw [show unT ∘ inrs = id from funext un_in, List.map_id]
  refine Calls.call_function_entry PyProof.Rows.kind_sorted PyProof.Rows.plain_sorted PyProof.Rows.entry_sorted (PyProof.Rows.args_sorted1 _) ?_
  unfold Builtin.«sorted»
  refine wpAny_bind (m := checkCount "sorted" 1 1 _) (wpAny_pure ?_)
  refine wpAny_bind (PySem.W.kdu_collect (A := X.A.in1) (kdl_raw hs hx hdt) (I.ok.hd hc) ho (by omega) fun h' tk acc hk hacc => ?_)
  have ea : acc.toList = ks'.map fun x => Value.ref x.2.1 := by
    have hl : acc.toList.length = ks'.length := by rw [Array.length_toList, hacc.1]; exact l1
    apply List.ext_getElem?
    intro j
    rw [List.getElem?_map]
    cases hj : acc.toList[j]? with
    | none =>
      have h1 := List.getElem?_eq_none_iff.mp hj
      rw [List.getElem?_eq_none (by omega)]
      all_goals rfl
    | some v =>
      obtain ⟨en, hen, hv⟩ := hacc.2 j v (by rw [← Array.getElem?_toList]; exact hj)
      have qe := entry_at he j
      rw [hen] at qe
      cases hb : ks'[j]? with
      | none =>
        rw [hb] at qe
        exact nomatch (show some en = none from qe)
      | some b =>
        rw [hb] at qe
        have e2 : en = entryOfKey (tupleKind (mixKind X.prog X.w)) b := Option.some.inj qe
        rw [hv, e2]
        all_goals rfl
  have I1 : Inv X pins σ H { s with heap := h', toks := tk } := I.kept hk
  have hz : acc.toList.length ≤ sizeLine := by rw [ea, List.length_map]; omega
  refine wpAny_bind (wpAny_newList ?_ hz)
  have hoL : (h'.push (seqObj "list" acc.toList.toArray 0)).get? h'.objs.size = some (seqObj "list" acc.toList.toArray 0) := Heap.get?_push_size _ rfl
  show wpAny _ _ _ _ _ { s with heap := h'.push (seqObj "list" acc.toList.toArray 0), toks := tk }
  have tup : ∀ x ∈ ks', TupS (h'.push (seqObj "list" acc.toList.toArray 0)) (Value.ref x.2.1) (unT x.1) := fun x hx => by
    obtain ⟨_, its, rv, p⟩ := (show ObjOk X.prog X.w H h' x.2.1 (.tup ((unT x.1).map V.str)) from I1.hok _ _ (hm x hx).2)
    exact ⟨x.2.1, its, rfl, p.keeps fun b o e => Heap.get?_push_of_some _ e, rv⟩
  obtain ⟨x0, xr, ex0⟩ : ∃ x0 xr, ks' = x0 :: xr := by
    cases ks' with
    | nil =>
      rw [h0] at eu
      cases eu
    | cons x0 xr => exact ⟨x0, xr, rfl⟩
  have u0 : unT x0.1 = [] := by
    rw [ex0, h0, List.map_cons] at eu
    injection eu
  have eac : acc.toList = Value.ref x0.2.1 :: xr.map fun x => Value.ref x.2.1 := by rw [ea, ex0, List.map_cons]
  have hmem : ∀ u ∈ acc.toList, ∃ x ∈ ks', u = Value.ref x.2.1 := fun u hu => by
    rw [ea] at hu
    obtain ⟨x, hx, e⟩ := List.mem_map.mp hu
    exact ⟨x, hx, e.symm⟩
  refine wpAny_bind (wpAny_holding (wpAny_call_entry PyProof.Rows.slot_list_sort ⟨_, hoL, rfl⟩ PyProof.Rows.entry_list_sort
    (SrtO.list_sort_ord (s := { s with heap := h'.push (seqObj "list" acc.toList.toArray 0), toks := tk }) (tlt_swo fun v => tupT (h'.push (seqObj "list" acc.toList.toArray 0)) v) hoL hz (fun h2 => ?_) fun out h1 h2 => ⟨_, rfl, ?_⟩)
    (PyProof.Rows.args_list_sort _)))
  · refine sortable (s := { s with heap := h'.push (seqObj "list" acc.toList.toArray 0), toks := tk }) ?_ (fun u hu => ?_) ?_ fun u hu e => ?_
    · simp only [Around.in1_units]
      omega
    · obtain ⟨x, hx, e⟩ := hmem u hu
      rw [e]
      exact ⟨_, tup x hx⟩
    · have := tup x0 (by rw [ex0]; exact List.mem_cons_self)
      rw [u0] at this
      exact ⟨_, _, eac, this⟩
    · obtain ⟨x, hx, e'⟩ := hmem u hu
      rw [e'] at e
      have hxx : x.2.1 = h'.objs.size := Value.ref.inj e
      obtain ⟨o', ho'⟩ : ∃ o', h'.get? x.2.1 = some o' := by
        obtain ⟨_, its, rv, ⟨o', ho', _⟩⟩ := (show ObjOk X.prog X.w H h' x.2.1 (.tup ((unT x.1).map V.str)) from I1.hok _ _ (hm x hx).2)
        exact ⟨o', ho'⟩
      have lt := Heap.lt_size ho'
      rw [hxx] at lt
      exact absurd lt (Nat.lt_irrefl _)
  · obtain ⟨e', he'⟩ := PyProof.Rows.sortedHeap_at (vs := acc.toList) (out := out.toArray) hoL
    obtain ⟨zs, zp, ze⟩ := perm_map_ex (f := fun x : List Key × Addr × Value => Value.ref x.2.1) h2.perm ea
    have hzm : ∀ x ∈ zs, x ∈ ks' := fun x hx => zp.mem_iff.mp hx
    have hlen : ((zs.map fun x => (x.2.1, unT x.1)).map fun z => V.ref z.1).length ≤ sizeLine := by
      rw [List.length_map, List.length_map, zp.length_eq]
      omega
    have rvo : Vals ((zs.map fun x => (x.2.1, unT x.1)).map fun z => V.ref z.1) out := by
      rw [ze, List.map_map]
      have : ∀ zs : List (List Key × Addr × Value), Vals (zs.map ((fun z : Addr × List Str => V.ref z.1) ∘ fun x => (x.2.1, unT x.1))) (zs.map fun x => Value.ref x.2.1) := by
        intro zs
        induction zs with
        | nil => exact .nil
        | cons x r ih => exact .cons rfl ih
      exact this zs
    refine wpAny_pure ⟨_, rfl, .ref h'.objs.size, upd H h'.objs.size (.lst ((zs.map fun x => (x.2.1, unT x.1)).map fun z => V.ref z.1)), I1.laid (t' := tk) (fun b u e => ?_) (Nat.le_refl _)
      (show ObjOk X.prog X.w _ _ _ (.lst _) from ⟨hlen, out, e', rvo, he'⟩), rfl, q _ _ (I1.hok.fresh (Nat.le_refl _)) ?_ ?_ ?_⟩
    · have hb : b < h'.objs.size := Heap.lt_size e
      rw [PyProof.Rows.sortedHeap_old (Nat.ne_of_lt hb) (by rw [size_push']; exact Nat.lt_succ_of_lt hb)]
      exact Heap.get?_push_of_some _ e
    · rw [List.map_map]
      have := zp.map fun x => unT x.1
      rw [eu] at this
      exact this
    · rw [List.map_map]
      rw [ze] at h1
      have h3 := List.pairwise_map.mp h1
      refine List.pairwise_map.mpr (h3.imp_of_mem fun {x y} hx hy g => ?_)
      have k1 := (tup x (hzm x hx)).k
      have k2 := (tup y (hzm y hy)).k
      show tlt (cpsT (unT y.1)) (cpsT (unT x.1)) = false
      rw [← show tupT _ _ = cpsT (unT x.1) from k1, ← show tupT _ _ = cpsT (unT y.1) from k2]
      exact g
    · intro z hz
      obtain ⟨x, hx, e⟩ := List.mem_map.mp hz
      subst e
      exact (hm x (hzm x hx)).2
end
/-! ### a display with tuple keys -/
section
variable {X : Cx} {pins : List (Addr × Obj)} {σ : L2.St} {H : Hp} {s : Shared} {a b : Addr} {A : Around} {E : Value → Shared → Prop}
theorem set_step {kvs : List (List Key × V)} {k : List Key} {v : V} {r : Value} {Q : Unit → Shared → Prop} (hu : A.units + 1 < cLine) (I : Inv X pins σ H s) (e : H a = some (.dT kvs)) (eb : H b = some (.tup (k.map kV))) (l : kvs.length < sizeLine) (rv : RelV v r)
    (h : ∀ s', Inv X pins σ (upd H a (.dT (putK kvs k v))) s' → Q () s') : wpAny (model X.prog X.w) A (dictSet a (.ref b) r) Q E s := by
  obtain ⟨z, hd, xs, rel, dd⟩ := dt_of I.hok e
  have hz : xs.length ≤ sizeLine := by rw [← Paired.length rel]; exact z
  have hl : (putK kvs k v).length ≤ sizeLine := by have := length_putK kvs k v; omega
  refine wpAny_dictSet_heap (hsz := hz) (show Around.units _ < cLine by omega) (key_of I.hok eb) dd fun h' dd' hs => h _ ?_
  obtain ⟨q, es, ep, hq, h2, h3, h4, _, h5⟩ := dd'
  refine d_write I (by rw [e]; exact True.intro) hs ⟨q, hq⟩ ⟨hl, hd, _, (rel.put k eb rv).keeps fun c ys ec => ?_, q, es, ep, hq, h2, h3, h4, h5⟩
  rw [upd_ne (ne_of ec e (fun z => nomatch z))]
  exact ec
abbrev putAll (kvs : List (List Key × V)) (zs : List (List Key × Addr × V)) : List (List Key × V) := zs.foldl (fun acc z => putK acc z.1 z.2.2) kvs
theorem store_all (hu : A.units + 1 < cLine) : ∀ (zs : List (List Key × Addr × V)) (vs : List (Value × Value)) (kvs : List (List Key × V)) (H : Hp) (s : Shared) (Q : PUnit → Shared → Prop), VV (zs.map fun z => (V.ref z.2.1, z.2.2)) vs → Inv X pins σ H s → H a = some (.dT kvs) → kvs.length + zs.length ≤ sizeLine →
    (∀ z ∈ zs, H z.2.1 = some (.tup (z.1.map kV))) → (∀ s', Inv X pins σ (upd H a (.dT (putAll kvs zs))) s' → Q PUnit.unit s') →
    wpAny (model X.prog X.w) A (forIn vs PUnit.unit fun (x : Value × Value) (_ : PUnit) => (do dictSet a x.1 x.2; pure (ForInStep.yield PUnit.unit) : Sem (ForInStep PUnit))) Q E s
  | [], vs, kvs, H, s, Q, r, I, e, hz, ht, h => by
    rw [List.map_nil] at r
    cases r
    rw [List.forIn_nil]
    refine wpAny_pure (h s ?_)
    have : upd H a (.dT (putAll kvs [])) = H := by
      funext b
      unfold upd
      split
      · rename_i z
        rw [z, e]
        rfl
      · rfl
    rw [this]
    exact I
  | z :: zs, vs, kvs, H, s, Q, r, I, e, hz, ht, h => by
    rw [List.map_cons] at r
    cases r with
    | @cons p q ps qs r1 t =>
      obtain ⟨q1, q2⟩ := q
      have r2 : RelV (V.ref z.2.1) q1 := r1.1
      cases r2
      rw [List.forIn_cons]
      rw [List.length_cons] at hz
      refine wpAny_bind (wpAny_bind (set_step hu I e (ht z List.mem_cons_self) (by omega) r1.2 fun s' I' => wpAny_pure ?_))
      refine store_all hu zs qs (putK kvs z.1 z.2.2) _ s' Q t I' upd_same (by have := length_putK kvs z.1 z.2.2; omega) (fun y hy => ?_) fun s2 I2 => h s2 ?_
      · have ey := ht y (List.mem_cons_of_mem _ hy)
        rw [upd_ne (ne_of ey e (fun z => nomatch z))]
        exact ey
      · rw [upd_upd] at I2
        exact I2
end
/-- {k: v, ..} with keys tuples; the new dict stands empty while the pairs are made -/
def tDispT (trs : List (TE × TE)) : TE := fun σ H Q => ∀ p, H p = none → tPairs trs σ (upd H p (.dT [])) fun ps H2 => H2 p = some (.dT []) ∧ ∃ zs : List (List Key × Addr × V), ps = zs.map (fun z => (V.ref z.2.1, z.2.2)) ∧ zs.length ≤ 15 ∧
  (∀ z ∈ zs, H2 z.2.1 = some (.tup (z.1.map kV))) ∧ Q (.ref p) (upd H2 p (.dT (putAll [] zs)))
theorem pe_dispT {X : Cx} {pos : Pos} {keys : List (Option Expr)} {values : List Expr} {trs : List (TE × TE)} (hu : X.A.units + 2 < cLine) (h : PPs X pos keys values trs) (hall : keys.all (·.isSome) = true := by rfl) (hl : keys.length = values.length := by rfl) (h0 : keys ≠ [] := by simp)
    (h15 : keys.length ≤ 15 := by decide) : PE X (.Dict keys values pos) (tDispT trs) := by
  refine ⟨fun pins s σ H Q I q => ?_⟩
  have hn := I.hok.fresh (Nat.le_refl s.heap.objs.size)
  have I1 := I.laid (a := s.heap.objs.size) (o := .dT []) (h' := s.heap.push { cls := .type "dict", data := .dict #[] }) (t' := s.toks) (fun _ _ q => Heap.get?_push_of_some _ q) (Nat.le_refl _) (dt_empty s.heap I.big)
  have hn2 := pairTrees_length keys values X.env pos hall hl
  rw [arm_eval_Dict, zip_pairTrees keys values X.env pos hall hl, dictDisplay_pairs _ (fun he => by
    rw [he] at hn2
    exact h0 (List.length_eq_zero_iff.mp hn2.symm)) (by omega)]
  refine wpAny_bind (wpAny_standAt (wpAny_bind ?_))
  unfold subDict
  refine wpAny_bind (wpAny_alloc ?_)
  refine wpAny_bind (wpAny_holding ?_)
  rw [if_pos (by omega)]
  refine wpAny_bind (thn (h.run pins _ σ _ _ I1 (q _ hn)) fun ws s2 ⟨ps, H2, I2, rel, e, zs, ep, l15, ht, q2⟩ => ?_)
  subst ep
  refine wpAny_holding (wpAny_bind (store_all (a := s.heap.objs.size) (by omega) zs ws [] H2 s2 _ rel I2 e (by rw [sizeLine_eq, List.length_nil]; omega) ht fun s' I' => ?_))
  exact wpAny_pure (wpAny_pure (wpAny_pure ⟨.ref s.heap.objs.size, _, I', rfl, q2⟩))

/-! ### o.m(e, .., k = v, ..) -/
def tMethN (C : Addr) (m : Str) (n l : Nat) (sp : Sp) (gV : List V → List V → List V) (E : XK) (ta : TE) (t tk : TA) : TE := fun σ H Q => ta σ H fun x H1 => ∃ a dx fs, x = .ref a ∧ H1 a = some (.ins C dx fs) ∧ fs.lookup m = none ∧
  t σ H1 fun vs H2 => tk σ H2 fun zs H3 => vs.length = n ∧ zs.length = l ∧ sp (gV (.ref a :: vs) zs) H3 Q E
section
variable {X : Cx} {CX : CXT} {k n : Nat} {f C : Addr} {fd : FuncData} {ps ks : List Str} {sp : Sp} {E : XK} {m : Str} {apos pos : Pos} {o e : Expr} {es : List Expr} {kws : List Keyword} {ta : TE} {t tk : TA} {g : List Value → List Value → List Value} {gV : List V → List V → List V}
theorem pe_methN {pl : Sem Bool} (he : PE X o ta) (c : Cls X.K C) (hm : Meth X.K C m f) (F : FnOk X.prog X.w X.K X.mg X.base CX k f fd ps sp) (hr : Room k X.A) (hb : KBn X.K fd ps (n + 1) ks g gV) (hx : Passes CX X E)
    (ha : PA X (e :: es) t) (hkw : PK X kws tk) (hall : (backToKw pos (keywordEach kws X.env)).all (·.1.isSome) = true := by rfl) (hks : (backToKw pos (keywordEach kws X.env)).filterMap (·.1) = ks := by rfl)
    (hst : starEach (e :: es) X.env = (false, eval e X.env) :: starEach es X.env := by rfl) (hpl : ((backTo pos (starEach (e :: es) X.env)).any (·.1) || (backToKw pos (keywordEach kws X.env)).any (·.1.isNone)) = false := by rfl)
    (ht : eval (.Call (.Attribute o m apos) (e :: es) kws pos) X.env = (do
      let ov ← eval o X.env
      standAt apos.atName
      let (f, first) ← holding [ov] (getMethod ov m pl)
      callWith pos f first (backTo pos (starEach (e :: es) X.env)) (backToKw pos (keywordEach kws X.env))) := by rfl) :
    PE X (.Call (.Attribute o m apos) (e :: es) kws pos) (tMethN C m n ks.length sp gV E ta t tk) := by
  refine ⟨fun pins s σ H Q I h => ?_⟩
  refine PySem.W.methodCall_KW (pl := pl) (thn (he.run pins s σ H _ I h) fun u s1 ⟨x, H1, I1, rx, a, dx, fs, ex, ea, l, q⟩ => ?_) ht
  subst ex
  obtain rfl : u = Value.ref a := rx
  refine getmeth_ok I1 ea c hm l ?_
  refine PySem.W.callWith_KW (first := [.ref a]) (h₀ := X.base) I.ok.mod.kin hm.kp hall (thn (ha.run pos pins s1 σ H1 _ I1 q) fun us s2 ⟨vs, H2, I2, r, q2⟩ => ?_) hpl hst
  refine thn (hkw.run pos pins s2 σ H2 _ I2 q2) fun ws s3 ⟨zs, H3, I3, rz, l1, l2, q3⟩ => ⟨I3.kIn, ?_⟩
  rw [hks]
  exact run_fnN (us := .ref a :: us) (vs := .ref a :: vs) F hr hb hx I3 (.cons rfl r) rz (by rw [List.length_cons, l1]) l2 q3
end
/-! ### o.f as a target -/
def gFld (K : PySem.W.Frag) (to : TE) (f : Str) : TG := fun v σ H Q => to σ H fun x H1 => ∃ a C dx fs, x = .ref a ∧ H1 a = some (.ins C dx fs) ∧ Cls K C ∧ NoAttr K C f ∧ fs.length < 1000 ∧ Q σ (upd H1 a (.ins C dx (putF f v fs)))
theorem pg_fld {X : Cx} {o : Expr} {f : Str} {to : TE} {pos : Pos} (ho : PE X o to) : PG X (.Attribute o f pos) (gFld X.K to f) := by
  refine ⟨fun pins s σ H v u Q I r h => ?_⟩
  rw [assign_Attribute]
  refine wpAny_bind (wpAny_holding (thn (ho.run pins s σ H _ I h) fun ov s1 ⟨x, H1, I1, rx, a, C, dx, fs, ex, ea, c, n, l, q⟩ => ?_))
  subst ex
  obtain rfl : ov = Value.ref a := rx
  refine wpAny_bind (wpAny_standAt (wpAny_bind (wpAny_holding ?_)))
  exact setattr_ok I1 ea c n l r fun s3 I3 => wpAny_release ⟨σ, _, I3, q⟩
/-! ### keyword-only defaults -/
section
variable {K : PySem.W.Frag} {D : Addr}
def KwL (K : PySem.W.Frag) (D : Addr) (kws : List (Str × V)) : Prop := ∀ q ∈ kws, ∃ u, PySem.W.nsIn K D q.1 = some (some u) ∧ RelV q.2 u
theorem kwL_nil : KwL K D [] := fun q hq => by cases hq
theorem kwL_cons {x : Str} {v : V} {u : Value} {kws : List (Str × V)} (h : PySem.W.nsIn K D x = some (some u)) (r : RelV v u) (t : KwL K D kws) : KwL K D ((x, v) :: kws) := fun q hq => by
  rcases List.mem_cons.mp hq with e | hq
  · subst e
    exact ⟨u, h, r⟩
  · exact t q hq
theorem funK_mk {x qual : Str} {st : Stmt} {f : Addr} {oc : Value} {od an : Option Addr} {osl : Array (Option Value)} {doc pm cdv ct : Value} {kws : List (Str × V)}
    (l : K.lookup f = some ⟨oc, od, .func (PySem.W.fnOf x qual (defArgs st) (defBody st) (defScope st) .none (.ref D) doc pm an cdv ct), osl⟩) (c : PySem.W.codeIn K cdv qual = true) (k : PySem.W.keepIn K (.ref f) = true)
    (h : KwL K D kws) (hk : kws ≠ []) : FunD K x qual (defArgs st) (defBody st) (defScope st) [] kws f (PySem.W.fnOf x qual (defArgs st) (defBody st) (defScope st) .none (.ref D) doc pm an cdv ct) :=
  ⟨⟨oc, od, .none, .ref D, doc, pm, an, cdv, ct, osl, rfl, l, c, .inl ⟨rfl, rfl⟩, .inr ⟨D, rfl, h⟩⟩, k⟩
variable {x qual : Str} {params : Arguments} {body : List Stmt} {scope : Scope} {kws : List (Str × V)} {f : Addr} {fd : FuncData} {ps : List Str}
theorem bindK (F : FunD K x qual params body scope [] kws f fd) (n : Nat) (hk : kws ≠ []) (hn : n + kws.length = ps.length)
    (h : ∀ (D : Addr) (doc pm : Value) (an : Option Addr) (cdv ct : Value) (us ks : List Value), us.length = n → ks.length = kws.length →
      KwChain D ((kws.map (·.1)).zip ks) (bindArgs (PySem.W.fnOf x qual params body scope .none (.ref D) doc pm an cdv ct) ⟨us, []⟩) (ps.zip (us ++ ks))) : ∃ ds, Vals (kws.map (·.2)) ds ∧ Binds K fd ps ds := F.binds0 n hk hn h
theorem kbindK1 (F : FunD K x qual params body scope [] kws f fd) (n : Nat) (ks : List Str) (ms : List (Str × V)) (hk : kws ≠ []) (hms : ∀ q ∈ ms, q ∈ kws)
    (h : ∀ (D : Addr) (doc pm : Value) (an : Option Addr) (cdv ct : Value) (us mv ws : List Value), us.length = n → mv.length = ms.length → ws.length = ks.length →
      KwChain D ((ms.map (·.1)).zip mv) (bindArgs (PySem.W.fnOf x qual params body scope .none (.ref D) doc pm an cdv ct) ⟨us, ks.zip ws⟩) (ps.zip (us ++ (ws ++ mv)))) :
    ∃ mv : List Value, KBn K fd ps n ks (fun us ws => us ++ (ws ++ mv)) (fun vs zs => vs ++ (zs ++ ms.map (·.2))) :=
  F.kbinds0 n ks ms (fun us mv ws => us ++ (ws ++ mv)) hk hms (fun r1 r2 r3 => r1.append (r3.append r2)) h
theorem kbindK2 (F : FunD K x qual params body scope [] kws f fd) (n : Nat) (ks : List Str) (ms : List (Str × V)) (hk : kws ≠ []) (hms : ∀ q ∈ ms, q ∈ kws)
    (h : ∀ (D : Addr) (doc pm : Value) (an : Option Addr) (cdv ct : Value) (us mv ws : List Value), us.length = n → mv.length = ms.length → ws.length = ks.length →
      KwChain D ((ms.map (·.1)).zip mv) (bindArgs (PySem.W.fnOf x qual params body scope .none (.ref D) doc pm an cdv ct) ⟨us, ks.zip ws⟩) (ps.zip (us ++ (mv ++ ws)))) :
    ∃ mv : List Value, KBn K fd ps n ks (fun us ws => us ++ (mv ++ ws)) (fun vs zs => vs ++ (ms.map (·.2) ++ zs)) :=
  F.kbinds0 n ks ms (fun us mv ws => us ++ (mv ++ ws)) hk hms (fun r1 r2 r3 => r1.append (r2.append r3)) h
end
end HP1

/-! DTup: places (tuples of texts) and dicts with tuple keys, over data. -/
namespace HP1
open PySem PySem.Spec PyProof.Rows L2
/-- membership by values, in a list or a tuple -/
def rInP (K : PySem.W.Frag) (neg : Bool) : R2 := fun x y H Q => ∃ d ds, Dp K H x d ∧ (Dp K H y (.list ds) ∨ Dp K H y (.tuple ds)) ∧ SeqAt.shaped d = true ∧ SeqAt.shaped (.list ds) = true ∧ Q (.bl (if neg = true then !(ds.any fun z => PyData.eqv z d) else ds.any fun z => PyData.eqv z d)) H
theorem op_inP {X : Cx} (hu : X.A.units + 65 < cLine) : OpR X (compareOp .In) (rInP X.K false) := by
  intro pins s σ H x y v u Q I rx ry h
  obtain ⟨d, ds, hd, he, sd, se, q⟩ := h
  obtain ⟨as, r1⟩ := Dp.reads I d x v hd rx
  rcases he with he | he
  · obtain ⟨bs, r2⟩ := Dp.reads I (.list ds) y u he ry
    exact SeqAt.in_list_reads r2 r1 (SeqAt.canLay_of_shaped se) (SeqAt.canLay_of_shaped sd) (room_in_shaped sd hu) ⟨.bl _, H, I, rfl, q⟩
  · obtain ⟨bs, r2⟩ := Dp.reads I (.tuple ds) y u he ry
    exact SeqAt.in_tuple_reads r2 r1 (SeqAt.canLay_of_shaped se) (SeqAt.canLay_of_shaped sd) (room_in_shaped sd hu) ⟨.bl _, H, I, rfl, q⟩
theorem op_ninP {X : Cx} (hu : X.A.units + 65 < cLine) : OpR X (compareOp .NotIn) (rInP X.K true) := by
  intro pins s σ H x y v u Q I rx ry h
  obtain ⟨d, ds, hd, he, sd, se, q⟩ := h
  obtain ⟨as, r1⟩ := Dp.reads I d x v hd rx
  rcases he with he | he
  · obtain ⟨bs, r2⟩ := Dp.reads I (.list ds) y u he ry
    exact SeqAt.notIn_list_reads r2 r1 (SeqAt.canLay_of_shaped se) (SeqAt.canLay_of_shaped sd) (room_in_shaped sd hu) ⟨.bl _, H, I, rfl, q⟩
  · obtain ⟨bs, r2⟩ := Dp.reads I (.tuple ds) y u he ry
    exact SeqAt.notIn_tuple_reads r2 r1 (SeqAt.canLay_of_shaped se) (SeqAt.canLay_of_shaped sd) (room_in_shaped sd hu) ⟨.bl _, H, I, rfl, q⟩
theorem room65 {k : Nat} {A : Around} (r : Room k A) : A.units + 65 < cLine := by have := r.un; omega
theorem room2 {k : Nat} {A : Around} (r : Room k A) : A.units + 2 < cLine := by have := r.un; omega
theorem room1 {k : Nat} {A : Around} (r : Room k A) : A.units + 1 < cLine := by have := r.un; omega
end HP1
namespace DD
open PySem L2 HP1
open PySem.Spec PyProof.Rows
/-- a tuple of these texts, tracked or not -/
def TxT (d : D) (ns : List Str) : Prop := d = .pl ns ∨ d = .tup ((ns.map V.str).map D.s)
/-- the first table entry of the key -/
def lookT : List (List Str) → List D → List Str → Option D
  | k :: ks, d :: ds, x => if k = x then some d else lookT ks ds x
  | _, _, _ => none
def SeqO (m : Mem) (y : D) (ds : List D) : Prop := y = .lst ds ∨ y = .tup ds ∨ ∃ a, y = .s (.ref a) ∧ m.own a = some (.lst ds)
abbrev tupP (ns : List Str) : PyData := .tuple (ns.map PyData.str)
inductive PlL : List D → List (List Str) → Prop
  | nil : PlL [] []
  | cons {d : D} {ns : List Str} {ds : List D} {nss : List (List Str)} (h : TxT d ns) (t : PlL ds nss) : PlL (d :: ds) (ns :: nss)
theorem PlL.map : ∀ nss : List (List Str), PlL (nss.map D.pl) nss
  | [] => .nil
  | _ :: nss => .cons (.inl rfl) (PlL.map nss)
theorem PlL.snoc {ds : List D} {nss : List (List Str)} (h : PlL ds nss) {d : D} {ns : List Str} (hd : TxT d ns) : PlL (ds ++ [d]) (nss ++ [ns]) := by
  induction h with
  | nil => exact .cons hd .nil
  | cons h t ih => exact .cons h ih
theorem PlL.app {ds ds' : List D} {nss nss' : List (List Str)} (h : PlL ds nss) (h' : PlL ds' nss') : PlL (ds ++ ds') (nss ++ nss') := by
  induction h with
  | nil => exact h'
  | cons h t ih => exact .cons h ih
theorem PlL.length {ds : List D} {nss : List (List Str)} (h : PlL ds nss) : ds.length = nss.length := by
  induction h with
  | nil => rfl
  | cons h t ih => simp [ih]
theorem pyL_strsV : ∀ ns : List Str, pyL ((ns.map V.str).map D.s) = some (ns.map PyData.str)
  | [] => by
    unfold pyL
    rfl
  | n :: ns => by
    rw [List.map_cons, List.map_cons]
    unfold pyL
    rw [pyL_strsV ns]
    unfold pyD
    rfl
theorem TxT.py {d : D} {ns : List Str} (h : TxT d ns) : pyD d = some (tupP ns) := by
  rcases h with rfl | rfl
  · unfold pyD
    rfl
  · unfold pyD
    rw [pyL_strsV]
    rfl
theorem PlL.py {ds : List D} {nss : List (List Str)} (h : PlL ds nss) : pyL ds = some (nss.map tupP) := by
  induction h with
  | nil =>
    unfold pyL
    rfl
  | cons h t ih =>
    unfold pyL
    rw [h.py, ih]
    rfl
theorem TxT.seq {d : D} {ns : List Str} (h : TxT d ns) : seqD d = some ((ns.map V.str).map D.s) := by
  rcases h with rfl | rfl <;> rfl
section
variable {K : PySem.W.Frag} {B F Hb H : Hp} {m : Mem} {ρ : DD.Env} {E : XK} {X : XD}
theorem TxT.rp {d : D} {ns : List Str} {v : V} (h : TxT d ns) (hd : Rp K Hb d v) : ∃ b, v = .ref b ∧ SqT K Hb b (ns.map V.str) := by
  rcases h with rfl | rfl
  · unfold Rp at hd
    obtain ⟨p, rfl, h2⟩ := hd
    exact ⟨p, rfl, SqT.of h2⟩
  · unfold Rp at hd
    obtain ⟨p, vs, rfl, h2, h3⟩ := hd
    rw [RpL.scal h3] at h2
    exact ⟨p, rfl, h2⟩
theorem shaped_tupP {ns : List Str} (h : ∀ z ∈ ns, PyData.strOk z = true) : SeqAt.shaped (tupP ns) = true := by
  have := shaped_strs h
  unfold SeqAt.shaped at this ⊢
  simpa [PyData.canLay0, PyData.depth] using this
theorem shaped_lstP {nss : List (List Str)} (h : ∀ ns ∈ nss, ∀ z ∈ ns, PyData.strOk z = true) : SeqAt.shaped (.list (nss.map tupP)) = true := by
  have : ∀ nss : List (List Str), (∀ ns ∈ nss, ∀ z ∈ ns, PyData.strOk z = true) → PyData.canLayAll0 (nss.map tupP) = true ∧ PyData.depthAll (nss.map tupP) ≤ 1 := by
    intro nss
    induction nss with
    | nil => intro _; exact ⟨rfl, Nat.zero_le _⟩
    | cons ns nss ih =>
      intro h
      obtain ⟨a1, a2⟩ := ih fun x hx => h x (List.mem_cons_of_mem _ hx)
      obtain ⟨b1, b2⟩ := shp_strs (h ns List.mem_cons_self)
      refine ⟨?_, ?_⟩
      · simp only [List.map_cons, PyData.canLayAll0, PyData.canLay0, Bool.and_eq_true]
        exact ⟨b1, a1⟩
      · simp only [List.map_cons, PyData.depthAll, PyData.depth, b2]
        omega
  obtain ⟨h1, h2⟩ := this nss h
  unfold SeqAt.shaped
  simp [PyData.canLay0, PyData.depth, h1]
  try omega
theorem eqv_tupP (xs ys : List Str) : PyData.eqv (tupP xs) (tupP ys) = decide (xs = ys) := by
  rw [← eqvAll_strs]
  simp [PyData.eqv]
theorem any_tupP (nss : List (List Str)) (ns : List Str) : ((nss.map tupP).any fun z => PyData.eqv z (tupP ns)) = decide (ns ∈ nss) := by
  induction nss with
  | nil => rfl
  | cons k nss ih =>
    rw [List.map_cons, List.any_cons, ih, eqv_tupP]
    by_cases h : k = ns
    · subst h
      simp
    · simp [h, Ne.symm h]
theorem SeqO.dp {y : D} {ds : List D} {ps : List PyData} {v : V} (h : SeqO m y ds) (hp : pyL ds = some ps) (r : Rel K F Hb H m) (hy : Rp K Hb y v) : Dp K H v (.list ps) ∨ Dp K H v (.tuple ps) := by
  rcases h with rfl | rfl | ⟨a, rfl, ho⟩
  · refine .inl (pyD_dp (.lst ds) v (.list ps) ?_ hy r.sub)
    unfold pyD
    rw [hp]
    rfl
  · refine .inr (pyD_dp (.tup ds) v (.tuple ps) ?_ hy r.sub)
    unfold pyD
    rw [hp]
    rfl
  · unfold Rp at hy
    subst hy
    obtain ⟨_, vs, h1, h2⟩ := r.own a _ ho
    exact .inl (.lst (SqL.of h1) (pyL_dp ds vs ps hp h2 r.sub))
theorem wo_inPb {x y : D} {ns : List Str} {ds : List D} {nss : List (List Str)} {neg : Bool} {Q : QD} (hx : TxT x ns) (hy : SeqO m y ds) (hd : PlL ds nss) (ok : ∀ z ∈ ns, PyData.strOk z = true) (oks : ∀ ns ∈ nss, ∀ z ∈ ns, PyData.strOk z = true)
    (q : Q (.s (.bl (if neg = true then !decide (ns ∈ nss) else decide (ns ∈ nss)))) m) : WO K F B (rInP K neg) x y m Q := fun Hb H vx vy R hB r hvx hvy k => by
  refine ⟨tupP ns, nss.map tupP, pyD_dp x vx _ hx.py hvx r.sub, hy.dp hd.py r hvy, shaped_tupP ok, shaped_lstP oks, ?_⟩
  rw [any_tupP]
  exact k.here r rp_s q

/-! ### dicts -/
theorem look_val : ∀ {ks : List (List Str)} {ds : List D} {vs : List V} (x : List Str), RpL K Hb ds vs → ks.length = ds.length →
    (∀ d, lookT ks ds x = some d → ∃ v, valV ((ks.map inrs).zip vs) (inrs x) = some v ∧ Rp K Hb d v) ∧ (lookT ks ds x = none → valV ((ks.map inrs).zip vs) (inrs x) = none)
  | [], [], vs, x, h, _ => by
    unfold RpL at h
    subst h
    exact ⟨fun d e => (nomatch (show (none : Option D) = some d from e)), fun _ => rfl⟩
  | k :: ks, d :: ds, vs, x, h, hl => by
    unfold RpL at h
    obtain ⟨v, r, rfl, h1, h2⟩ := h
    obtain ⟨i1, i2⟩ := look_val x h2 (by simpa using hl)
    rw [List.map_cons, List.zip_cons_cons]
    unfold lookT
    by_cases e : k = x
    · rw [if_pos e]
      refine ⟨fun d' e' => ?_, fun e' => by cases e'⟩
      cases e'
      exact ⟨v, valV_pos (by rw [e]), h1⟩
    · rw [if_neg e]
      have ne : ¬ inrs k = inrs x := fun z => e (by rw [← un_in k, ← un_in x, z])
      refine ⟨fun d' e' => ?_, fun e' => ?_⟩
      · obtain ⟨v', e1, e2⟩ := i1 d' e'
        exact ⟨v', (valV_neg ne).trans e1, e2⟩
      · exact (valV_neg ne).trans (i2 e')
theorem keyQ {a : Addr} {ks : List (List Str)} {ds : List D} {vs : List V} {x : D} {ns : List Str} {vx : V} (r : Rel K F Hb H m) (h1 : H a = some (.dT ((ks.map inrs).zip vs))) (hx : TxT x ns) (hv : Rp K Hb x vx) :
    DGetQ K H a vx (valV ((ks.map inrs).zip vs) (inrs ns)) := by
  obtain ⟨b, rfl, hb⟩ := hx.rp hv
  exact ⟨_, inrs ns, b, .inl h1, rfl, by rw [kV_inrs]; exact sameT r.sub hb, rfl⟩
theorem wo_inQb {a : Addr} {ks : List (List Str)} {ds : List D} {x : D} {ns : List Str} {neg : Bool} {Q : QD} (hx : TxT x ns) (ho : m.own a = some (.dT ks ds)) (q : Q (.s (.bl (if neg = true then !(lookT ks ds ns).isSome else (lookT ks ds ns).isSome))) m) :
    WO K F B (rInQ K neg) x (.s (.ref a)) m Q := fun Hb H vx vy R hB r hvx hvy k => by
  unfold Rp at hvy
  subst hvy
  obtain ⟨_, vs, h1, h2, h3⟩ := r.own a _ ho
  refine ⟨a, _, rfl, keyQ (ds := ds) r h1 hx hvx, ?_⟩
  have e : (valV ((ks.map inrs).zip vs) (inrs ns)).isSome = (lookT ks ds ns).isSome := by
    obtain ⟨i1, i2⟩ := look_val (K := K) (Hb := Hb) ns h2 h3
    cases q : lookT ks ds ns with
    | none =>
      rw [i2 q]
      rfl
    | some d =>
      obtain ⟨v, e, _⟩ := i1 d q
      rw [e]
      rfl
  rw [e]
  exact k.here r rp_s q
theorem wo_ixQ {a : Addr} {ks : List (List Str)} {ds : List D} {x d : D} {ns : List Str} {Q : QD} (hx : TxT x ns) (ho : m.own a = some (.dT ks ds)) (hd : lookT ks ds ns = some d) (q : Q d m) :
    WO K F B (rIxQ K) (.s (.ref a)) x m Q := fun Hb H vx vy R hB r hvx hvy k => by
  unfold Rp at hvx
  subst hvx
  obtain ⟨_, vs, h1, h2, h3⟩ := r.own a _ ho
  obtain ⟨v, e1, e2⟩ := (look_val (K := K) (Hb := Hb) ns h2 h3).1 d hd
  refine ⟨a, v, rfl, ?_, k.here r e2 q⟩
  rw [← e1]
  exact keyQ (ds := ds) r h1 hx hvy
theorem we_getQ {td ty tx : TE} {Q : QD} (h : WE K F B td ρ m fun x m1 => ∃ a, x = .s (.ref a) ∧ (∃ ks ds, m1.own a = some (.dT ks ds)) ∧ WE K F B ty ρ m1 fun y m2 => WE K F B tx ρ m2 fun z m3 => ∃ ks ds ns, m3.own a = some (.dT ks ds) ∧ TxT y ns ∧
    (∀ d, lookT ks ds ns = some d → Q d m3) ∧ (lookT ks ds ns = none → Q z m3)) : WE K F B (tGetQ K td ty tx) ρ m Q := fun Hb H σ R hB r hs k =>
  h Hb H σ _ hB r hs fun v H1 Hb1 x m1 e1 r1 hx q1 => by
    obtain ⟨a, rfl, ⟨ks0, ds0, ho0⟩, q1⟩ := q1
    unfold Rp at hx
    subst hx
    obtain ⟨_, vs0, h0, _⟩ := r1.own a _ ho0
    refine ⟨a, rfl, .inr ⟨_, .inl h0⟩, ?_⟩
    refine q1 Hb1 H1 σ _ (hB.trans e1) r1 (hs.mono e1) fun u H2 Hb2 y m2 e2 r2 hy q2 => ?_
    refine q2 Hb2 H2 σ _ ((hB.trans e1).trans e2) r2 ((hs.mono e1).mono e2) fun w H3 Hb3 z m3 e3 r3 hz q3 => ?_
    obtain ⟨ks, ds, ns, ho, hn, qs, qn⟩ := q3
    obtain ⟨_, vs, h1, h2, h3⟩ := r3.own a _ ho
    refine ⟨_, keyQ (ds := ds) r3 h1 hn (hy.mono e3), ?_⟩
    obtain ⟨i1, i2⟩ := look_val (K := K) (Hb := Hb3) ns h2 h3
    cases q : lookT ks ds ns with
    | none =>
      rw [i2 q]
      exact k _ _ _ _ _ ((e1.trans e2).trans e3) r3 hz (qn q)
    | some d =>
      obtain ⟨v', e, rd⟩ := i1 d q
      rw [e]
      exact k _ _ _ _ _ ((e1.trans e2).trans e3) r3 rd (qs d q)
theorem look_app : ∀ {ks : List (List Str)} {ds : List D} (x y : List Str) (d : D), ks.length = ds.length → lookT ks ds x = none → lookT (ks ++ [x]) (ds ++ [d]) y = if y = x then some d else lookT ks ds y
  | [], [], x, y, d, _, _ => by
    show (if x = y then some d else none) = _
    by_cases e : y = x
    · rw [if_pos e, if_pos e.symm]
    · rw [if_neg e, if_neg (Ne.symm e)]
      rfl
  | k :: ks, e :: ds, x, y, d, hl, hn => by
    unfold lookT at hn
    by_cases hk : k = x
    · rw [if_pos hk] at hn
      cases hn
    · rw [if_neg hk] at hn
      show (if k = y then some e else lookT (ks ++ [x]) (ds ++ [d]) y) = _
      rw [look_app x y d (by simpa using hl) hn]
      by_cases hy : k = y
      · rw [if_pos hy, if_neg (fun z => hk (hy.trans z))]
        show _ = (if k = y then some e else lookT ks ds y)
        rw [if_pos hy]
      · rw [if_neg hy]
        show _ = if y = x then some d else (if k = y then some e else lookT ks ds y)
        rw [if_neg hy]
theorem zip_snoc {α β : Type} : ∀ {xs : List α} {ys : List β} (x : α) (y : β), xs.length = ys.length → (xs ++ [x]).zip (ys ++ [y]) = xs.zip ys ++ [(x, y)]
  | [], [], _, _, _ => rfl
  | a :: xs, b :: ys, x, y, h => by
    show (a, b) :: ((xs ++ [x]).zip (ys ++ [y])) = _
    rw [zip_snoc x y (by simpa using h)]
    rfl
/-- a new key -/
theorem RepM.dput {a : Addr} {ks : List (List Str)} {ds : List D} {vs : List V} {ns : List Str} {d : D} {v : V} {cnt : Nat} (h2 : RpL K Hb ds vs) (h3 : ks.length = ds.length) (hd : Rp K Hb d v) (hn : lookT ks ds ns = none) :
    RepM K Hb (upd H a (.dT (putK ((ks.map inrs).zip vs) (inrs ns) v))) cnt a (.dT (ks ++ [ns]) (ds ++ [d])) := by
  refine ⟨vs ++ [v], ?_, h2.app (RpL.cons hd RpL.nil), by simp [h3]⟩
  rw [upd_same, putK_new v ((look_val (K := K) (Hb := Hb) ns h2 h3).2 hn), List.map_append, ← zip_snoc]
  · rfl
  · rw [List.length_map, h3, h2.length]
/-- d[k] = v, a new key -/
theorem wg_subT {to ti : TE} {x : D} {Q : Env → Mem → Prop} (h : WE K F B to ρ m fun o m1 => WE K F B ti ρ m1 fun y m2 => ∃ a ks ds ns, o = .s (.ref a) ∧ y = .pl ns ∧ m2.own a = some (.dT ks ds) ∧ ks.length < sizeLine ∧ lookT ks ds ns = none ∧
    Q ρ { m2 with own := putM m2.own a (.dT (ks ++ [ns]) (ds ++ [x])) }) : WG K F B (gSub to ti rSetD) x ρ m Q := fun Hb H σ v R hB r hs hx k =>
  h Hb H σ _ hB r hs fun o H1 Hb1 od m1 e1 r1 ho q1 => q1 Hb1 H1 σ _ (hB.trans e1) r1 (hs.mono e1) fun i H2 Hb2 y m2 e2 r2 hy q2 => by
    obtain ⟨a, ks, ds, ns, rfl, rfl, hown, hz, hn, q⟩ := q2
    unfold Rp at ho hy
    subst ho
    obtain ⟨b, rfl, hb⟩ := hy
    obtain ⟨h0, vs, h1, h2, h3⟩ := r2.own a _ hown
    show ∃ a' H', V.ref a = V.ref a' ∧ DPut H2 a' (V.ref b) v H' ∧ R σ H'
    refine ⟨a, _, rfl, DPut.t (k := inrs ns) h1 (by rw [kV_inrs]; exact r2.sub _ _ hb) ?_, ?_⟩
    · rw [List.length_zip, List.length_map]
      omega
    · exact k _ _ _ _ _ (e1.trans e2) (r2.change hown (RepM.dput h2 h3 ((hx.mono e1).mono e2) hn)) ((hs.mono e1).mono e2) q
/-- {}, owned -/
theorem we_dnewTO {Q : QD} (h : ∀ a, m.own a = none → Q (.s (.ref a)) { m with own := putM m.own a (.dT [] []) }) : WE K F B tDNewT ρ m Q := fun Hb H σ R hB r hs k => fun p hp =>
  k _ _ _ _ _ (Same.refl _) (r.owned (mo := .dT [] []) hp ⟨[], upd_same, RpL.nil, rfl⟩) rp_s (h p (r.free hp))
/-- the pairs of a display -/
def WPs (K : PySem.W.Frag) (F B : Hp) (trs : List (TE × TE)) (ρ : Env) (m : Mem) (Q : List (D × D) → Mem → Prop) : Prop := ∀ Hb H σ (R : List (V × V) → Hp → Prop), Same B Hb → Rel K F Hb H m → RpS K Hb ρ σ →
  (∀ (ps : List (V × V)) H' Hb' (ds : List (D × D)) m', Same Hb Hb' → Rel K F Hb' H' m' → RpL K Hb' (ds.map (·.1)) (ps.map (·.1)) → RpL K Hb' (ds.map (·.2)) (ps.map (·.2)) → Q ds m' → R ps H') → tPairs trs σ H R
theorem wps_nil {Q : List (D × D) → Mem → Prop} (q : Q [] m) : WPs K F B [] ρ m Q := fun Hb H σ R hB r hs k => k [] H Hb [] m (Same.refl _) r RpL.nil RpL.nil q
theorem wps_cons {tk tv : TE} {trs : List (TE × TE)} {Q : List (D × D) → Mem → Prop} (h : WE K F B tk ρ m fun x m1 => WE K F B tv ρ m1 fun y m2 => WPs K F B trs ρ m2 fun ds m3 => Q ((x, y) :: ds) m3) : WPs K F B ((tk, tv) :: trs) ρ m Q := fun Hb H σ R hB r hs k =>
  h Hb H σ _ hB r hs fun v H1 Hb1 x m1 e1 r1 hx q1 => q1 Hb1 H1 σ _ (hB.trans e1) r1 (hs.mono e1) fun u H2 Hb2 y m2 e2 r2 hy q2 =>
    q2 Hb2 H2 σ _ ((hB.trans e1).trans e2) r2 ((hs.mono e1).mono e2) fun ps H3 Hb3 ds m3 e3 r3 h1 h2 q3 =>
      k ((v, u) :: ps) H3 Hb3 ((x, y) :: ds) m3 ((e1.trans e2).trans e3) r3 (RpL.cons ((hx.mono e2).mono e3) h1) (RpL.cons (hy.mono e3) h2) q3
theorem put_all_new : ∀ (zs : List (List Key × Addr × V)) (kvs : List (List Key × V)), (zs.map (·.1)).Nodup → (∀ z ∈ zs, valV kvs z.1 = none) → putAll kvs zs = kvs ++ zs.map fun z => (z.1, z.2.2)
  | [], kvs, _, _ => by simp
  | z :: zs, kvs, hn, hv => by
    rw [List.map_cons] at hn
    obtain ⟨n1, n2⟩ := List.nodup_cons.mp hn
    show putAll (putK kvs z.1 z.2.2) zs = _
    rw [putK_new _ (hv z List.mem_cons_self), put_all_new zs _ n2 fun y hy => ?_]
    · simp
    · rw [valV_snoc _ _ _ _ (hv z List.mem_cons_self), if_neg]
      · exact hv y (List.mem_cons_of_mem _ hy)
      · intro e
        exact n1 (by rw [← e]; exact List.mem_map_of_mem hy)
theorem rp_pls : ∀ {kss : List (List Str)} {vs : List V}, RpL K Hb (kss.map D.pl) vs → ∃ bs : List Addr, vs = bs.map V.ref ∧ bs.length = kss.length ∧ ∀ z ∈ kss.zip bs, Hb z.2 = some (.tup (z.1.map V.str))
  | [], vs, h => by
    unfold RpL at h
    subst h
    exact ⟨[], rfl, rfl, fun z hz => by cases hz⟩
  | k :: kss, vs, h => by
    unfold RpL at h
    obtain ⟨v, r, rfl, h1, h2⟩ := h
    unfold Rp at h1
    obtain ⟨b, rfl, hb⟩ := h1
    obtain ⟨bs, rfl, hl, hh⟩ := rp_pls h2
    refine ⟨b :: bs, rfl, by simp [hl], fun z hz => ?_⟩
    rcases List.mem_cons.mp hz with e | hz
    · subst e
      exact hb
    · exact hh z hz
/-- a display with tuple keys, all unlike -/
theorem we_dispT {trs : List (TE × TE)} {Q : QD} (h : ∀ p, m.own p = none → WPs K F B trs ρ { m with own := putM m.own p (.dT [] []) } fun qs m' => m'.own p = some (.dT [] []) ∧ ∃ (ks : List (List Str)) (ds : List D), qs.map (·.1) = ks.map D.pl ∧ qs.map (·.2) = ds ∧ ks.length ≤ 15 ∧ ks.Nodup ∧
    Q (.s (.ref p)) { m' with own := putM m'.own p (.dT ks ds) }) : WE K F B (tDispT trs) ρ m Q := fun Hb H σ R hB r hs k => fun p hp => by
  have r0 := r.owned (mo := .dT [] []) hp ⟨[], upd_same, RpL.nil, rfl⟩
  refine h p (r.free hp) Hb _ σ _ hB r0 hs fun ps H2 Hb2 qs m2 e2 r2 h1 h2 q2 => ?_
  obtain ⟨ho, ks, ds, ek, ed, l15, nd, q⟩ := q2
  obtain ⟨h0, vs0, hv0, hr0, _⟩ := r2.own p _ ho
  have e0 : H2 p = some (.dT []) := by
    unfold RpL at hr0
    subst hr0
    exact hv0
  refine ⟨e0, ?_⟩
  rw [ek] at h1
  rw [ed] at h2
  obtain ⟨bs, eb, hl, hh⟩ := rp_pls h1
  have lq : ks.length = qs.length := by
    have := congrArg List.length ek
    simpa using this.symm
  have lp : ps.length = ks.length := by
    have := congrArg List.length eb
    simp at this
    omega
  have l2 : ds.length = ks.length := by rw [← ed, List.length_map, lq]
  let zs : List (List Key × Addr × V) := (ks.map inrs).zip (bs.zip (ps.map (·.2)))
  have ez : ps = zs.map (fun z => (V.ref z.2.1, z.2.2)) := by
    have e1 : ∀ (ks : List (List Str)) (bs : List Addr) (ps : List (V × V)), ps.map (·.1) = bs.map V.ref → bs.length = ks.length → ps = ((ks.map inrs).zip (bs.zip (ps.map (·.2)))).map (fun z => (V.ref z.2.1, z.2.2)) := by
      intro ks
      induction ks with
      | nil =>
        intro bs ps e l
        have : bs = [] := List.eq_nil_of_length_eq_zero l
        subst this
        have : ps = [] := by simpa using e
        subst this
        rfl
      | cons k ks ih =>
        intro bs ps e l
        match bs, ps, e, l with
        | b :: bs, p :: ps, e, l =>
          rw [List.map_cons, List.map_cons] at e
          injection e with e1 e2
          obtain ⟨p1, p2⟩ := p
          have e1' : p1 = V.ref b := e1
          have i := ih bs ps e2 (by simpa using l)
          subst e1'
          exact congrArg (fun z => (V.ref b, p2) :: z) i
        | [], _, _, l => cases l
        | b :: bs, [], e, l => cases e
    exact e1 ks bs ps eb hl
  have k1 : zs.map (·.1) = ks.map inrs := by
    refine List.map_fst_zip ?_
    simp [hl, lp]
  have hm : ∀ z ∈ zs, H2 z.2.1 = some (.tup (z.1.map kV)) := fun z hz => by
    have : ∀ (ks : List (List Str)) (bs : List Addr) (vs : List V), (∀ z ∈ ks.zip bs, Hb2 z.2 = some (.tup (z.1.map V.str))) → ∀ z ∈ (ks.map inrs).zip (bs.zip vs), Hb2 z.2.1 = some (.tup (z.1.map kV)) := by
      intro ks
      induction ks with
      | nil => intro bs vs _ z hz; cases hz
      | cons k ks ih =>
        intro bs vs hh z hz
        match bs, vs, hh, hz with
        | b :: bs, v :: vs, hh, hz =>
          rcases List.mem_cons.mp hz with e | hz
          · subst e
            show Hb2 b = some (.tup ((inrs k).map kV))
            rw [kV_inrs]
            exact hh (k, b) List.mem_cons_self
          · exact ih bs vs (fun y hy => hh y (List.mem_cons_of_mem _ hy)) z hz
    exact r2.sub _ _ (this ks bs _ hh z hz)
  have zl : zs.length = ks.length := by
    have := congrArg List.length k1
    simpa using this
  refine ⟨zs, ez, by omega, hm, ?_⟩
  rw [put_all_new zs [] (by
    rw [k1]
    exact nd.map _ fun a b hab hc => hab (by rw [← un_in a, ← un_in b, hc])) fun z _ => rfl]
  refine k _ _ _ _ _ e2 (r2.change (mo' := .dT ks ds) ho ⟨ps.map (·.2), ?_, h2, l2.symm⟩) rp_s q
  rw [upd_same, List.nil_append]
  have : zs.map (fun z => (z.1, z.2.2)) = (ks.map inrs).zip (ps.map (·.2)) := by
    rw [← k1]
    rw [ez, List.map_map, List.zip_map']
    rfl
  rw [this]
/-! ### tuples of texts -/
def cutT (ns : List Str) (lo hi : Option Int) : List Str := (ns.drop (HT.sIx ns.length 0 lo)).take (HT.sIx ns.length ns.length hi - HT.sIx ns.length 0 lo)
theorem cutT_cut (ns : List Str) (lo hi : Option Int) : cutV (ns.map V.str) lo hi = (cutT ns lo hi).map V.str := by
  unfold cutV cutT
  rw [List.length_map, List.map_take, List.map_drop]
theorem cutT_last (ns : List Str) : cutT ns none (some (-1)) = ns.dropLast := by
  unfold cutT
  rw [List.dropLast_eq_take]
  show (ns.drop 0).take ((-1 + (ns.length : Int)).toNat - 0) = _
  rw [List.drop_zero]
  congr 1
  omega
/-- a display of texts: a tracked tuple -/
theorem we_tupP {ta : TA} {Q : QD} (h : WA K F B ta ρ m fun xs m1 => ∃ ns : List Str, xs = (ns.map V.str).map D.s ∧ ns.length ≤ sizeLine ∧ Q (.pl ns) m1) : WE K F B (tTup ta) ρ m Q := fun Hb H σ R hB r hs k =>
  h Hb H σ _ hB r hs fun vs H1 Hb1 xs m1 e1 r1 hx q1 => by
    obtain ⟨ns, rfl, hl, q⟩ := q1
    have e := RpL.scal hx
    subst e
    refine ⟨by rw [List.length_map]; exact hl, fun p hp => k _ _ _ (.pl ns) _ (e1.trans (Same.new (r1.fresh hp))) (r1.data hp) ?_ q⟩
    unfold Rp
    exact ⟨p, rfl, upd_same⟩
theorem wo_catP {x : D} {ns ms : List Str} {Q : QD} (hx : TxT x ns) (hm : ms ≠ []) (hl : ns.length + ms.length ≤ sizeLine) (q : Q (.pl (ns ++ ms)) m) : WO K F B (L2.rCatA K) x (.pl ms) m Q := fun Hb H vx vy R hB r hvx hvy k => by
  obtain ⟨a, rfl, ha⟩ := hx.rp hvx
  have hvy' := hvy
  unfold Rp at hvy'
  obtain ⟨b, rfl, hb⟩ := hvy'
  refine ⟨a, b, _, _, rfl, rfl, sameT r.sub ha, SqT.of (r.sub _ _ hb), by rw [List.length_map, List.length_map]; exact hl, fun e => ?_, fun _ e => ?_, fun _ _ p hp => ?_⟩
  · have e0 : ns = [] := by simpa using e
    subst e0
    exact k.here r hvy q
  · exact absurd (by simpa using e) hm
  · refine k _ _ _ (.pl (ns ++ ms)) _ (Same.new (r.fresh hp)) (r.data hp) ?_ q
    unfold Rp
    exact ⟨p, rfl, by rw [upd_same, List.map_append]⟩
theorem wsl_P {x : D} {ns : List Str} {lo hi : Option Int} {Q : QD} (hx : TxT x ns) (q : ∀ d, TxT d (cutT ns lo hi) → (x = .pl ns → d = .pl (cutT ns lo hi)) → Q d m) : WSl K F B (L2.rSlA K) x lo hi m Q := fun Hb H vx R hB r hvx k => by
  obtain ⟨a, rfl, ha⟩ := hx.rp hvx
  refine ⟨a, _, rfl, sameT r.sub ha, fun hw => ?_, fun _ p hp => ?_⟩
  · rw [List.length_map] at hw
    have e : cutT ns lo hi = ns := by
      unfold cutT
      rw [hw.1, hw.2, List.drop_zero, Nat.sub_zero, List.take_length]
    exact k.here r hvx (q x (by rw [e]; exact hx) fun z => by rw [e]; exact z)
  · refine k _ _ _ (.pl (cutT ns lo hi)) _ (Same.new (r.fresh hp)) (r.data hp) ?_ (q _ (.inl rfl) fun _ => rfl)
    unfold Rp
    exact ⟨p, rfl, by rw [upd_same, cutT_cut]⟩
/-- data that is no None -/
def ThD : D → Prop
  | .s v => v ≠ .non
  | .gen _ => False
  | _ => True
theorem ThD.at {d : D} {v : V} (h : ThD d) (hd : Rp K Hb d v) : decide (v = V.non) = false := by
  cases d with
  | s w =>
    unfold Rp at hd
    subst hd
    exact decide_eq_false h
  | lst xs =>
    unfold Rp at hd
    obtain ⟨p, vs, rfl, _⟩ := hd
    rfl
  | tup xs =>
    unfold Rp at hd
    obtain ⟨p, vs, rfl, _⟩ := hd
    rfl
  | dic ks xs =>
    unfold Rp at hd
    obtain ⟨p, o, vs, rfl, _⟩ := hd
    rfl
  | ins C ns xs =>
    unfold Rp at hd
    obtain ⟨p, dx, vs, rfl, _⟩ := hd
    rfl
  | pl ns =>
    unfold Rp at hd
    obtain ⟨p, rfl, _⟩ := hd
    rfl
  | gen φ => exact h.elim
theorem TxT.th {d : D} {ns : List Str} (h : TxT d ns) : ThD d := by
  rcases h with rfl | rfl <;> exact trivial
theorem wo_isTh {x : D} {Q : QD} (h : ThD x) (q : Q (.s (.bl false)) m) : WO K F B rIsN x (.s .non) m Q := fun Hb H vx vy R hB r hx hy k => by
  unfold Rp at hy
  refine ⟨hy, ?_⟩
  rw [h.at hx]
  exact k.here r rp_s q
theorem wo_notTh {x : D} {Q : QD} (h : ThD x) (q : Q (.s (.bl true)) m) : WO K F B rNotN x (.s .non) m Q := fun Hb H vx vy R hB r hx hy k => by
  unfold Rp at hy
  refine ⟨hy, ?_⟩
  rw [h.at hx]
  exact k.here r rp_s q
/-- *e in a display or in arguments -/
theorem wa_star {te : TE} {ta : TA} {Q : List D → Mem → Prop} (h : WE K F B te ρ m fun x m1 => ∃ ds, SeqO m1 x ds ∧ WA K F B ta ρ m1 fun ys m2 => Q (ds ++ ys) m2) : WA K F B (StX.tStar K te ta) ρ m Q := fun Hb H σ R hB r hs k =>
  h Hb H σ _ hB r hs fun v H1 Hb1 x m1 e1 r1 hx q1 => by
    obtain ⟨ds, hd, q⟩ := q1
    have z : ∃ p xs, v = V.ref p ∧ (SqT K H1 p xs ∨ SqL K H1 p xs) ∧ RpL K Hb1 ds xs := by
      rcases hd with rfl | rfl | ⟨a, rfl, ho⟩
      · unfold Rp at hx
        obtain ⟨p, vs, rfl, h1, h2⟩ := hx
        exact ⟨p, vs, rfl, .inr (SqL.of (r1.sub _ _ h1)), h2⟩
      · unfold Rp at hx
        obtain ⟨p, vs, rfl, h1, h2⟩ := hx
        exact ⟨p, vs, rfl, .inl (sameT r1.sub h1), h2⟩
      · unfold Rp at hx
        subst hx
        obtain ⟨_, vs, h1, h2⟩ := r1.own a _ ho
        exact ⟨a, vs, rfl, .inr (SqL.of h1), h2⟩
    obtain ⟨p, xs, rfl, hsq, hx⟩ := z
    exact ⟨p, xs, rfl, hsq, q Hb1 H1 σ _ (hB.trans e1) r1 (hs.mono e1) fun ys H2 Hb2 es m2 e2 r2 hy q2 => k _ _ _ _ _ (e1.trans e2) r2 ((hx.mono e2).app hy) q2⟩
theorem wc_tupP {ns : List Str} {Q : QD} (q : Q (.pl ns) m) : WC K F B (rTupA K) [.pl ns] m Q := fun Hb H vs R hB r hx k => by
  obtain ⟨v, rfl, hv⟩ := rpL1 hx
  have hv' := hv
  unfold Rp at hv'
  obtain ⟨p, rfl, h1⟩ := hv'
  exact ⟨p, _, rfl, .inr ⟨SqT.of (r.sub _ _ h1), k.here r hv q⟩⟩
theorem wc_tupTx {x : D} {ns : List Str} {Q : QD} (hx : TxT x ns) (q : Q x m) : WC K F B (rTupA K) [x] m Q := by
  rcases hx with rfl | rfl
  · exact wc_tupP q
  · exact wc_tupT q
/-- tuple(xs) of a list of texts: a tracked tuple -/
theorem wc_tupLP {ns : List Str} {Q : QD} (q : Q (.pl ns) m) : WC K F B (rTupA K) [.lst ((ns.map V.str).map D.s)] m Q := fun Hb H vs R hB r hx k => by
  obtain ⟨v, rfl, hv⟩ := rpL1 hx
  unfold Rp at hv
  obtain ⟨p, us, rfl, h1, h2⟩ := hv
  have e := RpL.scal h2
  subst e
  refine ⟨p, _, rfl, .inl ⟨SqL.of (r.sub _ _ h1), fun l hl => ?_⟩⟩
  refine k _ _ _ (.pl ns) _ (Same.new (r.fresh hl)) (r.data hl) ?_ q
  unfold Rp
  exact ⟨l, rfl, upd_same⟩
/-! ### sorted(d) -/
theorem perm_srt {α : Type} {lt : α → α → Bool} (anti : ∀ x y, lt x y = false → lt y x = false → x = y) : ∀ {l m : List α}, l.Perm m → l.Pairwise (fun x y => lt y x = false) → m.Pairwise (fun x y => lt y x = false) → l = m
  | [], m, h, _, _ => (List.Perm.nil_eq h)
  | x :: l, [], h, _, _ => by
    have := h.length_eq
    cases this
  | x :: l, y :: m, h, hl, hm => by
    obtain ⟨l1, l2⟩ := List.pairwise_cons.mp hl
    obtain ⟨m1, m2⟩ := List.pairwise_cons.mp hm
    have hx : x = y ∨ lt x y = false := by
      rcases List.mem_cons.mp (h.mem_iff.mp List.mem_cons_self) with e | e
      · exact .inl e
      · exact .inr (m1 x e)
    have hy : x = y ∨ lt y x = false := by
      rcases List.mem_cons.mp (h.mem_iff.mpr List.mem_cons_self) with e | e
      · exact .inl e.symm
      · exact .inr (l1 y e)
    have e : x = y := by
      rcases hx with e | hx
      · exact e
      · rcases hy with e | hy
        · exact e
        · exact anti x y hx hy
    subst e
    rw [perm_srt anti (List.Perm.cons_inv h) l2 m2]
def pLt (x y : List Str) : Bool := tlt (cpsT x) (cpsT y)
theorem pLt_anti (x y : List Str) (h : pLt x y = false) (h' : pLt y x = false) : x = y := by
  have e := PyProof.Rows.lex_total (O := txtOrd) _ _ h h'
  have inj : ∀ a b : Str, a.cps.toList = b.cps.toList → a = b := fun a b q => by
    cases a with | mk a => cases b with | mk b =>
    congr 1
    exact Array.toList_inj.mp q
  have : ∀ x y : List Str, cpsT x = cpsT y → x = y := by
    intro x
    induction x with
    | nil =>
      intro y e
      cases y with
      | nil => rfl
      | cons b y => cases e
    | cons a x ih =>
      intro y e
      cases y with
      | nil => cases e
      | cons b y =>
        injection e with e1 e2
        rw [inj a b e1, ih y e2]
  exact this x y e
def sortT (ks : List (List Str)) : List (List Str) := ks.mergeSort fun x y => !pLt y x
theorem sortT_perm (ks : List (List Str)) : (sortT ks).Perm ks := List.mergeSort_perm ks _
theorem sortT_srt (ks : List (List Str)) : (sortT ks).Pairwise fun x y => pLt y x = false := by
  have O := tlt_swo (fun x : List Str => cpsT x)
  have := List.pairwise_mergeSort (le := fun x y => !pLt y x) (fun a b c h1 h2 => by
    have e1 : pLt b a = false := by simpa using h1
    have e2 : pLt c b = false := by simpa using h2
    have := O.tr a b c e1 e2
    show (!pLt c a) = true
    rw [show pLt c a = false from this]
    rfl) (fun a b => by
    show (!pLt b a || !pLt a b) = true
    cases e : pLt b a with
    | false => rfl
    | true =>
      rw [show pLt a b = false from O.asym b a e]
      rfl) ks
  exact this.imp fun h => by simpa using h
theorem Rel.tup1 {b : Addr} {xs : List V} (r : Rel K F Hb H m) (h : H b = some (.tup xs)) : ∃ Hb', Same Hb Hb' ∧ Rel K F Hb' H m ∧ Hb' b = some (.tup xs) := by
  cases e : Hb b with
  | some o =>
    have := r.sub b o e
    rw [h] at this
    cases this
    exact ⟨Hb, Same.refl _, r, e⟩
  | none =>
    refine ⟨upd Hb b (.tup xs), Same.new e, ⟨fun c u ec => ?_, fun c o ec => ?_, fun c mo ec => ?_, r.nt⟩, upd_same⟩
    · by_cases hc : c = b
      · subst hc
        rw [upd_same] at ec
        rw [h]
        exact ec
      · rw [upd_ne hc] at ec
        exact r.sub c u ec
    · have hc : c ≠ b := fun z => by
        subst z
        have := (r.fr c o ec).1
        rw [h] at this
        cases this
        exact r.nt c xs ec
      obtain ⟨f1, f2, f3⟩ := r.fr c o ec
      exact ⟨f1, by rw [upd_ne hc]; exact f2, f3⟩
    · obtain ⟨o1, o2⟩ := r.own c mo ec
      have hc : c ≠ b := fun z => by
        subst z
        cases mo with
        | lst ds =>
          obtain ⟨vs, q, _⟩ := o2
          rw [h] at q
          cases q
        | ins C ns ds =>
          obtain ⟨dx, vs, q, _⟩ := o2
          rw [h] at q
          cases q
        | dK ks ds =>
          obtain ⟨vs, q, _⟩ := o2
          rw [h] at q
          cases q
        | dT ks ds =>
          obtain ⟨vs, q, _⟩ := o2
          rw [h] at q
          cases q
        | stm c =>
          obtain ⟨s1, s2, s3, q, _⟩ := o2
          rw [h] at q
          cases q
        | cel =>
          obtain ⟨ns, q, _⟩ := o2
          rw [h] at q
          cases q
        | gen φ =>
          obtain ⟨o, Hc, q, _, _, no⟩ := o2
          rw [h] at q
          exact no xs (Option.some.inj q).symm
      exact ⟨by rw [upd_ne hc]; exact o1, o2.mono (Same.new e) rfl (Nat.le_refl _)⟩
theorem Rel.tups : ∀ {zs : List (Addr × List Str)} {Hb : Hp}, Rel K F Hb H m → (∀ z ∈ zs, H z.1 = some (.tup (z.2.map V.str))) → ∃ Hb', Same Hb Hb' ∧ Rel K F Hb' H m ∧ ∀ z ∈ zs, Hb' z.1 = some (.tup (z.2.map V.str))
  | [], Hb, r, _ => ⟨Hb, Same.refl _, r, fun z hz => by cases hz⟩
  | z :: zs, Hb, r, h => by
    obtain ⟨Hb1, e1, r1, h1⟩ := r.tup1 (h z List.mem_cons_self)
    obtain ⟨Hb2, e2, r2, h2⟩ := Rel.tups r1 fun y hy => h y (List.mem_cons_of_mem _ hy)
    refine ⟨Hb2, e1.trans e2, r2, fun y hy => ?_⟩
    rcases List.mem_cons.mp hy with e | hy
    · subst e
      exact e2 _ _ h1
    · exact h2 y hy
theorem wc_sortedT {a : Addr} {ks : List (List Str)} {ds : List D} {Q : QD} (ho : m.own a = some (.dT ks ds)) (h0 : ∃ r, ks = [] :: r) (q : Q (.lst ((sortT ks).map D.pl)) m) : WC K F B rSortedT [.s (.ref a)] m Q := fun Hb H vs R hB r hx k => by
  obtain ⟨v, rfl, hv⟩ := rpL1 hx
  unfold Rp at hv
  subst hv
  obtain ⟨hn, vs, h1, h2, h3⟩ := r.own a _ ho
  refine ⟨a, ks, vs, rfl, .inl h1, by rw [h3, h2.length], h0, fun p zs hp hperm hsrt ht => ?_⟩
  have e : zs.map (·.2) = sortT ks := perm_srt pLt_anti (hperm.trans (sortT_perm ks).symm) hsrt (sortT_srt ks)
  -- every key's tuple is data
  obtain ⟨Hb2, e2, r2, htb⟩ := r.tups ht
  refine k _ _ _ (.lst ((sortT ks).map D.pl)) _ (e2.trans (Same.new (r2.fresh hp))) (r2.data hp) ?_ q
  have hl : RpL K Hb2 ((zs.map (·.2)).map D.pl) (zs.map fun z => V.ref z.1) := by
    have : ∀ zs : List (Addr × List Str), (∀ z ∈ zs, Hb2 z.1 = some (.tup (z.2.map V.str))) → RpL K Hb2 ((zs.map (·.2)).map D.pl) (zs.map fun z => V.ref z.1) := by
      intro zs
      induction zs with
      | nil => intro _; exact RpL.nil
      | cons z zs ih =>
        intro h
        refine RpL.cons ?_ (ih fun y hy => h y (List.mem_cons_of_mem _ hy))
        unfold Rp
        exact ⟨z.1, rfl, h z List.mem_cons_self⟩
    exact this zs htb
  rw [← e]
  unfold Rp
  exact ⟨p, _, rfl, upd_same, hl.mono (Same.new (r2.fresh hp))⟩
/-! ### o.m(e, .., k = v, ..) -/
theorem we_methN {C : Addr} {f : Str} {n l : Nat} {φ : Phi} {te : TE} {ta tk : TA} {g : List V → List V → List V} {gd : List D → List D → List D} {Q : QD} (hE : OkX K F B X E)
    (hg : ∀ {Hb : Hp} {ds es : List D} {vs zs : List V}, Same B Hb → RpL K Hb ds vs → RpL K Hb es zs → RpL K Hb (gd ds es) (g vs zs))
    (h : WE K F B te ρ m fun x m1 => Recv m1 C f x ∧ WA K F B ta ρ m1 fun ds m2 => WA K F B tk ρ m2 fun es m3 => ds.length = n ∧ es.length = l ∧ φ (gd (x :: ds) es) m3 Q X) :
    WE K F B (tMethN C f n l (spOf K φ) g E te ta tk) ρ m Q := fun Hb H σ R hB r hs k =>
  h Hb H σ _ hB r hs fun v H1 Hb1 x m1 e1 r1 hx q1 => by
    obtain ⟨a, dx, fs, rfl, h1, h2⟩ := q1.1.at r1 hx
    exact ⟨a, dx, fs, rfl, h1, h2, q1.2 Hb1 H1 σ _ (hB.trans e1) r1 (hs.mono e1) fun vs H2 Hb2 ds m2 e2 r2 hxs q2 => q2 Hb2 H2 σ _ ((hB.trans e1).trans e2) r2 ((hs.mono e1).mono e2) fun zs H3 Hb3 es m3 e3 r3 hzs q3 =>
      ⟨by rw [hxs.length]; exact q3.1, by rw [hzs.length]; exact q3.2.1, _, m3, F, Hb3, Q, X, hg (((hB.trans e1).trans e2).trans e3) (RpL.cons ((hx.mono e2).mono e3) (hxs.mono e3)) hzs, r3, q3.2.2, k.mono ((e1.trans e2).trans e3), hE.mono (((hB.trans e1).trans e2).trans e3)⟩⟩
/-- o.f as a target, o owned -/
theorem wg_fld {to : TE} {f : Str} {x : D} {Q : Env → Mem → Prop} (h : WE K F B to ρ m fun o m1 => ∃ a C ns ds, o = .s (.ref a) ∧ m1.own a = some (.ins C ns ds) ∧ Cls K C ∧ NoAttr K C f ∧ ns.length < 1000 ∧
    Q ρ { m1 with own := putM m1.own a (.ins C (putN f ns) (putE f x ns ds)) }) : WG K F B (gFld K to f) x ρ m Q := fun Hb H σ v R hB r hs hx k =>
  h Hb H σ _ hB r hs fun o H1 Hb1 od m1 e1 r1 ho q1 => by
    obtain ⟨a, C, ns, ds, rfl, hown, c, n, hl, q⟩ := q1
    unfold Rp at ho
    subst ho
    obtain ⟨h0, dx, vs, h1, h2, h3⟩ := r1.own a _ hown
    refine ⟨a, C, dx, _, rfl, h1, c, n, ?_, ?_⟩
    · rw [List.length_zip]
      omega
    · refine k _ _ _ _ _ e1 (r1.change (mo' := .ins C (putN f ns) (putE f x ns ds)) hown ⟨dx, putE f v ns vs, ?_, h2.put (hx.mono e1) h3, put_len h3⟩) (hs.mono e1) q
      rw [upd_same, putF_zip f v ns vs (by rw [h3, h2.length])]
end
section
variable {P : Program} {w : World} {K : PySem.W.Frag} {mg : Str → Option Value} {base : Heap}
theorem ok_DK {CX : CXT} {x qual : Str} {st : Stmt} {dvs : List V} {kws : List (Str × V)} {f : Addr} {fd : FuncData} {N ps : List Str} {k : Nat} {φ : Phi} (F : FunD K x qual (defArgs st) (defBody st) (defScope st) dvs kws f fd) (S : FnScope N ps (defScope st)) (hl : ∀ ds m nx X, φ ds m nx X → ds.length = ps.length)
    (hbody : ∀ (cdv : Value) (A : Around) (outer : List PySem.Env) (s : Shared) (H : Hp) (E : XK), Room k (A.deeper (envOfC qual (defScope st) s.heap.objs.size f cdv)) →
      ∃ t, PSs (cxOf CX P w K mg base N qual (defScope st) f cdv A outer s H E) (defBody st) t ∧ BodyOk K φ N E t) : FnOk P w K mg base CX (k + 1) f fd ps (spOf K φ) := by
  refine F.ok S (spOf_len hl) fun cdv A outer s H vs Q E hr h => ?_
  obtain ⟨ds, m, F', Hb, nx, X, h1, h2, h3, h4, h5⟩ := h
  obtain ⟨t, ht, hw⟩ := hbody cdv A outer s H E hr
  exact ⟨t, ht, hw ds m nx X F' Hb h3 h5 Hb H _ _ (Same.refl _) h2 (RpS.start h1) ⟨fun σ H' Hb' ρ m' e r hs q => h4 _ _ _ _ _ e r rp_s q, h4, fun _ _ _ _ _ _ _ _ z => z.elim, fun _ _ _ _ _ _ _ _ z => z.elim⟩⟩
end
/-! ### one thing, told in another way -/
def Coarse (x y : D) : Prop := ∀ (K : PySem.W.Frag) (H : Hp) (v : V), Rp K H x v → Rp K H y v
def CoarseL (xs ys : List D) : Prop := ∀ (K : PySem.W.Frag) (H : Hp) (vs : List V), RpL K H xs vs → RpL K H ys vs
theorem Coarse.refl (x : D) : Coarse x x := fun _ _ _ h => h
theorem CoarseL.nil : CoarseL [] [] := fun _ _ _ h => h
theorem CoarseL.cons {x y : D} {xs ys : List D} (h : Coarse x y) (t : CoarseL xs ys) : CoarseL (x :: xs) (y :: ys) := fun K H vs r => by
  unfold RpL at r ⊢
  obtain ⟨v, us, e, r1, r2⟩ := r
  exact ⟨v, us, e, h K H v r1, t K H us r2⟩
theorem Coarse.lst {xs ys : List D} (h : CoarseL xs ys) : Coarse (.lst xs) (.lst ys) := fun K H v r => by
  unfold Rp at r ⊢
  obtain ⟨p, vs, e, h1, h2⟩ := r
  exact ⟨p, vs, e, h1, h K H vs h2⟩
theorem Coarse.tup {xs ys : List D} (h : CoarseL xs ys) : Coarse (.tup xs) (.tup ys) := fun K H v r => by
  unfold Rp at r ⊢
  obtain ⟨p, vs, e, h1, h2⟩ := r
  exact ⟨p, vs, e, h1, h K H vs h2⟩
abbrev plD (ns : List Str) : D := .tup ((ns.map V.str).map D.s)
theorem Coarse.tx {d : D} {ns : List Str} (h : TxT d ns) : Coarse d (plD ns) := fun K H v r => by
  obtain ⟨b, rfl, hb⟩ := h.rp r
  unfold Rp
  exact ⟨b, _, rfl, hb, RpL.ofScal _⟩
theorem CoarseL.pls {ds : List D} {nss : List (List Str)} (h : PlL ds nss) : CoarseL ds (nss.map plD) := by
  induction h with
  | nil => exact .nil
  | cons h t ih => exact .cons (.tx h) ih
section
variable {K : PySem.W.Frag} {B F Hb H : Hp} {m : Mem} {ρ : DD.Env} {E : XK} {X : XD}
theorem we_coarse {te : TE} {Q' Q : QD} (h : WE K F B te ρ m Q') (hq : ∀ d m', Q' d m' → ∃ y, Coarse d y ∧ Q y m') : WE K F B te ρ m Q := fun Hb H σ R hB r hs k =>
  h Hb H σ R hB r hs fun v H' Hb' d m' e r' hd q => by
    obtain ⟨y, c, q2⟩ := hq d m' q
    exact k v H' Hb' y m' e r' (c K Hb' v hd) q2
end
end DD

/-! DSolo: an expression that reads owned lists as data, and leaves all as it was. -/
namespace DD
open PySem L2
open PySem.Spec PyProof.Rows
section
variable {K : PySem.W.Frag} {B F Hb H : Hp} {m : Mem} {ρ ρ' : DD.Env}
theorem repM_ntup {cnt : Nat} {a : Addr} {mo : MO} {xs : List V} (h : RepM K Hb H cnt a mo) : H a ≠ some (.tup xs) := fun z => by
  cases mo with
  | lst ds =>
    obtain ⟨vs, q, _⟩ := h
    rw [z] at q
    cases q
  | ins C ns ds =>
    obtain ⟨dx, vs, q, _⟩ := h
    rw [z] at q
    cases q
  | dK ks ds =>
    obtain ⟨vs, q, _⟩ := h
    rw [z] at q
    cases q
  | dT ks ds =>
    obtain ⟨vs, q, _⟩ := h
    rw [z] at q
    cases q
  | stm c =>
    obtain ⟨s1, s2, s3, q, _⟩ := h
    rw [z] at q
    cases q
  | cel =>
    obtain ⟨ns, q, _⟩ := h
    rw [z] at q
    cases q
  | gen φ =>
    obtain ⟨o, Hc, q, _, _, no⟩ := h
    rw [z] at q
    exact no xs (Option.some.inj q).symm
/-- owned lists told as data in the slots -/
def SoloE (as : Addr → Option (List D)) (ρ ρ' : DD.Env) : Prop := ρ'.length = ρ.length ∧ ∀ (i : Nat) (d : D), ρ'[i]? = some (some d) → ρ[i]? = some (some d) ∨ ∃ (a : Addr) (ds : List D), ρ[i]? = some (some (D.s (.ref a))) ∧ as a = some ds ∧ d = D.lst ds
theorem solo_rel {as : Addr → Option (List D)} (has : ∀ a ds, as a = some ds → m.own a = some (.lst ds)) (r : Rel K F Hb H m) :
    ∃ Hb' F', Same Hb Hb' ∧ Rel K F' Hb' H ⟨m.cnt, fun _ => none⟩ ∧ (∀ a ds, as a = some ds → ∃ vs, Hb' a = some (.lst vs) ∧ RpL K Hb ds vs) ∧
      ∀ Hb2 H' m', Same Hb' Hb2 → Rel K F' Hb2 H' m' → Rel K F Hb H' m := by
  classical
  refine ⟨fun b => match as b with | some _ => H b | none => Hb b, fun b => match as b with | some _ => none | none => match m.own b with | some _ => H b | none => F b, fun b o e => ?_, ⟨fun b o e => ?_, fun b o e => ?_, (fun _ _ z => nomatch z), fun b xs e => ?_⟩, fun a ds e => ?_, fun Hb2 H' m' e2 r2 => ⟨fun b o e => ?_, fun b o e => ?_, fun b mo e => ?_, r.nt⟩⟩
  · show (match as b with | some _ => H b | none => Hb b) = some o
    cases ea : as b with
    | none => exact e
    | some ds => exact r.sub b o e
  · have e' : (match as b with | some _ => H b | none => Hb b) = some o := e
    cases ea : as b with
    | none =>
      rw [ea] at e'
      exact r.sub b o e'
    | some ds =>
      rw [ea] at e'
      exact e'
  · have e' : (match as b with | some _ => none | none => match m.own b with | some _ => H b | none => F b) = some o := e
    show H b = some o ∧ (match as b with | some _ => H b | none => Hb b) = none ∧ _
    cases ea : as b with
    | some ds =>
      rw [ea] at e'
      cases e'
    | none =>
      rw [ea] at e'
      cases eo : m.own b with
      | some mo =>
        rw [eo] at e'
        exact ⟨e', (r.own b mo eo).1, rfl⟩
      | none =>
        rw [eo] at e'
        obtain ⟨f1, f2, _⟩ := r.fr b o e'
        exact ⟨f1, f2, rfl⟩
  · have e' : (match as b with | some _ => none | none => match m.own b with | some _ => H b | none => F b) = some (.tup xs) := e
    cases ea : as b with
    | some ds =>
      rw [ea] at e'
      cases e'
    | none =>
      rw [ea] at e'
      cases eo : m.own b with
      | some mo =>
        rw [eo] at e'
        exact repM_ntup (r.own b mo eo).2 e'
      | none =>
        rw [eo] at e'
        exact r.nt b xs e'
  · obtain ⟨h1, vs, h2, h3⟩ := r.own a _ (has a ds e)
    refine ⟨vs, ?_, h3⟩
    show (match as a with | some _ => H a | none => Hb a) = _
    rw [e]
    exact h2
  · refine r2.sub b o (e2 b o ?_)
    show (match as b with | some _ => H b | none => Hb b) = some o
    cases ea : as b with
    | none => exact e
    | some ds => exact r.sub b o e
  · obtain ⟨f1, f2, f3⟩ := r.fr b o e
    have ea : as b = none := by
      cases ea : as b with
      | none => rfl
      | some ds =>
        rw [has b ds ea] at f3
        cases f3
    refine ⟨(r2.fr b o ?_).1, f2, f3⟩
    show (match as b with | some _ => none | none => match m.own b with | some _ => H b | none => F b) = some o
    rw [ea, f3]
    exact e
  · obtain ⟨h1, h2⟩ := r.own b mo e
    refine ⟨h1, h2.mono (Same.refl _) ?_ (Nat.le_refl _)⟩
    obtain ⟨o, ho⟩ := h2.some
    rw [ho]
    cases ea : as b with
    | some ds =>
      refine r2.sub b o (e2 b o ?_)
      show (match as b with | some _ => H b | none => Hb b) = some o
      rw [ea]
      exact ho
    | none =>
      refine (r2.fr b o ?_).1
      show (match as b with | some _ => none | none => match m.own b with | some _ => H b | none => F b) = some o
      rw [ea, e]
      exact ho
theorem we_solo {te : TE} (as : Addr → Option (List D)) (has : ∀ a ds, as a = some ds → m.own a = some (.lst ds)) (hρ : SoloE as ρ ρ') {Q : V → Prop} (h : ∀ F' B', Same B B' → WE K F' B' te ρ' ⟨m.cnt, fun _ => none⟩ fun d _ => ∃ w, d = .s w ∧ Q w) :
    WE K F B te ρ m fun d m' => m' = m ∧ ∃ w, d = .s w ∧ Q w := fun Hb H σ R hB r hs k => by
  obtain ⟨Hb', F', e1, r1, hl, back⟩ := solo_rel has r
  refine h F' Hb' (hB.trans e1) Hb' H σ R (Same.refl _) r1 ⟨by rw [hρ.1]; exact hs.1, fun i d hd => ?_⟩ fun v H' Hb2 d m' e2 r2 hd q => ?_
  · rcases hρ.2 i d hd with z | ⟨a, ds, z1, z2, rfl⟩
    · obtain ⟨v, h1, h2⟩ := hs.2 i d z
      exact ⟨v, h1, h2.mono e1⟩
    · obtain ⟨v, h1, h2⟩ := hs.2 i _ z1
      unfold Rp at h2
      subst h2
      obtain ⟨vs, y1, y2⟩ := hl a ds z2
      refine ⟨.ref a, h1, ?_⟩
      unfold Rp
      exact ⟨a, vs, rfl, y1, y2.mono e1⟩
  · obtain ⟨w, rfl, q⟩ := q
    unfold Rp at hd
    subst hd
    exact k v H' Hb (.s v) m (Same.refl _) (back Hb2 H' m' e2 r2) rp_s ⟨rfl, v, rfl, q⟩
/-- .. the same without slots that change: the memory is let alone -/
theorem we_alone {te : TE} {Q : V → Prop} (h : ∀ F' B', Same B B' → WE K F' B' te ρ ⟨m.cnt, fun _ => none⟩ fun d _ => ∃ w, d = .s w ∧ Q w) : WE K F B te ρ m fun d m' => m' = m ∧ ∃ w, d = .s w ∧ Q w :=
  we_solo (fun _ => none) (fun _ _ z => nomatch z) ⟨rfl, fun i d z => .inl z⟩ h
end
end DD

/-! DLock: a, b, c = x, y, z; walks over a dict with tuple keys, which is locked meanwhile. -/
namespace DD
open PySem L2 HP1
open PySem.Spec PyProof.Rows
section
variable {K : PySem.W.Frag} {B F Hb H : Hp} {m : Mem} {ρ : DD.Env}
theorem ws_par3 {i j l : Nat} {ta : TA} {E : DE} (h : WA K F B ta ρ m fun xs m1 => ∃ x y z, xs = [x, y, z] ∧ E.nx (((ρ.set i (some x)).set j (some y)).set l (some z)) m1) : WS K F B (tPar3 i j l ta) ρ m E := fun Hb H σ R hB r hs k =>
  h Hb H σ _ hB r hs fun vs H1 Hb1 xs m1 e1 r1 hx q1 => by
    obtain ⟨x, y, z, rfl, q⟩ := q1
    unfold RpL at hx
    obtain ⟨v, us, rfl, h1, h2⟩ := hx
    unfold RpL at h2
    obtain ⟨u, us', rfl, h3, h4⟩ := h2
    unfold RpL at h4
    obtain ⟨w, us2, rfl, h5, h6⟩ := h4
    unfold RpL at h6
    subst h6
    exact ⟨v, u, w, rfl, k.nx _ _ _ _ _ e1 r1 ((((hs.mono e1).set h1).set h3).set h5) q⟩
/-- the dict at a, locked, as the frame holds it -/
def LockF (K : PySem.W.Frag) (F B : Hp) (a : Addr) (ks : List (List Str)) (ds : List D) : Prop := ∃ od vs, F a = some (.frz od (.dT ((ks.map inrs).zip vs))) ∧ RpL K B ds vs ∧ ks.length = ds.length
theorem wo_inQF {a : Addr} {ks : List (List Str)} {ds : List D} {x : D} {ns : List Str} {neg : Bool} {Q : QD} (hx : TxT x ns) (ho : LockF K F B a ks ds) (q : Q (.s (.bl (if neg = true then !(lookT ks ds ns).isSome else (lookT ks ds ns).isSome))) m) :
    WO K F B (rInQ K neg) x (.s (.ref a)) m Q := fun Hb H vx vy R hB r hvx hvy k => by
  unfold Rp at hvy
  subst hvy
  obtain ⟨od, vs, h1, h2, h3⟩ := ho
  obtain ⟨b, rfl, hb⟩ := hx.rp hvx
  refine ⟨a, valV ((ks.map inrs).zip vs) (inrs ns), rfl, ⟨_, inrs ns, b, .inr ⟨od, (r.fr a _ h1).1⟩, rfl, by rw [kV_inrs]; exact sameT r.sub hb, rfl⟩, ?_⟩
  have e : (valV ((ks.map inrs).zip vs) (inrs ns)).isSome = (lookT ks ds ns).isSome := by
    obtain ⟨i1, i2⟩ := look_val (K := K) (Hb := Hb) ns (h2.mono hB) h3
    cases q : lookT ks ds ns with
    | none =>
      rw [i2 q]
      rfl
    | some d =>
      obtain ⟨v, e, _⟩ := i1 d q
      rw [e]
      rfl
  rw [e]
  exact k.here r rp_s q
theorem wo_ixQF {a : Addr} {ks : List (List Str)} {ds : List D} {x d : D} {ns : List Str} {Q : QD} (hx : TxT x ns) (ho : LockF K F B a ks ds) (hd : lookT ks ds ns = some d) (q : Q d m) :
    WO K F B (rIxQ K) (.s (.ref a)) x m Q := fun Hb H vx vy R hB r hvx hvy k => by
  unfold Rp at hvx
  subst hvx
  obtain ⟨od, vs, h1, h2, h3⟩ := ho
  obtain ⟨v, e1, e2⟩ := (look_val (K := K) (Hb := Hb) ns (h2.mono hB) h3).1 d hd
  obtain ⟨b, rfl, hb⟩ := hx.rp hvy
  refine ⟨a, v, rfl, ?_, k.here r e2 q⟩
  rw [← e1]
  exact ⟨_, inrs ns, b, .inr ⟨od, (r.fr a _ h1).1⟩, rfl, by rw [kV_inrs]; exact sameT r.sub hb, rfl⟩
theorem Rel.lock {a : Addr} {ks : List (List Str)} {ds : List D} (r : Rel K F Hb H m) (h : m.own a = some (.dT ks ds)) : ∃ vs, H a = some (.dT ((ks.map inrs).zip vs)) ∧ RpL K Hb ds vs ∧ ks.length = ds.length ∧ F a = none ∧
    ∀ od, Rel K (upd F a (.frz od (.dT ((ks.map inrs).zip vs)))) Hb (upd H a (.frz od (.dT ((ks.map inrs).zip vs)))) (offM m a) := by
  obtain ⟨h1, vs, h2, h3, h4⟩ := r.own a _ h
  have hF : F a = none := r.ownF h
  refine ⟨vs, h2, h3, h4, hF, fun od => ⟨fun b o e => ?_, fun b o e => ?_, fun b mo e => ?_, nt_upd r.nt (fun _ z => nomatch z)⟩⟩
  · rw [upd_ne (ne_of_none e h1)]
    exact r.sub b o e
  · by_cases hb : b = a
    · subst hb
      rw [upd_same] at e ⊢
      exact ⟨e, h1, dropM_same⟩
    · rw [upd_ne hb] at e ⊢
      obtain ⟨z1, z2, z3⟩ := r.fr b o e
      exact ⟨z1, z2, (dropM_ne hb).trans z3⟩
  · by_cases hb : b = a
    · subst hb
      have q : (none : Option MO) = some mo := by
        rw [← e]
        exact dropM_same.symm
      cases q
    · obtain ⟨z1, z2⟩ := r.own b mo (by rw [← e]; exact (dropM_ne hb).symm)
      exact ⟨z1, z2.mono (Same.refl _) (upd_ne hb) (Nat.le_refl _)⟩
theorem Rel.unlock {a : Addr} {ks : List (List Str)} {ds : List D} {vs : List V} {od : Obj} (r : Rel K (upd F a (.frz od (.dT ((ks.map inrs).zip vs)))) Hb H m) (hF : F a = none) (h3 : RpL K Hb ds vs) (h4 : ks.length = ds.length) :
    H a = some (.frz od (.dT ((ks.map inrs).zip vs))) ∧ Rel K F Hb (upd H a (.dT ((ks.map inrs).zip vs))) (onM m a (.dT ks ds)) := by
  obtain ⟨f1, f2, f3⟩ := r.fr a _ upd_same
  refine ⟨f1, fun b o e => ?_, fun b o e => ?_, fun b mo e => ?_, nt_of r.nt hF⟩
  · rw [upd_ne (ne_of_none e f2)]
    exact r.sub b o e
  · have hb := ne_fr e hF
    obtain ⟨z1, z2, z3⟩ := r.fr b o (by rw [upd_ne hb]; exact e)
    rw [upd_ne hb]
    exact ⟨z1, z2, (putM_ne hb).trans z3⟩
  · by_cases hb : b = a
    · subst hb
      have e' : putM m.own b (.dT ks ds) b = some mo := e
      rw [putM_same] at e'
      cases e'
      exact ⟨f2, vs, upd_same, h3, h4⟩
    · obtain ⟨z1, z2⟩ := r.own b mo (by rw [← e]; exact (putM_ne hb).symm)
      exact ⟨z1, z2.mono (Same.refl _) (upd_ne hb) (Nat.le_refl _)⟩
/-- for k in d: d a dict with tuple keys -/
theorem ws_forK {j : Nat} {g : TG} {tb : TS} {E : DE} {a : Addr} {ks : List (List Str)} {ds : List D} (hj : ρ[j]? = some (some (.s (.ref a)))) (ho : m.own a = some (.dT ks ds)) (I : Nat → DD.Env → Mem → Prop) (h0 : I 0 ρ (offM m a))
    (ht : ∀ F' B' i k ρ' m', Same B B' → LockF K F' B' a ks ds → ks[i]? = some k → I i ρ' m' → WG K F' B' g (.pl k) ρ' m' fun ρ2 m2 => WS K F' B' tb ρ2 m2 { nx := I (i + 1), ct := I (i + 1), bk := fun ρ m => E.nx ρ (onM m a (.dT ks ds)), rt := fun d m => E.rt d (onM m a (.dT ks ds)) })
    (hd : ∀ ρ' m', I ks.length ρ' m' → E.nx ρ' (onM m' a (.dT ks ds))) : WS K F B (tLock (tFor (iKeys (tVar j)) g tb)) ρ m E := fun Hb H σ R hB r hs k => by
  obtain ⟨vs, h1, h3, h4, hF, hR⟩ := r.lock ho
  refine ⟨a, _, h1, trivial, fun od => ?_⟩
  have rL := hR od
  obtain ⟨v, hv1, hv2⟩ := hs.2 j _ hj
  unfold Rp at hv2
  subst hv2
  have lenK : ((ks.map inrs).zip vs).length = ks.length := by
    rw [List.length_zip, List.length_map, h3.length]
    omega
  refine ⟨.ref a, hv1, a, od, rfl, .inr ⟨_, upd_same, ?_⟩⟩
  refine ⟨fun i n σ' H' => n = ks.length - i ∧ i ≤ ks.length ∧ ∃ Hb' ρ' m', Same Hb Hb' ∧ Rel K (upd F a (.frz od (.dT ((ks.map inrs).zip vs)))) Hb' H' m' ∧ RpS K Hb' ρ' σ' ∧ I i ρ' m', ⟨ks.length, by simp, Nat.zero_le _, Hb, ρ, _, Same.refl _, rL, hs, h0⟩, ?_⟩
  rintro i n σ' H' ⟨rfl, hi, Hb', ρ', m', e', r', hs', hI⟩
  have hL : H' a = some (.frz od (.dT ((ks.map inrs).zip vs))) := (r'.fr a _ upd_same).1
  by_cases hlt : i < ks.length
  · refine .inr ⟨⟨hL, by rw [lenK]; exact hlt⟩, fun σ2 H2 => ∃ Hb2 ρ2 m2, Same Hb Hb2 ∧ Rel K (upd F a (.frz od (.dT ((ks.map inrs).zip vs)))) Hb2 H2 m2 ∧ RpS K Hb2 ρ2 σ2 ∧ I (i + 1) ρ2 m2, fun σ2 H2 q2 => ⟨ks.length - (i + 1), by omega, rfl, hlt, q2⟩, fun x H2 y => ?_⟩
    obtain ⟨rfl, k0, v0, q0, hk0, rfl, hq0⟩ := y
    obtain ⟨z1, z2⟩ := List.getElem?_zip_eq_some.mp hk0
    rw [List.getElem?_map] at z1
    have hki : ks[i]? = some ks[i] := by simp [hlt]
    rw [hki] at z1
    cases z1
    rw [kV_inrs] at hq0
    obtain ⟨Hb2, e2, r2, hq2⟩ := r'.tup1 hq0
    have e12 : Same Hb Hb2 := e'.trans e2
    refine ht (upd F a (.frz od (.dT ((ks.map inrs).zip vs)))) Hb2 i ks[i] ρ' m' (hB.trans e12) ⟨od, vs, upd_same, h3.mono e12, h4⟩ hki hI Hb2 H2 σ' _ _ (Same.refl _) r2 (hs'.mono e2) (by unfold Rp; exact ⟨q0, rfl, hq2⟩) fun σ3 H3 Hb3 ρ3 m3 e3 r3 hs3 q3 => ?_
    have e13 : Same Hb Hb3 := e12.trans e3
    refine q3 Hb3 H3 σ3 _ e3 r3 hs3 ⟨fun σ4 H4 Hb4 ρ4 m4 e4 r4 hs4 q4 => ⟨Hb4, ρ4, m4, e13.trans e4, r4, hs4, q4⟩, fun v4 H4 Hb4 d4 m4 e4 r4 hd4 q4 => ?_, fun σ4 H4 Hb4 ρ4 m4 e4 r4 hs4 q4 => ?_, fun σ4 H4 Hb4 ρ4 m4 e4 r4 hs4 q4 => ⟨Hb4, ρ4, m4, e13.trans e4, r4, hs4, q4⟩⟩
    · obtain ⟨y1, y2⟩ := r4.unlock hF (h3.mono (e13.trans e4)) h4
      exact ⟨y1, k.rt _ _ _ _ _ (e13.trans e4) y2 hd4 q4⟩
    · obtain ⟨y1, y2⟩ := r4.unlock hF (h3.mono (e13.trans e4)) h4
      exact ⟨y1, k.nx _ _ _ _ _ (e13.trans e4) y2 hs4 q4⟩
  · have e : i = ks.length := by omega
    subst e
    obtain ⟨y1, y2⟩ := r'.unlock hF (h3.mono e') h4
    exact .inl ⟨⟨hL, by rw [lenK]; exact Nat.le_refl _⟩, y1, k.nx _ _ _ _ _ e' y2 hs' (hd _ _ hI)⟩
/-- len of a dict with tuple keys -/
theorem wc_lenT {a : Addr} {ks : List (List Str)} {ds : List D} {Q : QD} (ho : m.own a = some (.dT ks ds)) (q : Q (.s (.int ((ks.length : Nat) : Int))) m) : WC K F B rLenT [.s (.ref a)] m Q := fun Hb H vs R hB r hx k => by
  obtain ⟨v, rfl, hv⟩ := rpL1 hx
  unfold Rp at hv
  subst hv
  obtain ⟨hn, vs, h1, h2, h3⟩ := r.own a _ ho
  refine ⟨a, _, rfl, h1, ?_⟩
  have e : ((ks.map inrs).zip vs).length = ks.length := by
    rw [List.length_zip, List.length_map, h2.length]
    omega
  rw [e]
  exact k.here r rp_s q
end
end DD

/-! HSrch: d.setdefault(k, x) and list(d) of a dict whose keys are tuples. -/
namespace HS1
open PySem PySem.W PySem.Calls PySem.Spec PyProof.Rows L2 HP1
/-- d.setdefault(y, z) -/
def tSetdQ (K : PySem.W.Frag) (td ty tx : TE) : TE := fun σ H Q => td σ H fun x H1 => ∃ a, x = .ref a ∧ IsD H1 a ∧ ty σ H1 fun y H2 => tx σ H2 fun z H3 => ∃ (kvs : List (List Key × V)) (k : List Key) (b : Addr), H3 a = some (.dT kvs) ∧ y = .ref b ∧ SqT K H3 b (k.map kV) ∧ kvs.length < sizeLine ∧
  (∀ v, valV kvs k = some v → Q v H3) ∧ (valV kvs k = none → H3 b = some (.tup (k.map kV)) ∧ Q z (upd H3 a (.dT (putK kvs k z))))
section
variable {X : Cx} {o e f : Expr} {apos cpos : Pos} {td ty tx : TE}
theorem pe_setdQ (hu : X.A.units + 1 < cLine) (ho : PE X o td) (he : PE X e ty) (hf : PE X f tx) (m : M2 X o "setdefault" apos e f cpos) : PE X (.Call (.Attribute o "setdefault" apos) [e, f] [] cpos) (tSetdQ X.K td ty tx) := by
  refine ⟨fun pins s σ H Q I h => ?_⟩
  refine wpAny_Call_method m.base m.few m.line PySem.F.plainAttrs_dict PySem.F.slot_dict_setdefault PySem.F.type_dict_setdefault (thn (ho.run pins s σ H _ I h) fun u s1 ⟨x, H1, I1, rx, a, ex, d, q1⟩ => ?_)
  subst ex
  obtain rfl : u = Value.ref a := rx
  obtain ⟨t1, t2, _⟩ := isD_at I1 d
  refine ⟨t1, t2, ?_⟩
  rw [m.trees]
  refine Calls.callWith_builtin rfl (Calls.evalArgs_plain (Calls.spliced_cons (thn (he.run pins s1 σ H1 _ I1 q1) fun iv s2 ⟨y, H2, I2, ry, q2⟩ =>
    Calls.spliced_cons (thn (hf.run pins s2 σ H2 _ I2 q2) fun fv s3 ⟨z, H3, I3, rz, kvs, k, b, e1, ey, eb, hz, q3, q4⟩ => Calls.spliced_nil ?_))))
  subst ey
  cases (show iv = Value.ref b from ry)
  obtain ⟨zz, hd, xs, rel, dd⟩ := dt_of I3.hok e1
  have hsz : xs.length ≤ sizeLine := by rw [← Paired.length rel]; exact zz
  refine call_setdefault_heap (hsz := hsz) (tupleKind_room_in1 hu) (keyq I3 eb) hd dd (fun p hp => ?_) fun hn h' dd' hs => ?_
  · obtain ⟨v, hv⟩ : ∃ v, valV kvs k = some v := by
      have r := rel.val k
      cases ev : valV kvs k with
      | some v => exact ⟨v, rfl⟩
      | none =>
        rw [ev, hp] at r
        cases r
    have r := rel.val k
    rw [hv, hp] at r
    exact ⟨v, H3, I3.tok _, r, q3 v hv⟩
  · have hv : valV kvs k = none := by
      have r := rel.val k
      rw [hn] at r
      cases ev : valV kvs k with
      | none => rfl
      | some v =>
        rw [ev] at r
        cases r
    obtain ⟨hb, q5⟩ := q4 hv
    have hl : (putK kvs k z).length ≤ sizeLine := by have := length_putK kvs k z; omega
    refine ⟨z, _, ?_, rz, q5⟩
    obtain ⟨q, es, ep, hq, h2, h3, h4, _, h5⟩ := dd'
    refine d_write I3 (by rw [e1]; exact True.intro) hs ⟨q, hq⟩ ⟨hl, hd, _, (rel.put k hb rz).keeps fun c ys ec => ?_, q, es, ep, hq, h2, h3, h4, h5⟩
    rw [upd_ne (ne_of ec e1 (fun z => nomatch z))]
    exact ec
end
def rListDT : List V → Hp → VK → Prop := fun xs H Q => ∃ d kvs, xs = [V.ref d] ∧ Rd H d (.dT kvs) ∧ ∀ p bs, H p = none → IsKeys H kvs bs → Q (.ref p) (upd H p (.lst (bs.map V.ref)))
end HS1

/-! DSrch: data rules of HSrch; a call by some of its keywords; walks over the names of a folder. -/
namespace DD
open PySem L2 HP1 HS1
open PySem.Spec PyProof.Rows
section
variable {K : PySem.W.Frag} {B F Hb H : Hp} {m : Mem} {ρ : Env}
theorem we_setdQ {td ty tx : TE} {Q : QD} (h : WE K F B td ρ m fun x m1 => ∃ a, x = .s (.ref a) ∧ (∃ ks ds, m1.own a = some (.dT ks ds)) ∧ WE K F B ty ρ m1 fun y m2 => WE K F B tx ρ m2 fun z m3 => ∃ ks ds ns, m3.own a = some (.dT ks ds) ∧ TxT y ns ∧ ks.length < sizeLine ∧
    (∀ d, lookT ks ds ns = some d → Q d m3) ∧ (lookT ks ds ns = none → y = .pl ns ∧ Q z { m3 with own := putM m3.own a (.dT (ks ++ [ns]) (ds ++ [z])) })) : WE K F B (tSetdQ K td ty tx) ρ m Q := fun Hb H σ R hB r hs k =>
  h Hb H σ _ hB r hs fun v H1 Hb1 x m1 e1 r1 hx q1 => by
    obtain ⟨a, rfl, ⟨ks0, ds0, ho0⟩, q1⟩ := q1
    unfold Rp at hx
    subst hx
    obtain ⟨_, vs0, h0, _⟩ := r1.own a _ ho0
    refine ⟨a, rfl, .inr ⟨_, .inl h0⟩, ?_⟩
    refine q1 Hb1 H1 σ _ (hB.trans e1) r1 (hs.mono e1) fun u H2 Hb2 y m2 e2 r2 hy q2 => ?_
    refine q2 Hb2 H2 σ _ ((hB.trans e1).trans e2) r2 ((hs.mono e1).mono e2) fun w H3 Hb3 z m3 e3 r3 hz q3 => ?_
    obtain ⟨ks, ds, ns, ho, hn, hl, qs, qn⟩ := q3
    obtain ⟨_, vs, h1, h2, h3⟩ := r3.own a _ ho
    obtain ⟨b, rfl, hb⟩ := hn.rp (hy.mono e3)
    have hlen : ((ks.map inrs).zip vs).length < sizeLine := by
      rw [List.length_zip, List.length_map]
      omega
    obtain ⟨i1, i2⟩ := look_val (K := K) (Hb := Hb3) ns h2 h3
    refine ⟨_, inrs ns, b, h1, rfl, by rw [kV_inrs]; exact sameT r3.sub hb, hlen, fun v hv => ?_, fun hv => ?_⟩
    · cases q : lookT ks ds ns with
      | none =>
        rw [i2 q] at hv
        cases hv
      | some d =>
        obtain ⟨v', e, rd⟩ := i1 d q
        rw [e] at hv
        cases hv
        exact k _ _ _ _ _ ((e1.trans e2).trans e3) r3 rd (qs d q)
    · have q : lookT ks ds ns = none := by
        cases q : lookT ks ds ns with
        | none => rfl
        | some d =>
          obtain ⟨v', e, rd⟩ := i1 d q
          rw [e] at hv
          cases hv
      obtain ⟨rfl, q9⟩ := qn q
      have hy3 := hy.mono e3
      unfold Rp at hy3
      obtain ⟨b', eb, hb'⟩ := hy3
      cases eb
      refine ⟨by rw [kV_inrs]; exact r3.sub _ _ hb', k _ _ _ _ _ ((e1.trans e2).trans e3) (r3.change (mo' := .dT (ks ++ [ns]) (ds ++ [z])) ho ?_) hz q9⟩
      exact RepM.dput h2 h3 hz q
theorem keys_zip {H : Hp} : ∀ {ks : List (List Str)} {vs : List V} {bs : List Addr}, ks.length = vs.length → IsKeys H ((ks.map inrs).zip vs) bs → ∃ zs : List (Addr × List Str), zs.map (·.2) = ks ∧ zs.map (·.1) = bs ∧ ∀ z ∈ zs, H z.1 = some (.tup (z.2.map V.str))
  | [], [], bs, _, h => by
    cases h
    exact ⟨[], rfl, rfl, fun z hz => nomatch hz⟩
  | k :: ks, v :: vs, bs, hl, h => by
    cases h with
    | @cons x b l1 l2 h1 h2 =>
      obtain ⟨zs, e1, e2, e3⟩ := keys_zip (by simpa using hl) h2
      refine ⟨(b, k) :: zs, by rw [List.map_cons, e1], by rw [List.map_cons, e2], fun z hz => ?_⟩
      rcases List.mem_cons.mp hz with e | hz
      · subst e
        have h1' : H b = some (.tup ((inrs k).map kV)) := h1
        rw [kV_inrs] at h1'
        exact h1'
      · exact e3 z hz
  | [], _ :: _, _, hl, _ => by cases hl
  | _ :: _, [], _, hl, _ => by cases hl
theorem wc_listDT {a : Addr} {ks : List (List Str)} {ds : List D} {Q : QD} (ho : m.own a = some (.dT ks ds)) (q : ∀ p, m.own p = none → Q (.s (.ref p)) { m with own := putM m.own p (.lst (ks.map D.pl)) }) : WC K F B rListDT [.s (.ref a)] m Q := fun Hb H vs R hB r hx k => by
  obtain ⟨v, rfl, hv⟩ := rpL1 hx
  unfold Rp at hv
  subst hv
  obtain ⟨hn, vs, h1, h2, h3⟩ := r.own a _ ho
  refine ⟨a, _, rfl, .inl h1, fun p bs hp hk => ?_⟩
  obtain ⟨zs, e1, e2, ht⟩ := keys_zip (by rw [h3, h2.length]) hk
  obtain ⟨Hb2, e3, r2, htb⟩ := r.tups ht
  have hl : RpL K Hb2 ((zs.map (·.2)).map D.pl) (zs.map fun z => V.ref z.1) := by
    have : ∀ zs : List (Addr × List Str), (∀ z ∈ zs, Hb2 z.1 = some (.tup (z.2.map V.str))) → RpL K Hb2 ((zs.map (·.2)).map D.pl) (zs.map fun z => V.ref z.1) := by
      intro zs
      induction zs with
      | nil => intro _; exact RpL.nil
      | cons z zs ih =>
        intro h
        refine RpL.cons ?_ (ih fun y hy => h y (List.mem_cons_of_mem _ hy))
        unfold Rp
        exact ⟨z.1, rfl, h z List.mem_cons_self⟩
    exact this zs htb
  have eb : bs.map V.ref = zs.map fun z => V.ref z.1 := by rw [← e2, List.map_map]; rfl
  rw [eb]
  rw [e1] at hl
  exact k _ _ _ _ _ e3 (r2.owned (mo := .lst (ks.map D.pl)) hp ⟨_, upd_same, hl⟩) rp_s (q p (r2.free hp))
/-- f(e, .., k = v): the keywords that are not given have what stands in the def -/
theorem we_callNG {φ : Phi} {E : XK} {n l : Nat} {g : List V → List V → List V} {gd : List D → List D → List D} {ta tk : TA} {X : XD} {Q : QD} (hE : OkX K F B X E)
    (hg : ∀ {Hb : Hp} {ds es : List D} {vs zs : List V}, Same B Hb → RpL K Hb ds vs → RpL K Hb es zs → RpL K Hb (gd ds es) (g vs zs))
    (h : WA K F B ta ρ m fun ds m1 => WA K F B tk ρ m1 fun es m2 => ds.length = n ∧ es.length = l ∧ φ (gd ds es) m2 Q X) :
    WE K F B (tCallN n l (spOf K φ) g E ta tk) ρ m Q := fun Hb H σ R hB r hs k =>
  h Hb H σ _ hB r hs fun vs H1 Hb1 ds m1 e1 r1 hx q1 => q1 Hb1 H1 σ _ (hB.trans e1) r1 (hs.mono e1) fun zs H2 Hb2 es m2 e2 r2 hz q2 =>
    ⟨by rw [hx.length]; exact q2.1, by rw [hz.length]; exact q2.2.1, _, m2, F, Hb2, Q, X, hg (hB.trans (e1.trans e2)) (hx.mono e2) hz, r2, q2.2.2, k.mono (e1.trans e2), hE.mono (hB.trans (e1.trans e2))⟩
/-- a display of two pairs with like keys -/
theorem we_dispTT {trs : List (TE × TE)} {Q : QD} (h : ∀ p, m.own p = none → WPs K F B trs ρ { m with own := putM m.own p (.dT [] []) } fun qs m' => m'.own p = some (.dT [] []) ∧ ∃ (k : List Str) (d1 d2 : D), qs = [(.pl k, d1), (.pl k, d2)] ∧
    Q (.s (.ref p)) { m' with own := putM m'.own p (.dT [k] [d2]) }) : WE K F B (tDispT trs) ρ m Q := fun Hb H σ R hB r hs k => fun p hp => by
  have r0 := r.owned (mo := .dT [] []) hp ⟨[], upd_same, RpL.nil, rfl⟩
  refine h p (r.free hp) Hb _ σ _ hB r0 hs fun ps H2 Hb2 qs m2 e2 r2 h1 h2 q2 => ?_
  obtain ⟨ho, ky, d1, d2, rfl, q⟩ := q2
  obtain ⟨h0, vs0, hv0, hr0, _⟩ := r2.own p _ ho
  have e0 : H2 p = some (.dT []) := by
    unfold RpL at hr0
    subst hr0
    exact hv0
  refine ⟨e0, ?_⟩
  match ps, h1, h2 with
  | [], h1, _ =>
    have := h1.length
    cases this
  | [_], h1, _ =>
    have := h1.length
    cases this
  | _ :: _ :: _ :: _, h1, _ =>
    have := h1.length
    simp at this
  | [(x1, v1), (x2, v2)], h1, h2 =>
    have h1' : RpL K Hb2 [.pl ky, .pl ky] [x1, x2] := h1
    have h2' : RpL K Hb2 [d1, d2] [v1, v2] := h2
    unfold RpL at h1'
    obtain ⟨y1, r1, ey1, hy1, h1'⟩ := h1'
    cases ey1
    unfold RpL at h1'
    obtain ⟨y2, r3, ey2, hy2, _⟩ := h1'
    cases ey2
    unfold Rp at hy1 hy2
    obtain ⟨b1, rfl, hb1⟩ := hy1
    obtain ⟨b2, rfl, hb2⟩ := hy2
    unfold RpL at h2'
    obtain ⟨y3, r4, ey3, hy3, h2'⟩ := h2'
    cases ey3
    have e3 : putAll [] [(inrs ky, b1, v1), (inrs ky, b2, v2)] = [(inrs ky, v2)] := by
      show putK (putK [] (inrs ky) v1) (inrs ky) v2 = _
      rw [putK_new v1 rfl]
      unfold putK
      simp
    refine ⟨[(inrs ky, b1, v1), (inrs ky, b2, v2)], rfl, (by show 2 ≤ 15; decide), fun z hz => ?_, ?_⟩
    · rcases List.mem_cons.mp hz with e | hz
      · subst e
        rw [kV_inrs]
        exact r2.sub _ _ hb1
      · rw [List.mem_singleton.mp hz, kV_inrs]
        exact r2.sub _ _ hb2
    · rw [e3]
      refine k _ _ _ _ _ e2 (r2.change (mo' := .dT [ky] [d2]) ho ⟨[v2], ?_, h2', rfl⟩) rp_s q
      rw [upd_same]
      rfl
end
end DD

/-! HDic: dict([(tuple, value), ..]), the keys unlike; a comprehension over a dict with tuple keys. -/
namespace HD1
open PySem PySem.Spec PyProof.Rows L2
theorem tk_ext {P : Program} {w : World} {knd : KeyKind P w Key} {h h' : Heap} {k : List Key} {a : Addr} (x : IsTupleKey knd h k a) (e : ∀ o, h.get? a = some o → h'.get? a = some o) : IsTupleKey knd h' k a :=
  let ⟨o, i, n, ho, r⟩ := x
  ⟨o, i, n, e o ho, r⟩
theorem tk_lt {P : Program} {w : World} {knd : KeyKind P w Key} {h : Heap} {k : List Key} {a : Addr} (x : IsTupleKey knd h k a) : a < h.objs.size :=
  let ⟨_, _, _, ho, _⟩ := x
  Heap.lt_size ho
/-- dict(xs) of pairs whose keys are tuples, all unlike -/
def rDictPT (K : PySem.W.Frag) : List V → Hp → VK → Prop := fun xs H Q => ∃ (a : Addr) (zs : List (Addr × List Key × Addr × V)), xs = [.ref a] ∧ SqL K H a ((zs.map (·.1)).map V.ref) ∧ (∀ z ∈ zs, SqT K H z.1 [.ref z.2.2.1, z.2.2.2] ∧ H z.2.2.1 = some (.tup (z.2.1.map kV))) ∧ (zs.map (·.2.1)).Nodup ∧
  ∀ p, H p = none → Q (.ref p) (upd H p (.dT (zs.map fun z => (z.2.1, z.2.2.2))))
section
variable {X : Cx}
theorem pairs_ofT {pins : List (Addr × Obj)} {σ : L2.St} {H : Hp} {s : Shared} (I : Inv X pins σ H s) : ∀ {zs : List (Addr × List Key × Addr × V)}, (∀ z ∈ zs, SqT X.K H z.1 [.ref z.2.2.1, z.2.2.2] ∧ H z.2.2.1 = some (.tup (z.2.1.map kV))) →
    ∃ ps : List (List Key × Addr × Value), KT H (zs.map fun z => (z.2.1, z.2.2.2)) ps ∧ ps.length = zs.length ∧ ps.map (·.1) = zs.map (·.2.1) ∧ (∀ (j : Nat) (q : List Key × Addr × Value), ps[j]? = some q → ∃ z, zs[j]? = some z ∧ IsTup s.heap z.1 #[.ref q.2.1, q.2.2]) ∧ ∀ x ∈ ps, H x.2.1 = some (.tup (x.1.map kV))
  | [], _ => ⟨[], .nil, rfl, rfl, fun j q e => by simp at e, fun x hx => nomatch hx⟩
  | z :: zs, h => by
    obtain ⟨ps, kt, hl, hk, hp, hh⟩ := pairs_ofT I fun y hy => h y (List.mem_cons_of_mem _ hy)
    obtain ⟨h1, h2⟩ := h z List.mem_cons_self
    obtain ⟨its, rv, ht, _⟩ := I.tuple h1
    obtain ⟨u, y, ei, ru, ry⟩ := vals2 rv
    subst ei
    cases ru
    refine ⟨(z.2.1, z.2.2.1, y) :: ps, .cons ⟨rfl, h2, ry⟩ kt, by rw [List.length_cons, List.length_cons, hl], by rw [List.map_cons, List.map_cons, hk], fun j q e => ?_, fun x hx => ?_⟩
    · cases j with
      | zero =>
        have e' : (z.2.1, z.2.2.1, y) = q := Option.some.inj e
        subst e'
        exact ⟨z, rfl, ht⟩
      | succ j =>
        obtain ⟨z', e1, e2⟩ := hp j q (by simpa using e)
        exact ⟨z', by simpa using e1, e2⟩
    · rcases List.mem_cons.mp hx with e | e
      · rw [e]
        exact h2
      · exact hh x e
theorem call_dictPT (hcalm : X.calm = true) (hu : X.A.units + 64 < cLine) : CallR X (.type "dict") (rDictPT X.K) := by
  intro pins s σ H xs us Q I r q
  obtain ⟨a, zs, ex, hq, hp, hn, q⟩ := q
  subst ex
  obtain ⟨u, eu, rx⟩ := vals1 r
  subst eu
  cases rx
  obtain ⟨its, rv, pl, hz⟩ := I.list hq
  have ei := refs_at rv
  subst ei
  rw [List.length_map, List.length_map] at hz
  obtain ⟨ps, kt, hl, hk1, hat, hkey⟩ := pairs_ofT I hp
  obtain ⟨o, n, ho, hc, hd, hdat⟩ := pl
  have his : ∀ x ∈ ps, IsTupleKey (mixKind X.prog X.w) s.heap x.1 x.2.1 := fun x hx => key_of I.hok (hkey x hx)
  have hnd : (ps.map (·.1)).Nodup := by rw [hk1]; exact hn
  refine call_dict_pairsH (knd := tupleKind (mixKind X.prog X.w)) (ps := ps) (PairArg.list a ((zs.map (·.1)).map Value.ref).toArray (fun j => ((zs.map (·.1))[j]?).getD default) (ps.map fun q => (Value.ref q.2.1, q.2.2))) (I.ok.hd hcalm) (show Around.units _ < cLine from ?_) ⟨⟨o, n, ho, hc, hd, hdat⟩, by simp [hl], fun j k v e => ?_⟩
    ⟨by rw [List.length_map], fun j k v e => ?_⟩ (fun h' hk x hx => tk_ext (his x hx) fun o q => hk _ o (Nat.ne_of_lt (tk_lt (his x hx))) (fun z => nomatch z) q) (by rw [List.length_map, hl]; exact hz) fun h' tk hd' k => ?_
  · show X.A.units + 1 + 1 < cLine
    omega
  · rw [List.getElem?_map] at e
    cases ep : ps[j]? with
    | none => rw [ep] at e; cases e
    | some q' =>
      rw [ep] at e
      cases e
      obtain ⟨z, e1, e2⟩ := hat j q' ep
      refine ⟨by simp [e1], .inl ?_⟩
      have e3 : ((zs.map (·.1))[j]?).getD default = z.1 := by simp [e1]
      show Heap.IsTuple _ (((zs.map (·.1))[j]?).getD default) _
      rw [e3]
      exact e2
  · have e' : (ps.map fun q => (Value.ref q.2.1, q.2.2))[j]? = some (k, v) := e
    rw [List.getElem?_map] at e'
    cases ep : ps[j]? with
    | none => rw [ep] at e'; cases e'
    | some q' =>
      rw [ep] at e'
      cases e'
      exact ⟨q'.1, q'.2.1, rfl, rfl⟩
  · have hm : (s.heap.objs.size == sysModules) = false := beq_eq_false_iff_ne.mpr (Nat.ne_of_gt I.big)
    have hlen : (zs.map fun z => (z.2.1, z.2.2.2)).length ≤ sizeLine := by
      rw [List.length_map]
      exact hz
    rw [storedAllH_nil_of_nodup ps hnd] at hd'
    obtain ⟨o2, es, ep, g1, g2, g3, g4, _, g5⟩ := hd'
    have hnone := I.hok.fresh (Nat.le_refl s.heap.objs.size)
    refine ⟨.ref s.heap.objs.size, upd H s.heap.objs.size (.dT (zs.map fun z => (z.2.1, z.2.2.2))), I.laid (t' := tk) (fun b o e => k b o (fun z => nomatch z) e) (Nat.le_refl _) (show ObjOk X.prog X.w _ _ _ (.dT (zs.map fun z => (z.2.1, z.2.2.2))) from ⟨hlen, hm, ps, kt.keeps fun c ys ec => ?_, o2, es, ep, g1, g2, g3, g4, g5⟩), rfl, q _ hnone⟩
    rw [upd_ne (fun z => by rw [z, hnone] at ec; cases ec)]
    exact ec
end
/-- min of two numbers -/
def rMin2 : List V → Hp → VK → Prop := fun xs H Q => ∃ i j, xs = [.int i, .int j] ∧ Q (.int (if j < i then j else i)) H
theorem call_min2 {X : Cx} (hc : X.calm = true) : CallR X (.builtin "min") rMin2 := L2.call_min2 hc
end HD1
namespace DD
open PySem L2 HP1 HD1
open PySem.Spec PyProof.Rows
section
variable {K : PySem.W.Frag} {B F Hb H : Hp} {m : Mem} {ρ : DD.Env}
theorem rp_pairs : ∀ {l : List (List Str × D)} {vs : List V}, RpL K Hb (l.map fun z => .tup [.pl z.1, z.2]) vs → ∃ zs : List (Addr × List Key × Addr × V), vs = (zs.map (·.1)).map V.ref ∧ zs.map (·.2.1) = l.map (fun z => inrs z.1) ∧ RpL K Hb (l.map (·.2)) (zs.map (·.2.2.2)) ∧
    ∀ z ∈ zs, SqT K Hb z.1 [.ref z.2.2.1, z.2.2.2] ∧ Hb z.2.2.1 = some (.tup (z.2.1.map kV))
  | [], vs, h => by
    rw [List.map_nil] at h
    unfold RpL at h
    subst h
    exact ⟨[], rfl, rfl, RpL.nil, fun z hz => nomatch hz⟩
  | z :: l, vs, h => by
    rw [List.map_cons] at h
    unfold RpL at h
    obtain ⟨v, us, rfl, hv, hu⟩ := h
    obtain ⟨zs, e1, e2, e3, e4⟩ := rp_pairs hu
    unfold Rp at hv
    obtain ⟨p, ws, rfl, h1, h2⟩ := hv
    unfold RpL at h2
    obtain ⟨v1, us1, rfl, hv1, h2⟩ := h2
    unfold RpL at h2
    obtain ⟨v2, us2, rfl, hv2, h2⟩ := h2
    unfold RpL at h2
    subst h2
    unfold Rp at hv1
    obtain ⟨b, rfl, hb⟩ := hv1
    refine ⟨(p, inrs z.1, b, v2) :: zs, by rw [e1]; rfl, by rw [List.map_cons, List.map_cons, e2], ?_, fun y hy => ?_⟩
    · exact RpL.cons hv2 e3
    · rcases List.mem_cons.mp hy with e | e
      · subst e
        exact ⟨h1, by rw [kV_inrs]; exact hb⟩
      · exact e4 y e
theorem inrs_inj {a b : List Str} (h : inrs a = inrs b) : a = b := by rw [← un_in a, ← un_in b, h]
/-- dict([(k, d), ..]) of places, all unlike -/
theorem wc_dictPT {ks : List (List Str)} {ds : List D} {Q : QD} (hn : ks.Nodup) (hl : ks.length = ds.length) (q : ∀ a, m.own a = none → Q (.s (.ref a)) { m with own := putM m.own a (.dT ks ds) }) :
    WC K F B (rDictPT K) [.lst ((ks.zip ds).map fun z => .tup [.pl z.1, z.2])] m Q := fun Hb H vs R hB r hx k => by
  obtain ⟨v, rfl, hv⟩ := rpL1 hx
  unfold Rp at hv
  obtain ⟨p, ws, rfl, h1, h2⟩ := hv
  obtain ⟨zs, e1, e2, e3, e4⟩ := rp_pairs h2
  subst e1
  have k1 : (ks.zip ds).map (fun z => inrs z.1) = ks.map inrs := by
    show (ks.zip ds).map (inrs ∘ Prod.fst) = _
    rw [← List.map_map, List.map_fst_zip (by omega)]
  have k2 : (ks.zip ds).map (·.2) = ds := List.map_snd_zip (by omega)
  rw [k1] at e2
  rw [k2] at e3
  refine ⟨p, zs, rfl, SqL.of (r.sub _ _ h1), fun z hz => ⟨sameT r.sub (e4 z hz).1, r.sub _ _ (e4 z hz).2⟩, ?_, fun a ha => ?_⟩
  · rw [e2]
    exact List.pairwise_map.mpr (hn.imp fun h z => h (inrs_inj z))
  · have ez : (zs.map fun z => (z.2.1, z.2.2.2)) = (ks.map inrs).zip (zs.map (·.2.2.2)) := by
      rw [← e2]
      clear e2 e3 e4 k1 k2 h1 h2 hx
      induction zs with
      | nil => rfl
      | cons z zs ih =>
        show (z.2.1, z.2.2.2) :: (zs.map fun z => (z.2.1, z.2.2.2)) = (z.2.1, z.2.2.2) :: ((zs.map (·.2.1)).zip (zs.map (·.2.2.2)))
        rw [ih]
    rw [ez]
    exact k _ _ _ (.s (.ref a)) _ (Same.refl _) (r.owned (mo := .dT ks ds) ha ⟨_, upd_same, e3, hl⟩) rp_s (q a (r.free ha))
/-- [.. for k in d]: d a dict with tuple keys; what is made is f of the keys -/
theorem we_lcK {j : Nat} {g : TG} {tt : TT} {te : TE} {vs : List Nat} {a : Addr} {ks : List (List Str)} {ds : List D} {Q : QD} (hj : ρ[j]? = some (some (.s (.ref a)))) (ho : m.own a = some (.dT ks ds)) (p : List Str → Bool) (f : List Str → D) (hl : ks.length ≤ sizeLine)
    (hf : ∀ F' B' k, Same B B' → LockF K F' B' a ks ds → k ∈ ks → WGw K F' B' g vs (.pl k) ρ (offM m a) fun ρ2 m2 => m2 = offM m a ∧ WT K F' B' tt ρ2 (offM m a) fun b m3 => b = p k ∧ m3 = offM m a ∧ (b = true → WE K F' B' te ρ2 (offM m a) fun y m4 => y = f k ∧ m4 = offM m a))
    (q : Q (.lst ((ks.filter p).map f)) m) : WE K F B (tLockE (tLc (iKeys (tVar j)) g tt te vs)) ρ m Q := fun Hb H σ R hB r hs k => by
  obtain ⟨vs0, h1, h3, h4, hF, hR⟩ := r.lock ho
  refine ⟨a, _, h1, trivial, fun od => ?_⟩
  have rL := hR od
  obtain ⟨v, hv1, hv2⟩ := hs.2 j _ hj
  unfold Rp at hv2
  subst hv2
  have lenK : ((ks.map inrs).zip vs0).length = ks.length := by
    rw [List.length_zip, List.length_map, h3.length]
    omega
  refine ⟨.ref a, hv1, a, od, rfl, .inr ⟨_, upd_same, ?_⟩⟩
  intro A hA
  have haA : a ≠ A := fun z => by
    rw [← z, upd_same] at hA
    cases hA
  have hFA : upd F a (.frz od (.dT ((ks.map inrs).zip vs0))) A = none := rL.nofr hA
  refine ⟨fun i n H' => n = ks.length - i ∧ i ≤ ks.length ∧ ∃ Hb' acc us, Same Hb Hb' ∧ Rel K (upd (upd F a (.frz od (.dT ((ks.map inrs).zip vs0)))) A (.lst us)) Hb' H' (offM m a) ∧ RpL K Hb' acc us ∧ acc = ((ks.take i).filter p).map f, ⟨ks.length, by simp, Nat.zero_le _, Hb, [], [], Same.refl _, rL.aside hA, RpL.nil, by simp⟩, ?_⟩
  rintro i n H' ⟨rfl, hi, Hb', acc, us, e', r', ha, hacc⟩
  have hL : H' a = some (.frz od (.dT ((ks.map inrs).zip vs0))) := (r'.fr a _ (by rw [upd_ne haA]; exact upd_same)).1
  by_cases hlt : i < ks.length
  · refine .inr ⟨⟨hL, by rw [lenK]; exact hlt⟩, fun H2 => ∃ Hb2 acc2 us2, Same Hb Hb2 ∧ Rel K (upd (upd F a (.frz od (.dT ((ks.map inrs).zip vs0)))) A (.lst us2)) Hb2 H2 (offM m a) ∧ RpL K Hb2 acc2 us2 ∧ acc2 = ((ks.take (i + 1)).filter p).map f, fun H2 ⟨Hb2, acc2, us2, z1, z2, z3, z4⟩ => ⟨ks.length - (i + 1), by omega, rfl, hlt, Hb2, acc2, us2, z1, z2, z3, z4⟩, fun x H2 y => ?_⟩
    obtain ⟨rfl, k0, v0, q0, hk0, rfl, hq0⟩ := y
    obtain ⟨z1, z2⟩ := List.getElem?_zip_eq_some.mp hk0
    rw [List.getElem?_map] at z1
    have hki : ks[i]? = some ks[i] := by simp [hlt]
    rw [hki] at z1
    cases z1
    rw [kV_inrs] at hq0
    obtain ⟨Hb2, e2, r2, hq2⟩ := r'.tup1 hq0
    have e12 : Same Hb Hb2 := e'.trans e2
    refine hf (upd (upd F a (.frz od (.dT ((ks.map inrs).zip vs0)))) A (.lst us)) Hb2 ks[i] (hB.trans e12) ⟨od, vs0, by rw [upd_ne haA]; exact upd_same, h3.mono e12, h4⟩ (List.getElem_mem hlt) Hb2 H2 σ _ _ (Same.refl _) r2 (hs.mono e12) (by unfold Rp; exact ⟨q0, rfl, hq2⟩) fun σ3 H3 Hb3 ρ3 m3 e3 r3 hs3 q3 => ?_
    obtain ⟨em, q3⟩ := q3
    subst em
    refine q3 Hb3 H3 σ3 _ e3 r3 hs3 fun b H4 Hb4 m4 e4 r4 q4 => ?_
    obtain ⟨eb, em, q4⟩ := q4
    subst em
    have e14 : Same Hb Hb4 := (e12.trans e3).trans e4
    have ha4 : RpL K Hb4 acc us := ha.mono ((e2.trans e3).trans e4)
    have hlen : acc.length ≤ i := by
      rw [hacc, List.length_map]
      refine Nat.le_trans (List.length_filter_le _ _) ?_
      rw [List.length_take]
      omega
    cases b with
    | true =>
      refine iteT (q4 rfl Hb4 H4 σ3 _ (e3.trans e4) r4 (hs3.mono e4) fun v H5 Hb5 y5 m5 e5 r5 hy5 q5 => ?_)
      obtain ⟨ey, em⟩ := q5
      subst em
      have hD := (r5.fr A _ upd_same).1
      have ha5 : RpL K Hb5 acc us := ha4.mono e5
      refine ⟨us, hD, by rw [ha5.length]; omega, Hb5, acc ++ [y5], us ++ [v], e14.trans e5, r5.turnA, ha5.app (RpL.cons hy5 RpL.nil), ?_⟩
      rw [List.take_add_one, hki, List.filter_append, List.map_append, hacc, ey]
      simp [← eb]
    | false =>
      refine iteF ⟨Hb4, acc, us, e14, r4, ha4, ?_⟩
      rw [List.take_add_one, hki, List.filter_append, List.map_append, hacc]
      simp [← eb]
  · have e : i = ks.length := by omega
    subst e
    have e4 : Same Hb' (upd Hb' A (.lst us)) := Same.new (r'.fr A _ upd_same).2.1
    refine .inl ⟨⟨hL, by rw [lenK]; exact Nat.le_refl _⟩, hL, ?_⟩
    obtain ⟨_, y2⟩ := (r'.settle hFA).unlock hF (h3.mono (e'.trans e4)) h4
    have em : onM (offM m a) a (.dT ks ds) = m := by
      have e1 : putM (dropM m.own a) a (.dT ks ds) = m.own := by
        funext b
        by_cases hb : b = a
        · rw [hb, putM_same, ho]
        · rw [putM_ne hb, dropM_ne hb]
      show (⟨m.cnt, putM (dropM m.own a) a (.dT ks ds)⟩ : Mem) = m
      rw [e1]
    rw [em] at y2
    refine k _ _ _ (.lst ((ks.filter p).map f)) _ (e'.trans e4) y2 ?_ q
    unfold Rp
    rw [List.take_length] at hacc
    subst hacc
    exact ⟨A, us, rfl, upd_same, ha.mono e4⟩
theorem wc_min2 {i j : Int} {Q : QD} (q : Q (.s (.int (if j < i then j else i))) m) : WC K F B rMin2 [.s (.int i), .s (.int j)] m Q := fun Hb H vs R hB r hx k => by
  unfold RpL at hx
  obtain ⟨v, us, rfl, hv, hx⟩ := hx
  unfold RpL at hx
  obtain ⟨u, us2, rfl, hu, hx⟩ := hx
  unfold RpL at hx
  unfold Rp at hv hu
  subst hv hu hx
  exact ⟨i, j, rfl, k.here r rp_s q⟩
/-- i += b -/
theorem ws_augI {i : Nat} {te : TE} {f : Int → Int → Int} {a : Int} {E : DE} (hi : ρ[i]? = some (some (.s (.int a)))) (h : WE K F B te ρ m fun x m1 => ∃ b : Int, x = .s (.int b) ∧ E.nx (ρ.set i (some (.s (.int (f a b))))) m1) : WS K F B (tAug i te (ipI f)) ρ m E := fun Hb H σ R hB r hs k => by
  obtain ⟨v, hv1, hv2⟩ := hs.2 i _ hi
  unfold Rp at hv2
  subst hv2
  refine ⟨.int a, hv1, h Hb H σ _ hB r hs fun y H1 Hb1 x m1 e1 r1 hx q1 => ?_⟩
  obtain ⟨b, rfl, q⟩ := q1
  unfold Rp at hx
  subst hx
  exact ⟨a, b, rfl, rfl, k.nx _ _ _ _ _ e1 r1 ((hs.mono e1).set rp_s) q⟩
end
end DD

/-! HRen: sorted(list of tuples of texts, none empty); dict(zip(xs, ys)) of texts. -/
namespace HN1
open PySem PySem.W PySem.Calls PySem.Spec PyProof.Rows L2 HP1
open PySem.SeqAt (EqAt)
section
variable {prog : Program} {w : World} {A : Around} {s : Shared}
abbrev shp : Nat → Bool := fun _ => true
abbrev cpsR (ns : List Str) : List (Int ⊕ List Nat) := ns.map fun x => Sum.inr x.cps.toList
theorem items_texts : ∀ {ns : List Str} {its : List Value} (i : Nat), Vals (ns.map V.str) its → tupItems shp i its = some (cpsR ns)
  | [], its, i, r => by
    cases r
    rfl
  | n :: ns, its, i, r => by
    rw [List.map_cons] at r
    cases r with
    | cons a b =>
      obtain ⟨t, rfl⟩ := a
      show (tupItems shp (i + 1) _).map (Sum.inr n.cps.toList :: ·) = _
      rw [items_texts (i + 1) b]
      rfl
theorem TupS.key {h : Heap} {v : Value} {ns : List Str} (x : TupS h v ns) : tupKey h shp v = some (cpsR ns) := by
  obtain ⟨a, its, rfl, ⟨o, ho, hc, n, hd⟩, r⟩ := x
  unfold tupKey
  simp only [ho, hd]
  exact items_texts 0 r
theorem blt_texts : ∀ (as bs : List Str), lexLt itemOrd (cpsR as) (cpsR bs) = tlt (cpsT as) (cpsT bs)
  | [], [] => rfl
  | [], _ :: _ => rfl
  | _ :: _, [] => rfl
  | a :: as, b :: bs => by
    have i := blt_texts as bs
    show (itemOrd.blt (Sum.inr a.cps.toList) (Sum.inr b.cps.toList) || (!itemOrd.blt (Sum.inr b.cps.toList) (Sum.inr a.cps.toList) && lexLt itemOrd (cpsR as) (cpsR bs))) = (txtOrd.blt a.cps.toList b.cps.toList || (!txtOrd.blt b.cps.toList a.cps.toList && lexLt txtOrd (cpsT as) (cpsT bs)))
    rw [i]
    rfl
theorem TupS.first {h : Heap} {v : Value} {ns : List Str} (x : TupS h v ns) (h0 : ns ≠ []) : ∃ f, TupOf h shp v f := by
  obtain ⟨a, its, rfl, ⟨o, ho, hc, n, hd⟩, r⟩ := x
  cases ns with
  | nil => exact absurd rfl h0
  | cons m ms =>
    rw [List.map_cons] at r
    cases r with
    | @cons _ u _ us r1 r2 =>
      obtain ⟨t, e⟩ := r1
      subst e
      exact ⟨_, a, o, (Value.str m t :: us).toArray, n, rfl, ho, hc, hd, rfl, (fun z => nomatch z), fun _ => ⟨m, t, rfl⟩⟩
theorem firsts_all {h : Heap} : ∀ {vs : List Value}, (∀ v ∈ vs, ∃ ns, TupS h v ns ∧ ns ≠ []) → ∃ fs : List Value, TupsOf h shp vs fs ∧ fs.length = vs.length
  | [], _ => ⟨[], .nil, rfl⟩
  | v :: vs, hv => by
    obtain ⟨ns, x, h0⟩ := hv v List.mem_cons_self
    obtain ⟨f, hf⟩ := TupS.first x h0
    obtain ⟨fs, k, l⟩ := firsts_all fun u hu => hv u (List.mem_cons_of_mem _ hu)
    exact ⟨f :: fs, .cons hf k, by simp [l]⟩
theorem sortableN {a : Addr} {vs : List Value} (hne : 0 < vs.length) (hv : ∀ u ∈ vs, ∃ ns, TupS s.heap u ns ∧ ns ≠ []) (ha : ∀ u ∈ vs, u ≠ .ref a) :
    SrtO.SortableO prog w A s a vs fun x y => tlt (tupT s.heap x) (tupT s.heap y) := by
  intro h' keep
  have kp : ∀ u ∈ vs, ∀ ns, TupS s.heap u ns → TupS h' u ns := fun u hm ns x => x.keeps fun b o e g => keep b o (fun z => ha u hm (by rw [e, z])) g
  obtain ⟨fs, ht, hl⟩ := firsts_all (h := h') (vs := vs) fun u hu => by
    obtain ⟨ns, x, h0⟩ := hv u hu
    exact ⟨ns, kp u hu ns x, h0⟩
  refine ⟨tuples' true, fun Q E hq => tup_kind (s := { s with heap := h' }) (shape := shp) (by omega) ht hq, fun p q hp hq => ?_⟩
  obtain ⟨n1, x1, _⟩ := hv p.1 hp
  obtain ⟨n2, x2, _⟩ := hv q.1 hq
  refine tup_ltAt (s := { s with heap := h' }) (shape := shp) true A _ p.1 q.1 (cpsR n1) (cpsR n2) (TupS.key (kp _ hp _ x1)) (TupS.key (kp _ hq _ x2)) ⟨rfl, ?_⟩
  show lexLt itemOrd (cpsR n1) (cpsR n2) = tlt (tupT s.heap p.1) (tupT s.heap q.1)
  rw [x1.k, x2.k]
  exact blt_texts n1 n2
end
/-- sorted(xs), xs a list of tuples of texts, none empty -/
def rSortedLT (K : PySem.W.Frag) : List V → Hp → VK → Prop := fun vs H Q => ∃ (a : Addr) (zs : List (Addr × List Str)), vs = [.ref a] ∧ SqL K H a ((zs.map (·.1)).map V.ref) ∧ (∀ z ∈ zs, H z.1 = some (.tup (z.2.map V.str)) ∧ z.2 ≠ []) ∧
  ∀ (p : Addr) (ys : List (Addr × List Str)), H p = none → ys.Perm zs → (ys.map (·.2)).Pairwise (fun x y => tlt (cpsT y) (cpsT x) = false) → Q (.ref p) (upd H p (.lst (ys.map fun z => V.ref z.1)))
theorem call_sortedLT {X : Cx} (hc : X.calm = true) : CallR X (.builtin "sorted") (rSortedLT X.K) := by
  intro pins s σ H xs us Q I r h
  obtain ⟨d, ks, rfl, hd, hm, q⟩ := h
  obtain ⟨u, rfl, rx⟩ := r.one
  cases rx
  obtain ⟨its, rv, pl, hz⟩ := I.list hd
  have ei := refs_at rv
  subst ei
  rw [List.length_map, List.length_map] at hz
  refine Calls.call_function_entry PyProof.Rows.kind_sorted PyProof.Rows.plain_sorted PyProof.Rows.entry_sorted (PyProof.Rows.args_sorted1 _) ?_
  unfold Builtin.«sorted»
  refine wpAny_bind (m := checkCount "sorted" 1 1 _) (wpAny_pure ?_)
  have hlen : ((ks.map (·.1)).map Value.ref).length ≤ sizeLine := by rw [List.length_map, List.length_map]; exact hz
  refine wpAny_bind (PyProof.Rows.collect_list pl.isList ?_ hlen)
  obtain ⟨h', eh'⟩ : ∃ h', (s.heap.push (seqObj "list" #[] 0)).update s.heap.objs.size (Obj.mapSeq (· ++ ((ks.map (·.1)).map Value.ref).toArray)) = h' := ⟨_, rfl⟩
  have hk : ∀ b o, s.heap.get? b = some o → h'.get? b = some o := fun b o e => by
    rw [← eh', Heap.get?_update_ne _ _ _ _ (Nat.ne_of_lt (Heap.lt_size e))]
    exact Heap.get?_push_of_some _ e
  rw [eh']
  have I1 : Inv X pins σ H { s with heap := h' } := I.kept (t' := s.toks) hk
  refine wpAny_bind (wpAny_newList ?_ hlen)
  have hoL : (h'.push (seqObj "list" ((ks.map (·.1)).map Value.ref).toArray 0)).get? h'.objs.size = some (seqObj "list" ((ks.map (·.1)).map Value.ref).toArray 0) := Heap.get?_push_size _ rfl
  show wpAny _ _ _ _ _ { s with heap := h'.push (seqObj "list" ((ks.map (·.1)).map Value.ref).toArray 0) }
  have tup0 : ∀ x ∈ ks, ∃ its, Vals (x.2.map V.str) its ∧ IsTup h' x.1 its.toArray := fun x hx => by
    obtain ⟨_, its, rv, p⟩ := (show ObjOk X.prog X.w H h' x.1 (.tup (x.2.map V.str)) from I1.hok _ _ (hm x hx).1)
    exact ⟨its, rv, p⟩
  have tup : ∀ x ∈ ks, TupS (h'.push (seqObj "list" ((ks.map (·.1)).map Value.ref).toArray 0)) (Value.ref x.1) x.2 := fun x hx => by
    obtain ⟨its, rv, p⟩ := tup0 x hx
    exact ⟨x.1, its, rfl, p.keeps fun b o e => Heap.get?_push_of_some _ e, rv⟩
  have eac : (ks.map (·.1)).map Value.ref = ks.map fun x => Value.ref x.1 := by rw [List.map_map]; rfl
  have hmem : ∀ u ∈ (ks.map (·.1)).map Value.ref, ∃ x ∈ ks, u = Value.ref x.1 := fun u hu => by
    rw [eac] at hu
    obtain ⟨x, hx, e⟩ := List.mem_map.mp hu
    exact ⟨x, hx, e.symm⟩
  refine wpAny_bind (wpAny_holding (wpAny_call_entry PyProof.Rows.slot_list_sort ⟨_, hoL, rfl⟩ PyProof.Rows.entry_list_sort
    (SrtO.list_sort_ord (s := { s with heap := h'.push (seqObj "list" ((ks.map (·.1)).map Value.ref).toArray 0) }) (tlt_swo fun v => tupT (h'.push (seqObj "list" ((ks.map (·.1)).map Value.ref).toArray 0)) v) hoL hlen (fun h2 => ?_) fun out h1 h2 => ⟨_, rfl, ?_⟩)
    (PyProof.Rows.args_list_sort _)))
  · refine sortableN (s := { s with heap := h'.push (seqObj "list" ((ks.map (·.1)).map Value.ref).toArray 0) }) (by omega) (fun u hu => ?_) fun u hu e => ?_
    · obtain ⟨x, hx, e⟩ := hmem u hu
      rw [e]
      exact ⟨_, tup x hx, (hm x hx).2⟩
    · obtain ⟨x, hx, e'⟩ := hmem u hu
      rw [e'] at e
      have hxx : x.1 = h'.objs.size := Value.ref.inj e
      obtain ⟨its, rv, ⟨o', ho', _⟩⟩ := tup0 x hx
      have lt := Heap.lt_size ho'
      rw [hxx] at lt
      exact absurd lt (Nat.lt_irrefl _)
  · obtain ⟨e', he'⟩ := PyProof.Rows.sortedHeap_at (vs := (ks.map (·.1)).map Value.ref) (out := out.toArray) hoL
    obtain ⟨zs, zp, ze⟩ := perm_map_ex (f := fun x : Addr × List Str => Value.ref x.1) h2.perm eac
    have hzm : ∀ x ∈ zs, x ∈ ks := fun x hx => zp.mem_iff.mp hx
    have hlen2 : (zs.map fun z => V.ref z.1).length ≤ sizeLine := by
      rw [List.length_map, zp.length_eq]
      exact hz
    have rvo : Vals (zs.map fun z => V.ref z.1) out := by
      rw [ze]
      have : ∀ zs : List (Addr × List Str), Vals (zs.map fun z : Addr × List Str => V.ref z.1) (zs.map fun x => Value.ref x.1) := by
        intro zs
        induction zs with
        | nil => exact .nil
        | cons x r ih => exact .cons rfl ih
      exact this zs
    refine wpAny_pure ⟨_, rfl, .ref h'.objs.size, upd H h'.objs.size (.lst (zs.map fun z => V.ref z.1)), I1.laid (t' := s.toks) (fun b u e => ?_) (Nat.le_refl _)
      (show ObjOk X.prog X.w _ _ _ (.lst _) from ⟨hlen2, out, e', rvo, he'⟩), rfl, q _ _ (I1.hok.fresh (Nat.le_refl _)) zp ?_⟩
    · have hb : b < h'.objs.size := Heap.lt_size e
      rw [PyProof.Rows.sortedHeap_old (Nat.ne_of_lt hb) (by rw [size_push']; exact Nat.lt_succ_of_lt hb)]
      exact Heap.get?_push_of_some _ e
    · rw [ze] at h1
      have h3 := List.pairwise_map.mp h1
      refine List.pairwise_map.mpr (h3.imp_of_mem fun {x y} hx hy g => ?_)
      have k1 := (tup x (hzm x hx)).k
      have k2 := (tup y (hzm y hy)).k
      show tlt (cpsT y.2) (cpsT x.2) = false
      rw [← show tupT _ _ = cpsT x.2 from k1, ← show tupT _ _ = cpsT y.2 from k2]
      exact g
/-- dict(zip(xs, ys)), xs, ys lists, xs unlike texts -/
def tDictZ (K : PySem.W.Frag) (ta : TA) : TE := fun σ H Q => ta σ H fun vs H1 => ∃ (a b : Addr) (ks : List Str) (ws : List V), vs = [.ref a, .ref b] ∧ SqL K H1 a (ks.map V.str) ∧ SqL K H1 b ws ∧ ks.length = ws.length ∧ ks.Nodup ∧
  ∀ p, H1 p = none → Q (.ref p) (upd H1 p (.dK ((ks.map Sum.inr).zip ws)))
theorem merged_new : ∀ (kvs acc : List (Key × Value)), (kvs.map (·.1)).Nodup → (∀ k ∈ kvs.map (·.1), k ∉ acc.map (·.1)) → merged acc kvs = acc ++ kvs
  | [], acc, _, _ => by simp [merged]
  | kv :: kvs, acc, hn, hd => by
    have hn' := List.nodup_cons.mp hn
    have e1 : stored acc kv.1 kv.2 = acc ++ [kv] := by
      unfold stored
      rw [if_neg]
      intro z
      obtain ⟨y, hy, e⟩ := List.any_eq_true.mp z
      exact hd kv.1 List.mem_cons_self (by rw [← of_decide_eq_true e]; exact List.mem_map_of_mem hy)
    show merged (stored acc kv.1 kv.2) kvs = _
    have hd' : ∀ k ∈ kvs.map (·.1), k ∉ (acc ++ [kv]).map (·.1) := fun k hk z => by
      rw [List.map_append] at z
      rcases List.mem_append.mp z with y | y
      · exact hd k (List.mem_cons_of_mem _ hk) y
      · have : k = kv.1 := by simpa using y
        rw [this] at hk
        exact hn'.1 hk
    rw [e1, merged_new kvs (acc ++ [kv]) hn'.2 hd']
    simp
theorem kv_zip {prog : Program} {w : World} : ∀ {ks : List Str} {ws : List V} {us vs : List Value}, ks.length = ws.length → Vals (ks.map V.str) us → Vals ws vs → ∃ kvs : List (Key × Value), KV ((ks.map Sum.inr).zip ws) kvs ∧ kvs.length = ks.length ∧ kvs.map (·.1) = ks.map Sum.inr ∧
    ∀ (i : Nat) (k v : Value), us[i]? = some k → vs[i]? = some v → ∃ x, kvs[i]? = some (x, v) ∧ (mixKind prog w).is x k = true
  | [], [], us, vs, _, r1, r2 => by
    cases r1
    cases r2
    exact ⟨[], .nil, rfl, rfl, fun i k v e => by simp at e⟩
  | n :: ks, y :: ws, us, vs, hl, r1, r2 => by
    rw [List.map_cons] at r1
    cases r1 with
    | @cons _ u _ us a b =>
    cases r2 with
    | @cons _ v _ vs c d =>
    obtain ⟨kvs, h1, h2, h3, h4⟩ := kv_zip (prog := prog) (w := w) (by simpa using hl) b d
    refine ⟨(Sum.inr n, v) :: kvs, .cons ⟨rfl, c⟩ h1, by simp [h2], by simp [h3], fun i k x e1 e2 => ?_⟩
    cases i with
    | zero =>
      have e1' : u = k := Option.some.inj e1
      have e2' : v = x := Option.some.inj e2
      subst e1' e2'
      obtain ⟨t, rfl⟩ := a
      exact ⟨_, rfl, mixKind_str prog w n t⟩
    | succ i => exact h4 i k x (by simpa using e1) (by simpa using e2)
  | [], _ :: _, _, _, hl, _, _ => by cases hl
  | _ :: _, [], _, _, hl, _, _ => by cases hl
section
variable {X : Cx} {e e2 : Expr} {ta : TA} {p p2 pos pos2 : Pos}
theorem pe_dictZ (hc : X.calm = true) (hg : Gl X "zip") (hm : X.mg "zip" = none) (hg2 : Gl X "dict") (hm2 : X.mg "dict" = none) (ha : PA X [e, e2] ta)
    (hs : starEach [e, e2] X.env = (false, eval e X.env) :: starEach [e2] X.env := by rfl) (hpl : (backTo pos (starEach [e2] X.env)).any (·.1) = false := by rfl)
    (hs2 : starEach [.Call (.Name "zip" p) [e, e2] [] pos] X.env = (false, eval (.Call (.Name "zip" p) [e, e2] [] pos) X.env) :: starEach [] X.env := by rfl) (hpl2 : (backTo pos2 (starEach [] X.env)).any (·.1) = false := by rfl) :
    PE X (.Call (.Name "dict" p2) [.Call (.Name "zip" p) [e, e2] [] pos] [] pos2) (tDictZ X.K ta) := by
  refine ⟨fun pins s σ H Q I h => ?_⟩
  refine wpAny_Call_Name_kw (ld_blt I hg2 hm2 (by decide +kernel : bootBuiltins "dict" = some (.type "dict")) ?_ (by decide) (by decide))
  refine PyProof.Rows.callWith_type1 ?_ hs2 hpl2
  refine Calls.spliced_cons ?_
  refine wpAny_mono (Q := fun u s1 => wpAny (model X.prog X.w) X.A (call (.type "dict") [u]) (EP X pins σ Q) X.xe s1) ?_ (fun u s1 h1 => Calls.spliced_nil h1) (fun _ _ h => h)
  refine Call_ (ld_blt I hg hm PyProof.Rows.boot_zip (PyProof.Rows.callWith_type1 (thn (ha.run pos pins s σ H _ I h) fun us s1 ⟨vs, H1, I1, r1, q1⟩ => ?_) hs hpl))
  obtain ⟨a, b, ks, ws, ex, hqx, hqy, hl, hn, q⟩ := q1
  subst ex
  cases r1 with
  | cons r rr =>
    cases rr with
    | cons r' rr =>
      cases rr
      cases r
      cases r'
      obtain ⟨its, rv, p1, hz1⟩ := I1.list hqx
      obtain ⟨its2, rv2, p3, hz2⟩ := I1.list hqy
      refine call_zip_2 p1.isList p3.isList fun h' hz hTI hTO h1 h2 hsz hk => ?_
      obtain ⟨kvs, kv1, kv2, kv3, kv4⟩ := kv_zip (prog := X.prog) (w := X.w) hl rv rv2
      have hlen1 : its.length = ks.length := by rw [← rv.length, List.length_map]
      have hlen2 : its2.length = ws.length := rv2.length.symm
      have hm0 : min its.toArray.size its2.toArray.size = ks.length := by
        rw [List.size_toArray, List.size_toArray, hlen1, hlen2, ← hl, Nat.min_self]
      rw [List.length_map] at hz1
      refine call_dict_pairs (s := { s1 with heap := h' }) (knd := mixKind X.prog X.w) (kvs := kvs) (PairArg.zip (s1.heap.objs.size + 4) (s1.heap.objs.size + 2) (s1.heap.objs.size + 3) s1.heap.objs.size (s1.heap.objs.size + 1) a b (PySem.W.ktu_apart s1.heap.objs.size a b p1.lt p3.lt) its.toArray its2.toArray) (I1.ok.hd hc)
        ⟨hz, hTI, ⟨_, _, hTO⟩, h1, h2, p1.isList.at fun o e => hk _ o e, p3.isList.at fun o e => hk _ o e⟩ ⟨by rw [hm0, kv2], fun i k v e => ?_⟩ (by rw [hm0]; exact hz1) fun h2 tk hd' hk2 => ?_
      · obtain ⟨e1, e2⟩ := e
        exact kv4 i k v (by simpa using e1) (by simpa using e2)
      · have hnd : (kvs.map (·.1)).Nodup := by
          rw [kv3]
          exact List.Pairwise.map _ (fun x y hne z => hne (Sum.inr.inj z)) hn
        rw [merged_new kvs [] hnd (fun k _ z => nomatch z), List.nil_append] at hd'
        have hfresh : H1 h'.objs.size = none := I1.hok.fresh (by omega)
        have hsm : (h'.objs.size == sysModules) = false := beq_eq_false_iff_ne.mpr (Nat.ne_of_gt (Nat.lt_of_lt_of_le I1.big (by rw [hsz]; exact Nat.le_add_right _ _)))
        refine ⟨.ref h'.objs.size, upd H1 h'.objs.size (.dK ((ks.map Sum.inr).zip ws)), I1.laid (t' := tk) (fun b o eo => ?_) (by omega) (show ObjOk X.prog X.w _ _ _ (.dK ((ks.map Sum.inr).zip ws)) from ⟨?_, hsm, kvs, kv1, hd'⟩), rfl, q _ hfresh⟩
        · have hb : b < s1.heap.objs.size := Heap.lt_size eo
          refine hk2 b o (fun z => ?_) (hk b o eo)
          simp only [List.mem_cons, List.not_mem_nil, or_false] at z
          rcases z with z | z | z | z <;> rw [z] at hb
          · exact Nat.not_lt_of_le (Nat.le_add_right _ _) hb
          · exact Nat.not_lt_of_le (Nat.le_add_right _ _) hb
          · exact Nat.lt_irrefl _ hb
          · exact Nat.not_lt_of_le (Nat.le_add_right _ _) hb
        · rw [List.length_zip, List.length_map, ← hl, Nat.min_self]
          exact hz1
end
end HN1

/-! DRen: data rules of HRen; dicts with text keys. -/
namespace DD
open PySem L2 HP1 HN1
open PySem.Spec PyProof.Rows
def lookK : List Key → List D → Key → Option D
  | k :: ks, d :: ds, x => if k = x then some d else lookK ks ds x
  | _, _, _ => none
section
variable {K : PySem.W.Frag} {B F Hb H : Hp} {m : Mem} {ρ : Env}
theorem lookK_val : ∀ {ks : List Key} {ds : List D} {vs : List V} (x : Key), RpL K Hb ds vs → ks.length = ds.length →
    (∀ d, lookK ks ds x = some d → ∃ v, valV (ks.zip vs) x = some v ∧ Rp K Hb d v) ∧ (lookK ks ds x = none → valV (ks.zip vs) x = none)
  | [], ds, vs, x, h, hl => by
    have e1 : ds = [] := List.eq_nil_of_length_eq_zero hl.symm
    subst e1
    exact ⟨fun d z => (nomatch (show (none : Option D) = some d from z)), fun _ => rfl⟩
  | k :: ks, [], vs, x, h, hl => by cases hl
  | k :: ks, d :: ds, vs, x, h, hl => by
    unfold RpL at h
    obtain ⟨v, r, rfl, h1, h2⟩ := h
    obtain ⟨i1, i2⟩ := lookK_val x h2 (by simpa using hl)
    have e : lookK (k :: ks) (d :: ds) x = if k = x then some d else lookK ks ds x := rfl
    rw [e, List.zip_cons_cons]
    by_cases hk : k = x
    · rw [if_pos hk, valV_pos hk]
      exact ⟨fun d' z => by cases z; exact ⟨v, rfl, h1⟩, fun z => nomatch z⟩
    · rw [if_neg hk, valV_neg hk]
      exact ⟨i1, i2⟩
/-- d[k], k a text -/
theorem we_dgK {td ty : TE} {Q : QD} (h : WE K F B td ρ m fun x m1 => WE K F B ty ρ m1 fun y m2 => ∃ a ks ds n d, x = .s (.ref a) ∧ y = .s (.str n) ∧ m2.own a = some (.dK ks ds) ∧ lookK ks ds (.inr n) = some d ∧ Q d m2) : WE K F B (tDGet td ty) ρ m Q := fun Hb H σ R hB r hs k =>
  h Hb H σ _ hB r hs fun v H1 Hb1 x m1 e1 r1 hx q1 => q1 Hb1 H1 σ _ (hB.trans e1) r1 (hs.mono e1) fun u H2 Hb2 y m2 e2 r2 hy q2 => by
    obtain ⟨a, ks, ds, n, d, rfl, rfl, ho, hl, q⟩ := q2
    unfold Rp at hx hy
    subst hx hy
    obtain ⟨_, vs, h1, h2, h3⟩ := r2.own a _ ho
    obtain ⟨v, e, rv⟩ := (lookK_val (K := K) (Hb := Hb2) (.inr n) h2 h3).1 d hl
    refine ⟨a, v, rfl, .inl ⟨_, .inr n, .inl h1, rfl, e.symm⟩, k _ _ _ _ _ (e1.trans e2) r2 rv q⟩
/-- d.get(k, x), k a text -/
theorem we_dg2K {td ty tx : TE} {Q : QD} (h : WE K F B td ρ m fun x m1 => ∃ a, x = .s (.ref a) ∧ (∃ ks ds, m1.own a = some (.dK ks ds)) ∧ WE K F B ty ρ m1 fun y m2 => WE K F B tx ρ m2 fun z m3 => ∃ ks ds n, m3.own a = some (.dK ks ds) ∧ y = .s (.str n) ∧
    (∀ d, lookK ks ds (.inr n) = some d → Q d m3) ∧ (lookK ks ds (.inr n) = none → Q z m3)) : WE K F B (tDGet2 td ty tx) ρ m Q := fun Hb H σ R hB r hs k =>
  h Hb H σ _ hB r hs fun v H1 Hb1 x m1 e1 r1 hx q1 => by
    obtain ⟨a, rfl, ⟨ks0, ds0, ho0⟩, q1⟩ := q1
    unfold Rp at hx
    subst hx
    obtain ⟨_, vs0, h0, _⟩ := r1.own a _ ho0
    refine ⟨a, rfl, .inl ⟨_, .inl h0⟩, ?_⟩
    refine q1 Hb1 H1 σ _ (hB.trans e1) r1 (hs.mono e1) fun u H2 Hb2 y m2 e2 r2 hy q2 => ?_
    refine q2 Hb2 H2 σ _ ((hB.trans e1).trans e2) r2 ((hs.mono e1).mono e2) fun w H3 Hb3 z m3 e3 r3 hz q3 => ?_
    obtain ⟨ks, ds, n, ho, rfl, qs, qn⟩ := q3
    have hy3 := hy.mono e3
    unfold Rp at hy3
    subst hy3
    obtain ⟨_, vs, h1, h2, h3⟩ := r3.own a _ ho
    refine ⟨valV (ks.zip vs) (.inr n), .inl ⟨_, .inr n, .inl h1, rfl, rfl⟩, ?_⟩
    obtain ⟨i1, i2⟩ := lookK_val (K := K) (Hb := Hb3) (.inr n) h2 h3
    cases q : lookK ks ds (.inr n) with
    | none =>
      rw [i2 q]
      exact k _ _ _ _ _ ((e1.trans e2).trans e3) r3 hz (qn q)
    | some d =>
      obtain ⟨v', e, rd⟩ := i1 d q
      rw [e]
      exact k _ _ _ _ _ ((e1.trans e2).trans e3) r3 rd (qs d q)
/-- dict(zip(xs, ys)), owned -/
theorem RpL.erase : ∀ {ds : List D} {vs : List V} (i : Nat), RpL K Hb ds vs → RpL K Hb (ds.eraseIdx i) (vs.eraseIdx i)
  | [], vs, i, h => by
    unfold RpL at h
    subst h
    exact RpL.nil
  | d :: ds, vs, i, h => by
    unfold RpL at h
    obtain ⟨v, us, rfl, h1, h2⟩ := h
    cases i with
    | zero => exact h2
    | succ i => exact RpL.cons h1 (RpL.erase i h2)
/-- xs.pop(i), xs an owned list -/
theorem we_popI {to ti : TE} {Q : QD} (h : WE K F B to ρ m fun x m1 => ∃ a, x = .s (.ref a) ∧ (∃ xs, m1.own a = some (.lst xs)) ∧ WE K F B ti ρ m1 fun z m2 => ∃ (j : Nat) (xs : List D) (y : D), z = .s (.int (j : Nat)) ∧ m2.own a = some (.lst xs) ∧ xs.length ≤ 1000000 ∧ xs[j]? = some y ∧ Q y { m2 with own := putM m2.own a (.lst (xs.eraseIdx j)) }) :
    WE K F B (tBM K "list" rPopAt to (tCons ti tNil)) ρ m Q := fun Hb H σ R hB r hs k =>
  h Hb H σ _ hB r hs fun v H1 Hb1 x m1 e1 r1 hx q1 => by
    obtain ⟨a, rfl, ⟨xs0, ho0⟩, q⟩ := q1
    unfold Rp at hx
    subst hx
    obtain ⟨_, vs0, h0, _⟩ := r1.own _ _ ho0
    refine ⟨.inl ⟨rfl, _, SqL.of h0⟩, q Hb1 H1 σ _ (hB.trans e1) r1 (hs.mono e1) fun u H2 Hb2 z m2 e2 r2 hz q2 => ?_⟩
    obtain ⟨j, xs, y, rfl, ho, hl, hy, q3⟩ := q2
    unfold Rp at hz
    subst hz
    obtain ⟨_, vs, h1, h2⟩ := r2.own _ _ ho
    obtain ⟨w, hw, rw'⟩ := h2.get hy
    have hj : j < vs.length := (List.getElem?_eq_some_iff.mp hw).1
    have hl2 := h2.length
    have hk : seqIndex? (j : Int) vs.length = some j := by
      rw [PySem.StrLaws.seqIndex_nonneg (by omega) (by omega), Int.toNat_natCast]
    refine ⟨a, vs, j, j, w, rfl, rfl, h1, by omega, by omega, hk, hw, ?_⟩
    exact k _ _ _ _ _ (e1.trans e2) (r2.change (mo' := .lst (xs.eraseIdx j)) ho ⟨_, upd_same, RpL.erase j h2⟩) rw' q3
theorem we_dictZ {ta : TA} {Q : QD} (h : WA K F B ta ρ m fun xs m1 => ∃ (ns : List Str) (ds : List D), xs = [.lst (ns.map fun n => .s (.str n)), .lst ds] ∧ ns.length = ds.length ∧ ns.Nodup ∧ ∀ p, m1.own p = none → Q (.s (.ref p)) { m1 with own := putM m1.own p (.dK (ns.map Sum.inr) ds) }) : WE K F B (tDictZ K ta) ρ m Q := fun Hb H σ R hB r hs k =>
  h Hb H σ _ hB r hs fun vs H1 Hb1 xs m1 e1 r1 hx q1 => by
    obtain ⟨ns, ds, rfl, hl, hn, q⟩ := q1
    obtain ⟨v, u, rfl, hv, hu⟩ := rpL2 hx
    obtain ⟨pa, rfl, ha⟩ := strs_rp hv
    unfold Rp at hu
    obtain ⟨pb, ws, rfl, hb, hws⟩ := hu
    refine ⟨pa, pb, ns, ws, rfl, SqL.of (r1.sub _ _ ha), SqL.of (r1.sub _ _ hb), by rw [hl, hws.length], hn, fun p hp => ?_⟩
    exact k _ _ _ _ _ e1 (r1.owned (mo := .dK (ns.map Sum.inr) ds) hp ⟨ws, upd_same, hws, by rw [List.length_map, hl]⟩) rp_s (q p (r1.free hp))
theorem wc_sortedLT {ps : List (List Str)} {Q : QD} (h0 : ∀ p ∈ ps, p ≠ []) (q : Q (.lst ((sortT ps).map D.pl)) m) : WC K F B (rSortedLT K) [.lst (ps.map D.pl)] m Q := fun Hb H vs R hB r hx k => by
  obtain ⟨v, rfl, hv⟩ := rpL1 hx
  unfold Rp at hv
  obtain ⟨a, us, rfl, ha, hus⟩ := hv
  obtain ⟨bs, rfl, hl, hh⟩ := rp_pls hus
  have e1 : (bs.zip ps).map (·.1) = bs := by rw [List.map_fst_zip (by omega)]
  have e2 : (bs.zip ps).map (·.2) = ps := by rw [List.map_snd_zip (by omega)]
  have hz : ∀ z ∈ bs.zip ps, Hb z.1 = some (.tup (z.2.map V.str)) ∧ z.2 ∈ ps := fun z hz => by
    refine ⟨?_, ?_⟩
    · have : (z.2, z.1) ∈ ps.zip bs := by
        have : ∀ (bs : List Addr) (ps : List (List Str)), z ∈ bs.zip ps → (z.2, z.1) ∈ ps.zip bs := by
          intro bs
          induction bs with
          | nil => intro ps h; cases h
          | cons b bs ih =>
            intro ps h
            cases ps with
            | nil => cases h
            | cons p ps =>
              rcases List.mem_cons.mp h with e | h
              · rw [e]
                exact List.mem_cons_self
              · exact List.mem_cons_of_mem _ (ih ps h)
        exact this bs ps hz
      exact hh _ this
    · rw [← e2]
      exact List.mem_map_of_mem (f := Prod.snd) hz
  refine ⟨a, bs.zip ps, rfl, by rw [e1]; exact SqL.of (r.sub _ _ ha), fun z hz' => ⟨r.sub _ _ (hz z hz').1, h0 _ (hz z hz').2⟩, fun p ys hp hperm hsrt => ?_⟩
  have hp2 : (ys.map (·.2)).Perm ps := by
    have := hperm.map (fun z : Addr × List Str => z.2)
    rw [show (bs.zip ps).map (fun z : Addr × List Str => z.2) = ps from e2] at this
    exact this
  have e : ys.map (·.2) = sortT ps := perm_srt pLt_anti (hp2.trans (sortT_perm ps).symm) hsrt (sortT_srt ps)
  have hl2 : RpL K Hb ((ys.map (·.2)).map D.pl) (ys.map fun z => V.ref z.1) := by
    have : ∀ ys : List (Addr × List Str), (∀ z ∈ ys, Hb z.1 = some (.tup (z.2.map V.str))) → RpL K Hb ((ys.map (·.2)).map D.pl) (ys.map fun z => V.ref z.1) := by
      intro ys
      induction ys with
      | nil => intro _; exact RpL.nil
      | cons z ys ih =>
        intro h
        refine RpL.cons ?_ (ih fun y hy => h y (List.mem_cons_of_mem _ hy))
        unfold Rp
        exact ⟨z.1, rfl, h z List.mem_cons_self⟩
    exact this ys fun z hz' => (hz z (hperm.mem_iff.mp hz')).1
  refine k _ _ _ (.lst ((sortT ps).map D.pl)) _ (Same.new (r.fresh hp)) (r.data hp) ?_ q
  rw [← e]
  unfold Rp
  exact ⟨p, _, rfl, upd_same, hl2.mono (Same.new (r.fresh hp))⟩
end
end DD

/-! HShp: y in d, d[y] = x for dicts with text keys; xs.extend(a list or a tuple). -/
namespace HM1
open PySem PySem.W PySem.Calls PySem.Spec PyProof.Rows L2 HP1
section
variable {X : Cx}
/-- y in d | y not in d -/
def rInK (neg : Bool) : R2 := fun y x H Q => ∃ a o, x = .ref a ∧ DGet H a y o ∧ Q (.bl (if neg = true then !o.isSome else o.isSome)) H
theorem op_inK (hu : X.A.units + 1 < cLine) : OpR X (compareOp .In) (rInK false) := by
  intro pins s σ H x y v u Q I rx ry h
  obtain ⟨a, o, rfl, g, q⟩ := h
  cases (show u = Value.ref a from ry)
  exact d_in hu I g rx fun s' I' => ⟨.bl _, H, I', rfl, q⟩
theorem op_ninK (hu : X.A.units + 1 < cLine) : OpR X (compareOp .NotIn) (rInK true) := by
  intro pins s σ H x y v u Q I rx ry h
  obtain ⟨a, o, rfl, g, q⟩ := h
  cases (show u = Value.ref a from ry)
  exact d_notIn hu I g rx fun s' I' => ⟨.bl _, H, I', rfl, q⟩
theorem ext_tup (l : Addr) (items : Array Value) (n : Nat) (b : Addr) (items2 : Array Value) (n2 : Nat) (od : Option Addr) (sl : Array (Option Value)) (hs0 : ¬(!items.isEmpty && Builtin.List.listTooLong (items.size + items2.size)) = true) (hs1 : items.size ≤ sizeLine) (hs2 : items.size + items2.size ≤ sizeLine + 1) :
    Meets (Builtin.«list.extend» ⟨[.ref l, .ref b], []⟩) (fun _ R s => s.heap.get? l = some { cls := .type "list", dict := none, data := .seq items n, slots := #[] } ∧ s.heap.get? b = some { cls := .type "tuple", dict := od, data := .seq items2 n2, slots := sl } ∧ R (.ok (.ret Value.none)) { s with heap := s.heap.update l (Obj.mapSeq fun x => x ++ items2), toks := s.toks }) :=
  .of_wp fun prog w A R s h => by
    obtain ⟨hp, g, d, tk, os⟩ := s; obtain ⟨hl, hb, h⟩ := h; have f1 := AutoSeq1.idx_int; have f2 := AutoSeq1.sub_tuple_tuple; have f3 := AutoSeq1.sub_list_list; have f4 := AutoSeq1.sub_tuple_list; have f5 := AutoSeq1.sub_list_tuple;
    have hz' : (items ++ items2).size ≤ sizeLine + 1 := by rw [Array.size_append]; exact hs2
    wp_walk using (wpAny_updateSeq hl rfl (hz := hs1) (_hz' := hz')), AutoSeq1.wpAny_loadPart' hl, AutoSeq1.wpAny_loadPart' hb; exact ⟨_, rfl, h⟩
/-- xs.extend(ys), ys a tuple -/
def rExtT (K : PySem.W.Frag) : V → List V → Hp → VK → Prop := fun x vs H Q => ∃ l b xs zs, x = .ref l ∧ vs = [.ref b] ∧ H l = some (.lst xs) ∧ SqT K H b zs ∧ xs.length + zs.length ≤ sizeLine ∧ Q .non (upd H l (.lst (xs ++ zs)))
theorem mt_extT : MtM X "list.extend" (rExtT X.K) := by
  intro pins s σ H x vs v us Q I rx rv h
  obtain ⟨l, b, xs, zs, rfl, rfl, hH, hB, hz, q⟩ := h
  cases rx
  obtain ⟨u, rfl, ru⟩ := rv.one
  cases ru
  obtain ⟨z, its, n, r, hl, e⟩ := I.lstM hH
  obtain ⟨its2, r2, ⟨o, h1, h2, n2, h3⟩, _⟩ := I.tuple hB
  have hl2 := r2.length
  obtain ⟨oc, od, dt, sl⟩ := o
  simp only at h2 h3
  subst h2 h3
  have hsz : its.toArray.size + its2.toArray.size ≤ sizeLine := by rw [List.size_toArray, List.size_toArray]; omega
  have hlong : ¬ (!its.toArray.isEmpty && Builtin.List.listTooLong (its.toArray.size + its2.toArray.size)) = true := by
    rw [notLongL hsz, Bool.and_false]
    exact Bool.false_ne_true
  refine call_meets F.slot_list_extend ⟨_, e, rfl⟩ F.entry_list_extend (F.args_list_extend_2 _ _)
    (ext_tup l its.toArray n b its2.toArray n2 od sl hlong (by rw [List.size_toArray]; omega) (by omega)) ⟨e, h1, ?_⟩
  refine ⟨.non, _, I.lset (its' := its ++ its2) hH e (by simp) (r.append r2) ?_, rfl, q⟩
  rw [List.length_append]
  omega
def rExtLT (K : PySem.W.Frag) : V → List V → Hp → VK → Prop := fun x vs H Q => rExtend x vs H Q ∨ rExtT K x vs H Q
theorem mt_extLT : MtM X "list.extend" (rExtLT X.K) := fun pins s σ H x vs v us Q I rx rv h => h.elim (mt_extend pins s σ H x vs v us Q I rx rv) (mt_extT pins s σ H x vs v us Q I rx rv)
/-- dict(xs) of pairs whose keys are texts -/
def rDictPK (K : PySem.W.Frag) : List V → Hp → VK → Prop := fun xs H Q => ∃ (a : Addr) (ps : List Addr) (kvs : List (Key × V)), xs = [.ref a] ∧ SqL K H a (ps.map V.ref) ∧ Paired (fun p kv => SqT K H p [kV kv.1, kv.2]) ps kvs ∧
    ∀ p, H p = none → Q (.ref p) (upd H p (.dK (mergeK [] kvs)))
theorem call_dictPK (hcalm : X.calm = true) : CallR X (.type "dict") (rDictPK X.K) := call_dictP hcalm
/-- range(i, j) -/
def rRange2 : List V → Hp → VK → Prop := fun vs H Q => ∃ i j, vs = [V.int i, V.int j] ∧ ∀ p, H p = none → Q (.ref p) (upd H p (.rng i j))
/-- i in a range -/
def rInRng : R2 := fun x y H Q => ∃ i a lo hi, x = V.int i ∧ y = V.ref a ∧ H a = some (.rng lo hi) ∧ Q (.bl (decide (lo ≤ i ∧ i < hi))) H
end
end HM1

/-! DShp: data rules of HShp; sorted texts; a comprehension with two clauses whose list is owned. -/
namespace DD
open PySem L2 HP1 HN1 HM1
open PySem.Spec PyProof.Rows
section
variable {K : PySem.W.Frag} {B F Hb H : Hp} {m : Mem} {ρ : Env}
theorem wo_inK {a : Addr} {ks : List Key} {ds : List D} {n : Str} {neg : Bool} {Q : QD} (ho : m.own a = some (.dK ks ds)) (q : Q (.s (.bl (if neg = true then !(lookK ks ds (.inr n)).isSome else (lookK ks ds (.inr n)).isSome))) m) : WO K F B (rInK neg) (.s (.str n)) (.s (.ref a)) m Q := fun Hb H vx vy R hB r hx hy k => by
  unfold Rp at hx hy
  subst hx hy
  obtain ⟨_, vs, h1, h2, h3⟩ := r.own a _ ho
  obtain ⟨i1, i2⟩ := lookK_val (K := K) (Hb := Hb) (.inr n) h2 h3
  refine ⟨a, _, rfl, DGet.k (k := .inr n) h1, ?_⟩
  have e : (valV (ks.zip vs) (.inr n)).isSome = (lookK ks ds (.inr n)).isSome := by
    cases e : lookK ks ds (.inr n) with
    | none =>
      rw [i2 e]
      rfl
    | some d =>
      obtain ⟨v, hv, _⟩ := i1 d e
      rw [hv]
      rfl
  rw [e]
  exact k.here r rp_s q
/-- a[n] = x, n a new text key -/
theorem wg_subK {to ti : TE} {x : D} {Q : Env → Mem → Prop} (h : WE K F B to ρ m fun o m1 => WE K F B ti ρ m1 fun y m2 => ∃ a ks ds n, o = .s (.ref a) ∧ y = .s (.str n) ∧ m2.own a = some (.dK ks ds) ∧ ks.length < sizeLine ∧ lookK ks ds (.inr n) = none ∧
    Q ρ { m2 with own := putM m2.own a (.dK (ks ++ [.inr n]) (ds ++ [x])) }) : WG K F B (gSub to ti rSetD) x ρ m Q := fun Hb H σ v R hB r hs hx k =>
  h Hb H σ _ hB r hs fun o H1 Hb1 od m1 e1 r1 ho q1 => q1 Hb1 H1 σ _ (hB.trans e1) r1 (hs.mono e1) fun i H2 Hb2 y m2 e2 r2 hy q2 => by
    obtain ⟨a, ks, ds, n, rfl, rfl, hown, hz, hn, q⟩ := q2
    unfold Rp at ho hy
    subst ho hy
    obtain ⟨h0, vs, h1, h2, h3⟩ := r2.own a _ hown
    have hno := (lookK_val (K := K) (Hb := Hb2) (.inr n) h2 h3).2 hn
    have hlen : (ks.zip vs).length < sizeLine := by
      rw [List.length_zip]
      omega
    show ∃ a' H', V.ref a = V.ref a' ∧ DPut H2 a' (V.str n) v H' ∧ R σ H'
    refine ⟨a, _, rfl, DPut.k (k := .inr n) h1 hlen, ?_⟩
    have e : putK (ks.zip vs) (Sum.inr n : Key) v = (ks ++ [(Sum.inr n : Key)]).zip (vs ++ [v]) := by
      have hl2 := h2.length
      rw [List.zip_append (by omega)]
      have e2 : ((ks.zip vs).any fun kv => decide (kv.1 = (Sum.inr n : Key))) = false := by
        rw [valV_any, hno]
        rfl
      unfold putK
      rw [e2]
      rfl
    rw [e]
    exact k _ _ _ _ _ (e1.trans e2) (r2.change (mo' := .dK (ks ++ [.inr n]) (ds ++ [x])) hown ⟨vs ++ [v], upd_same, h2.app (RpL.cons (hx.mono (e1.trans e2)) RpL.nil), by rw [List.length_append, List.length_append, h3]; rfl⟩) (hs.mono (e1.trans e2)) q
/-- xs.extend(ys), ys a list or a tuple -/
theorem we_extLT {to te : TE} {Q : QD} (h : WE K F B to ρ m fun x m1 => ∃ a, x = .s (.ref a) ∧ (∃ xs, m1.own a = some (.lst xs)) ∧ WE K F B te ρ m1 fun y m2 => ∃ xs ys, m2.own a = some (.lst xs) ∧ (SeqO m2 y ys ∨ ∃ ns : List Str, y = .pl ns ∧ ys = (ns.map V.str).map D.s) ∧ xs.length + ys.length ≤ sizeLine ∧ Q (.s .non) { m2 with own := putM m2.own a (.lst (xs ++ ys)) }) :
    WE K F B (tBM K "list" (rExtLT K) to (tCons te tNil)) ρ m Q := fun Hb H σ R hB r hs k =>
  h Hb H σ _ hB r hs fun v H1 Hb1 x m1 e1 r1 hx q1 => by
    obtain ⟨a, rfl, ⟨xs0, ho0⟩, q1⟩ := q1
    unfold Rp at hx
    subst hx
    obtain ⟨_, vs0, h0, _⟩ := r1.own a _ ho0
    refine ⟨.inl ⟨rfl, vs0, SqL.of h0⟩, ?_⟩
    refine q1 Hb1 H1 σ _ (hB.trans e1) r1 (hs.mono e1) fun u H2 Hb2 y m2 e2 r2 hy q2 => ?_
    obtain ⟨xs, ys, ho, hyy, hz, q⟩ := q2
    obtain ⟨h3, vs, h4, h5⟩ := r2.own a _ ho
    rcases hyy with (rfl | rfl | ⟨b, rfl, hb⟩) | ⟨ns, rfl, rfl⟩
    · unfold Rp at hy
      obtain ⟨p, us, rfl, h1, h2⟩ := hy
      refine .inl ⟨a, p, vs, us, rfl, rfl, h4, r2.sub _ _ h1, by rw [h5.length, h2.length]; exact hz, ?_⟩
      exact k _ _ _ (.s .non) _ (e1.trans e2) (r2.change (mo' := .lst (xs ++ ys)) ho ⟨vs ++ us, upd_same, h5.app h2⟩) rp_s q
    · unfold Rp at hy
      obtain ⟨p, us, rfl, h1, h2⟩ := hy
      refine .inr ⟨a, p, vs, us, rfl, rfl, h4, sameT r2.sub h1, by rw [h5.length, h2.length]; exact hz, ?_⟩
      exact k _ _ _ (.s .non) _ (e1.trans e2) (r2.change (mo' := .lst (xs ++ ys)) ho ⟨vs ++ us, upd_same, h5.app h2⟩) rp_s q
    · unfold Rp at hy
      subst hy
      obtain ⟨h6, us, h7, h8⟩ := r2.own b _ hb
      refine .inl ⟨a, b, vs, us, rfl, rfl, h4, h7, by rw [h5.length, h8.length]; exact hz, ?_⟩
      exact k _ _ _ (.s .non) _ (e1.trans e2) (r2.change (mo' := .lst (xs ++ ys)) ho ⟨vs ++ us, upd_same, h5.app h8⟩) rp_s q
    · unfold Rp at hy
      obtain ⟨p, rfl, h1⟩ := hy
      have h2 : RpL K Hb2 ((ns.map V.str).map D.s) (ns.map V.str) := RpL.ofScal _
      refine .inr ⟨a, p, vs, ns.map V.str, rfl, rfl, h4, SqT.of (r2.sub _ _ h1), by rw [h5.length, h2.length]; exact hz, ?_⟩
      exact k _ _ _ (.s .non) _ (e1.trans e2) (r2.change (mo' := .lst (xs ++ (ns.map V.str).map D.s)) ho ⟨vs ++ ns.map V.str, upd_same, h5.app h2⟩) rp_s q
theorem putK_new {kvs : List (Key × V)} {k : Key} {v : V} (h : k ∉ kvs.map (·.1)) : putK kvs k v = kvs ++ [(k, v)] := by
  have e2 : (kvs.any fun kv => decide (kv.1 = k)) = false := by
    rw [List.any_eq_false]
    intro x hx z
    exact h (List.mem_map.mpr ⟨x, hx, of_decide_eq_true z⟩)
  unfold putK
  rw [e2]
  rfl
theorem mergeK_new : ∀ (more kvs : List (Key × V)), (more.map (·.1)).Nodup → (∀ p ∈ more, p.1 ∉ kvs.map (·.1)) → mergeK kvs more = kvs ++ more
  | [], kvs, _, _ => (List.append_nil kvs).symm
  | p :: more, kvs, hn, hd => by
    have hn' := List.nodup_cons.mp (show (p.1 :: more.map (·.1)).Nodup from hn)
    have ih := mergeK_new more (kvs ++ [p]) hn'.2 fun x hx z => by
      rw [List.map_append] at z
      rcases List.mem_append.mp z with y | y
      · exact hd x (List.mem_cons_of_mem _ hx) y
      · have e : x.1 = p.1 := by simpa using y
        exact hn'.1 (e ▸ List.mem_map_of_mem hx)
    show mergeK (putK kvs p.1 p.2) more = _
    rw [putK_new (hd p List.mem_cons_self), ih, List.append_assoc]
    rfl
theorem rp_pairsK : ∀ {ns : List Str} {ds : List D} {vs : List V}, ns.length = ds.length → RpL K Hb ((ns.zip ds).map fun z => .tup [.s (.str z.1), z.2]) vs → ∃ (ps : List Addr) (us : List V), vs = ps.map V.ref ∧ RpL K Hb ds us ∧ us.length = ns.length ∧ Paired (fun p (kv : Key × V) => SqT K Hb p [kV kv.1, kv.2]) ps ((ns.map Sum.inr).zip us)
  | [], [], vs, _, h => by
    have h' : RpL K Hb [] vs := h
    unfold RpL at h'
    subst h'
    exact ⟨[], [], rfl, RpL.nil, rfl, .nil⟩
  | [], _ :: _, _, hl, _ => by cases hl
  | _ :: _, [], _, hl, _ => by cases hl
  | n :: ns, d :: ds, vs, hl, h => by
    have h' : RpL K Hb (.tup [.s (.str n), d] :: (ns.zip ds).map fun z => .tup [.s (.str z.1), z.2]) vs := h
    unfold RpL at h'
    obtain ⟨v, us, rfl, hv, hu⟩ := h'
    obtain ⟨ps, ws, e1, e2, e3, e4⟩ := rp_pairsK (Nat.succ.inj hl) hu
    subst e1
    unfold Rp at hv
    obtain ⟨p, xs, rfl, h1, h2⟩ := hv
    unfold RpL at h2
    obtain ⟨v1, us1, rfl, hv1, h2⟩ := h2
    unfold RpL at h2
    obtain ⟨v2, us2, rfl, hv2, h2⟩ := h2
    unfold RpL at h2
    subst h2
    unfold Rp at hv1
    subst hv1
    exact ⟨p :: ps, v2 :: ws, rfl, RpL.cons hv2 e2, by rw [List.length_cons, List.length_cons, e3], .cons h1 e4⟩
/-- dict([(n, d), ..]) of texts, all unlike -/
theorem wc_dictPK {ns : List Str} {ds : List D} {Q : QD} (hn : ns.Nodup) (hl : ns.length = ds.length) (q : ∀ a, m.own a = none → Q (.s (.ref a)) { m with own := putM m.own a (.dK (ns.map Sum.inr) ds) }) :
    WC K F B (rDictPK K) [.lst ((ns.zip ds).map fun z => .tup [.s (.str z.1), z.2])] m Q := fun Hb H vs R hB r hx k => by
  obtain ⟨v, rfl, hv⟩ := rpL1 hx
  unfold Rp at hv
  obtain ⟨p, ws, rfl, h1, h2⟩ := hv
  obtain ⟨ps, us, e1, e2, e3, e4⟩ := rp_pairsK hl h2
  subst e1
  refine ⟨p, ps, (ns.map Sum.inr).zip us, rfl, SqL.of (r.sub _ _ h1), e4.mono fun p kv h => sameT r.sub h, fun a ha => ?_⟩
  have hk : ((ns.map Sum.inr).zip us).map (·.1) = (ns.map Sum.inr : List Key) := List.map_fst_zip (by rw [List.length_map]; omega)
  rw [mergeK_new _ [] (by rw [hk]; exact List.pairwise_map.mpr (hn.imp fun h z => h (Sum.inr.inj z))) fun p _ z => (nomatch z), List.nil_append]
  exact k _ _ _ _ _ (Same.refl _) (r.owned (mo := .dK (ns.map Sum.inr) ds) ha ⟨us, upd_same, e2, by rw [List.length_map]; exact hl⟩) rp_s (q a (r.free ha))
theorem wc_sortedS {zs : List Str} {Q : QD} (hl : zs.length < 64) (q : ∀ ys : List Str, ys.Perm zs → sortedS ys = true → Q (.lst (ys.map fun y => .s (.str y))) m) : WC K F B (L2.rSortedS K) [.lst (zs.map fun y => .s (.str y))] m Q := fun Hb H vs R hB r hx k => by
  obtain ⟨v, rfl, hv⟩ := rpL1 hx
  unfold Rp at hv
  obtain ⟨p, us, rfl, h1, h2⟩ := hv
  have e := RpL.scal (vs := zs.map V.str) (by rw [List.map_map]; exact h2)
  subst e
  refine ⟨p, zs, rfl, SqL.of (r.sub _ _ h1), hl, fun ys a hp hs ha => ?_⟩
  refine k _ _ _ (.lst (ys.map fun y => .s (.str y))) _ (Same.new (r.fresh ha)) (r.data ha) ?_ (q ys hp hs)
  unfold Rp
  refine ⟨a, ys.map V.str, rfl, upd_same, ?_⟩
  have := RpL.ofScal (K := K) (H := upd Hb a (.lst (ys.map V.str))) (ys.map V.str)
  rw [List.map_map] at this
  exact this
/-- a comprehension with two clauses whose list is owned from then on -/
theorem we_lc2O {wi wi1 : TI} {g g1 : TG} {tt tt1 : TT} {te : TE} {vs vs1 : List Nat} {Q : QD} (h : WI K F B wi ρ m fun xs m1 => ∃ I : Nat → List D → Mem → Prop, I 0 [] m1 ∧
      (∀ F' i d acc m', xs[i]? = some d → I i acc m' → WGw K F' B g vs d ρ m' fun ρ2 m2 => WT K F' B tt ρ2 m2 fun b m3 => (b = false → I (i + 1) acc m3) ∧
        (b = true → WI K F' B wi1 ρ2 m3 fun ys m4 => ∃ J : Nat → List D → Mem → Prop, J 0 acc m4 ∧
          (∀ F'' j e acc2 m5, ys[j]? = some e → J j acc2 m5 → WGw K F'' B g1 vs1 e ρ2 m5 fun ρ3 m6 => WT K F'' B tt1 ρ3 m6 fun b m7 =>
            (b = true → WE K F'' B te ρ3 m7 fun y m8 => acc2.length < sizeLine ∧ J (j + 1) (acc2 ++ [y]) m8) ∧ (b = false → J (j + 1) acc2 m7)) ∧ (∀ acc2 m5, J ys.length acc2 m5 → I (i + 1) acc2 m5))) ∧
      (∀ acc m' A, m'.own A = none → I xs.length acc m' → Q (.s (.ref A)) { m' with own := putM m'.own A (.lst acc) })) :
    WE K F B (L2.tLc2 wi g tt wi1 g1 tt1 te vs vs1) ρ m Q := fun Hb H σ R hB r hs k =>
  h Hb H σ _ hB r hs fun J H1 Hb1 xs m1 e1 r1 hj q1 => by
    obtain ⟨I, h0, ht, hd⟩ := q1
    intro A hA
    have hF : F A = none := r1.nofr hA
    refine ⟨fun i n H' => n = xs.length - i ∧ i ≤ xs.length ∧ ∃ Hb' acc us m', Same Hb1 Hb' ∧ Rel K (upd F A (.lst us)) Hb' H' m' ∧ RpL K Hb' acc us ∧ I i acc m', ⟨xs.length, by simp, Nat.zero_le _, Hb1, [], [], m1, Same.refl _, r1.aside hA, RpL.nil, h0⟩, ?_⟩
    rintro i n H' ⟨rfl, hi, Hb', acc, us, m', e', r', ha, hI⟩
    by_cases hlt : i < xs.length
    · obtain ⟨hgo, hy⟩ := (hj i _ Hb' H' m' e' r').2 xs[i] (by simp [hlt])
      refine .inr ⟨hgo, fun H2 => ∃ Hb2 acc2 us2 m2, Same Hb1 Hb2 ∧ Rel K (upd F A (.lst us2)) Hb2 H2 m2 ∧ RpL K Hb2 acc2 us2 ∧ I (i + 1) acc2 m2, fun H2 q2 => ⟨xs.length - (i + 1), by omega, rfl, hlt, q2⟩, fun x H2 y => ?_⟩
      obtain ⟨Hb2, e2, r2, hx⟩ := hy x H2 y
      have eB : Same B Hb2 := (hB.trans e1).trans (e'.trans e2)
      refine ht (upd F A (.lst us)) i xs[i] acc m' (by simp [hlt]) hI Hb2 H2 σ x _ eB r2 (hs.mono ((e1.trans e').trans e2)) hx fun σ3 H3 Hb3 ρ3 m3 e3 r3 hs3 q3 => ?_
      refine q3 Hb3 H3 σ3 _ (eB.trans e3) r3 hs3 fun b H4 Hb4 m4 e4 r4 q4 => ?_
      have e14 : Same Hb1 Hb4 := ((e'.trans e2).trans e3).trans e4
      cases b with
      | false => exact iteF ⟨Hb4, acc, us, m4, e14, r4, ha.mono ((e2.trans e3).trans e4), q4.1 rfl⟩
      | true =>
        refine iteT (q4.2 rfl Hb4 H4 σ3 _ ((eB.trans e3).trans e4) r4 (hs3.mono e4) fun J1 H5 Hb5 ys m5 e5 r5 hj1 q5 => ?_)
        obtain ⟨I1, g0, gt, gd⟩ := q5
        have ha5 : RpL K Hb5 acc us := ha.mono (((e2.trans e3).trans e4).trans e5)
        have e15 : Same Hb1 Hb5 := e14.trans e5
        have eB5 : Same B Hb5 := (hB.trans e1).trans e15
        have hs5 : RpS K Hb5 ρ3 σ3 := hs3.mono (e4.trans e5)
        refine ⟨fun j k H' => k = ys.length - j ∧ j ≤ ys.length ∧ ∃ Hb' acc2 us2 m', Same Hb5 Hb' ∧ Rel K (upd F A (.lst us2)) Hb' H' m' ∧ RpL K Hb' acc2 us2 ∧ I1 j acc2 m', ⟨ys.length, by simp, Nat.zero_le _, Hb5, acc, us, m5, Same.refl _, r5, ha5, g0⟩, ?_⟩
        rintro j kk H6 ⟨rfl, hjl, Hb6, acc6, us6, m6, e6, r6, ha6, hI6⟩
        by_cases hlt2 : j < ys.length
        · obtain ⟨hgo1, hy1⟩ := (hj1 j _ Hb6 H6 m6 e6 r6).2 ys[j] (by simp [hlt2])
          refine .inr ⟨hgo1, fun H7 => ∃ Hb7 acc7 us7 m7, Same Hb5 Hb7 ∧ Rel K (upd F A (.lst us7)) Hb7 H7 m7 ∧ RpL K Hb7 acc7 us7 ∧ I1 (j + 1) acc7 m7, fun H7 q7 => ⟨ys.length - (j + 1), by omega, rfl, hlt2, q7⟩, fun x7 H7 y7 => ?_⟩
          obtain ⟨Hb7, e7, r7, hx7⟩ := hy1 x7 H7 y7
          have eB7 : Same B Hb7 := eB5.trans (e6.trans e7)
          refine gt (upd F A (.lst us6)) j ys[j] acc6 m6 (by simp [hlt2]) hI6 Hb7 H7 σ3 x7 _ eB7 r7 (hs5.mono (e6.trans e7)) hx7 fun σ8 H8 Hb8 ρ8 m8 e8 r8 hs8 q8 => ?_
          refine q8 Hb8 H8 σ8 _ (eB7.trans e8) r8 hs8 fun b H9 Hb9 m9 e9 r9 q9 => ?_
          have e59 : Same Hb5 Hb9 := ((e6.trans e7).trans e8).trans e9
          have ha9 : RpL K Hb9 acc6 us6 := ha6.mono ((e7.trans e8).trans e9)
          cases b with
          | false => exact iteF ⟨Hb9, acc6, us6, m9, e59, r9, ha9, q9.2 rfl⟩
          | true =>
            refine iteT (q9.1 rfl Hb9 H9 σ8 _ ((eB7.trans e8).trans e9) r9 (hs8.mono e9) fun v H10 Hb10 y10 m10 e10 r10 hy10 q10 => ?_)
            have hD := (r10.fr A _ upd_same).1
            have ha10 : RpL K Hb10 acc6 us6 := ha9.mono e10
            exact ⟨us6, hD, by rw [ha10.length]; exact q10.1, Hb10, acc6 ++ [y10], us6 ++ [v], m10, e59.trans e10, r10.turnA, ha10.app (RpL.cons hy10 RpL.nil), q10.2⟩
        · have e : j = ys.length := by omega
          subst e
          exact .inl ⟨(hj1 _ _ Hb6 H6 m6 e6 r6).1 (Nat.le_refl _), Hb6, acc6, us6, m6, e15.trans e6, r6, ha6, gd _ _ hI6⟩
    · have e : i = xs.length := by omega
      subst e
      have z := r'.fr A _ upd_same
      exact .inl ⟨(hj _ _ Hb' H' m' e' r').1 (Nat.le_refl _), k _ _ _ _ _ (e1.trans e') (r'.take hF (mo := .lst acc) ⟨us, z.1, ha⟩) rp_s (hd _ _ A z.2.2 hI)⟩
/-- x in range(i, j) -/
theorem we_inRng {te : TE} {i j : Int} {Q : QD} (h : WE K F B te ρ m fun x m1 => ∃ n : Int, x = .s (.int n) ∧ Q (.s (.bl (decide (i ≤ n ∧ n < j)))) m1) : WE K F B (tOp rInRng te (tCB rRange2 (tCons (tC (.int i)) (tCons (tC (.int j)) tNil)))) ρ m Q := fun Hb H σ R hB r hs k =>
  h Hb H σ _ hB r hs fun v H1 Hb1 x m1 e1 r1 hx q1 => by
    obtain ⟨n, rfl, q⟩ := q1
    unfold Rp at hx
    subst hx
    refine ⟨i, j, rfl, fun p hp => ?_⟩
    refine ⟨n, p, i, j, rfl, rfl, upd_same, ?_⟩
    exact k _ _ _ _ _ (e1.trans (Same.new (r1.fresh hp))) (r1.data hp) rp_s q
end
end DD

/-! HZip: a comprehension over zip, of lists or of tuples, while an exception is handled. -/
namespace HH1
open PySem PySem.Spec PyProof.Rows L2 HotX L2H
section
variable {prog : Program} {w : World} {A : Around} {E : Value → Shared → Prop} {s : Shared}
def HotO (x1 : Addr) (h : Heap) : Prop := ∃ (o : Obj) (vs : Array Value), h.get? x1 = some o ∧ o.data = .fields vs ∧ vs[2]? = some .none
theorem nextOf_list_endH {it l x1 : Addr} {i : Nat} {items : Array Value} {Q : Value → Shared → Prop} (hot : HotAt A x1 s.heap) (hne : x1 ≠ it)
    (hit : s.heap.IsListIter it l i) (hl : s.heap.IsList l items) (hx : items[i]? = none)
    (hE : ∀ h' e, Heap.ExtBut it s.heap h' → (∃ o, h'.get? e = some o ∧ o.cls = .type "StopIteration") → E (.ref e) { s with heap := h' }) :
    wpAny (model prog w) A (Builtin.SmallTypes.nextOf (.ref it)) Q E s := by
  obtain ⟨hh, o1, vs1, h1, d1, c1⟩ := hot
  obtain ⟨o, ho, hc, hd⟩ := id hit
  obtain ⟨ol, hol, _, nl, hdl⟩ := hl
  unfold Builtin.SmallTypes.nextOf
  refine wpAny_bind (wpAny_callSpecial?_slot (name := Str.ofString "__next__") hit.typeIs slot_listiter_next
    (wpAny_call_entry slot_listiter_next hit.typeIs entry_listiter_next ?_ (args_listiter_next _)))
  show wpAny _ _ (field (.ref it) 0 >>= _) _ _ s
  refine wpAny_bind (wpAny_field ho hd (x := .ref l) rfl ?_)
  show wpAny _ _ (if (Value.ref l == Value.none) = true then _ else _) _ _ s
  rw [if_neg (show ¬ ((Value.ref l == Value.none) = true) from Bool.false_ne_true)]
  show wpAny _ _ (field (.ref it) 1 >>= _) _ _ s
  refine wpAny_bind (wpAny_field ho hd (x := .int i 0) rfl ?_)
  show wpAny _ _ (seqItems? (.ref l) >>= _) _ _ s
  refine wpAny_bind (wpAny_seqItems hol hdl ?_)
  simp only [Int.toNat_natCast, hx]
  refine wpAny_bind (wpAny_rule (wpAny_bind (wpAny_setField ho hd (by simp) ?_)))
  show wpAny _ _ (newExc (.type "StopIteration") [] >>= _) _ _ _
  refine wpAny_bind ?_
  simp only [newExc, newTuple]
  refine wpAny_bind (wpAny_newObj_type ?_ (by size_fits))
  refine wpAny_bind (m := firstArgMember _ _) (wpAny_of_eq (a := Value.none) (by first | rfl | (simp only [firstArgMember]; rfl)) ?_)
  refine wpAny_newObj_type ?_ (by size_fits)
  refine raiseNew_hot ⟨hh, o1, vs1, Heap.get?_push_of_some _ (Heap.get?_push_of_some _ ((Heap.get?_update_other _ _ hne.symm).trans h1)), d1, c1⟩ (Nat.ne_of_lt (Heap.lt_size (Heap.get?_push_of_some _ ((Heap.get?_update_other _ _ hne.symm).trans h1)))) (Heap.get?_push_size _ rfl) rfl (by first | (simp; done) | (simp; omega) | (simp only [Array.size_append]; simp; omega)) ?_
  refine hE _ _ (fun b u hb e => ?_) ⟨_, Heap.get?_update_self _ (Heap.get?_push_size _ rfl) rfl, rfl⟩
  rw [Heap.get?_update_other _ _ (Nat.ne_of_gt (Heap.lt_size (Heap.get?_push_of_some _ ((Heap.get?_update_other _ _ hb.symm).trans e))))]
  exact Heap.get?_push_of_some _ (Heap.get?_push_of_some _ ((Heap.get?_update_other _ _ hb.symm).trans e))
theorem list_drawsH {it l x1 : Addr} {i : Nat} {xs : Array Value} (hot : HotAt A x1 s.heap) (hne : x1 ≠ it) (hln : l ≠ it) (hit : s.heap.IsListIter it l i) (hl : s.heap.IsList l xs) :
    ∃ (n : Nat) (St : Nat → Heap → Prop), Draws prog w A.in1 it [it, l, x1] n (fun _ _ => True) St ∧ St i s.heap ∧ i ≤ n ∧ (xs[i]? = none → i = n) := by
  have hh : A.in1.handled = some (.ref x1) := hot.1
  have frame : ∀ (j : Nat) (h h' : Heap), (h.IsListIter it l j ∧ h.IsList l xs ∧ HotO x1 h) → (∀ b ∈ [it, l, x1], ∀ o, h.get? b = some o → h'.get? b = some o) → h'.IsListIter it l j ∧ h'.IsList l xs ∧ HotO x1 h' := fun j h h' st k => by
    obtain ⟨a, b, o, vs, c1, c2, c3⟩ := st
    exact ⟨a.at fun o e => k it (by simp) o e, b.at fun o e => k l (by simp) o e, o, vs, k x1 (by simp) o c1, c2, c3⟩
  by_cases hx : i < xs.size
  · refine ⟨xs.size, fun j h => h.IsListIter it l j ∧ h.IsList l xs ∧ HotO x1 h, ⟨fun j h st => ?_, frame, fun j s Q E hj st hQ => ?_, fun s Q E st hE => ?_⟩, ⟨hit, hl, hot.2⟩, Nat.le_of_lt hx, fun z => ?_⟩
    · obtain ⟨o, e, _⟩ := st.1
      exact ⟨o, e⟩
    · obtain ⟨a, b, o, vs, c1, c2, c3⟩ := st
      refine wpAny_nextOf_list_item a b (x := xs[j]) (by simp [hj]) fun h' a' sb => ?_
      exact hQ _ h' s.toks trivial ⟨a', b.at fun o e => sb.extBut _ _ hln e, o, vs, sb.extBut _ _ hne c1, c2, c3⟩ sb
    · exact nextOf_list_endH ⟨hh, st.2.2⟩ hne st.1 st.2.1 (by simp) hE
    · simp at z
      omega
  · refine ⟨i, fun j h => j = i ∧ (h.IsListIter it l j ∧ h.IsList l xs ∧ HotO x1 h), ⟨fun j h st => ?_, fun j h h' st k => ⟨st.1, frame j h h' st.2 k⟩, fun j s Q E hj st hQ => absurd st.1 (Nat.ne_of_lt hj), fun s Q E st hE => ?_⟩, ⟨rfl, hit, hl, hot.2⟩, Nat.le_refl _, fun _ => rfl⟩
    · obtain ⟨o, e, _⟩ := st.2.1
      exact ⟨o, e⟩
    · exact nextOf_list_endH ⟨hh, st.2.2.2⟩ hne st.2.1 st.2.2.1 (by simp; omega) hE
theorem zip_list_endH {z TI TO i1 i2 l1 l2 x1 : Addr} {k : Nat} {xs ys : Array Value} {a b : Value} {Q : Option Value → Shared → Prop} (hot : HotAt A x1 s.heap) (D : ZipApart z TI TO i1 i2 l1 l2) (nz : x1 ≠ z) (nT : x1 ≠ TO) (n1 : x1 ≠ i1) (n2 : x1 ≠ i2)
    (hz : IsZip s.heap z TI TO .none) (hTI : IsPair s.heap TI (.ref i1) (.ref i2)) (hTO : IsPair s.heap TO a b)
    (h1 : s.heap.IsListIter i1 l1 k) (h2 : s.heap.IsListIter i2 l2 k) (hl1 : s.heap.IsList l1 xs) (hl2 : s.heap.IsList l2 ys) (hend : xs[k]? = none ∨ ys[k]? = none)
    (hQ : ∀ h' tk, (∀ c o, c ≠ z → c ≠ TO → c ≠ i1 → c ≠ i2 → s.heap.get? c = some o → h'.get? c = some o) → Q none { s with heap := h', toks := tk }) : wpAny (model prog w) A (pyNext (.ref z)) Q E s := by
  obtain ⟨m1, St1, D1, s1, le1, e1⟩ := list_drawsH (prog := prog) (w := w) hot n1 D.l1i1 h1 hl1
  obtain ⟨m2, St2, D2, s2, le2, e2⟩ := list_drawsH (prog := prog) (w := w) hot n2 D.l2i2 h2 hl2
  have S : ZipSep2 z TI TO i1 i2 [i1, l1, x1] [i2, l2, x1] := ⟨D.TIz, D.TOz, D.TITO, D.TIi1, by simp, by simp [D.i1z.symm, D.l1z.symm, nz.symm], by simp [D.TOi1, D.l1TO.symm, nT.symm], D.TIi2, by simp, by simp [D.i2z.symm, D.l2z.symm, nz.symm], by simp [D.TOi2, D.l2TO.symm, nT.symm], by simp [D.i12, D.l2i1.symm, n1.symm], by simp [D.i12.symm, D.l1i2.symm, n2.symm]⟩
  exact wpAny_pyNext_zipD2_end S D1 D2 hz hTI hTO s1 s2 le1 le2 (hend.imp e1 e2) hQ
theorem nextOf_tuple_endH {it l x1 : Addr} {i : Nat} {items : Array Value} {Q : Value → Shared → Prop} (hot : HotAt A x1 s.heap) (hne : x1 ≠ it)
    (hit : s.heap.IsTupleIter it l i) (hl : s.heap.IsTuple l items) (hx : items[i]? = none)
    (hE : ∀ h' e, Heap.ExtBut it s.heap h' → (∃ o, h'.get? e = some o ∧ o.cls = .type "StopIteration") → E (.ref e) { s with heap := h' }) :
    wpAny (model prog w) A (Builtin.SmallTypes.nextOf (.ref it)) Q E s := by
  obtain ⟨hh, o1, vs1, h1, d1, c1⟩ := hot
  obtain ⟨o, ho, hc, hd⟩ := id hit
  obtain ⟨ol, hol, _, nl, hdl⟩ := hl
  unfold Builtin.SmallTypes.nextOf
  refine wpAny_bind (wpAny_callSpecial?_slot (name := Str.ofString "__next__") hit.typeIs F.slot_tuple_iterator_next
    (wpAny_call_entry F.slot_tuple_iterator_next hit.typeIs F.entry_tuple_iterator_next ?_ (F.args_tuple_iterator_next_1 _)))
  show wpAny _ _ (field (.ref it) 0 >>= _) _ _ s
  refine wpAny_bind (wpAny_field ho hd (x := .ref l) rfl ?_)
  show wpAny _ _ (if (Value.ref l == Value.none) = true then _ else _) _ _ s
  rw [if_neg (show ¬ ((Value.ref l == Value.none) = true) from Bool.false_ne_true)]
  show wpAny _ _ (field (.ref it) 1 >>= _) _ _ s
  refine wpAny_bind (wpAny_field ho hd (x := .int i 0) rfl ?_)
  show wpAny _ _ (seqItems? (.ref l) >>= _) _ _ s
  refine wpAny_bind (wpAny_seqItems hol hdl ?_)
  simp only [Int.toNat_natCast, hx]
  refine wpAny_bind (wpAny_rule (wpAny_bind (wpAny_setField ho hd (by simp) ?_)))
  show wpAny _ _ (newExc (.type "StopIteration") [] >>= _) _ _ _
  refine wpAny_bind ?_
  simp only [newExc, newTuple]
  refine wpAny_bind (wpAny_newObj_type ?_ (by size_fits))
  refine wpAny_bind (m := firstArgMember _ _) (wpAny_of_eq (a := Value.none) (by first | rfl | (simp only [firstArgMember]; rfl)) ?_)
  refine wpAny_newObj_type ?_ (by size_fits)
  refine raiseNew_hot ⟨hh, o1, vs1, Heap.get?_push_of_some _ (Heap.get?_push_of_some _ ((Heap.get?_update_other _ _ hne.symm).trans h1)), d1, c1⟩ (Nat.ne_of_lt (Heap.lt_size (Heap.get?_push_of_some _ ((Heap.get?_update_other _ _ hne.symm).trans h1)))) (Heap.get?_push_size _ rfl) rfl (by first | (simp; done) | (simp; omega) | (simp only [Array.size_append]; simp; omega)) ?_
  refine hE _ _ (fun b u hb e => ?_) ⟨_, Heap.get?_update_self _ (Heap.get?_push_size _ rfl) rfl, rfl⟩
  rw [Heap.get?_update_other _ _ (Nat.ne_of_gt (Heap.lt_size (Heap.get?_push_of_some _ ((Heap.get?_update_other _ _ hb.symm).trans e))))]
  exact Heap.get?_push_of_some _ (Heap.get?_push_of_some _ ((Heap.get?_update_other _ _ hb.symm).trans e))
theorem tuple_drawsH {it l x1 : Addr} {i : Nat} {xs : Array Value} (hot : HotAt A x1 s.heap) (hne : x1 ≠ it) (hln : l ≠ it) (hit : s.heap.IsTupleIter it l i) (hl : s.heap.IsTuple l xs) :
    ∃ (n : Nat) (St : Nat → Heap → Prop), Draws prog w A.in1 it [it, l, x1] n (fun _ _ => True) St ∧ St i s.heap ∧ i ≤ n ∧ (xs[i]? = none → i = n) := by
  have hh : A.in1.handled = some (.ref x1) := hot.1
  have frame : ∀ (j : Nat) (h h' : Heap), (h.IsTupleIter it l j ∧ h.IsTuple l xs ∧ HotO x1 h) → (∀ b ∈ [it, l, x1], ∀ o, h.get? b = some o → h'.get? b = some o) → h'.IsTupleIter it l j ∧ h'.IsTuple l xs ∧ HotO x1 h' := fun j h h' st k => by
    obtain ⟨a, b, o, vs, c1, c2, c3⟩ := st
    exact ⟨a.at fun o e => k it (by simp) o e, b.at fun o e => k l (by simp) o e, o, vs, k x1 (by simp) o c1, c2, c3⟩
  by_cases hx : i < xs.size
  · refine ⟨xs.size, fun j h => h.IsTupleIter it l j ∧ h.IsTuple l xs ∧ HotO x1 h, ⟨fun j h st => ?_, frame, fun j s Q E hj st hQ => ?_, fun s Q E st hE => ?_⟩, ⟨hit, hl, hot.2⟩, Nat.le_of_lt hx, fun z => ?_⟩
    · obtain ⟨o, e, _⟩ := st.1
      exact ⟨o, e⟩
    · obtain ⟨a, b, o, vs, c1, c2, c3⟩ := st
      refine RZ.nextOf_tuple_item a b (x := xs[j]) (by simp [hj]) fun h' a' sb => ?_
      exact hQ _ h' s.toks trivial ⟨a', b.at fun o e => sb.extBut _ _ hln e, o, vs, sb.extBut _ _ hne c1, c2, c3⟩ sb
    · exact nextOf_tuple_endH ⟨hh, st.2.2⟩ hne st.1 st.2.1 (by simp) hE
    · simp at z
      omega
  · refine ⟨i, fun j h => j = i ∧ (h.IsTupleIter it l j ∧ h.IsTuple l xs ∧ HotO x1 h), ⟨fun j h st => ?_, fun j h h' st k => ⟨st.1, frame j h h' st.2 k⟩, fun j s Q E hj st hQ => absurd st.1 (Nat.ne_of_lt hj), fun s Q E st hE => ?_⟩, ⟨rfl, hit, hl, hot.2⟩, Nat.le_refl _, fun _ => rfl⟩
    · obtain ⟨o, e, _⟩ := st.2.1
      exact ⟨o, e⟩
    · exact nextOf_tuple_endH ⟨hh, st.2.2.2⟩ hne st.2.1 st.2.2.1 (by simp; omega) hE
theorem zip_tuple_endH {z TI TO i1 i2 l1 l2 x1 : Addr} {k : Nat} {xs ys : Array Value} {a b : Value} {Q : Option Value → Shared → Prop} (hot : HotAt A x1 s.heap) (D : ZipApart z TI TO i1 i2 l1 l2) (nz : x1 ≠ z) (nT : x1 ≠ TO) (n1 : x1 ≠ i1) (n2 : x1 ≠ i2)
    (hz : IsZip s.heap z TI TO .none) (hTI : IsPair s.heap TI (.ref i1) (.ref i2)) (hTO : IsPair s.heap TO a b)
    (h1 : s.heap.IsTupleIter i1 l1 k) (h2 : s.heap.IsTupleIter i2 l2 k) (hl1 : s.heap.IsTuple l1 xs) (hl2 : s.heap.IsTuple l2 ys) (hend : xs[k]? = none ∨ ys[k]? = none)
    (hQ : ∀ h' tk, (∀ c o, c ≠ z → c ≠ TO → c ≠ i1 → c ≠ i2 → s.heap.get? c = some o → h'.get? c = some o) → Q none { s with heap := h', toks := tk }) : wpAny (model prog w) A (pyNext (.ref z)) Q E s := by
  obtain ⟨m1, St1, D1, s1, le1, e1⟩ := tuple_drawsH (prog := prog) (w := w) hot n1 D.l1i1 h1 hl1
  obtain ⟨m2, St2, D2, s2, le2, e2⟩ := tuple_drawsH (prog := prog) (w := w) hot n2 D.l2i2 h2 hl2
  have S : ZipSep2 z TI TO i1 i2 [i1, l1, x1] [i2, l2, x1] := ⟨D.TIz, D.TOz, D.TITO, D.TIi1, by simp, by simp [D.i1z.symm, D.l1z.symm, nz.symm], by simp [D.TOi1, D.l1TO.symm, nT.symm], D.TIi2, by simp, by simp [D.i2z.symm, D.l2z.symm, nz.symm], by simp [D.TOi2, D.l2TO.symm, nT.symm], by simp [D.i12, D.l2i1.symm, n1.symm], by simp [D.i12.symm, D.l1i2.symm, n2.symm]⟩
  exact wpAny_pyNext_zipD2_end S D1 D2 hz hTI hTO s1 s2 le1 le2 (hend.imp e1 e2) hQ
end
section
theorem turn_ziplistH {P : Program} {w : World} {K : PySem.W.Frag} {elts : List Expr} {kk : Nat} {tpos : Pos} {a b z TI TO i1 i2 : Addr} (D : ZipApart z TI TO i1 i2 a b) :
    TurnH P w K (.Tuple elts kk tpos) (Itz K a b) [z, TI, TO, i1, i2] z (fun i h => IsZip h z TI TO .none ∧ IsPair h TI (.ref i1) (.ref i2) ∧ (∃ x y, IsPair h TO x y) ∧ h.IsListIter i1 a i ∧ h.IsListIter i2 b i) where
  mem := by simp
  obj := fun i h st c hc => by
    obtain ⟨hz, hTI, ⟨x, y, hTO⟩, ⟨o1, e1, _, d1⟩, ⟨o2, e2, _, d2⟩⟩ := st
    have e' : c = z ∨ c = TI ∨ c = TO ∨ c = i1 ∨ c = i2 := by simpa using hc
    rcases e' with q | q | q | q | q
    · rw [q]; exact ⟨_, hz, fun v q => nomatch q⟩
    · rw [q]; exact ⟨_, hTI, fun v q => nomatch q⟩
    · rw [q]; exact ⟨_, hTO, fun v q => nomatch q⟩
    · rw [q]; exact ⟨o1, e1, fun v q => by rw [d1] at q; cases q⟩
    · rw [q]; exact ⟨o2, e2, fun v q => by rw [d2] at q; cases q⟩
  keep := fun i h h' st k => by
    obtain ⟨hz, hTI, ⟨x, y, hTO⟩, h1, h2⟩ := st
    exact ⟨k z (by simp) _ hz, k TI (by simp) _ hTI, ⟨x, y, k TO (by simp) _ hTO⟩, h1.at fun o q => k i1 (by simp) o q, h2.at fun o q => k i2 (by simp) o q⟩
  item := by
    intro X hP hw hK hc i pins s σ H E I hf st hg
    subst hP hw hK
    obtain ⟨hz, hTI, ⟨x0, y0, hTO⟩, h1, h2⟩ := st
    obtain ⟨xs, ys, x, y, hqx, hqy, hx, hy⟩ := hg
    obtain ⟨its, rv, p, _⟩ := I.list hqx
    obtain ⟨its2, rv2, p2, _⟩ := I.list hqy
    obtain ⟨u, hu, ru⟩ := rv.get hx
    obtain ⟨u2, hu2, ru2⟩ := rv2.get hy
    have hzl : z < s.heap.objs.size := Heap.lt_size hz
    refine wpAny_pyNext_zip_item D hz hTI hTO h1 h2 p.isList p2.isList (x := u) (y := u2) (by simpa using hu) (by simpa using hu2) fun h' z' TO' h1' h2' hT hsz hk => ?_
    refine ⟨_, rfl, wpAny_letOwnedTupleGo_zip (s := { s with heap := h' }) z' fun h'' z'' sb => ?_⟩
    have hT2 : h''.get? s.heap.objs.size = some { cls := .type "tuple", data := .seq #[u, u2] } := (sb.2 _ (Nat.ne_of_gt hzl)).trans hT
    have new : ObjOk X.prog X.w (upd H s.heap.objs.size (.tup [x, y])) h'' s.heap.objs.size (.tup [x, y]) :=
      ⟨by show 2 ≤ sizeLine; decide, [u, u2], .cons ru (.cons ru2 .nil), ⟨_, hT2, rfl, _, rfl⟩⟩
    have I1 : Inv X pins σ (upd H s.heap.objs.size (.tup [x, y])) { s with heap := h'' } :=
      I.turnedNew (t' := s.toks) (ch := [z, TI, TO, i1, i2]) (fun c o hb q => (sb.2 c (fun q' => hb (by simp [q']))).trans (hk c o (fun q' => hb (by simp [q'])) (fun q' => hb (by simp [q'])) (fun q' => hb (by simp [q'])) (fun q' => hb (by simp [q'])) q)) hf (Nat.le_refl _) new
    refine ⟨.ref s.heap.objs.size, _, I1, rfl, ⟨_, x, y, rfl, I.hok.fresh (Nat.le_refl _), rfl, fun l hl => by rw [I.list_inj hl hqx]; exact hx, fun l hl => by rw [I.list_inj hl hqy]; exact hy⟩, ⟨z'', ?_, ⟨u, u2, ?_⟩, ?_, ?_⟩, fun c hcm => ?_⟩
    · exact (sb.2 _ D.TIz).trans (hk _ _ D.TIz D.TITO D.TIi1 D.TIi2 hTI)
    · exact (sb.2 _ D.TOz).trans TO'
    · exact h1'.at fun o q => (sb.2 _ D.i1z).trans q
    · exact h2'.at fun o q => (sb.2 _ D.i2z).trans q
    · have hlt : c < s.heap.objs.size := by
        have e' : c = z ∨ c = TI ∨ c = TO ∨ c = i1 ∨ c = i2 := by simpa using hcm
        rcases e' with q | q | q | q | q
        · rw [q]; exact hzl
        · rw [q]; exact Heap.lt_size hTI
        · rw [q]; exact Heap.lt_size hTO
        · rw [q]; obtain ⟨_, e1, _⟩ := h1; exact Heap.lt_size e1
        · rw [q]; obtain ⟨_, e2, _⟩ := h2; exact Heap.lt_size e2
      rw [upd_ne (Nat.ne_of_lt hlt)]
      exact (hf c hcm).1
  done := by
    intro X hP hw hK hc i pins s σ H E I hf st hg
    subst hP hw hK
    obtain ⟨hz, hTI, ⟨x0, y0, hTO⟩, h1, h2⟩ := st
    obtain ⟨xs, ys, hqx, hqy, hend⟩ := hg
    obtain ⟨its, rv, p, _⟩ := I.list hqx
    obtain ⟨its2, rv2, p2, _⟩ := I.list hqy
    have l1 := rv.length
    have l2 := rv2.length
    have he : its.toArray[i]? = none ∨ its2.toArray[i]? = none := by
      rcases hend with q | q
      · exact .inl (by simp; omega)
      · exact .inr (by simp; omega)
    obtain ⟨q, hq1, hq2⟩ := hc
    obtain ⟨hh, v1, e1, c1⟩ := hq1
    have hot : HotAt X.A q.1 s.heap := ⟨hh, q.2, v1, (I.pin q (List.mem_append_left _ hq2)).1, e1, c1⟩
    have ne : ∀ c, c ∈ [z, TI, TO, i1, i2] → q.1 ≠ c := fun c hcm => by
      obtain ⟨f0, f1, f2, f3, f4, f5⟩ := hf c hcm
      exact f5 q (List.mem_append_left _ hq2)
    exact zip_list_endH hot D (ne z (by simp)) (ne TO (by simp)) (ne i1 (by simp)) (ne i2 (by simp)) hz hTI hTO h1 h2 p.isList p2.isList he fun h' tk hk => ⟨rfl, I.turnedL (t' := tk) (ch := [z, TI, TO, i1, i2]) (fun c o hb q =>
      hk c o (fun q' => hb (by simp [q'])) (fun q' => hb (by simp [q'])) (fun q' => hb (by simp [q'])) (fun q' => hb (by simp [q'])) q) hf⟩
  self := fun A i s Q E st h => wpAny_pyIter_zip st.1 h
theorem turn_ziptupleH {P : Program} {w : World} {K : PySem.W.Frag} {elts : List Expr} {kk : Nat} {tpos : Pos} {a b z TI TO i1 i2 : Addr} (D : ZipApart z TI TO i1 i2 a b) :
    TurnH P w K (.Tuple elts kk tpos) (RZ.ItzT K a b) [z, TI, TO, i1, i2] z (fun i h => IsZip h z TI TO .none ∧ IsPair h TI (.ref i1) (.ref i2) ∧ (∃ x y, IsPair h TO x y) ∧ h.IsTupleIter i1 a i ∧ h.IsTupleIter i2 b i) where
  mem := by simp
  obj := fun i h st c hc => by
    obtain ⟨hz, hTI, ⟨x, y, hTO⟩, ⟨o1, e1, _, d1⟩, ⟨o2, e2, _, d2⟩⟩ := st
    have e' : c = z ∨ c = TI ∨ c = TO ∨ c = i1 ∨ c = i2 := by simpa using hc
    rcases e' with q | q | q | q | q
    · rw [q]; exact ⟨_, hz, fun v q => nomatch q⟩
    · rw [q]; exact ⟨_, hTI, fun v q => nomatch q⟩
    · rw [q]; exact ⟨_, hTO, fun v q => nomatch q⟩
    · rw [q]; exact ⟨o1, e1, fun v q => by rw [d1] at q; cases q⟩
    · rw [q]; exact ⟨o2, e2, fun v q => by rw [d2] at q; cases q⟩
  keep := fun i h h' st k => by
    obtain ⟨hz, hTI, ⟨x, y, hTO⟩, h1, h2⟩ := st
    exact ⟨k z (by simp) _ hz, k TI (by simp) _ hTI, ⟨x, y, k TO (by simp) _ hTO⟩, h1.at fun o q => k i1 (by simp) o q, h2.at fun o q => k i2 (by simp) o q⟩
  item := by
    intro X hP hw hK hc i pins s σ H E I hf st hg
    subst hP hw hK
    obtain ⟨hz, hTI, ⟨x0, y0, hTO⟩, h1, h2⟩ := st
    obtain ⟨xs, ys, x, y, hqx, hqy, hx, hy⟩ := hg
    obtain ⟨its, rv, p, _⟩ := I.tuple hqx
    obtain ⟨its2, rv2, p2, _⟩ := I.tuple hqy
    obtain ⟨u, hu, ru⟩ := rv.get hx
    obtain ⟨u2, hu2, ru2⟩ := rv2.get hy
    have hzl : z < s.heap.objs.size := Heap.lt_size hz
    refine RZ.pyNext_zipT_item D hz hTI hTO h1 h2 (show s.heap.IsTuple a its.toArray from p) (show s.heap.IsTuple b its2.toArray from p2) (x := u) (y := u2) (by simpa using hu) (by simpa using hu2) fun h' z' TO' h1' h2' hT hsz hk => ?_
    refine ⟨_, rfl, wpAny_letOwnedTupleGo_zip (s := { s with heap := h' }) z' fun h'' z'' sb => ?_⟩
    have hT2 : h''.get? s.heap.objs.size = some { cls := .type "tuple", data := .seq #[u, u2] } := (sb.2 _ (Nat.ne_of_gt hzl)).trans hT
    have new : ObjOk X.prog X.w (upd H s.heap.objs.size (.tup [x, y])) h'' s.heap.objs.size (.tup [x, y]) :=
      ⟨by show 2 ≤ sizeLine; decide, [u, u2], .cons ru (.cons ru2 .nil), ⟨_, hT2, rfl, _, rfl⟩⟩
    have I1 : Inv X pins σ (upd H s.heap.objs.size (.tup [x, y])) { s with heap := h'' } :=
      I.turnedNew (t' := s.toks) (ch := [z, TI, TO, i1, i2]) (fun c o hb q => (sb.2 c (fun q' => hb (by simp [q']))).trans (hk c o (fun q' => hb (by simp [q'])) (fun q' => hb (by simp [q'])) (fun q' => hb (by simp [q'])) (fun q' => hb (by simp [q'])) q)) hf (Nat.le_refl _) new
    refine ⟨.ref s.heap.objs.size, _, I1, rfl, ⟨_, x, y, rfl, I.hok.fresh (Nat.le_refl _), rfl, fun l hl => by rw [I.tuple_inj hl hqx]; exact hx, fun l hl => by rw [I.tuple_inj hl hqy]; exact hy⟩, ⟨z'', ?_, ⟨u, u2, ?_⟩, ?_, ?_⟩, fun c hcm => ?_⟩
    · exact (sb.2 _ D.TIz).trans (hk _ _ D.TIz D.TITO D.TIi1 D.TIi2 hTI)
    · exact (sb.2 _ D.TOz).trans TO'
    · exact h1'.at fun o q => (sb.2 _ D.i1z).trans q
    · exact h2'.at fun o q => (sb.2 _ D.i2z).trans q
    · have hlt : c < s.heap.objs.size := by
        have e' : c = z ∨ c = TI ∨ c = TO ∨ c = i1 ∨ c = i2 := by simpa using hcm
        rcases e' with q | q | q | q | q
        · rw [q]; exact hzl
        · rw [q]; exact Heap.lt_size hTI
        · rw [q]; exact Heap.lt_size hTO
        · rw [q]; obtain ⟨_, e1, _⟩ := h1; exact Heap.lt_size e1
        · rw [q]; obtain ⟨_, e2, _⟩ := h2; exact Heap.lt_size e2
      rw [upd_ne (Nat.ne_of_lt hlt)]
      exact (hf c hcm).1
  done := by
    intro X hP hw hK hc i pins s σ H E I hf st hg
    subst hP hw hK
    obtain ⟨hz, hTI, ⟨x0, y0, hTO⟩, h1, h2⟩ := st
    obtain ⟨xs, ys, hqx, hqy, hend⟩ := hg
    obtain ⟨its, rv, p, _⟩ := I.tuple hqx
    obtain ⟨its2, rv2, p2, _⟩ := I.tuple hqy
    have l1 := rv.length
    have l2 := rv2.length
    have he : its.toArray[i]? = none ∨ its2.toArray[i]? = none := by
      rcases hend with q | q
      · exact .inl (by simp; omega)
      · exact .inr (by simp; omega)
    obtain ⟨q, hq1, hq2⟩ := hc
    obtain ⟨hh, v1, e1, c1⟩ := hq1
    have hot : HotAt X.A q.1 s.heap := ⟨hh, q.2, v1, (I.pin q (List.mem_append_left _ hq2)).1, e1, c1⟩
    have ne : ∀ c, c ∈ [z, TI, TO, i1, i2] → q.1 ≠ c := fun c hcm => by
      obtain ⟨f0, f1, f2, f3, f4, f5⟩ := hf c hcm
      exact f5 q (List.mem_append_left _ hq2)
    exact zip_tuple_endH hot D (ne z (by simp)) (ne TO (by simp)) (ne i1 (by simp)) (ne i2 (by simp)) hz hTI hTO h1 h2 (show s.heap.IsTuple a its.toArray from p) (show s.heap.IsTuple b its2.toArray from p2) he fun h' tk hk => ⟨rfl, I.turnedL (t' := tk) (ch := [z, TI, TO, i1, i2]) (fun c o hb q =>
      hk c o (fun q' => hb (by simp [q'])) (fun q' => hb (by simp [q'])) (fun q' => hb (by simp [q'])) (fun q' => hb (by simp [q'])) q) hf⟩
  self := fun A i s Q E st h => wpAny_pyIter_zip st.1 h
theorem pi_zipAH {X : Cx} {e e2 : Expr} {ta : TA} {p pos tpos : Pos} {elts : List Expr} {kk : Nat} (hg : Gl X "zip") (hm : X.mg "zip" = none) (ha : PA X [e, e2] ta)
    (hs : starEach [e, e2] X.env = (false, eval e X.env) :: starEach [e2] X.env := by rfl) (hpl : (backTo pos (starEach [e2] X.env)).any (·.1) = false := by rfl) :
    PIH X (.Tuple elts kk tpos) (.Call (.Name "zip" p) [e, e2] [] pos) (RZ.iZipA X.K ta) := by
  refine ⟨fun pins s σ H R I h => ?_⟩
  refine Call_ (ld_blt I hg hm PyProof.Rows.boot_zip (PyProof.Rows.callWith_type1 (thn (ha.run pos pins s σ H _ I h) fun us s1 ⟨vs, H1, I1, r1, q1⟩ => ?_) hs hpl))
  obtain ⟨a, b, xs, ys, ex, q1⟩ := q1
  subst ex
  cases r1 with
  | cons r rr =>
    cases rr with
    | cons r' rr =>
      cases rr
      cases r
      cases r'
      have fresh5 : ∀ c, c ∈ [s1.heap.objs.size + 4, s1.heap.objs.size + 2, s1.heap.objs.size + 3, s1.heap.objs.size, s1.heap.objs.size + 1] → FpOk X pins H1 c := fun c hcm => by
        have hle : s1.heap.objs.size ≤ c := by
          simp only [List.mem_cons, List.not_mem_nil, or_false] at hcm
          rcases hcm with z | z | z | z | z <;> (rw [z]; first | exact Nat.le_add_right _ _ | exact Nat.le_refl _)
        exact I1.fpOk hle (I1.hok.fresh hle)
      rcases q1 with ⟨hqx, hqy, q⟩ | ⟨hqx, hqy, q⟩
      · obtain ⟨its, rv, p1, _⟩ := I1.list hqx
        obtain ⟨its2, rv2, p2, _⟩ := I1.list hqy
        refine call_zip_2 p1.isList p2.isList fun h' hz hTI hTO h1 h2 hsz hk => wpAny_pyIter_zip hz ?_
        have I2 : Inv X pins σ H1 { s1 with heap := h' } := I1.kept (t' := s1.toks) hk
        exact ⟨s1.heap.objs.size + 4, [s1.heap.objs.size + 4, s1.heap.objs.size + 2, s1.heap.objs.size + 3, s1.heap.objs.size, s1.heap.objs.size + 1], _, _, H1, rfl, I2, turn_ziplistH (PySem.W.ktu_apart s1.heap.objs.size a b p1.lt p2.lt), ⟨hz, hTI, ⟨_, _, hTO⟩, h1, h2⟩, fresh5, q⟩
      · obtain ⟨its, rv, p1, _⟩ := I1.tuple hqx
        obtain ⟨its2, rv2, p2, _⟩ := I1.tuple hqy
        obtain ⟨o1, ho1, _⟩ := id p1
        obtain ⟨o2, ho2, _⟩ := id p2
        refine RZ.call_zipT (show s1.heap.IsTuple a its.toArray from p1) (show s1.heap.IsTuple b its2.toArray from p2) fun h' hz hTI hTO h1 h2 hsz hk => wpAny_pyIter_zip hz ?_
        have I2 : Inv X pins σ H1 { s1 with heap := h' } := I1.kept (t' := s1.toks) hk
        exact ⟨s1.heap.objs.size + 4, [s1.heap.objs.size + 4, s1.heap.objs.size + 2, s1.heap.objs.size + 3, s1.heap.objs.size, s1.heap.objs.size + 1], _, _, H1, rfl, I2, turn_ziptupleH (PySem.W.ktu_apart s1.heap.objs.size a b (Heap.lt_size ho1) (Heap.lt_size ho2)), ⟨hz, hTI, ⟨_, _, hTO⟩, h1, h2⟩, fresh5, q⟩
theorem _root_.L2H.RoomH.units {k : Nat} {A : Around} (r : L2H.RoomH k A) : A.units + 64 < cLine := by have := r.un; omega
theorem walks_listH {prog : Program} {w : World} {A : Around} {x1 : Addr} (hh : A.handled = some (.ref x1)) (I ax : Addr) (hne : ax ≠ I) (hn1 : x1 ≠ I) (items : Array Value) :
    Walks prog w A I [I, ax, x1] [I] items.size (fun i v => items[i]? = some v) (fun i h => h.IsListIter I ax i ∧ h.IsList ax items ∧ HotO x1 h) where
  sub := fun b hb => by simp at hb; simp [hb]
  frame := fun _ _ _ st hk => by
    obtain ⟨a, b, o, vs, c1, c2, c3⟩ := st
    exact ⟨a.at fun o e => hk I (by simp) o e, b.at fun o e => hk ax (by simp) o e, o, vs, hk x1 (by simp) o c1, c2, c3⟩
  item := fun i s Q E hi st hQ => by
    obtain ⟨a, b, o, vs, c1, c2, c3⟩ := st
    refine wpAny_pyNext_list_item a b (x := items[i]) (by simp [hi]) fun h' hit' hs' => ?_
    exact hQ _ h' s.toks (by simp [hi]) ⟨hit', b.extBut hs'.extBut hne, o, vs, hs'.extBut _ _ hn1 c1, c2, c3⟩ fun b o hb e => hs'.extBut b o (fun h => hb (by simp [h])) e
  done := fun s Q E st hQ => by
    exact list_end_hot ⟨hh, st.2.2⟩ hn1 st.1 st.2.1 (by simp) fun h' he' => hQ h' s.toks fun b o hb e => he' b o (fun h => hb (by simp [h])) e
  self := fun _ _ _ _ st hQ => wpAny_pyIter_listiter st.1 hQ
theorem cr_allH {X : Cx} (hc : HotC X) : CallR X (.builtin "all") (rAll X.K) := by
  intro pins s σ H vs us Q I r h
  obtain ⟨a, bs, rfl, hs, q⟩ := h
  obtain ⟨its, rv, hl, _⟩ := I.list hs
  rw [Vals.ref1 r]
  have hb := rv.bls
  obtain ⟨x1, hh, o, vs1, e1, d1, c1⟩ := hc.at I
  refine call_all_walk (iter_any hl.isList fun s₂ e2 st hne => ?_)
  subst e2
  refine ⟨_, _, _, _, _, _, _, rfl, walks_listH (A := X.A.in1) (x1 := x1) hh _ a hne (Nat.ne_of_lt (Heap.lt_size e1)) its.toArray, ⟨st.1, st.2, o, vs1, Heap.get?_push_of_some _ e1, d1, c1⟩, truth_bools hb, fun h' tk hk => ?_⟩
  refine ⟨.bl _, H, I.kept fun b o eo => hk b o (fun hmem => ?_) (Heap.get?_push_of_some _ eo), ?_, q⟩
  · rcases List.mem_cons.mp hmem with e1 | hmem
    · exact absurd (e1 ▸ Heap.lt_size eo) (Nat.lt_irrefl _)
    · cases hmem
  · show Value.bool _ = Value.bool _
    rw [← L2.all_range, hb, List.size_toArray, List.length_map]
/-! ### a tuple unpacked -/
theorem unpackItems_tupleH {prog : Program} {w : World} {A : Around} {E : Value → Shared → Prop} {s : Shared} {x1 : Addr} {t : Addr} {items : Array Value} {Q : List Value → Shared → Prop} (hot : HotAt A x1 s.heap) (ht : IsTup s.heap t items)
    (hQ : ∀ h', Heap.ExtBut s.heap.objs.size s.heap h' → Q items.toList { s with heap := h' }) : wpAny (model prog w) A (unpackItems (.ref t) items.size none) Q E s := by
  have hlt : t ≠ s.heap.objs.size := by obtain ⟨o, ho, _⟩ := ht; exact Nat.ne_of_lt (Heap.lt_size ho)
  obtain ⟨hh, o1, vs1, e1, d1, c1⟩ := hot
  have hx1 : x1 ≠ s.heap.objs.size := Nat.ne_of_lt (Heap.lt_size e1)
  unfold unpackItems
  refine wpAny_bind ?_
  · unfold notIterableAtAll
    refine wpAny_bind (wpAny_specialOf ht.typeIs slot_tuple_iter.lookup ?_)
    refine wpAny_pure ?_
    simp only [Bool.false_eq_true, if_false]
    refine wpAny_bind (wpAny_holding (iter_tuple ht ?_))
    refine wpAny_bind (wpAny_holding (draw_tuple hlt items.size 0 _ _ ⟨_, Heap.get?_push_size _ rfl, rfl, rfl⟩ (ht.push _) (by omega) fun h₁ hit₁ hs₁ => ?_))
    have hall : List.take items.size (List.drop 0 items.toList) = items.toList := by
      rw [List.drop_zero]; exact List.take_of_length_le (by simp)
    rw [hall]
    rw [if_neg (by simp)]
    have ht₁ : IsTup h₁ t items := (ht.push _).extBut hs₁.extBut hlt
    refine wpAny_bind (wpAny_holding (tuple_end_hot (x1 := x1) ⟨hh, o1, vs1, hs₁.extBut _ _ hx1 (Heap.get?_push_of_some _ e1), d1, c1⟩ hx1 hit₁ ht₁ (by simp) fun h₂ he₂ => ?_))
    simp only [Option.isSome_none, Bool.false_eq_true, if_false]
    refine wpAny_pure (hQ h₂ fun b o hb e => he₂ b o hb (hs₁.extBut b o hb (Heap.get?_push_of_some _ e)))
theorem pg_tupH {X : Cx} {es : List Expr} {k : Nat} {t : TGs} {n : Nat} {pos : Pos} (hc : HotC X) (h : PGs X es t)
    (hn : (assignEach es X.env).length = n := by rfl) (hst : (assignEach es X.env).findIdx? (·.1) = none := by rfl) : PG X (.Tuple es k pos) (gTup X.K n t) := by
  refine ⟨fun pins s σ H v u Q I r hw => ?_⟩
  obtain ⟨a, xs, e1, hq, hl, hw⟩ := hw
  subst e1
  cases r
  obtain ⟨its, rv, ht, hz⟩ := I.tuple hq
  obtain ⟨x1, hot⟩ := hc.at I
  rw [assign_Tuple]
  refine wpAny_bind (wpAny_standAt ?_)
  unfold unpack
  have hn2 : (assignEach es X.env).length = its.toArray.size := by simp [hn, ← hl, rv.length]
  rw [hn2, hst]
  refine wpAny_bind (wpAny_holding (unpackItems_tupleH hot ht fun h' hx => ?_))
  have I1 : Inv X pins σ H { s with heap := h' } := I.kept (t' := s.toks) fun b o e => hx b o (Nat.ne_of_lt (Heap.lt_size e)) e
  exact h.run pins _ σ H xs _ Q I1 (by simpa using rv) hw
end
end HH1

/-! HXv: own exceptions as values: made by position and by name, their attribute, isinstance of them. -/
namespace PySem
namespace HXw
open Builtin Builtin.ObjectAttr HandSPX
section
variable {prog : Program} {w : World} {A : Around} {E : Value → Shared → Prop} {R : Result → Shared → Prop} {h : Heap} {g : Array GenState} {d : Drawn} {t : Nat} {os : OsState}
variable {nm q : Str} {C N : Addr} {bs bm bmB : List Value} {hdct : Bool} {sn : List Str} {sub : List Value} {ab : Bool} {col : Option Bool} {dd : Option Addr} {k0 k1 k2 k3 k5 : Option Value} {B newId initId : String}
theorem check_newK {M : Model} (F : ExcBaseFacts B newId initId bmB) (hT : ∀ X : String, bm.contains (.type X) = bmB.contains (.type X)) {rest : List Value} {kw : List (Str × Value)} {Q : Unit → Shared → Prop}
    (hC : h.get? C = some (excClassObj nm q C N bs bm hdct sn sub ab col dd k0 k1 k2 k3 k5 newId)) (hq : Q () ⟨h, g, d, t, os⟩) : wpAny M A (checkBuiltinCall newId ⟨.ref C :: rest, kw⟩) Q E ⟨h, g, d, t, os⟩ := by
  have hcont : (Value.ref C :: bm).contains (.type B) = true := by rw [List.contains_cons, hT, F.hasB, Bool.or_true]
  have hstar := F.noStar
  simp only [checkBuiltinCall, F.newKind, F.newSplit, F.newRow]
  repeat (first | refine wpAny_loadPart_at hC ?_ | (refine wpAny_isSubtype_exc hC ?_; rw [hcont]) | refine wpAny_staticBase_exc hC ?_ | refine wpAny_madeBy_exc hC ?_ | simp only [bne_self_eq_false, Bool.false_eq_true, if_false] | wp_step)
  exact hq
theorem new_ownK (F : ExcBaseFacts B newId initId bmB) (hT : ∀ X : String, bm.contains (.type X) = bmB.contains (.type X)) {rest : List Value} {kw : List (Str × Value)}
    (hC : h.get? C = some (excClassObj nm q C N bs bm hdct sn sub ab col dd k0 k1 k2 k3 k5 newId))
    (hq : R (.ok (.ret (.ref (h.objs.size + 1)))) ⟨(h.push { cls := .type "tuple", data := .seq rest.toArray }).push
      { cls := .ref C, data := .fields #[.ref h.objs.size, .none, .none, .none, .bool false, .none] }, g, d, t, os⟩) (hrest : rest.length ≤ sizeLine) :
    codeAny (model prog w) A (.builtin newId ⟨.ref C :: rest, kw⟩) R ⟨h, g, d, t, os⟩ := by
  have hends := F.ends
  have hcB : (Value.ref C :: bm).contains (.type B) = true := by rw [List.contains_cons, hT, F.hasB, Bool.or_true]
  have hcA : (Value.ref C :: bm).contains (.type "AttributeError") = false := by rw [List.contains_cons, hT, F.noAttr]; rfl
  have hcN : (Value.ref C :: bm).contains (.type "NameError") = false := by rw [List.contains_cons, hT, F.noName]; rfl
  refine codeAny_builtinAt F.entry ?_
  unfold Builtin.«BaseException.__new__»
  refine wpAt_bind ?_
  show wpAt _ _ _ (stack >>= _) _ _ _
  refine wpAt_bind (wpAt_stack fun p below => wpAt_of_wpAny ?_)
  wp_walk
  refine wpAt_of_wpAny ?_
  rw [F.owner]
  repeat (first | with_reducible refine wpAny_madeHere_exc F.canon hC ?_ | with_reducible refine wpAny_loadPart_at hC ?_ | (with_reducible refine wpAny_isSubtype_exc hC ?_; first | rw [hcB] | rw [hcA] | rw [hcN]) | wp_step)
  show R _ _
  rw [Heap.size_push]
  exact hq
theorem type_call_ownK (F : ExcBaseFacts B newId initId bmB) (hT : ∀ X : String, bm.contains (.type X) = bmB.contains (.type X)) {rest : List Value} {kw : List (Str × Value)} {fI : Addr} {Q : Fin → Shared → Prop}
    (hC : h.get? C = some (excClassObj nm q C N bs bm hdct sn sub ab col dd k0 k1 k2 k3 k5 newId))
    (hi : W.Looks (model prog w) h (typeLookup (.ref C) "__init__") (some (.ref fI))) (hb : ∀ self, W.Looks (model prog w) h (bindSpecial (.ref fI) self) (.ref fI, [self])) (hrest : rest.length ≤ sizeLine)
    (hq : codeAny (model prog w) A (.call (.ref fI) ⟨.ref (h.objs.size + 1) :: rest, kw⟩)
      (fun r s' => match r with | .ok (.ret v) => v = .none ∧ Q (.done (.ret (.ref (h.objs.size + 1)))) s' | .ok _ => False | .error e => E e s')
      ⟨(h.push (W.kdv_tup rest)).push (excO C h.objs.size), g, d, t, os⟩) :
    wpAny (model prog w) A (Builtin.«type.__call__» ⟨.ref C :: rest, kw⟩) Q E ⟨h, g, d, t, os⟩ := by
  repeat (first | with_reducible refine wpAny_loadPart_at hC ?_ | with_reducible refine wpAny_madeBy_exc hC ?_ | wp_step)
  refine codeAny_call_builtin_code (Code.quiet_builtin _ F.quiet) (check_newK F hT hC ?_)
  refine new_ownK F hT hC ?_ hrest
  show wpAny _ _ _ _ _ _
  have k : ∀ b o, h.get? b = some o → ((h.push (W.kdv_tup rest)).push (excO C h.objs.size)).get? b = some o := fun b o e => Heap.get?_push_of_some _ (Heap.get?_push_of_some _ e)
  have hC₁ := k _ _ hC
  have hget : ((h.push (W.kdv_tup rest)).push (excO C h.objs.size)).get? (h.objs.size + 1) = some (excO C h.objs.size) := by heap_get
  have hcC : (Value.ref C :: bm).contains (.ref C) = true := by simp
  have i1 := hi.keeps k
  have b1 := (hb (.ref (h.objs.size + 1))).keeps k
  unfold isInstance
  repeat (first | with_reducible refine wpAny_loadPart_at hget ?_ | (with_reducible refine wpAny_isSubtype_exc hC₁ ?_; rw [hcC]) | wp_step)
  show wpAny _ _ (typeLookup (.ref C) _) _ _ _
  refine i1.at ?_
  refine wpAny_holding (wpAny_bind (b1.at ?_))
  refine wpAny_bind (wpAny_call (codeAny_mono hq fun r s' z => ?_))
  rcases r with e | (v | _ | _ | _) <;> first | exact z | exact z.elim | skip
  obtain ⟨rfl, z⟩ := z
  first
    | exact wpAny_pure (wpAny_pure z)
    | (wp_walk; exact z)
theorem call_ownK (F : ExcBaseFacts B newId initId bmB) (hT : ∀ X : String, bm.contains (.type X) = bmB.contains (.type X)) {rest : List Value} {kw : List (Str × Value)} {fI : Addr}
    (hC : h.get? C = some (excClassObj nm q C N bs bm hdct sn sub ab col dd k0 k1 k2 k3 k5 newId))
    (hi : W.Looks (model prog w) h (typeLookup (.ref C) "__init__") (some (.ref fI))) (hb : ∀ self, W.Looks (model prog w) h (bindSpecial (.ref fI) self) (.ref fI, [self])) (hrest : rest.length ≤ sizeLine)
    (hq : codeAny (model prog w) (A.under (.builtin "type.__call__" ⟨.ref C :: rest, kw⟩)) (.call (.ref fI) ⟨.ref (h.objs.size + 1) :: rest, kw⟩) (W.InitBack (h.objs.size + 1) R)
      ⟨(h.push (W.kdv_tup rest)).push (excO C h.objs.size), g, d, t, os⟩) :
    codeAny (model prog w) A (.call (.ref C) ⟨rest, kw⟩) R ⟨h, g, d, t, os⟩ := by
  have f1 := tc_lookup
  have f2 := tc_bind (.ref C)
  have hTy : (⟨h, g, d, t, os⟩ : Shared).TypeIs (.ref C) "type" := ⟨_, hC, rfl⟩
  refine codeAny_of_tree ?_
  show wpAny _ _ (callAny (.ref C) _) _ _ _
  repeat (any_goals (first | assumption | with_reducible refine wpAny_loadPart_at hC ?_ | wp_step))
  refine ⟨rfl, ?_⟩
  refine codeAny_call_builtin_at (Code.quiet_builtin _ (by decide +kernel)) entry_typeCall (wpAny_check_type_call_sub hC (type_call_ownK F hT hC hi hb hrest ?_))
  refine codeAny_mono hq fun r s' z => ?_
  rcases r with e | (v | _ | _ | _) <;> exact z
end
end HXw
end PySem
namespace HXv
open PySem PySem.Spec PyProof.Rows L2
/-- C(e, ..) as a value -/
def tMkV (C : Addr) (sp : Sp) (dvs : List V) (ta : TA) : TE := fun σ H Q => ta σ H fun vs H1 => vs.length ≤ 1000 ∧ ∀ a, H1 a = none → sp (.ref a :: (vs ++ dvs)) (upd H1 a (exo a C none)) (fun v H2 => v = .non ∧ Q (.ref a) H2) (fun _ _ _ => False)
/-- C(k = v, ..) as a value -/
def tMkVK (C : Addr) (l : Nat) (sp : Sp) (gV : List V → List V → List V) (tk : TA) : TE := fun σ H Q => tk σ H fun zs H1 => zs.length = l ∧ ∀ a, H1 a = none → sp (gV [.ref a] zs) (upd H1 a (exo a C none)) (fun v H2 => v = .non ∧ Q (.ref a) H2) (fun _ _ _ => False)
section
variable {X : Cx} {e : Expr} {es : List Expr} {kws : List Keyword} {ta tk : TA} {p pos : Pos} {ks : List Str} {g : List Value → List Value → List Value} {gV : List V → List V → List V}
theorem pe_oexV {CX : CXT} {x : Str} {C fI : Addr} {k : Nat} {fd : FuncData} {ps : List Str} {sp : Sp} {ds : List Value} {dvs : List V} (T : OexC X.K C) (iC : PySem.W.findIn X.K (.ref C) "__init__" = some (some (.ref fI))) (tI : PySem.W.typeIn X.K (.ref fI) = some (.type "function"))
    (F1 : FnOk X.prog X.w X.K X.mg X.base CX k fI fd ps sp) (hr : Room (k + 1) X.A) (hb : Binds X.K fd ps ds) (hd : Vals dvs ds) (hx : Passes CX X (fun _ _ _ => False)) (hg : Gl X x) (hm : X.mg x = some (.ref C)) (ha : PA X (e :: es) ta)
    (hdb : (x == ("__debug__" : Str)) = false := by decide) (he : starEach (e :: es) X.env = (false, eval e X.env) :: starEach es X.env := by rfl) (hpl : (backTo pos (starEach es X.env)).any (·.1) = false := by rfl) :
    PE X (.Call (.Name x p) (e :: es) [] pos) (tMkV C sp dvs ta) := by
  refine ⟨fun pins s σ H Q I h => ?_⟩
  obtain ⟨nm, q, N, bs, bm, sn, sub, ab, col, dd, k0, k1, k2, k3, k5, hC, hbm⟩ := T.cls
  refine wpAny_Call_Name_kw (ld_glob I hg hm ?_ hdb)
  refine PySem.W.callWith_K (h₀ := X.base) I.ok.mod.kin T.kC (thn (ha.run pos pins s σ H _ I h) fun us s1 ⟨vs, H1, I1, r1, hz, q1⟩ => ⟨I1.kIn, ?_⟩) he hpl
  show wpAny _ _ (call (.ref C) us) _ _ _
  obtain ⟨hp, g, dr, tk, os⟩ := s1
  have hsz : hp.objs.size ≤ hp.objs.size + 1 := Nat.le_succ _
  have hn : H1 (hp.objs.size + 1) = none := I1.hok.fresh hsz
  have hq := q1 (hp.objs.size + 1) hn
  have kk : ∀ b o, hp.get? b = some o → ((hp.push (PySem.W.kdv_tup us)).push (PySem.HandSPX.excO C hp.objs.size)).get? b = some o := fun b o e => Heap.get?_push_of_some _ (Heap.get?_push_of_some _ e)
  have hget : ((hp.push (PySem.W.kdv_tup us)).push (PySem.HandSPX.excO C hp.objs.size)).get? (hp.objs.size + 1) = some (PySem.HandSPX.excO C hp.objs.size) := by heap_get
  have I2 : Inv X pins σ (upd H1 (hp.objs.size + 1) (exo (hp.objs.size + 1) C none)) ⟨(hp.push (PySem.W.kdv_tup us)).push (PySem.HandSPX.excO C hp.objs.size), g, dr, tk, os⟩ :=
    I1.laid (t' := tk) (a := hp.objs.size + 1) (o := exo (hp.objs.size + 1) C none) (h' := (hp.push (PySem.W.kdv_tup us)).push (PySem.HandSPX.excO C hp.objs.size)) kk hsz (exo_ok hget)
  have r2 : Vals (V.ref (hp.objs.size + 1) :: (vs ++ dvs)) (Value.ref (hp.objs.size + 1) :: (us ++ ds)) := .cons rfl (r1.append hd)
  have hl : (Value.ref (hp.objs.size + 1) :: us ++ ds).length = ps.length := by
    have e := r2.length
    rw [F1.len _ _ _ _ hq] at e
    exact e.symm
  have hus : us.length ≤ sizeLine := by
    rw [← Paired.length r1, sizeLine_eq]
    omega
  refine wpAny_call (PySem.HandSPX.call_own F.excBase_ValueError (fun Y => PySem.HandSPX.refsVE_contains Y bm hbm) (I1.kIn _ _ hC) (PySem.W.looks_findIn I1.kIn iC) (fun self => PySem.W.bind_fn I1.kIn self tI) hus
    (codeAny_mono (F1.run _ X.stack _ _ ⟨Value.ref (hp.objs.size + 1) :: us, []⟩ (Value.ref (hp.objs.size + 1) :: (us ++ ds)) _ _ (fun _ _ _ => False) (hr.make C us []) (I2.env0.make C us []) (hb _ (Value.ref (hp.objs.size + 1) :: us) I2.kIn hl) r2 hq) fun r s' hq' => ?_))
  cases r with
  | error er => exact (hx pins σ _ _ er s' I2 hq')
  | ok fl =>
    cases fl with
    | ret u =>
      obtain ⟨v, H2, I3, rv, ev, q3⟩ := I2.after hq'
      subst ev
      exact ⟨rv, ⟨V.ref (hp.objs.size + 1), H2, I3, rfl, q3⟩⟩
    | next => exact False.elim hq'
    | brk => exact False.elim hq'
    | cont => exact False.elim hq'
theorem pe_oexVK {CX : CXT} {x : Str} {C fI : Addr} {k : Nat} {fd : FuncData} {ps : List Str} {sp : Sp} (T : OexC X.K C) (iC : PySem.W.findIn X.K (.ref C) "__init__" = some (some (.ref fI))) (tI : PySem.W.typeIn X.K (.ref fI) = some (.type "function"))
    (F1 : FnOk X.prog X.w X.K X.mg X.base CX k fI fd ps sp) (hr : Room (k + 1) X.A) (hb : KBn X.K fd ps 1 ks g gV) (hx : Passes CX X (fun _ _ _ => False)) (hg : Gl X x) (hm : X.mg x = some (.ref C)) (hkw : PK X kws tk)
    (hall : (backToKw pos (keywordEach kws X.env)).all (·.1.isSome) = true := by rfl) (hks : (backToKw pos (keywordEach kws X.env)).filterMap (·.1) = ks := by rfl) (hdb : (x == ("__debug__" : Str)) = false := by decide)
    (hpl : ((backTo pos (starEach [] X.env)).any (·.1) || (backToKw pos (keywordEach kws X.env)).any (·.1.isNone)) = false := by rfl) :
    PE X (.Call (.Name x p) [] kws pos) (tMkVK C ks.length sp gV tk) := by
  refine ⟨fun pins s σ H Q I h => ?_⟩
  obtain ⟨nm, q, N, bs, bm, sn, sub, ab, col, dd, k0, k1, k2, k3, k5, hC, hbm⟩ := T.cls
  refine wpAny_Call_Name_kw (ld_glob I hg hm ?_ hdb)
  refine PySem.W.callWith_KW0 (h₀ := X.base) I.ok.mod.kin T.kC hall ?_ hpl
  refine thn (hkw.run pos pins s σ H _ I h) fun ws s1 ⟨zs, H1, I1, rz, hz, q1⟩ => ⟨I1.kIn, ?_⟩
  rw [hks]
  show wpAny _ _ (call (.ref C) [] (ks.zip ws)) _ _ _
  obtain ⟨hp, gg, dr, tt, os⟩ := s1
  have hsz : hp.objs.size ≤ hp.objs.size + 1 := Nat.le_succ _
  have hn : H1 (hp.objs.size + 1) = none := I1.hok.fresh hsz
  obtain ⟨hlz, q1⟩ := (show zs.length = ks.length ∧ _ from ⟨hz, q1⟩)
  have hq := q1 (hp.objs.size + 1) hn
  have kk : ∀ b o, hp.get? b = some o → ((hp.push (PySem.W.kdv_tup [])).push (PySem.HandSPX.excO C hp.objs.size)).get? b = some o := fun b o e => Heap.get?_push_of_some _ (Heap.get?_push_of_some _ e)
  have hget : ((hp.push (PySem.W.kdv_tup [])).push (PySem.HandSPX.excO C hp.objs.size)).get? (hp.objs.size + 1) = some (PySem.HandSPX.excO C hp.objs.size) := by heap_get
  have I2 : Inv X pins σ (upd H1 (hp.objs.size + 1) (exo (hp.objs.size + 1) C none)) ⟨(hp.push (PySem.W.kdv_tup [])).push (PySem.HandSPX.excO C hp.objs.size), gg, dr, tt, os⟩ :=
    I1.laid (t' := tt) (a := hp.objs.size + 1) (o := exo (hp.objs.size + 1) C none) (h' := (hp.push (PySem.W.kdv_tup [])).push (PySem.HandSPX.excO C hp.objs.size)) kk hsz (exo_ok hget)
  have r2 := hb.rel (vs := [V.ref (hp.objs.size + 1)]) (us := [Value.ref (hp.objs.size + 1)]) (.cons rfl .nil) rz
  refine wpAny_call (PySem.HXw.call_ownK F.excBase_ValueError (fun Y => PySem.HandSPX.refsVE_contains Y bm hbm) (I1.kIn _ _ hC) (PySem.W.looks_findIn I1.kIn iC) (fun self => PySem.W.bind_fn I1.kIn self tI) (Nat.zero_le _)
    (codeAny_mono (F1.run _ X.stack _ _ ⟨[Value.ref (hp.objs.size + 1)], ks.zip ws⟩ (g [Value.ref (hp.objs.size + 1)] ws) _ _ (fun _ _ _ => False) (hr.make C [] (ks.zip ws)) (I2.env0.make C [] (ks.zip ws)) (hb.to _ [Value.ref (hp.objs.size + 1)] ws I2.kIn rfl (rz.length.symm.trans hlz)) r2 hq) fun r s' hq' => ?_))
  cases r with
  | error er => exact (hx pins σ _ _ er s' I2 hq')
  | ok fl =>
    cases fl with
    | ret u =>
      obtain ⟨v, H2, I3, rv, ev, q3⟩ := I2.after hq'
      subst ev
      exact ⟨rv, ⟨V.ref (hp.objs.size + 1), H2, I3, rfl, q3⟩⟩
    | next => exact False.elim hq'
    | brk => exact False.elim hq'
    | cont => exact False.elim hq'
/-- e.f, e an exception -/
def tXv (C : Addr) (f : Str) (te : TE) : TE := fun σ H Q => te σ H fun x H1 => ∃ (a dd : Addr) (fs : List (Str × V)) (v : V), x = .ref a ∧ H1 a = some (exo a C (some dd)) ∧ H1 dd = some (exd dd fs) ∧ fs.lookup f = some v ∧ Q v H1
theorem pe_xv {C : Addr} {te : TE} {n : Str} (T : XfC X.K C) (hno : PySem.W.findIn X.K (.ref C) n = some none) (he : PE X e te) (hb : attributeBase e n X.env (eval e X.env) = eval e X.env := by rfl) : PE X (.Attribute e n pos) (tXv C n te) := by
  refine ⟨fun pins s σ H Q I h => ?_⟩
  refine attr_of hb (thn (he.run pins s σ H _ I h) fun u s1 hh => ?_)
  obtain ⟨x, H1, I1, rx, a, dd, fs, v, ex, eo, ed, l, q⟩ := hh
  subst ex
  obtain rfl : u = Value.ref a := rx
  obtain ⟨t1, ha⟩ := exo_at I1.hok eo
  obtain ⟨mA, hns1, hr⟩ := exd_at I1.hok ed
  obtain ⟨od, ho, hl⟩ := lookIn_ns hns1
  obtain ⟨u, hu, ru⟩ := RelO.some_of (v := v) (o := mA n) (by rw [← l]; exact hr n)
  have J : PySem.W.InstAt s1.heap a ({ cls := .ref C, dict := some dd, data := .fields #[.ref t1, .none, .none, .none, .bool false, .none] } : Obj) C (some od) := ⟨ha, rfl, rfl, ho⟩
  exact HandSPX.exc_get I1.kIn J T.ga T.gg T.exC (PySem.W.findObj_own T.hdC hno rfl (by rw [hl, hu])) (handed_of ru) ⟨v, H1, I1.tok _, ru, q⟩
end
end HXv
namespace HXv
open PySem PySem.Spec PyProof.Rows L2
/-- at a: an exception of the class at C -/
def ExAt (H : Hp) (a C : Addr) : Prop := H a = some (exo a C none) ∨ (∃ dd fs, H a = some (exo a C (some dd)) ∧ H dd = some (exd dd fs)) ∨ H a = some (ExO (.ref C) a)
/-- isinstance(e, c), e an exception -/
def rIsV (K : PySem.W.Frag) : List V → Hp → VK → Prop := fun xs H Q => ∃ (a C : Addr) (c : V) (cv : Value) (b : Bool), xs = [.ref a, c] ∧ ExAt H a C ∧ ExcC K C ∧ (∀ u, RelV c u → u = cv) ∧ PySem.W.kitOne K (.ref C) cv = some b ∧ Q (.bl b) H
theorem call_isV {X : Cx} : CallR X (.builtin "isinstance") (rIsV X.K) := by
  intro pins s σ H xs us Q I r h
  obtain ⟨a, C, c, cv, b, rfl, hx, T, hcv, e, q⟩ := h
  cases r with
  | cons rx rr =>
    cases rr with
    | cons rt rr =>
      cases rr
      cases rx
      have ec := hcv _ rt
      subst ec
      have hcl : (PySem.W.clsIn X.K C).isSome = true := by
        obtain ⟨cd, hc, _⟩ := PySem.W.any_some T.hd
        rw [hc]
        rfl
      have done : ∀ (ox : Obj) (od : Option Obj), PySem.W.InstAt s.heap a ox C od → wpAny (model X.prog X.w) X.A (call (.builtin "isinstance") [.ref a, _]) (EP X pins σ Q) X.xe s := fun ox od J =>
        PySem.W.kia_one (PySem.W.kitx_exc hcl T.hg T.hk T.hs T.ha T.hn T.ht T.hm) I.kIn J e (fun z => nomatch z) fun tk => ⟨.bl b, H, I.kept (t' := tk) fun _ _ z => z, rfl, q⟩
      rcases hx with hx | ⟨dd, fs, hx, hdd⟩ | hx
      · obtain ⟨t1, ha⟩ := exo_at I.hok hx
        exact done _ none ⟨ha, rfl, rfl, trivial⟩
      · obtain ⟨t1, ha⟩ := exo_at I.hok hx
        obtain ⟨mA, hns1, hr⟩ := exd_at I.hok hdd
        obtain ⟨od, _, _, ho, _⟩ := hns1
        exact done _ (some od) ⟨ha, rfl, rfl, ho⟩
      · obtain ⟨⟨oe, vs, ho, hz, hd, h1, _⟩, _, _⟩ := I.hok a _ hx
        obtain ⟨oc, odd, oda, osl⟩ := oe
        obtain ⟨z1, z2⟩ := hz
        dsimp only at z1 z2 hd
        subst z1 z2 hd
        exact done _ none ⟨ho, rfl, rfl, trivial⟩
section
variable {X : Cx}
/-- C(), an own exception class without own __init__ -/
def tExc0 (C : Addr) : TE := fun σ H Q => ∀ a, H a = none → Q (.ref a) (upd H a (ExO (.ref C) a))
theorem pe_exc0 {C : Addr} {bmB : List Value} {B newId initId : String} {x : Str} {p pos : Pos} (F : ExcBaseFacts B newId initId bmB) (q : PySem.W.excIn X.K C bmB newId = true) (gC : X.mg x = some (.ref C)) (kC : PySem.W.keepIn X.K (.ref C) = true) (hg : Gl X x)
    (hdb : (x == ("__debug__" : Str)) = false := by decide) : PE X (.Call (.Name x p) [] [] pos) (tExc0 C) := by
  refine ⟨fun pins s σ H Q I h => ?_⟩
  refine wpAny_Call_Name_kw (ld_glob I hg gC ?_ hdb)
  refine PySem.W.callWith_K0 I.kIn kC ?_
  show wpAny _ _ (call (.ref C) []) _ _ _
  obtain ⟨bm, N, nm, qn, bs, hdct, sn, sub, ab, col, dd, k0, k1, k2, k3, k5, mN, hC, hN, hni, T⟩ := exc_obj I.kIn q
  refine wpAny_call_exc_subT F T hC hN hni (fun h' a hm => ?_) (Nat.zero_le _)
  have hn : H a = none := I.hok.gone hm.new
  obtain ⟨t, ht, _, _⟩ := hm.there
  exact ⟨.ref a, upd H a (ExO (.ref C) a), I.laidN hm.keeps hm.new hn (exO_ok ht ⟨rfl, rfl⟩ rfl rfl rfl (show 4 < 6 by decide)), rfl, h a hn⟩
end
end HXv

/-! HDeep: == of equal tuples and dicts, nested (within one model; objects by identity). -/
namespace PySem.SeqAt
open AutoSeq1 (wpAny_loadPart')
open MeetsSeq MeetsSeq2 MeetsSeq3 SeqRoads2
section
variable {prog : Program} {w : World}
theorem hd_tuple_eqIn (l b : Addr) (items items2 : Array Value) (n n2 : Nat) (dd dd2 : Option Addr) (sl sl2 : Array (Option Value)) (e : Nat → Bool) :
    MeetsIn prog w (Builtin.«tuple.__eq__» ⟨[.ref l, .ref b], []⟩)
      (fun A R s => s.heap.get? l = some { cls := .type "tuple", dict := dd, data := .seq items n, slots := sl } ∧ s.heap.get? b = some { cls := .type "tuple", dict := dd2, data := .seq items2 n2, slots := sl2 } ∧
        (∀ j (h1 : j < items.size) (h2 : j < items2.size), EqP prog w A.in1 s items[j] items2[j] (e j)) ∧
        R (.ok (.ret (.bool ((List.range (min items.size items2.size)).all e && items.size == items2.size)))) s) := by
  intro A R s h
  obtain ⟨hp, g, d, tk, os⟩ := s; obtain ⟨hl, hb, he, h⟩ := h
  have f2 := AutoSeq1.sub_tuple_tuple
  have hZ : (items.toList.zip items2.toList).length = min items.size items2.size := by simp
  wp_walk using wpAny_loadPart' hl, wpAny_loadPart' hb, wpAny_forIn_list _ (fun rest b s' => b.1 = none ∧ s' = ⟨hp, g, d, tk, os⟩ ∧ ∃ i, rest = (items.toList.zip items2.toList).drop i ∧
    R (.ok (.ret (.bool (((List.range (min items.size items2.size)).drop i).all e && items.size == items2.size)))) ⟨hp, g, d, tk, os⟩) _
  case turn =>
    rintro ⟨y, x⟩ rest b s' ⟨hb', rfl, i, hz, hR⟩
    have hlt : i < (items.toList.zip items2.toList).length := by
      rcases Nat.lt_or_ge i (items.toList.zip items2.toList).length with h' | h'
      · exact h'
      · rw [List.drop_of_length_le h'] at hz; cases hz
    have hm : i < min items.size items2.size := hZ ▸ hlt
    have h1 : i < items.size := Nat.lt_of_lt_of_le hm (Nat.min_le_left _ _)
    have h2 : i < items2.size := Nat.lt_of_lt_of_le hm (Nat.min_le_right _ _)
    rw [List.drop_eq_getElem_cons hlt] at hz
    injection hz with hyx hrest
    have hy : y = items[i] := by have := congrArg Prod.fst hyx; simpa using this
    have hx : x = items2[i] := by have := congrArg Prod.snd hyx; simpa using this
    subst hy hx
    have hd : (List.range (min items.size items2.size)).drop i = i :: (List.range (min items.size items2.size)).drop (i + 1) := by simp [List.drop_eq_getElem_cons, hm]
    rw [hd, List.all_cons] at hR
    refine wpAny_bind (he i h1 h2 _ _ ?_)
    cases hy : e i with
    | true =>
      rw [hy] at hR
      wp_walk
      exact ⟨rfl, rfl, i + 1, hrest, by simpa using hR⟩
    | false =>
      rw [hy] at hR
      wp_walk
      simpa using hR
  case fin =>
    rintro ⟨b1, b2⟩ s' ⟨hb', rfl, i, hz, hR⟩
    simp only at hb'
    subst hb'
    have hge : min items.size items2.size ≤ i := by
      rcases Nat.lt_or_ge i (items.toList.zip items2.toList).length with h' | h'
      · rw [List.drop_eq_getElem_cons h'] at hz; cases hz
      · exact hZ ▸ h'
    rw [List.drop_of_length_le (by simpa using hge)] at hR
    wp_walk
    simpa [Builtin.Tuple.tupleCompareSizes] using hR
  case h =>
    exact ⟨rfl, rfl, 0, rfl, by simpa using h⟩
theorem rcP_tuples {A : Around} {s : Shared} {l b : Addr} {items items2 : Array Value} {e : Nat → Bool} (hl : s.heap.IsTuple l items) (hb : s.heap.IsTuple b items2) (hu : A.units < cLine)
    (he : ∀ j (h1 : j < items.size) (h2 : j < items2.size), EqP prog w A.in1 s items[j] items2[j] (e j)) (E Q : Value → Shared → Prop) (h : Q (.bool ((List.range (min items.size items2.size)).all e && items.size == items2.size)) s) : wpAny (model prog w) A (richCompare .Eq (.ref l) (.ref b)) Q E s := by
  obtain ⟨⟨cls, dd, data, sl⟩, ho, hc, n, hd⟩ := id hl
  obtain ⟨⟨cls2, dd2, data2, sl2⟩, ho2, hc2, n2, hd2⟩ := id hb
  simp only at hc hd hc2 hd2
  subst hc hd hc2 hd2
  have ta : s.TypeIs (.ref l) "tuple" := ⟨_, ho, rfl⟩
  have tb : s.TypeIs (.ref b) "tuple" := ⟨_, ho2, rfl⟩
  exact wpAny_richCompare_same_room (op := .Eq) ta tb F.slot_tuple_eq (call_meetsIn F.slot_tuple_eq ta F.entry_tuple_eq (F.args_tuple_eq_2 _ _) (hd_tuple_eqIn l b items items2 n n2 dd dd2 sl sl2 e)
    ⟨ho, ho2, he, show Value.bool ((List.range (min items.size items2.size)).all e && items.size == items2.size) ≠ Value.notImplemented ∧ Q (.bool ((List.range (min items.size items2.size)).all e && items.size == items2.size)) s from ⟨(fun x => nomatch x), h⟩⟩) hu
end
end PySem.SeqAt
namespace HDp
open PySem PySem.Spec PyProof.Rows L2
/-- two tuples of equal items; two dicts of the same keys, their values equal -/
def EqR (K : PySem.W.Frag) (H : Hp) (E : V → V → Prop) (x y : V) : Prop :=
  (∃ a b xs ys, x = .ref a ∧ y = .ref b ∧ SqT K H a xs ∧ SqT K H b ys ∧ Paired E xs ys) ∨
    ∃ a b ks ls, x = .ref a ∧ y = .ref b ∧ Rd H a (.dK ks) ∧ Rd H b (.dK ls) ∧ ks.length = ls.length ∧ ∀ p ∈ ks, ∃ u, valV ls p.1 = some u ∧ E p.2 u
/-- equal, of nesting below n -/
def EqV (K : PySem.W.Frag) (H : Hp) : Nat → V → V → Prop
  | 0 => fun _ _ => False
  | n + 1 => fun x y => (x = y ∧ flatB x = true) ∨ (∃ a, x = .ref a ∧ y = .ref a) ∨ EqR K H (EqV K H n) x y
section
variable {X : Cx} {pins : List (Addr × Obj)} {σ : L2.St} {H : Hp} {s : Shared}
theorem eqR_run (I : Inv X pins σ H s) {A : Around} {F : V → V → Prop} (hu : A.units < cLine) (ih : ∀ x y v u, F x y → RelV x v → RelV y u → SeqAt.EqP X.prog X.w A.in1 s v u true) {x y : V} {v u : Value} (h : EqR X.K H F x y) (rx : RelV x v) (ry : RelV y u)
    (E Q : Value → Shared → Prop) (q : Q (.bool true) s) : wpAny (model X.prog X.w) A (richCompare .Eq v u) Q E s := by
  rcases h with ⟨a, b, xs, ys, rfl, rfl, ha, hb, hp⟩ | ⟨a, b, ks, ls, rfl, rfl, ha, hb, hl, hp⟩
  · cases (show v = Value.ref a from rx)
    cases (show u = Value.ref b from ry)
    obtain ⟨us, r1, p1, _⟩ := I.tuple ha
    obtain ⟨ws, r2, p2, _⟩ := I.tuple hb
    have hsz : us.toArray.size = ws.toArray.size := by
      rw [List.size_toArray, List.size_toArray, ← r1.length, ← r2.length]
      exact Paired.length hp
    refine SeqAt.rcP_tuples (e := fun _ => true) p1 p2 hu (fun j h1 h2 => ?_) E Q ?_
    · have k := L2.items_run ih hp r1 r2 j (by simpa using h1) (by simpa using h2)
      simpa using k
    · have e1 : ((List.range (min us.toArray.size ws.toArray.size)).all fun _ => true) = true := List.all_eq_true.mpr fun _ _ => rfl
      rw [e1, hsz]
      simpa using q
  · cases (show v = Value.ref a from rx)
    cases (show u = Value.ref b from ry)
    obtain ⟨_, ya, va, ra, da⟩ := (show ObjOk X.prog X.w H s.heap a (.dK ks) from rd_of I.hok ha)
    obtain ⟨_, yb, vb, rb, db⟩ := (show ObjOk X.prog X.w H s.heap b (.dK ls) from rd_of I.hok hb)
    refine PySem.W.rcP_dicts (knd := mixKind X.prog X.w) (r := true) ya yb da db hu (fun _ => L2.hits_run ih rb ra hp) E Q ?_
    have e : va.length = vb.length := by rw [← ra.length, ← rb.length]; exact hl
    rw [show (va.length == vb.length && true) = true from by rw [e]; simp]
    exact q
theorem eqV_run (I : Inv X pins σ H s) : ∀ (n : Nat) (A : Around), A.units + n < cLine → ∀ (x y : V) (v u : Value), EqV X.K H n x y → RelV x v → RelV y u → SeqAt.EqP X.prog X.w A s v u true
  | 0, _, _, _, _, _, _, h, _, _ => (show False from h).elim
  | n + 1, A, hu, x, y, v, u, h, rx, ry => by
    rcases h with ⟨rfl, f⟩ | ⟨a, rfl, rfl⟩ | h
    · exact (eqAt_same rx ry f).eqP
    · cases (show v = Value.ref a from rx)
      cases (show u = Value.ref a from ry)
      exact (SeqAt.EqAt.same _).eqP
    · have step := eqR_run I (A := A) (by omega) (eqV_run I n A.in1 (by show A.units + 1 + n < cLine; omega)) h rx ry
      obtain ⟨a, b, rfl, rfl⟩ : ∃ a b, x = .ref a ∧ y = .ref b := by
        rcases h with ⟨a, b, _, _, e1, e2, _⟩ | ⟨a, b, _, _, e1, e2, _⟩
        · exact ⟨a, b, e1, e2⟩
        · exact ⟨a, b, e1, e2⟩
      cases (show v = Value.ref a from rx)
      cases (show u = Value.ref b from ry)
      by_cases e : a = b
      · subst e
        exact (SeqAt.EqAt.same _).eqP
      · exact SeqAt.eqP_refs e step
end
section
variable {X : Cx}
/-- a == b, two tuples or two dicts that are equal -/
def rEqW (K : PySem.W.Frag) : R2 := fun x y H Q => ∃ n, n ≤ 60 ∧ EqR K H (EqV K H n) x y ∧ Q (.bl true) H
theorem op_eqW (hu : X.A.units + 64 < cLine) : OpR X (compareOp .Eq) (rEqW X.K) := by
  intro pins s σ H x y v u Q I rx ry h
  obtain ⟨n, hn, h, q⟩ := h
  exact eqR_run I (A := X.A) (by omega) (eqV_run I n X.A.in1 (by show X.A.units + 1 + n < cLine; omega)) h rx ry _ _ ⟨.bl true, H, I, rfl, q⟩
end
end HDp

/-! DXv: over data: exceptions as values, values that are pinned, dicts that are never changed, == of such. -/
namespace HXv
open PySem PySem.Spec PyProof.Rows L2
/-- a new thing that is never changed again -/
def tFrz (t : TE) : TE := fun σ H Q => t σ H fun v H1 => ∃ d u, v = .ref d ∧ H1 d = some u ∧ Mut (some u) ∧ ∀ od, Q v (upd H1 d (.frz od u))
theorem pe_frz {X : Cx} {e : Expr} {t : TE} (h : PE X e t) : PE X e (tFrz t) := by
  refine ⟨fun pins s σ H Q I hw => ?_⟩
  refine thn (h.run pins s σ H _ I hw) fun v s1 ⟨x, H1, I1, r, d, u, ex, hd, mu, q⟩ => ?_
  obtain ⟨od, I2⟩ := I1.lock hd mu
  exact ⟨x, _, I2, r, q od⟩
theorem room64 {k : Nat} {A : Around} (r : Room k A) : A.units + 64 < cLine := by
  have := r.un
  omega
/-- an exception class over the class at P, whose base is ValueError -/
structure XKl (K : PySem.W.Frag) (P C : Addr) : Prop where
  cd : ∃ cd, PySem.W.clsIn K C = some cd ∧ cd.mro = [.ref C, .ref P, .type "ValueError", .type "Exception", .type "BaseException", .type "object"]
  ty : PySem.W.typeIn K (.ref C) = some (.type "type")
theorem xkl_mk {K : PySem.W.Frag} {P C N : Addr} {nm q : Str} {bs : List Value} {hdct : Bool} {sn : List Str} {sub : List Value} {ab : Bool} {col : Option Bool} {dd : Option Addr} {k0 k1 k2 k3 k5 : Option Value} {newId : String}
    (h : K.lookup C = some (excClassObj nm q C N bs [.ref P, .type "ValueError", .type "Exception", .type "BaseException", .type "object"] hdct sn sub ab col dd k0 k1 k2 k3 k5 newId)) (ht : PySem.W.typeIn K (.ref C) = some (.type "type")) : XKl K P C := by
  refine ⟨?_, ht⟩
  unfold PySem.W.clsIn
  rw [h]
  exact ⟨_, rfl, rfl⟩
section
variable {K : PySem.W.Frag} {P C D : Addr}
theorem XKl.mro (h : XKl K P C) {b : Value} : PySem.W.subIn K (.ref C) b = some (([.ref C, .ref P, .type "ValueError", .type "Exception", .type "BaseException", .type "object"] : List Value).contains b) := by
  obtain ⟨cd, h1, h2⟩ := h.cd
  show PySem.W.mroIn K C b = _
  unfold PySem.W.mroIn
  rw [h1]
  show (if cd.mro.isEmpty then none else some (cd.mro.contains b)) = _
  rw [h2]
  rfl
theorem XKl.is (h : XKl K P C) : ((PySem.W.clsIn K C).isSome && PySem.W.typeIn K (.ref C) == some (.type "type")) = true := by
  obtain ⟨cd, h1, h2⟩ := h.cd
  rw [h1, h.ty]
  rfl
theorem kit_x (hC : XKl K P C) (hD : XKl K P D) (hne : D ≠ P) : PySem.W.kitOne K (.ref C) (.ref D) = some (decide (C = D)) := by
  unfold PySem.W.kitOne
  by_cases e : C = D
  · subst e
    rw [if_pos (by simp), decide_eq_true rfl]
  · have n1 : ¬ ((Value.ref C == Value.ref D) = true) := fun z => e (by simpa using z)
    rw [if_neg n1, decide_eq_false e]
    show (if ((PySem.W.clsIn K D).isSome && PySem.W.typeIn K (.ref D) == some (.type "type")) = true then PySem.W.subIn K (.ref C) (.ref D) else none) = some false
    rw [if_pos hD.is, hC.mro]
    have e1 : (Value.ref D == Value.ref C) = false := by simpa using fun z => e z.symm
    have e2 : (Value.ref D == Value.ref P) = false := by simpa using hne
    simp only [List.contains_cons, List.contains_nil, e1, e2, Bool.false_or, Bool.or_false]
    rfl
theorem kit_xP (hC : XKl K P C) (h1 : PySem.W.isClsIn K P = true) (h2 : PySem.W.typeIn K (.ref P) = some (.type "type")) : PySem.W.kitOne K (.ref C) (.ref P) = some true := by
  unfold PySem.W.kitOne
  split
  · rfl
  · have e : ((PySem.W.clsIn K P).isSome && PySem.W.typeIn K (.ref P) == some (.type "type")) = true := by
      have h1' : (PySem.W.clsIn K P).isSome = true := h1
      rw [h1', h2]
      rfl
    show (if ((PySem.W.clsIn K P).isSome && PySem.W.typeIn K (.ref P) == some (.type "type")) = true then PySem.W.subIn K (.ref C) (.ref P) else none) = some true
    rw [if_pos e, hC.mro]
    simp
theorem kit_xV (hC : XKl K P C) : PySem.W.kitOne K (.ref C) (.type "ValueError") = some true := by
  unfold PySem.W.kitOne
  rw [if_neg (by simp)]
  show (if PySem.W.kitMeta "ValueError" = true then PySem.W.subIn K (.ref C) (.type "ValueError") else none) = some true
  rw [if_pos (by decide +kernel), hC.mro]
  simp
end
end HXv
namespace DD
open PySem L2 HXv HDp HM1
open PySem.Spec PyProof.Rows
section
variable {K : PySem.W.Frag} {B F Hb Hb' H H' : Hp} {m : Mem} {ρ : DD.Env}
theorem rp_gen {φ : Hp → V → Prop} {v : V} : Rp K H (.gen φ) v ↔ ∃ Hc, Same Hc H ∧ φ Hc v := by
  unfold Rp
  rfl
/-- d, and its value is v -/
def pinD (K : PySem.W.Frag) (v : V) (d : D) : D := .gen fun H w => w = v ∧ Rp K H d w
theorem pin_un {v w : V} {d : D} (h : Rp K H (pinD K v d) w) : w = v ∧ Rp K H d w := by
  obtain ⟨Hc, e, rfl, h2⟩ := rp_gen.mp h
  exact ⟨rfl, h2.mono e⟩
theorem rp_pin {v : V} {d : D} (h : Rp K H d v) : Rp K H (pinD K v d) v := rp_gen.mpr ⟨H, Same.refl _, rfl, h⟩
theorem we_pin {te : TE} {Q : QD} (h : WE K F B te ρ m fun d m1 => ∀ v, Q (pinD K v d) m1) : WE K F B te ρ m Q := fun Hb H σ R hB r hs k =>
  h Hb H σ _ hB r hs fun v H1 Hb1 d m1 e r1 hd q => k v H1 Hb1 _ m1 e r1 (rp_pin hd) (q v)
/-- less is said of a value -/
def Less (K : PySem.W.Frag) (d d' : D) : Prop := ∀ H v, Rp K H d v → Rp K H d' v
theorem less_pin {v : V} {d : D} : Less K (pinD K v d) d := fun H w h => (pin_un h).2
theorem wo_less {r2 : R2} {x x' y y' : D} {Q : QD} (hx : Less K x x') (hy : Less K y y') (h : WO K F B r2 x' y' m Q) : WO K F B r2 x y m Q := fun Hb H vx vy R hB r h1 h2 k => h Hb H vx vy R hB r (hx _ _ h1) (hy _ _ h2) k

/-! ### exceptions -/
def excD (K : PySem.W.Frag) (C : Addr) (n : Str) (x : D) : D := .gen fun H v => ∃ a dd w, v = .ref a ∧ H a = some (exo a C (some dd)) ∧ H dd = some (exd dd [(n, w)]) ∧ Rp K H x w
def exc0D (C : Addr) : D := .gen fun H v => ∃ a, v = .ref a ∧ H a = some (ExO (.ref C) a)
theorem exc_at {C : Addr} {n : Str} {x : D} {v : V} (h : Rp K H (excD K C n x) v) : ∃ a dd w, v = .ref a ∧ H a = some (exo a C (some dd)) ∧ H dd = some (exd dd [(n, w)]) ∧ Rp K H x w := by
  obtain ⟨Hc, e, a, dd, w, rfl, h1, h2, h3⟩ := rp_gen.mp h
  exact ⟨a, dd, w, rfl, e _ _ h1, e _ _ h2, h3.mono e⟩
theorem exc0_at {C : Addr} {v : V} (h : Rp K H (exc0D C) v) : ∃ a, v = .ref a ∧ H a = some (ExO (.ref C) a) := by
  obtain ⟨Hc, e, a, rfl, h1⟩ := rp_gen.mp h
  exact ⟨a, rfl, e _ _ h1⟩
theorem mk_run {C : Addr} {f : Str} {v : V} {d : D} {H1 Hb1 : Hp} {m1 : Mem} {R : VK} {Q : QD} (r1 : Rel K F Hb1 H1 m1) (hv : Rp K Hb1 d v) (k : OkV K F Hb1 Q R) (q : Q (excD K C f d) m1) {a : Addr} (ha : H1 a = none) :
    HX1.spExc C f [.ref a, v] (upd H1 a (exo a C none)) (fun v H2 => v = .non ∧ R (.ref a) H2) (fun _ _ _ => False) := by
  refine ⟨a, v, rfl, upd_same, fun dx h1 h2 => ⟨rfl, ?_⟩⟩
  have e : upd (upd (upd H1 a (exo a C none)) dx (exd dx [(f, v)])) a (exo a C (some dx)) = upd (upd H1 dx (exd dx [(f, v)])) a (exo a C (some dx)) := by
    funext b
    by_cases hb : b = a
    · subst hb
      rw [upd_same, upd_same]
    · rw [upd_ne hb, upd_ne hb]
      by_cases hx : b = dx
      · subst hx
        rw [upd_same, upd_same]
      · rw [upd_ne hx, upd_ne hx, upd_ne hb]
  rw [e]
  have h1' : H1 dx = none := by
    rw [upd_ne h2] at h1
    exact h1
  have r2 := r1.data (o := exd dx [(f, v)]) h1'
  have ha2 : upd H1 dx (exd dx [(f, v)]) a = none := by
    rw [upd_ne (Ne.symm h2)]
    exact ha
  have r3 := r2.data (o := exo a C (some dx)) ha2
  have s1 : Same Hb1 (upd Hb1 dx (exd dx [(f, v)])) := Same.new (r1.fresh h1')
  have s2 : Same (upd Hb1 dx (exd dx [(f, v)])) (upd (upd Hb1 dx (exd dx [(f, v)])) a (exo a C (some dx))) := Same.new (r2.fresh ha2)
  exact k _ _ _ (excD K C f d) _ (s1.trans s2) r3 (rp_gen.mpr ⟨_, Same.refl _, a, dx, v, rfl, upd_same, by rw [upd_ne h2]; exact upd_same, hv.mono (s1.trans s2)⟩) q
/-- C(e) -/
theorem we_mkV {C : Addr} {f : Str} {ta : TA} {Q : QD} (h : WA K F B ta ρ m fun ds m1 => ∃ d, ds = [d] ∧ Q (excD K C f d) m1) : WE K F B (tMkV C (HX1.spExc C f) [] ta) ρ m Q := fun Hb H σ R hB r hs k =>
  h Hb H σ _ hB r hs fun vs H1 Hb1 ds m1 e1 r1 hx q1 => by
    obtain ⟨d, rfl, q⟩ := q1
    obtain ⟨v, rfl, hv⟩ := rpL1 hx
    exact ⟨by show 1 ≤ 1000; decide, fun a ha => mk_run r1 hv (k.mono e1) q ha⟩
/-- C(k=e) -/
theorem we_mkVK {C : Addr} {f : Str} {tk : TA} {Q : QD} (h : WA K F B tk ρ m fun ds m1 => ∃ d, ds = [d] ∧ Q (excD K C f d) m1) : WE K F B (tMkVK C 1 (HX1.spExc C f) (fun vs zs => vs ++ zs) tk) ρ m Q := fun Hb H σ R hB r hs k =>
  h Hb H σ _ hB r hs fun vs H1 Hb1 ds m1 e1 r1 hx q1 => by
    obtain ⟨d, rfl, q⟩ := q1
    obtain ⟨v, rfl, hv⟩ := rpL1 hx
    exact ⟨rfl, fun a ha => mk_run r1 hv (k.mono e1) q ha⟩
theorem we_exc0 {C : Addr} {Q : QD} (q : Q (exc0D C) m) : WE K F B (tExc0 C) ρ m Q := fun Hb H σ R hB r hs k a ha =>
  k _ _ _ (exc0D C) m (Same.new (r.fresh ha)) (r.data ha) (rp_gen.mpr ⟨_, Same.refl _, a, rfl, upd_same⟩) q
theorem we_xv {C : Addr} {f : Str} {te : TE} {Q : QD} (h : WE K F B te ρ m fun x m1 => ∃ d, x = excD K C f d ∧ Q d m1) : WE K F B (tXv C f te) ρ m Q := fun Hb H σ R hB r hs k =>
  h Hb H σ _ hB r hs fun v H1 Hb1 x m1 e1 r1 hx q1 => by
    obtain ⟨d, rfl, q⟩ := q1
    obtain ⟨a, dd, w, rfl, h1, h2, h3⟩ := exc_at hx
    refine ⟨a, dd, _, w, rfl, r1.sub _ _ h1, r1.sub _ _ h2, ?_, k _ _ _ d _ e1 r1 h3 q⟩
    rw [List.lookup_cons, beq_self_eq_true]
/-- an exception of the class at C -/
def XcD (K : PySem.W.Frag) (C : Addr) (x : D) : Prop := (∃ n d, x = excD K C n d) ∨ x = exc0D C
theorem XcD.at {C : Addr} {x : D} {v : V} (h : XcD K C x) (r : Rel K F Hb H m) (hx : Rp K Hb x v) : ∃ a, v = .ref a ∧ ExAt H a C := by
  rcases h with ⟨n, d, rfl⟩ | rfl
  · obtain ⟨a, dd, w, rfl, h1, h2, h3⟩ := exc_at hx
    exact ⟨a, rfl, .inr (.inl ⟨dd, _, r.sub _ _ h1, r.sub _ _ h2⟩)⟩
  · obtain ⟨a, rfl, h1⟩ := exc0_at hx
    exact ⟨a, rfl, .inr (.inr (r.sub _ _ h1))⟩
theorem wc_isV {C C2 : Addr} {x : D} {b : Bool} {Q : QD} (hx : XcD K C x) (T : ExcC K C) (hk : PySem.W.kitOne K (.ref C) (.ref C2) = some b) (q : Q (.s (.bl b)) m) : WC K F B (rIsV K) [x, .s (.ref C2)] m Q := fun Hb H vs R hB r hv k => by
  obtain ⟨v, u, rfl, hv1, hu⟩ := rpL2 hv
  unfold Rp at hu
  subst hu
  obtain ⟨a, rfl, he⟩ := hx.at r hv1
  exact ⟨a, C, _, .ref C2, b, rfl, he, T, fun u h => h, hk, k.here r rp_s q⟩
theorem wc_isVT {C : Addr} {t : String} {x : D} {b : Bool} {Q : QD} (hx : XcD K C x) (T : ExcC K C) (hk : PySem.W.kitOne K (.ref C) (.type t) = some b) (q : Q (.s (.bl b)) m) : WC K F B (rIsV K) [x, .s (.ty t)] m Q := fun Hb H vs R hB r hv k => by
  obtain ⟨v, u, rfl, hv1, hu⟩ := rpL2 hv
  unfold Rp at hu
  subst hu
  obtain ⟨a, rfl, he⟩ := hx.at r hv1
  exact ⟨a, C, _, .type t, b, rfl, he, T, fun u h => h, hk, k.here r rp_s q⟩

/-! ### dicts that are never changed -/
theorem we_disp1 {s : Str} {i : Nat} {d : D} {Q : QD} (h : ρ[i]? = some (some d)) (q : Q (.dic [.inr s] [d]) m) : WE K F B (tFrz (tDisp [(tC (.str s), tVar i)])) ρ m Q := fun Hb H σ R hB r hs k => by
  intro p hp
  obtain ⟨v, hv, rv⟩ := hs.2 i d h
  refine ⟨v, hv, upd_same, [(.inr s, v)], rfl, (by show 1 ≤ 15; decide), p, _, rfl, upd_same, True.intro, fun od => ?_⟩
  rw [upd_upd, upd_upd]
  have s1 : Same Hb (upd Hb p (.frz od (.dK (mergeK [] [(.inr s, v)])))) := Same.new (r.fresh hp)
  refine k _ _ _ (.dic [.inr s] [d]) _ s1 (r.data hp) ?_ q
  unfold Rp
  exact ⟨p, od, [v], rfl, upd_same, RpL.cons (rv.mono s1) RpL.nil, rfl⟩
theorem wi_kyN {te : TE} {Q : List D → Mem → Prop} (h : WE K F B te ρ m fun x m1 => ∃ (ns : List Str) (ds : List D), x = .dic (ns.map Sum.inr) ds ∧ Q (ns.map fun n => .s (.str n)) m1) : WI K F B (HH1.iKy te) ρ m Q := fun Hb H σ R hB r hs k =>
  h Hb H σ _ hB r hs fun v H1 Hb1 x m1 e1 r1 hx q1 => by
    obtain ⟨ns, ds, rfl, q⟩ := q1
    unfold Rp at hx
    obtain ⟨p, o, vs, rfl, h1, h2, h3⟩ := hx
    have hl := h2.length
    rw [List.length_map] at h3
    have hz : ((ns.map (Sum.inr : Str → Key)).zip vs).length = ns.length := by
      rw [List.length_zip, List.length_map]
      omega
    refine ⟨p, o, rfl, _, r1.sub _ _ h1, k _ _ _ _ _ e1 r1 (fun i F' Hb2 H2 m2 e2 r2 => ⟨fun hi => ⟨r2.sub _ _ (e2 _ _ h1), ?_⟩, fun d hd => ⟨⟨r2.sub _ _ (e2 _ _ h1), ?_⟩, fun x H' y => ?_⟩⟩) q⟩
    · rw [List.length_map] at hi
      omega
    · have := (List.getElem?_eq_some_iff.mp hd).1
      rw [List.length_map] at this
      omega
    · obtain ⟨rfl, kk, v, h4, rfl⟩ := y
      refine ⟨Hb2, Same.refl _, r2, ?_⟩
      rw [List.getElem?_map] at hd
      have h5 : (ns.map (Sum.inr : Str → Key))[i]? = some kk := by
        rw [List.getElem?_zip_eq_some] at h4
        exact h4.1
      rw [List.getElem?_map] at h5
      cases hn : ns[i]? with
      | none =>
        rw [hn] at hd
        cases hd
      | some n =>
        rw [hn] at hd h5
        cases hd
        cases h5
        exact rp_s
theorem we_dgF {td ty : TE} {Q : QD} (h : WE K F B td ρ m fun x m1 => WE K F B ty ρ m1 fun y m2 => ∃ ks ds n d, x = .dic ks ds ∧ y = .s (.str n) ∧ lookK ks ds (.inr n) = some d ∧ Q d m2) : WE K F B (tDGet td ty) ρ m Q := fun Hb H σ R hB r hs k =>
  h Hb H σ _ hB r hs fun u H1 Hb1 x m1 e1 r1 hx q1 => q1 Hb1 H1 σ _ (hB.trans e1) r1 (hs.mono e1) fun v H2 Hb2 y m2 e2 r2 hy q2 => by
    obtain ⟨ks, ds, n, d, rfl, rfl, hl, q⟩ := q2
    unfold Rp at hx hy
    subst hy
    obtain ⟨p, o, vs, rfl, h1, h2, h3⟩ := hx
    obtain ⟨v, e, rv⟩ := (lookK_val (K := K) (Hb := Hb2) (.inr n) (h2.mono e2) h3).1 d hl
    exact ⟨p, v, rfl, .inl ⟨_, .inr n, .inr ⟨o, r2.sub _ _ (e2 _ _ h1)⟩, rfl, e.symm⟩, k _ _ _ d _ (e1.trans e2) r2 rv q⟩
theorem we_dictPKF {ta : TA} {Q : QD} (h : WA K F B ta ρ m fun xs m1 => ∃ (ns : List Str) (ds : List D), xs = [.lst ((ns.zip ds).map fun z => .tup [.s (.str z.1), z.2])] ∧ ns.Nodup ∧ ns.length = ds.length ∧ Q (.dic (ns.map Sum.inr) ds) m1) :
    WE K F B (tFrz (tCB (rDictPK K) ta)) ρ m Q := fun Hb H σ R hB r hs k =>
  h Hb H σ _ hB r hs fun vs H1 Hb1 xs m1 e1 r1 hx q1 => by
    obtain ⟨ns, ds, rfl, hn, hl, q⟩ := q1
    obtain ⟨v, rfl, hv⟩ := rpL1 hx
    unfold Rp at hv
    obtain ⟨p, ws, rfl, h1, h2⟩ := hv
    obtain ⟨ps, us, e1', e2, e3, e4⟩ := rp_pairsK hl h2
    subst e1'
    refine ⟨p, ps, (ns.map Sum.inr).zip us, rfl, SqL.of (r1.sub _ _ h1), e4.mono fun p kv h => sameT r1.sub h, fun a ha => ?_⟩
    have hk : ((ns.map Sum.inr).zip us).map (·.1) = (ns.map Sum.inr : List Key) := List.map_fst_zip (by rw [List.length_map]; omega)
    rw [mergeK_new _ [] (by rw [hk]; exact List.pairwise_map.mpr (hn.imp fun h z => h (Sum.inr.inj z))) fun p _ z => (nomatch z), List.nil_append]
    refine ⟨a, _, rfl, upd_same, True.intro, fun od => ?_⟩
    rw [upd_upd]
    have s1 : Same Hb1 (upd Hb1 a (.frz od (.dK ((ns.map Sum.inr).zip us)))) := Same.new (r1.fresh ha)
    refine k _ _ _ (.dic (ns.map Sum.inr) ds) _ (e1.trans s1) (r1.data ha) ?_ q
    unfold Rp
    exact ⟨a, od, us, rfl, upd_same, e2.mono s1, by rw [List.length_map]; exact hl⟩

/-! ### == of two of the same make -/
/-- two values of this datum are equal; n bounds the nesting -/
def EqD (K : PySem.W.Frag) : Nat → D → Prop
  | 0 => fun _ => False
  | n + 1 => fun x => (∃ w, x = .s w ∧ flatB w = true) ∨ (∃ a d, x = pinD K (.ref a) d) ∨ (∃ xs, x = .tup xs ∧ ∀ y ∈ xs, EqD K n y) ∨ ∃ k y, x = .dic [k] [y] ∧ EqD K n y
theorem eqD_run : ∀ (n : Nat) (x : D), EqD K n x → ∀ (Hb H : Hp) (v u : V), Same Hb H → Rp K Hb x v → Rp K Hb x u → HDp.EqV K H n v u
  | 0, _, h, _, _, _, _, _, _, _ => (show False from h).elim
  | n + 1, x, h, Hb, H, v, u, e, hv, hu => by
    rcases h with ⟨w, rfl, f⟩ | ⟨a, d, rfl⟩ | ⟨xs, rfl, hx⟩ | ⟨k, y, rfl, hy⟩
    · unfold Rp at hv hu
      subst hv hu
      exact .inl ⟨rfl, f⟩
    · obtain ⟨rfl, _⟩ := pin_un hv
      obtain ⟨rfl, _⟩ := pin_un hu
      exact .inr (.inl ⟨a, rfl, rfl⟩)
    · unfold Rp at hv hu
      obtain ⟨p, vs, rfl, h1, h2⟩ := hv
      obtain ⟨q, us, rfl, g1, g2⟩ := hu
      refine .inr (.inr (.inl ⟨p, q, vs, us, rfl, rfl, sameT e h1, sameT e g1, ?_⟩))
      clear h1 g1
      induction xs generalizing vs us with
      | nil =>
        unfold RpL at h2 g2
        subst h2 g2
        exact .nil
      | cons x xs ih =>
        unfold RpL at h2 g2
        obtain ⟨v, vs, rfl, a1, a2⟩ := h2
        obtain ⟨u, us, rfl, b1, b2⟩ := g2
        exact .cons (eqD_run n x (hx x List.mem_cons_self) Hb H v u e a1 b1) (ih (fun y hy => hx y (List.mem_cons_of_mem _ hy)) vs a2 us b2)
    · unfold Rp at hv hu
      obtain ⟨p, o, vs, rfl, h1, h2, _⟩ := hv
      obtain ⟨q, o', us, rfl, g1, g2, _⟩ := hu
      obtain ⟨v, rfl, hv⟩ := rpL1 h2
      obtain ⟨u, rfl, hu⟩ := rpL1 g2
      refine .inr (.inr (.inr ⟨p, q, [(k, v)], [(k, u)], rfl, rfl, .inr ⟨o, e _ _ h1⟩, .inr ⟨o', e _ _ g1⟩, rfl, fun z hz => ?_⟩))
      cases List.mem_singleton.mp hz
      exact ⟨u, by unfold valV; simp, eqD_run n y hy Hb H v u e hv hu⟩
theorem wo_eqW1 {n : Nat} {k : Key} {y : D} {Q : QD} (hn : n ≤ 60) (h : EqD K n y) (q : Q (.s (.bl true)) m) : WO K F B (rEqW K) (.dic [k] [y]) (.dic [k] [y]) m Q := fun Hb H vx vy R hB r hx hy kk => by
  have z := eqD_run (n + 1) (.dic [k] [y]) (.inr (.inr (.inr ⟨k, y, rfl, h⟩))) Hb H vx vy r.sub hx hy
  refine ⟨n, hn, ?_, kk.here r rp_s q⟩
  rcases z with ⟨_, f⟩ | ⟨a, rfl, rfl⟩ | z
  · unfold Rp at hx
    obtain ⟨p, o, vs, rfl, _⟩ := hx
    cases f
  · unfold Rp at hx
    obtain ⟨p, o, vs, e, h1, h2, _⟩ := hx
    cases e
    obtain ⟨v, rfl, hv⟩ := rpL1 h2
    refine .inr ⟨_, _, [(k, v)], [(k, v)], rfl, rfl, .inr ⟨o, r.sub _ _ h1⟩, .inr ⟨o, r.sub _ _ h1⟩, rfl, fun z hz => ?_⟩
    cases List.mem_singleton.mp hz
    exact ⟨v, by unfold valV; simp, eqD_run n y h Hb H v v r.sub hv hv⟩
  · exact z
end
end DD

namespace My
open PySem L2 DD
open PySem.Spec PyProof.Rows
/-! ### the text by places -/
def topS (i : Nat) : Stmt := PySem.Challenge.pw_unwalked_k62_errors_made.main.body.getD i (.Pass ⟨0, 0, 0, 0⟩)
abbrev s_BadPath___init__ : Stmt := inClass (topS 3) 0
abbrev N_BadPath___init__ : List Str := ["self", "text"]
theorem sc_BadPath___init__ : FnScope N_BadPath___init__ ["self", "text"] (defScope s_BadPath___init__) := ⟨rfl, rfl, rfl, by decide +kernel, rfl, by decide +kernel, by decide +kernel⟩
abbrev s_NotBegun___init__ : Stmt := inClass (topS 4) 0
abbrev N_NotBegun___init__ : List Str := ["self", "other"]
theorem sc_NotBegun___init__ : FnScope N_NotBegun___init__ ["self", "other"] (defScope s_NotBegun___init__) := ⟨rfl, rfl, rfl, by decide +kernel, rfl, by decide +kernel, by decide +kernel⟩
abbrev s_NoRelative___init__ : Stmt := inClass (topS 5) 0
abbrev N_NoRelative___init__ : List Str := ["self", "path"]
theorem sc_NoRelative___init__ : FnScope N_NoRelative___init__ ["self", "path"] (defScope s_NoRelative___init__) := ⟨rfl, rfl, rfl, by decide +kernel, rfl, by decide +kernel, by decide +kernel⟩
abbrev s_NoFolder___init__ : Stmt := inClass (topS 7) 0
abbrev N_NoFolder___init__ : List Str := ["self", "place"]
theorem sc_NoFolder___init__ : FnScope N_NoFolder___init__ ["self", "place"] (defScope s_NoFolder___init__) := ⟨rfl, rfl, rfl, by decide +kernel, rfl, by decide +kernel, by decide +kernel⟩
abbrev s_Taken___init__ : Stmt := inClass (topS 8) 0
abbrev N_Taken___init__ : List Str := ["self", "place"]
theorem sc_Taken___init__ : FnScope N_Taken___init__ ["self", "place"] (defScope s_Taken___init__) := ⟨rfl, rfl, rfl, by decide +kernel, rfl, by decide +kernel, by decide +kernel⟩
abbrev s_NoThing___init__ : Stmt := inClass (topS 9) 0
abbrev N_NoThing___init__ : List Str := ["self", "place"]
theorem sc_NoThing___init__ : FnScope N_NoThing___init__ ["self", "place"] (defScope s_NoThing___init__) := ⟨rfl, rfl, rfl, by decide +kernel, rfl, by decide +kernel, by decide +kernel⟩
abbrev s_NotEmpty___init__ : Stmt := inClass (topS 10) 0
abbrev N_NotEmpty___init__ : List Str := ["self", "place"]
theorem sc_NotEmpty___init__ : FnScope N_NotEmpty___init__ ["self", "place"] (defScope s_NotEmpty___init__) := ⟨rfl, rfl, rfl, by decide +kernel, rfl, by decide +kernel, by decide +kernel⟩
abbrev s_Inside___init__ : Stmt := inClass (topS 11) 0
abbrev N_Inside___init__ : List Str := ["self", "place"]
theorem sc_Inside___init__ : FnScope N_Inside___init__ ["self", "place"] (defScope s_Inside___init__) := ⟨rfl, rfl, rfl, by decide +kernel, rfl, by decide +kernel, by decide +kernel⟩
abbrev s_BadFact___init__ : Stmt := inClass (topS 12) 0
abbrev N_BadFact___init__ : List Str := ["self", "index"]
theorem sc_BadFact___init__ : FnScope N_BadFact___init__ ["self", "index"] (defScope s_BadFact___init__) := ⟨rfl, rfl, rfl, by decide +kernel, rfl, by decide +kernel, by decide +kernel⟩
abbrev s_BadStart___init__ : Stmt := inClass (topS 13) 0
abbrev N_BadStart___init__ : List Str := ["self", "start"]
theorem sc_BadStart___init__ : FnScope N_BadStart___init__ ["self", "start"] (defScope s_BadStart___init__) := ⟨rfl, rfl, rfl, by decide +kernel, rfl, by decide +kernel, by decide +kernel⟩
abbrev s_Clash___init__ : Stmt := inClass (topS 14) 0
abbrev N_Clash___init__ : List Str := ["self", "index"]
theorem sc_Clash___init__ : FnScope N_Clash___init__ ["self", "index"] (defScope s_Clash___init__) := ⟨rfl, rfl, rfl, by decide +kernel, rfl, by decide +kernel, by decide +kernel⟩
abbrev s_BadWord___init__ : Stmt := inClass (topS 16) 0
abbrev N_BadWord___init__ : List Str := ["self", "word"]
theorem sc_BadWord___init__ : FnScope N_BadWord___init__ ["self", "word"] (defScope s_BadWord___init__) := ⟨rfl, rfl, rfl, by decide +kernel, rfl, by decide +kernel, by decide +kernel⟩
abbrev s_StillAsked___init__ : Stmt := inClass (topS 17) 0
abbrev N_StillAsked___init__ : List Str := ["self", "path"]
theorem sc_StillAsked___init__ : FnScope N_StillAsked___init__ ["self", "path"] (defScope s_StillAsked___init__) := ⟨rfl, rfl, rfl, by decide +kernel, rfl, by decide +kernel, by decide +kernel⟩
abbrev s_NotTold___init__ : Stmt := inClass (topS 18) 0
abbrev N_NotTold___init__ : List Str := ["self", "place"]
theorem sc_NotTold___init__ : FnScope N_NotTold___init__ ["self", "place"] (defScope s_NotTold___init__) := ⟨rfl, rfl, rfl, by decide +kernel, rfl, by decide +kernel, by decide +kernel⟩
abbrev s_BadShape___init__ : Stmt := inClass (topS 19) 0
abbrev N_BadShape___init__ : List Str := ["self", "text"]
theorem sc_BadShape___init__ : FnScope N_BadShape___init__ ["self", "text"] (defScope s_BadShape___init__) := ⟨rfl, rfl, rfl, by decide +kernel, rfl, by decide +kernel, by decide +kernel⟩
abbrev s_NoValue___init__ : Stmt := inClass (topS 20) 0
abbrev N_NoValue___init__ : List Str := ["self", "letter"]
theorem sc_NoValue___init__ : FnScope N_NoValue___init__ ["self", "letter"] (defScope s_NoValue___init__) := ⟨rfl, rfl, rfl, by decide +kernel, rfl, by decide +kernel, by decide +kernel⟩
abbrev s_BadName___init__ : Stmt := inClass (topS 21) 0
abbrev N_BadName___init__ : List Str := ["self", "name"]
theorem sc_BadName___init__ : FnScope N_BadName___init__ ["self", "name"] (defScope s_BadName___init__) := ⟨rfl, rfl, rfl, by decide +kernel, rfl, by decide +kernel, by decide +kernel⟩
abbrev s_Held___init__ : Stmt := inClass (topS 22) 0
abbrev N_Held___init__ : List Str := ["self", "name"]
theorem sc_Held___init__ : FnScope N_Held___init__ ["self", "name"] (defScope s_Held___init__) := ⟨rfl, rfl, rfl, by decide +kernel, rfl, by decide +kernel, by decide +kernel⟩
abbrev s_NotHeld___init__ : Stmt := inClass (topS 23) 0
abbrev N_NotHeld___init__ : List Str := ["self", "name"]
theorem sc_NotHeld___init__ : FnScope N_NotHeld___init__ ["self", "name"] (defScope s_NotHeld___init__) := ⟨rfl, rfl, rfl, by decide +kernel, rfl, by decide +kernel, by decide +kernel⟩
abbrev s_BadDeed___init__ : Stmt := inClass (topS 24) 0
abbrev N_BadDeed___init__ : List Str := ["self", "deed"]
theorem sc_BadDeed___init__ : FnScope N_BadDeed___init__ ["self", "deed"] (defScope s_BadDeed___init__) := ⟨rfl, rfl, rfl, by decide +kernel, rfl, by decide +kernel, by decide +kernel⟩
abbrev s_BadText___init__ : Stmt := inClass (topS 26) 0
abbrev N_BadText___init__ : List Str := ["self", "line"]
theorem sc_BadText___init__ : FnScope N_BadText___init__ ["self", "line"] (defScope s_BadText___init__) := ⟨rfl, rfl, rfl, by decide +kernel, rfl, by decide +kernel, by decide +kernel⟩
abbrev s_is_name : Stmt := topS 30
abbrev N_is_name : List Str := ["thing", "sign"]
theorem sc_is_name : FnScope N_is_name ["thing"] (defScope s_is_name) := ⟨rfl, rfl, rfl, by decide +kernel, rfl, by decide +kernel, by decide +kernel⟩
abbrev s_is_path_text : Stmt := topS 31
abbrev N_is_path_text : List Str := ["thing", "piece"]
theorem sc_is_path_text : FnScope N_is_path_text ["thing"] (defScope s_is_path_text) := ⟨rfl, rfl, rfl, by decide +kernel, rfl, by decide +kernel, by decide +kernel⟩
abbrev s_Path___init__ : Stmt := inClass (topS 32) 0
abbrev N_Path___init__ : List Str := ["self", "text"]
theorem sc_Path___init__ : FnScope N_Path___init__ ["self", "text"] (defScope s_Path___init__) := ⟨rfl, rfl, rfl, by decide +kernel, rfl, by decide +kernel, by decide +kernel⟩
abbrev s_Path___eq__ : Stmt := inClass (topS 32) 1
abbrev N_Path___eq__ : List Str := ["self", "other"]
theorem sc_Path___eq__ : FnScope N_Path___eq__ ["self", "other"] (defScope s_Path___eq__) := ⟨rfl, rfl, rfl, by decide +kernel, rfl, by decide +kernel, by decide +kernel⟩
abbrev s_Path___len__ : Stmt := inClass (topS 32) 2
abbrev N_Path___len__ : List Str := ["self"]
theorem sc_Path___len__ : FnScope N_Path___len__ ["self"] (defScope s_Path___len__) := ⟨rfl, rfl, rfl, by decide +kernel, rfl, by decide +kernel, by decide +kernel⟩
abbrev s_Path___floordiv__ : Stmt := inClass (topS 32) 3
abbrev N_Path___floordiv__ : List Str := ["self", "other", "between"]
theorem sc_Path___floordiv__ : FnScope N_Path___floordiv__ ["self", "other"] (defScope s_Path___floordiv__) := ⟨rfl, rfl, rfl, by decide +kernel, rfl, by decide +kernel, by decide +kernel⟩
abbrev s_Path_steps : Stmt := inClass (topS 32) 4
abbrev N_Path_steps : List Str := ["self", "piece"]
theorem sc_Path_steps : FnScope N_Path_steps ["self"] (defScope s_Path_steps) := ⟨rfl, rfl, rfl, by decide +kernel, rfl, by decide +kernel, by decide +kernel⟩
abbrev s_Path_last : Stmt := inClass (topS 32) 5
abbrev N_Path_last : List Str := ["self", "steps"]
theorem sc_Path_last : FnScope N_Path_last ["self"] (defScope s_Path_last) := ⟨rfl, rfl, rfl, by decide +kernel, rfl, by decide +kernel, by decide +kernel⟩
abbrev s_Path_begin : Stmt := inClass (topS 32) 6
abbrev N_Path_begin : List Str := ["self", "head"]
theorem sc_Path_begin : FnScope N_Path_begin ["self"] (defScope s_Path_begin) := ⟨rfl, rfl, rfl, by decide +kernel, rfl, by decide +kernel, by decide +kernel⟩
abbrev s__law_start : Stmt := topS 34
abbrev N__law_start : List Str := ["_law_script"]
theorem sc__law_start : FnScope N__law_start ["_law_script"] (defScope s__law_start) := ⟨rfl, rfl, rfl, by decide +kernel, rfl, by decide +kernel, by decide +kernel⟩
abbrev s__law_draw : Stmt := topS 35
abbrev N__law_draw : List Str := ["_law_stream", "_law_many", "_law_cell", "_law_digit", "_law_mixed"]
theorem sc__law_draw : FnScope N__law_draw ["_law_stream", "_law_many"] (defScope s__law_draw) := ⟨rfl, rfl, rfl, by decide +kernel, rfl, by decide +kernel, by decide +kernel⟩
abbrev s__law_pick : Stmt := topS 36
abbrev N__law_pick : List Str := ["_law_stream", "_law_some"]
theorem sc__law_pick : FnScope N__law_pick ["_law_stream", "_law_some"] (defScope s__law_pick) := ⟨rfl, rfl, rfl, by decide +kernel, rfl, by decide +kernel, by decide +kernel⟩
abbrev s__law_same : Stmt := topS 37
abbrev N__law_same : List Str := ["_law_found", "_law_due", "_law_x", "_law_y"]
theorem sc__law_same : FnScope N__law_same ["_law_found", "_law_due"] (defScope s__law_same) := ⟨rfl, rfl, rfl, by decide +kernel, rfl, by decide +kernel, by decide +kernel⟩
abbrev s__law_frozen : Stmt := topS 38
abbrev N__law_frozen : List Str := ["_law_thing_here", "_law_key", "_law_part"]
theorem sc__law_frozen : FnScope N__law_frozen ["_law_thing_here"] (defScope s__law_frozen) := ⟨rfl, rfl, rfl, by decide +kernel, rfl, by decide +kernel, by decide +kernel⟩
abbrev s__law_thing : Stmt := topS 39
abbrev N__law_thing : List Str := ["_law_stream", "_law_deep", "_law_way", "_law_inner", "_law_k"]
theorem sc__law_thing : FnScope N__law_thing ["_law_stream", "_law_deep"] (defScope s__law_thing) := ⟨rfl, rfl, rfl, by decide +kernel, rfl, by decide +kernel, by decide +kernel⟩
abbrev s__law_by_place : Stmt := topS 40
abbrev N__law_by_place : List Str := ["_law_x", "_law_found"]
theorem sc__law_by_place : FnScope N__law_by_place ["_law_x"] (defScope s__law_by_place) := ⟨rfl, rfl, rfl, by decide +kernel, rfl, by decide +kernel, by decide +kernel⟩
abbrev s__law_by_name : Stmt := topS 41
abbrev N__law_by_name : List Str := ["_law_x", "_law_found"]
theorem sc__law_by_name : FnScope N__law_by_name ["_law_x"] (defScope s__law_by_name) := ⟨rfl, rfl, rfl, by decide +kernel, rfl, by decide +kernel, by decide +kernel⟩
abbrev s__law_kept : Stmt := topS 42
abbrev N__law_kept : List Str := ["_law_e", "_law_found"]
theorem sc__law_kept : FnScope N__law_kept ["_law_e"] (defScope s__law_kept) := ⟨rfl, rfl, rfl, by decide +kernel, rfl, by decide +kernel, by decide +kernel⟩
abbrev s__law_classes : Stmt := topS 43
abbrev N__law_classes : List Str := ["_law_e", "_law_found"]
theorem sc__law_classes : FnScope N__law_classes ["_law_e"] (defScope s__law_classes) := ⟨rfl, rfl, rfl, by decide +kernel, rfl, by decide +kernel, by decide +kernel⟩
abbrev s_law : Stmt := topS 44
abbrev N_law : List Str := ["_law_script", "_law_stream", "_law_turn", "_law_x", "_law_made", "_law_kept_here", "_law_at", "_law_e", "_law_k"]
theorem sc_law : FnScope N_law ["_law_script"] (defScope s_law) := ⟨rfl, rfl, rfl, by decide +kernel, rfl, by decide +kernel, by decide +kernel⟩
theorem st_BadPath___init__ (d0 d1 : D) : startD N_BadPath___init__ [d0, d1] = [some d0, some d1] := rfl
theorem st_NotBegun___init__ (d0 d1 : D) : startD N_NotBegun___init__ [d0, d1] = [some d0, some d1] := rfl
theorem st_NoRelative___init__ (d0 d1 : D) : startD N_NoRelative___init__ [d0, d1] = [some d0, some d1] := rfl
theorem st_NoFolder___init__ (d0 d1 : D) : startD N_NoFolder___init__ [d0, d1] = [some d0, some d1] := rfl
theorem st_Taken___init__ (d0 d1 : D) : startD N_Taken___init__ [d0, d1] = [some d0, some d1] := rfl
theorem st_NoThing___init__ (d0 d1 : D) : startD N_NoThing___init__ [d0, d1] = [some d0, some d1] := rfl
theorem st_NotEmpty___init__ (d0 d1 : D) : startD N_NotEmpty___init__ [d0, d1] = [some d0, some d1] := rfl
theorem st_Inside___init__ (d0 d1 : D) : startD N_Inside___init__ [d0, d1] = [some d0, some d1] := rfl
theorem st_BadFact___init__ (d0 d1 : D) : startD N_BadFact___init__ [d0, d1] = [some d0, some d1] := rfl
theorem st_BadStart___init__ (d0 d1 : D) : startD N_BadStart___init__ [d0, d1] = [some d0, some d1] := rfl
theorem st_Clash___init__ (d0 d1 : D) : startD N_Clash___init__ [d0, d1] = [some d0, some d1] := rfl
theorem st_BadWord___init__ (d0 d1 : D) : startD N_BadWord___init__ [d0, d1] = [some d0, some d1] := rfl
theorem st_StillAsked___init__ (d0 d1 : D) : startD N_StillAsked___init__ [d0, d1] = [some d0, some d1] := rfl
theorem st_NotTold___init__ (d0 d1 : D) : startD N_NotTold___init__ [d0, d1] = [some d0, some d1] := rfl
theorem st_BadShape___init__ (d0 d1 : D) : startD N_BadShape___init__ [d0, d1] = [some d0, some d1] := rfl
theorem st_NoValue___init__ (d0 d1 : D) : startD N_NoValue___init__ [d0, d1] = [some d0, some d1] := rfl
theorem st_BadName___init__ (d0 d1 : D) : startD N_BadName___init__ [d0, d1] = [some d0, some d1] := rfl
theorem st_Held___init__ (d0 d1 : D) : startD N_Held___init__ [d0, d1] = [some d0, some d1] := rfl
theorem st_NotHeld___init__ (d0 d1 : D) : startD N_NotHeld___init__ [d0, d1] = [some d0, some d1] := rfl
theorem st_BadDeed___init__ (d0 d1 : D) : startD N_BadDeed___init__ [d0, d1] = [some d0, some d1] := rfl
theorem st_BadText___init__ (d0 d1 : D) : startD N_BadText___init__ [d0, d1] = [some d0, some d1] := rfl
theorem st_is_name (d0 : D) : startD N_is_name [d0] = [some d0, none] := rfl
theorem st_is_path_text (d0 : D) : startD N_is_path_text [d0] = [some d0, none] := rfl
theorem st_Path___init__ (d0 d1 : D) : startD N_Path___init__ [d0, d1] = [some d0, some d1] := rfl
theorem st_Path___eq__ (d0 d1 : D) : startD N_Path___eq__ [d0, d1] = [some d0, some d1] := rfl
theorem st_Path___len__ (d0 : D) : startD N_Path___len__ [d0] = [some d0] := rfl
theorem st_Path___floordiv__ (d0 d1 : D) : startD N_Path___floordiv__ [d0, d1] = [some d0, some d1, none] := rfl
theorem st_Path_steps (d0 : D) : startD N_Path_steps [d0] = [some d0, none] := rfl
theorem st_Path_last (d0 : D) : startD N_Path_last [d0] = [some d0, none] := rfl
theorem st_Path_begin (d0 : D) : startD N_Path_begin [d0] = [some d0, none] := rfl
theorem st__law_start (d0 : D) : startD N__law_start [d0] = [some d0] := rfl
theorem st__law_draw (d0 d1 : D) : startD N__law_draw [d0, d1] = [some d0, some d1, none, none, none] := rfl
theorem st__law_pick (d0 d1 : D) : startD N__law_pick [d0, d1] = [some d0, some d1] := rfl
theorem st__law_same (d0 d1 : D) : startD N__law_same [d0, d1] = [some d0, some d1, none, none] := rfl
theorem st__law_frozen (d0 : D) : startD N__law_frozen [d0] = [some d0, none, none] := rfl
theorem st__law_thing (d0 d1 : D) : startD N__law_thing [d0, d1] = [some d0, some d1, none, none, none] := rfl
theorem st__law_by_place (d0 : D) : startD N__law_by_place [d0] = [some d0, none] := rfl
theorem st__law_by_name (d0 : D) : startD N__law_by_name [d0] = [some d0, none] := rfl
theorem st__law_kept (d0 : D) : startD N__law_kept [d0] = [some d0, none] := rfl
theorem st__law_classes (d0 : D) : startD N__law_classes [d0] = [some d0, none] := rfl
theorem st_law (d0 : D) : startD N_law [d0] = [some d0, none, none, none, none, none, none, none, none] := rfl
/-! ### what the top has written -/
structure Txt (K : PySem.W.Frag) (mg : Str → Option Value) where
  c_Path : Addr
  c_PathError : Addr
  c_BadDeed : Addr
  c_BadFact : Addr
  c_BadName : Addr
  c_BadPath : Addr
  c_BadShape : Addr
  c_BadStart : Addr
  c_BadText : Addr
  c_BadWord : Addr
  c_Clash : Addr
  c_Held : Addr
  c_Inside : Addr
  c_NoFolder : Addr
  c_NoRelative : Addr
  c_NoThing : Addr
  c_NoValue : Addr
  c_NotBegun : Addr
  c_NotEmpty : Addr
  c_NotHeld : Addr
  c_NotTold : Addr
  c_StillAsked : Addr
  c_Taken : Addr
  c_Root : Addr
  c_NotAsked : Addr
  c_NoDeed : Addr
  a_BadPath___init__ : Addr
  d_BadPath___init__ : FuncData
  F_BadPath___init__ : Fun K "__init__" "BadPath.__init__" s_BadPath___init__ a_BadPath___init__ d_BadPath___init__
  b_BadPath___init__ : Binds K d_BadPath___init__ ["self", "text"] []
  m_BadPath___init__ : Meth K c_BadPath "__init__" a_BadPath___init__
  kb_BadPath___init___text : KBn K d_BadPath___init__ ["self", "text"] 1 ["text"] (fun us ws => us ++ ws) (fun vs zs => vs ++ zs)
  a_NotBegun___init__ : Addr
  d_NotBegun___init__ : FuncData
  F_NotBegun___init__ : Fun K "__init__" "NotBegun.__init__" s_NotBegun___init__ a_NotBegun___init__ d_NotBegun___init__
  b_NotBegun___init__ : Binds K d_NotBegun___init__ ["self", "other"] []
  m_NotBegun___init__ : Meth K c_NotBegun "__init__" a_NotBegun___init__
  kb_NotBegun___init___other : KBn K d_NotBegun___init__ ["self", "other"] 1 ["other"] (fun us ws => us ++ ws) (fun vs zs => vs ++ zs)
  a_NoRelative___init__ : Addr
  d_NoRelative___init__ : FuncData
  F_NoRelative___init__ : Fun K "__init__" "NoRelative.__init__" s_NoRelative___init__ a_NoRelative___init__ d_NoRelative___init__
  b_NoRelative___init__ : Binds K d_NoRelative___init__ ["self", "path"] []
  m_NoRelative___init__ : Meth K c_NoRelative "__init__" a_NoRelative___init__
  kb_NoRelative___init___path : KBn K d_NoRelative___init__ ["self", "path"] 1 ["path"] (fun us ws => us ++ ws) (fun vs zs => vs ++ zs)
  a_NoFolder___init__ : Addr
  d_NoFolder___init__ : FuncData
  F_NoFolder___init__ : Fun K "__init__" "NoFolder.__init__" s_NoFolder___init__ a_NoFolder___init__ d_NoFolder___init__
  b_NoFolder___init__ : Binds K d_NoFolder___init__ ["self", "place"] []
  m_NoFolder___init__ : Meth K c_NoFolder "__init__" a_NoFolder___init__
  kb_NoFolder___init___place : KBn K d_NoFolder___init__ ["self", "place"] 1 ["place"] (fun us ws => us ++ ws) (fun vs zs => vs ++ zs)
  a_Taken___init__ : Addr
  d_Taken___init__ : FuncData
  F_Taken___init__ : Fun K "__init__" "Taken.__init__" s_Taken___init__ a_Taken___init__ d_Taken___init__
  b_Taken___init__ : Binds K d_Taken___init__ ["self", "place"] []
  m_Taken___init__ : Meth K c_Taken "__init__" a_Taken___init__
  kb_Taken___init___place : KBn K d_Taken___init__ ["self", "place"] 1 ["place"] (fun us ws => us ++ ws) (fun vs zs => vs ++ zs)
  a_NoThing___init__ : Addr
  d_NoThing___init__ : FuncData
  F_NoThing___init__ : Fun K "__init__" "NoThing.__init__" s_NoThing___init__ a_NoThing___init__ d_NoThing___init__
  b_NoThing___init__ : Binds K d_NoThing___init__ ["self", "place"] []
  m_NoThing___init__ : Meth K c_NoThing "__init__" a_NoThing___init__
  kb_NoThing___init___place : KBn K d_NoThing___init__ ["self", "place"] 1 ["place"] (fun us ws => us ++ ws) (fun vs zs => vs ++ zs)
  a_NotEmpty___init__ : Addr
  d_NotEmpty___init__ : FuncData
  F_NotEmpty___init__ : Fun K "__init__" "NotEmpty.__init__" s_NotEmpty___init__ a_NotEmpty___init__ d_NotEmpty___init__
  b_NotEmpty___init__ : Binds K d_NotEmpty___init__ ["self", "place"] []
  m_NotEmpty___init__ : Meth K c_NotEmpty "__init__" a_NotEmpty___init__
  kb_NotEmpty___init___place : KBn K d_NotEmpty___init__ ["self", "place"] 1 ["place"] (fun us ws => us ++ ws) (fun vs zs => vs ++ zs)
  a_Inside___init__ : Addr
  d_Inside___init__ : FuncData
  F_Inside___init__ : Fun K "__init__" "Inside.__init__" s_Inside___init__ a_Inside___init__ d_Inside___init__
  b_Inside___init__ : Binds K d_Inside___init__ ["self", "place"] []
  m_Inside___init__ : Meth K c_Inside "__init__" a_Inside___init__
  kb_Inside___init___place : KBn K d_Inside___init__ ["self", "place"] 1 ["place"] (fun us ws => us ++ ws) (fun vs zs => vs ++ zs)
  a_BadFact___init__ : Addr
  d_BadFact___init__ : FuncData
  F_BadFact___init__ : Fun K "__init__" "BadFact.__init__" s_BadFact___init__ a_BadFact___init__ d_BadFact___init__
  b_BadFact___init__ : Binds K d_BadFact___init__ ["self", "index"] []
  m_BadFact___init__ : Meth K c_BadFact "__init__" a_BadFact___init__
  kb_BadFact___init___index : KBn K d_BadFact___init__ ["self", "index"] 1 ["index"] (fun us ws => us ++ ws) (fun vs zs => vs ++ zs)
  a_BadStart___init__ : Addr
  d_BadStart___init__ : FuncData
  F_BadStart___init__ : Fun K "__init__" "BadStart.__init__" s_BadStart___init__ a_BadStart___init__ d_BadStart___init__
  b_BadStart___init__ : Binds K d_BadStart___init__ ["self", "start"] []
  m_BadStart___init__ : Meth K c_BadStart "__init__" a_BadStart___init__
  kb_BadStart___init___start : KBn K d_BadStart___init__ ["self", "start"] 1 ["start"] (fun us ws => us ++ ws) (fun vs zs => vs ++ zs)
  a_Clash___init__ : Addr
  d_Clash___init__ : FuncData
  F_Clash___init__ : Fun K "__init__" "Clash.__init__" s_Clash___init__ a_Clash___init__ d_Clash___init__
  b_Clash___init__ : Binds K d_Clash___init__ ["self", "index"] []
  m_Clash___init__ : Meth K c_Clash "__init__" a_Clash___init__
  kb_Clash___init___index : KBn K d_Clash___init__ ["self", "index"] 1 ["index"] (fun us ws => us ++ ws) (fun vs zs => vs ++ zs)
  a_BadWord___init__ : Addr
  d_BadWord___init__ : FuncData
  F_BadWord___init__ : Fun K "__init__" "BadWord.__init__" s_BadWord___init__ a_BadWord___init__ d_BadWord___init__
  b_BadWord___init__ : Binds K d_BadWord___init__ ["self", "word"] []
  m_BadWord___init__ : Meth K c_BadWord "__init__" a_BadWord___init__
  kb_BadWord___init___word : KBn K d_BadWord___init__ ["self", "word"] 1 ["word"] (fun us ws => us ++ ws) (fun vs zs => vs ++ zs)
  a_StillAsked___init__ : Addr
  d_StillAsked___init__ : FuncData
  F_StillAsked___init__ : Fun K "__init__" "StillAsked.__init__" s_StillAsked___init__ a_StillAsked___init__ d_StillAsked___init__
  b_StillAsked___init__ : Binds K d_StillAsked___init__ ["self", "path"] []
  m_StillAsked___init__ : Meth K c_StillAsked "__init__" a_StillAsked___init__
  kb_StillAsked___init___path : KBn K d_StillAsked___init__ ["self", "path"] 1 ["path"] (fun us ws => us ++ ws) (fun vs zs => vs ++ zs)
  a_NotTold___init__ : Addr
  d_NotTold___init__ : FuncData
  F_NotTold___init__ : Fun K "__init__" "NotTold.__init__" s_NotTold___init__ a_NotTold___init__ d_NotTold___init__
  b_NotTold___init__ : Binds K d_NotTold___init__ ["self", "place"] []
  m_NotTold___init__ : Meth K c_NotTold "__init__" a_NotTold___init__
  kb_NotTold___init___place : KBn K d_NotTold___init__ ["self", "place"] 1 ["place"] (fun us ws => us ++ ws) (fun vs zs => vs ++ zs)
  a_BadShape___init__ : Addr
  d_BadShape___init__ : FuncData
  F_BadShape___init__ : Fun K "__init__" "BadShape.__init__" s_BadShape___init__ a_BadShape___init__ d_BadShape___init__
  b_BadShape___init__ : Binds K d_BadShape___init__ ["self", "text"] []
  m_BadShape___init__ : Meth K c_BadShape "__init__" a_BadShape___init__
  kb_BadShape___init___text : KBn K d_BadShape___init__ ["self", "text"] 1 ["text"] (fun us ws => us ++ ws) (fun vs zs => vs ++ zs)
  a_NoValue___init__ : Addr
  d_NoValue___init__ : FuncData
  F_NoValue___init__ : Fun K "__init__" "NoValue.__init__" s_NoValue___init__ a_NoValue___init__ d_NoValue___init__
  b_NoValue___init__ : Binds K d_NoValue___init__ ["self", "letter"] []
  m_NoValue___init__ : Meth K c_NoValue "__init__" a_NoValue___init__
  kb_NoValue___init___letter : KBn K d_NoValue___init__ ["self", "letter"] 1 ["letter"] (fun us ws => us ++ ws) (fun vs zs => vs ++ zs)
  a_BadName___init__ : Addr
  d_BadName___init__ : FuncData
  F_BadName___init__ : Fun K "__init__" "BadName.__init__" s_BadName___init__ a_BadName___init__ d_BadName___init__
  b_BadName___init__ : Binds K d_BadName___init__ ["self", "name"] []
  m_BadName___init__ : Meth K c_BadName "__init__" a_BadName___init__
  kb_BadName___init___name : KBn K d_BadName___init__ ["self", "name"] 1 ["name"] (fun us ws => us ++ ws) (fun vs zs => vs ++ zs)
  a_Held___init__ : Addr
  d_Held___init__ : FuncData
  F_Held___init__ : Fun K "__init__" "Held.__init__" s_Held___init__ a_Held___init__ d_Held___init__
  b_Held___init__ : Binds K d_Held___init__ ["self", "name"] []
  m_Held___init__ : Meth K c_Held "__init__" a_Held___init__
  kb_Held___init___name : KBn K d_Held___init__ ["self", "name"] 1 ["name"] (fun us ws => us ++ ws) (fun vs zs => vs ++ zs)
  a_NotHeld___init__ : Addr
  d_NotHeld___init__ : FuncData
  F_NotHeld___init__ : Fun K "__init__" "NotHeld.__init__" s_NotHeld___init__ a_NotHeld___init__ d_NotHeld___init__
  b_NotHeld___init__ : Binds K d_NotHeld___init__ ["self", "name"] []
  m_NotHeld___init__ : Meth K c_NotHeld "__init__" a_NotHeld___init__
  kb_NotHeld___init___name : KBn K d_NotHeld___init__ ["self", "name"] 1 ["name"] (fun us ws => us ++ ws) (fun vs zs => vs ++ zs)
  a_BadDeed___init__ : Addr
  d_BadDeed___init__ : FuncData
  F_BadDeed___init__ : Fun K "__init__" "BadDeed.__init__" s_BadDeed___init__ a_BadDeed___init__ d_BadDeed___init__
  b_BadDeed___init__ : Binds K d_BadDeed___init__ ["self", "deed"] []
  m_BadDeed___init__ : Meth K c_BadDeed "__init__" a_BadDeed___init__
  kb_BadDeed___init___deed : KBn K d_BadDeed___init__ ["self", "deed"] 1 ["deed"] (fun us ws => us ++ ws) (fun vs zs => vs ++ zs)
  a_BadText___init__ : Addr
  d_BadText___init__ : FuncData
  F_BadText___init__ : Fun K "__init__" "BadText.__init__" s_BadText___init__ a_BadText___init__ d_BadText___init__
  b_BadText___init__ : Binds K d_BadText___init__ ["self", "line"] []
  m_BadText___init__ : Meth K c_BadText "__init__" a_BadText___init__
  kb_BadText___init___line : KBn K d_BadText___init__ ["self", "line"] 1 ["line"] (fun us ws => us ++ ws) (fun vs zs => vs ++ zs)
  a_is_name : Addr
  d_is_name : FuncData
  F_is_name : Fun K "is_name" "is_name" s_is_name a_is_name d_is_name
  b_is_name : Binds K d_is_name ["thing"] []
  g_is_name : mg "is_name" = some (.ref a_is_name)
  a_is_path_text : Addr
  d_is_path_text : FuncData
  F_is_path_text : Fun K "is_path_text" "is_path_text" s_is_path_text a_is_path_text d_is_path_text
  b_is_path_text : Binds K d_is_path_text ["thing"] []
  g_is_path_text : mg "is_path_text" = some (.ref a_is_path_text)
  a_Path___init__ : Addr
  d_Path___init__ : FuncData
  F_Path___init__ : Fun K "__init__" "Path.__init__" s_Path___init__ a_Path___init__ d_Path___init__
  b_Path___init__ : Binds K d_Path___init__ ["self", "text"] []
  m_Path___init__ : Meth K c_Path "__init__" a_Path___init__
  a_Path___eq__ : Addr
  d_Path___eq__ : FuncData
  F_Path___eq__ : Fun K "__eq__" "Path.__eq__" s_Path___eq__ a_Path___eq__ d_Path___eq__
  b_Path___eq__ : Binds K d_Path___eq__ ["self", "other"] []
  m_Path___eq__ : Meth K c_Path "__eq__" a_Path___eq__
  a_Path___len__ : Addr
  d_Path___len__ : FuncData
  F_Path___len__ : Fun K "__len__" "Path.__len__" s_Path___len__ a_Path___len__ d_Path___len__
  b_Path___len__ : Binds K d_Path___len__ ["self"] []
  m_Path___len__ : Meth K c_Path "__len__" a_Path___len__
  a_Path___floordiv__ : Addr
  d_Path___floordiv__ : FuncData
  F_Path___floordiv__ : Fun K "__floordiv__" "Path.__floordiv__" s_Path___floordiv__ a_Path___floordiv__ d_Path___floordiv__
  b_Path___floordiv__ : Binds K d_Path___floordiv__ ["self", "other"] []
  m_Path___floordiv__ : Meth K c_Path "__floordiv__" a_Path___floordiv__
  a_Path_steps : Addr
  d_Path_steps : FuncData
  F_Path_steps : Fun K "steps" "Path.steps" s_Path_steps a_Path_steps d_Path_steps
  b_Path_steps : Binds K d_Path_steps ["self"] []
  m_Path_steps : Meth K c_Path "steps" a_Path_steps
  a_Path_last : Addr
  d_Path_last : FuncData
  F_Path_last : Fun K "last" "Path.last" s_Path_last a_Path_last d_Path_last
  b_Path_last : Binds K d_Path_last ["self"] []
  m_Path_last : Meth K c_Path "last" a_Path_last
  a_Path_begin : Addr
  d_Path_begin : FuncData
  F_Path_begin : Fun K "begin" "Path.begin" s_Path_begin a_Path_begin d_Path_begin
  b_Path_begin : Binds K d_Path_begin ["self"] []
  m_Path_begin : Meth K c_Path "begin" a_Path_begin
  a__law_start : Addr
  d__law_start : FuncData
  F__law_start : Fun K "_law_start" "_law_start" s__law_start a__law_start d__law_start
  b__law_start : Binds K d__law_start ["_law_script"] []
  g__law_start : mg "_law_start" = some (.ref a__law_start)
  a__law_draw : Addr
  d__law_draw : FuncData
  F__law_draw : Fun K "_law_draw" "_law_draw" s__law_draw a__law_draw d__law_draw
  b__law_draw : Binds K d__law_draw ["_law_stream", "_law_many"] []
  g__law_draw : mg "_law_draw" = some (.ref a__law_draw)
  a__law_pick : Addr
  d__law_pick : FuncData
  F__law_pick : Fun K "_law_pick" "_law_pick" s__law_pick a__law_pick d__law_pick
  b__law_pick : Binds K d__law_pick ["_law_stream", "_law_some"] []
  g__law_pick : mg "_law_pick" = some (.ref a__law_pick)
  a__law_same : Addr
  d__law_same : FuncData
  F__law_same : Fun K "_law_same" "_law_same" s__law_same a__law_same d__law_same
  b__law_same : Binds K d__law_same ["_law_found", "_law_due"] []
  g__law_same : mg "_law_same" = some (.ref a__law_same)
  a__law_frozen : Addr
  d__law_frozen : FuncData
  F__law_frozen : Fun K "_law_frozen" "_law_frozen" s__law_frozen a__law_frozen d__law_frozen
  b__law_frozen : Binds K d__law_frozen ["_law_thing_here"] []
  g__law_frozen : mg "_law_frozen" = some (.ref a__law_frozen)
  a__law_thing : Addr
  d__law_thing : FuncData
  F__law_thing : Fun K "_law_thing" "_law_thing" s__law_thing a__law_thing d__law_thing
  b__law_thing : Binds K d__law_thing ["_law_stream", "_law_deep"] []
  g__law_thing : mg "_law_thing" = some (.ref a__law_thing)
  a__law_by_place : Addr
  d__law_by_place : FuncData
  F__law_by_place : Fun K "_law_by_place" "_law_by_place" s__law_by_place a__law_by_place d__law_by_place
  b__law_by_place : Binds K d__law_by_place ["_law_x"] []
  g__law_by_place : mg "_law_by_place" = some (.ref a__law_by_place)
  a__law_by_name : Addr
  d__law_by_name : FuncData
  F__law_by_name : Fun K "_law_by_name" "_law_by_name" s__law_by_name a__law_by_name d__law_by_name
  b__law_by_name : Binds K d__law_by_name ["_law_x"] []
  g__law_by_name : mg "_law_by_name" = some (.ref a__law_by_name)
  a__law_kept : Addr
  d__law_kept : FuncData
  F__law_kept : Fun K "_law_kept" "_law_kept" s__law_kept a__law_kept d__law_kept
  b__law_kept : Binds K d__law_kept ["_law_e"] []
  g__law_kept : mg "_law_kept" = some (.ref a__law_kept)
  a__law_classes : Addr
  d__law_classes : FuncData
  F__law_classes : Fun K "_law_classes" "_law_classes" s__law_classes a__law_classes d__law_classes
  b__law_classes : Binds K d__law_classes ["_law_e"] []
  g__law_classes : mg "_law_classes" = some (.ref a__law_classes)
  a_law : Addr
  d_law : FuncData
  F_law : Fun K "law" "law" s_law a_law d_law
  b_law : Binds K d_law ["_law_script"] []
  g_law : mg "law" = some (.ref a_law)
  g_Path : mg "Path" = some (.ref c_Path)
  y_Path : InsTy K c_Path
  mk_Path : Mk K c_Path a_Path___init__
  n_Path_text : NoAttr K c_Path "text"
  n_Path_rooted : NoAttr K c_Path "rooted"
  n_Path_ended : NoAttr K c_Path "ended"
  kt_Path_Path : PySem.W.kitOne K (.ref c_Path) (.ref c_Path) = some true
  kt_Path_dict : PySem.W.kitOne K (.ref c_Path) (.type "dict") = some false
  kt_Path_list : PySem.W.kitOne K (.ref c_Path) (.type "list") = some false
  kt_Path_tuple : PySem.W.kitOne K (.ref c_Path) (.type "tuple") = some false
  kt_Path_int : PySem.W.kitOne K (.ref c_Path) (.type "int") = some false
  g_PathError : mg "PathError" = some (.ref c_PathError)
  er_PathError : PySem.W.readsIn K c_PathError (.type "type") = true
  ea_PathError : PySem.W.specialIn K (.ref c_PathError) "__getattribute__" = some (some (.builtin "type.__getattribute__"))
  ev_PathError : PySem.W.findCls K (.ref c_PathError) (.type "type") "__init__" = some (.val (.builtin "ValueError.__init__"))
  g_BadDeed : mg "BadDeed" = some (.ref c_BadDeed)
  oe_BadDeed : OexC K c_BadDeed
  ex_BadDeed : XfC K c_BadDeed
  ef_BadDeed : PySem.W.findIn K (.ref c_BadDeed) "deed" = some none
  ei_BadDeed : PySem.W.findIn K (.ref c_BadDeed) "__init__" = some (some (.ref a_BadDeed___init__))
  et_BadDeed : PySem.W.typeIn K (.ref a_BadDeed___init__) = some (.type "function")
  ec_BadDeed : ExcC K c_BadDeed
  xk_BadDeed : HXv.XKl K c_PathError c_BadDeed
  g_BadFact : mg "BadFact" = some (.ref c_BadFact)
  oe_BadFact : OexC K c_BadFact
  ex_BadFact : XfC K c_BadFact
  ef_BadFact : PySem.W.findIn K (.ref c_BadFact) "index" = some none
  ei_BadFact : PySem.W.findIn K (.ref c_BadFact) "__init__" = some (some (.ref a_BadFact___init__))
  et_BadFact : PySem.W.typeIn K (.ref a_BadFact___init__) = some (.type "function")
  ec_BadFact : ExcC K c_BadFact
  xk_BadFact : HXv.XKl K c_PathError c_BadFact
  g_BadName : mg "BadName" = some (.ref c_BadName)
  oe_BadName : OexC K c_BadName
  ex_BadName : XfC K c_BadName
  ef_BadName : PySem.W.findIn K (.ref c_BadName) "name" = some none
  ei_BadName : PySem.W.findIn K (.ref c_BadName) "__init__" = some (some (.ref a_BadName___init__))
  et_BadName : PySem.W.typeIn K (.ref a_BadName___init__) = some (.type "function")
  ec_BadName : ExcC K c_BadName
  xk_BadName : HXv.XKl K c_PathError c_BadName
  g_BadPath : mg "BadPath" = some (.ref c_BadPath)
  oe_BadPath : OexC K c_BadPath
  ex_BadPath : XfC K c_BadPath
  ef_BadPath : PySem.W.findIn K (.ref c_BadPath) "text" = some none
  ei_BadPath : PySem.W.findIn K (.ref c_BadPath) "__init__" = some (some (.ref a_BadPath___init__))
  et_BadPath : PySem.W.typeIn K (.ref a_BadPath___init__) = some (.type "function")
  ec_BadPath : ExcC K c_BadPath
  xk_BadPath : HXv.XKl K c_PathError c_BadPath
  g_BadShape : mg "BadShape" = some (.ref c_BadShape)
  oe_BadShape : OexC K c_BadShape
  ex_BadShape : XfC K c_BadShape
  ef_BadShape : PySem.W.findIn K (.ref c_BadShape) "text" = some none
  ei_BadShape : PySem.W.findIn K (.ref c_BadShape) "__init__" = some (some (.ref a_BadShape___init__))
  et_BadShape : PySem.W.typeIn K (.ref a_BadShape___init__) = some (.type "function")
  ec_BadShape : ExcC K c_BadShape
  xk_BadShape : HXv.XKl K c_PathError c_BadShape
  g_BadStart : mg "BadStart" = some (.ref c_BadStart)
  oe_BadStart : OexC K c_BadStart
  ex_BadStart : XfC K c_BadStart
  ef_BadStart : PySem.W.findIn K (.ref c_BadStart) "start" = some none
  ei_BadStart : PySem.W.findIn K (.ref c_BadStart) "__init__" = some (some (.ref a_BadStart___init__))
  et_BadStart : PySem.W.typeIn K (.ref a_BadStart___init__) = some (.type "function")
  ec_BadStart : ExcC K c_BadStart
  xk_BadStart : HXv.XKl K c_PathError c_BadStart
  g_BadText : mg "BadText" = some (.ref c_BadText)
  oe_BadText : OexC K c_BadText
  ex_BadText : XfC K c_BadText
  ef_BadText : PySem.W.findIn K (.ref c_BadText) "line" = some none
  ei_BadText : PySem.W.findIn K (.ref c_BadText) "__init__" = some (some (.ref a_BadText___init__))
  et_BadText : PySem.W.typeIn K (.ref a_BadText___init__) = some (.type "function")
  ec_BadText : ExcC K c_BadText
  xk_BadText : HXv.XKl K c_PathError c_BadText
  g_BadWord : mg "BadWord" = some (.ref c_BadWord)
  oe_BadWord : OexC K c_BadWord
  ex_BadWord : XfC K c_BadWord
  ef_BadWord : PySem.W.findIn K (.ref c_BadWord) "word" = some none
  ei_BadWord : PySem.W.findIn K (.ref c_BadWord) "__init__" = some (some (.ref a_BadWord___init__))
  et_BadWord : PySem.W.typeIn K (.ref a_BadWord___init__) = some (.type "function")
  ec_BadWord : ExcC K c_BadWord
  xk_BadWord : HXv.XKl K c_PathError c_BadWord
  g_Clash : mg "Clash" = some (.ref c_Clash)
  oe_Clash : OexC K c_Clash
  ex_Clash : XfC K c_Clash
  ef_Clash : PySem.W.findIn K (.ref c_Clash) "index" = some none
  ei_Clash : PySem.W.findIn K (.ref c_Clash) "__init__" = some (some (.ref a_Clash___init__))
  et_Clash : PySem.W.typeIn K (.ref a_Clash___init__) = some (.type "function")
  ec_Clash : ExcC K c_Clash
  xk_Clash : HXv.XKl K c_PathError c_Clash
  g_Held : mg "Held" = some (.ref c_Held)
  oe_Held : OexC K c_Held
  ex_Held : XfC K c_Held
  ef_Held : PySem.W.findIn K (.ref c_Held) "name" = some none
  ei_Held : PySem.W.findIn K (.ref c_Held) "__init__" = some (some (.ref a_Held___init__))
  et_Held : PySem.W.typeIn K (.ref a_Held___init__) = some (.type "function")
  ec_Held : ExcC K c_Held
  xk_Held : HXv.XKl K c_PathError c_Held
  g_Inside : mg "Inside" = some (.ref c_Inside)
  oe_Inside : OexC K c_Inside
  ex_Inside : XfC K c_Inside
  ef_Inside : PySem.W.findIn K (.ref c_Inside) "place" = some none
  ei_Inside : PySem.W.findIn K (.ref c_Inside) "__init__" = some (some (.ref a_Inside___init__))
  et_Inside : PySem.W.typeIn K (.ref a_Inside___init__) = some (.type "function")
  ec_Inside : ExcC K c_Inside
  xk_Inside : HXv.XKl K c_PathError c_Inside
  g_NoFolder : mg "NoFolder" = some (.ref c_NoFolder)
  oe_NoFolder : OexC K c_NoFolder
  ex_NoFolder : XfC K c_NoFolder
  ef_NoFolder : PySem.W.findIn K (.ref c_NoFolder) "place" = some none
  ei_NoFolder : PySem.W.findIn K (.ref c_NoFolder) "__init__" = some (some (.ref a_NoFolder___init__))
  et_NoFolder : PySem.W.typeIn K (.ref a_NoFolder___init__) = some (.type "function")
  ec_NoFolder : ExcC K c_NoFolder
  xk_NoFolder : HXv.XKl K c_PathError c_NoFolder
  g_NoRelative : mg "NoRelative" = some (.ref c_NoRelative)
  oe_NoRelative : OexC K c_NoRelative
  ex_NoRelative : XfC K c_NoRelative
  ef_NoRelative : PySem.W.findIn K (.ref c_NoRelative) "path" = some none
  ei_NoRelative : PySem.W.findIn K (.ref c_NoRelative) "__init__" = some (some (.ref a_NoRelative___init__))
  et_NoRelative : PySem.W.typeIn K (.ref a_NoRelative___init__) = some (.type "function")
  ec_NoRelative : ExcC K c_NoRelative
  xk_NoRelative : HXv.XKl K c_PathError c_NoRelative
  g_NoThing : mg "NoThing" = some (.ref c_NoThing)
  oe_NoThing : OexC K c_NoThing
  ex_NoThing : XfC K c_NoThing
  ef_NoThing : PySem.W.findIn K (.ref c_NoThing) "place" = some none
  ei_NoThing : PySem.W.findIn K (.ref c_NoThing) "__init__" = some (some (.ref a_NoThing___init__))
  et_NoThing : PySem.W.typeIn K (.ref a_NoThing___init__) = some (.type "function")
  ec_NoThing : ExcC K c_NoThing
  xk_NoThing : HXv.XKl K c_PathError c_NoThing
  g_NoValue : mg "NoValue" = some (.ref c_NoValue)
  oe_NoValue : OexC K c_NoValue
  ex_NoValue : XfC K c_NoValue
  ef_NoValue : PySem.W.findIn K (.ref c_NoValue) "letter" = some none
  ei_NoValue : PySem.W.findIn K (.ref c_NoValue) "__init__" = some (some (.ref a_NoValue___init__))
  et_NoValue : PySem.W.typeIn K (.ref a_NoValue___init__) = some (.type "function")
  ec_NoValue : ExcC K c_NoValue
  xk_NoValue : HXv.XKl K c_PathError c_NoValue
  g_NotBegun : mg "NotBegun" = some (.ref c_NotBegun)
  oe_NotBegun : OexC K c_NotBegun
  ex_NotBegun : XfC K c_NotBegun
  ef_NotBegun : PySem.W.findIn K (.ref c_NotBegun) "other" = some none
  ei_NotBegun : PySem.W.findIn K (.ref c_NotBegun) "__init__" = some (some (.ref a_NotBegun___init__))
  et_NotBegun : PySem.W.typeIn K (.ref a_NotBegun___init__) = some (.type "function")
  ec_NotBegun : ExcC K c_NotBegun
  xk_NotBegun : HXv.XKl K c_PathError c_NotBegun
  g_NotEmpty : mg "NotEmpty" = some (.ref c_NotEmpty)
  oe_NotEmpty : OexC K c_NotEmpty
  ex_NotEmpty : XfC K c_NotEmpty
  ef_NotEmpty : PySem.W.findIn K (.ref c_NotEmpty) "place" = some none
  ei_NotEmpty : PySem.W.findIn K (.ref c_NotEmpty) "__init__" = some (some (.ref a_NotEmpty___init__))
  et_NotEmpty : PySem.W.typeIn K (.ref a_NotEmpty___init__) = some (.type "function")
  ec_NotEmpty : ExcC K c_NotEmpty
  xk_NotEmpty : HXv.XKl K c_PathError c_NotEmpty
  g_NotHeld : mg "NotHeld" = some (.ref c_NotHeld)
  oe_NotHeld : OexC K c_NotHeld
  ex_NotHeld : XfC K c_NotHeld
  ef_NotHeld : PySem.W.findIn K (.ref c_NotHeld) "name" = some none
  ei_NotHeld : PySem.W.findIn K (.ref c_NotHeld) "__init__" = some (some (.ref a_NotHeld___init__))
  et_NotHeld : PySem.W.typeIn K (.ref a_NotHeld___init__) = some (.type "function")
  ec_NotHeld : ExcC K c_NotHeld
  xk_NotHeld : HXv.XKl K c_PathError c_NotHeld
  g_NotTold : mg "NotTold" = some (.ref c_NotTold)
  oe_NotTold : OexC K c_NotTold
  ex_NotTold : XfC K c_NotTold
  ef_NotTold : PySem.W.findIn K (.ref c_NotTold) "place" = some none
  ei_NotTold : PySem.W.findIn K (.ref c_NotTold) "__init__" = some (some (.ref a_NotTold___init__))
  et_NotTold : PySem.W.typeIn K (.ref a_NotTold___init__) = some (.type "function")
  ec_NotTold : ExcC K c_NotTold
  xk_NotTold : HXv.XKl K c_PathError c_NotTold
  g_StillAsked : mg "StillAsked" = some (.ref c_StillAsked)
  oe_StillAsked : OexC K c_StillAsked
  ex_StillAsked : XfC K c_StillAsked
  ef_StillAsked : PySem.W.findIn K (.ref c_StillAsked) "path" = some none
  ei_StillAsked : PySem.W.findIn K (.ref c_StillAsked) "__init__" = some (some (.ref a_StillAsked___init__))
  et_StillAsked : PySem.W.typeIn K (.ref a_StillAsked___init__) = some (.type "function")
  ec_StillAsked : ExcC K c_StillAsked
  xk_StillAsked : HXv.XKl K c_PathError c_StillAsked
  g_Taken : mg "Taken" = some (.ref c_Taken)
  oe_Taken : OexC K c_Taken
  ex_Taken : XfC K c_Taken
  ef_Taken : PySem.W.findIn K (.ref c_Taken) "place" = some none
  ei_Taken : PySem.W.findIn K (.ref c_Taken) "__init__" = some (some (.ref a_Taken___init__))
  et_Taken : PySem.W.typeIn K (.ref a_Taken___init__) = some (.type "function")
  ec_Taken : ExcC K c_Taken
  xk_Taken : HXv.XKl K c_PathError c_Taken
  g_Root : mg "Root" = some (.ref c_Root)
  qx_Root : PySem.W.excIn K c_Root [.type "ValueError", .type "Exception", .type "BaseException", .type "object"] "ValueError.__new__" = true
  xkc_Root : PySem.W.keepIn K (.ref c_Root) = true
  ec_Root : ExcC K c_Root
  xk_Root : HXv.XKl K c_PathError c_Root
  g_NotAsked : mg "NotAsked" = some (.ref c_NotAsked)
  qx_NotAsked : PySem.W.excIn K c_NotAsked [.type "ValueError", .type "Exception", .type "BaseException", .type "object"] "ValueError.__new__" = true
  xkc_NotAsked : PySem.W.keepIn K (.ref c_NotAsked) = true
  ec_NotAsked : ExcC K c_NotAsked
  xk_NotAsked : HXv.XKl K c_PathError c_NotAsked
  g_NoDeed : mg "NoDeed" = some (.ref c_NoDeed)
  qx_NoDeed : PySem.W.excIn K c_NoDeed [.type "ValueError", .type "Exception", .type "BaseException", .type "object"] "ValueError.__new__" = true
  xkc_NoDeed : PySem.W.keepIn K (.ref c_NoDeed) = true
  ec_NoDeed : ExcC K c_NoDeed
  xk_NoDeed : HXv.XKl K c_PathError c_NoDeed
  xic_PathError : PySem.W.isClsIn K c_PathError = true
  xty_PathError : PySem.W.typeIn K (.ref c_PathError) = some (.type "type")
  nd_x : ([c_PathError, c_BadPath, c_NotBegun, c_NoRelative, c_NoFolder, c_Taken, c_NoThing, c_NotEmpty, c_Inside, c_BadFact, c_BadStart, c_Clash, c_BadWord, c_StillAsked, c_NotTold, c_BadShape, c_NoValue, c_BadName, c_Held, c_NotHeld, c_BadDeed, c_BadText, c_Root, c_NotAsked, c_NoDeed] : List Addr).Nodup
  op_Path___eq__ : PySem.W.findIn K (.ref c_Path) ("__eq__") = some (some (.ref a_Path___eq__))
  op_Path___len__ : PySem.W.findIn K (.ref c_Path) ("__len__") = some (some (.ref a_Path___len__))
  z_ValueError : mg "ValueError" = none
  z_all : mg "all" = none
  z_bool : mg "bool" = none
  z_dict : mg "dict" = none
  z_enumerate : mg "enumerate" = none
  z_int : mg "int" = none
  z_isinstance : mg "isinstance" = none
  z_len : mg "len" = none
  z_list : mg "list" = none
  z_range : mg "range" = none
  z_str : mg "str" = none
  z_tuple : mg "tuple" = none
  z_zip : mg "zip" = none
  u_LETTERS : Value
  g_LETTERS : mg "LETTERS" = some u_LETTERS
  r_LETTERS : RelV (.str "abcdefghijklmnopqrstuvwxyz") u_LETTERS
  u_LONGEST : Value
  g_LONGEST : mg "LONGEST" = some u_LONGEST
  r_LONGEST : RelV (.int 8) u_LONGEST
/-! ### data of this program -/
abbrev strD (z : Str) : D := .s (.str z)
abbrev intD (i : Int) : D := .s (.int i)
abbrev blD (b : Bool) : D := .s (.bl b)
abbrev nonD : D := .s .non
def strsD (zs : List Str) : D := .lst (zs.map strD)
def sz : Nat := 1000000
def pN : List Str := ["text", "rooted", "ended"]
def pV (z : Str) : List D := [strD z, blD (DT.rooted z), blD (DT.ended z)]
/-- any object that is no text -/
def NoText (K : PySem.W.Frag) (m : Mem) (d : D) : Prop := ∃ t, TyD K m d t ∧ PySem.W.kitOne K t (.type "str") = some false
def pathD (C : Addr) (z : Str) : D := .ins C pN (pV z)
def Stream (m : Mem) (p : Addr) : Prop := ∃ c, m.own p = some (.stm c) ∧ m.own c = some .cel ∧ p ≠ c
def more (m : Mem) (n : Nat) : Mem := { m with cnt := m.cnt + n }
def sepOf (a : Str) : Str := if DT.tlLast a = some 47 then ("" : Str) else ("/" : Str)
def joinP (a b : Str) : Str := if DT.rooted b = true then b else a ++ sepOf a ++ b
def lastD (z : Str) : D := match (DT.steps z).getLast? with
  | some p => strD p
  | none => nonD
/-- what _law_thing tells, before it is frozen; n bounds the nesting -/
def FrOk (K : PySem.W.Frag) (C : Addr) : Nat → D → Prop
  | 0 => fun _ => False
  | n + 1 => fun x => x = nonD ∨ (∃ b, x = blD b) ∨ (∃ i, x = intD i) ∨ (∃ z : Str, x = strD z) ∨ (∃ a, x = pinD K (.ref a) (pathD C "a/..")) ∨ (∃ xs, (x = .lst xs ∨ x = .tup xs) ∧ xs.length ≤ 1000 ∧ ∀ y ∈ xs, FrOk K C n y) ∨ ∃ (s : Str) (y : D), x = .dic [.inr s] [y] ∧ FrOk K C n y
/-- .. frozen -/
def frz : Nat → D → D
  | n + 1, .lst xs => .tup (xs.map (frz n))
  | n + 1, .tup xs => .tup (xs.map (frz n))
  | n + 1, .dic ks xs => .dic ks (xs.map (frz n))
  | _, x => x
def SmOk (K : PySem.W.Frag) (C : Addr) : Nat → D → Prop
  | 0 => fun _ => False
  | n + 1 => fun x => x = nonD ∨ (∃ b, x = blD b) ∨ (∃ i, x = intD i) ∨ (∃ z : Str, x = strD z) ∨ (∃ a, x = pinD K (.ref a) (pathD C "a/..")) ∨ (∃ xs, x = .tup xs ∧ xs.length ≤ 1000 ∧ ∀ y ∈ xs, SmOk K C n y) ∨ ∃ (s : Str) (y : D) (k : Nat), x = .dic [.inr s] [y] ∧ k ≤ 60 ∧ EqD K k y
def thN : Nat → Nat
  | 0 => 2
  | n + 1 => 2 + 2 * thN n
def madeD {K : PySem.W.Frag} {mg : Str → Option Value} (T : Txt K mg) (x : D) : List D := [excD K T.c_BadPath "text" x, excD K T.c_NotBegun "other" x, excD K T.c_NoRelative "path" x, excD K T.c_NoFolder "place" x, excD K T.c_Taken "place" x, excD K T.c_NoThing "place" x, excD K T.c_NotEmpty "place" x, excD K T.c_Inside "place" x, excD K T.c_BadFact "index" x, excD K T.c_BadStart "start" x, excD K T.c_Clash "index" x, excD K T.c_BadWord "word" x, excD K T.c_StillAsked "path" x, excD K T.c_NotTold "place" x, excD K T.c_BadShape "text" x, excD K T.c_NoValue "letter" x, excD K T.c_BadName "name" x, excD K T.c_Held "name" x, excD K T.c_NotHeld "name" x, excD K T.c_BadDeed "deed" x, excD K T.c_BadText "line" x]
def lastsD {K : PySem.W.Frag} {mg : Str → Option Value} (T : Txt K mg) : List D := [exc0D T.c_Root, exc0D T.c_NotAsked, exc0D T.c_NoDeed]
def allC {K : PySem.W.Frag} {mg : Str → Option Value} (T : Txt K mg) : List Addr := [T.c_BadPath, T.c_NotBegun, T.c_NoRelative, T.c_NoFolder, T.c_Taken, T.c_NoThing, T.c_NotEmpty, T.c_Inside, T.c_BadFact, T.c_BadStart, T.c_Clash, T.c_BadWord, T.c_StillAsked, T.c_NotTold, T.c_BadShape, T.c_NoValue, T.c_BadName, T.c_Held, T.c_NotHeld, T.c_BadDeed, T.c_BadText, T.c_Root, T.c_NotAsked, T.c_NoDeed]
def φ_is_name {K : PySem.W.Frag} {mg : Str → Option Value} (T : Txt K mg) : Phi := fun ds m nx _ => ∃ d, ds = [d] ∧ ((∃ z, d = strD z ∧ z.length ≤ sz ∧ nx (blD (DT.isName z)) m) ∨ (NoText K m d ∧ nx (blD false) m))
def φ_is_path_text {K : PySem.W.Frag} {mg : Str → Option Value} (T : Txt K mg) : Phi := fun ds m nx _ => ∃ d, ds = [d] ∧ ((∃ z, d = strD z ∧ z.length ≤ sz ∧ nx (blD (DT.isPath z)) m) ∨ (NoText K m d ∧ nx (blD false) m))
def φ_Path___init__ {K : PySem.W.Frag} {mg : Str → Option Value} (T : Txt K mg) : Phi := fun ds m nx _ => ∃ x z, ds = [.s (.ref x), strD z] ∧ DT.isPath z = true ∧ z.length ≤ sz ∧ m.own x = some (.ins T.c_Path [] []) ∧ nx nonD { m with own := putM m.own x (.ins T.c_Path pN (pV z)) }
def φ_Path___eq__ {K : PySem.W.Frag} {mg : Str → Option Value} (T : Txt K mg) : Phi := fun ds m nx _ => ∃ z y, ds = [pathD T.c_Path z, pathD T.c_Path y] ∧ nx (blD (decide (z = y))) m
def φ_Path___len__ {K : PySem.W.Frag} {mg : Str → Option Value} (T : Txt K mg) : Phi := fun ds m nx _ => ∃ z, ds = [pathD T.c_Path z] ∧ z.length ≤ sz ∧ nx (intD ((DT.steps z).length : Nat)) m
def φ_Path___floordiv__ {K : PySem.W.Frag} {mg : Str → Option Value} (T : Txt K mg) : Phi := fun ds m nx _ => ∃ a b, ds = [pathD T.c_Path a, pathD T.c_Path b] ∧ DT.isPath a = true ∧ DT.isPath b = true ∧ a.length ≤ 1000 ∧ b.length ≤ 1000 ∧ nx (pathD T.c_Path (joinP a b)) m
def φ_Path_steps {K : PySem.W.Frag} {mg : Str → Option Value} (T : Txt K mg) : Phi := fun ds m nx _ => ∃ z, ds = [pathD T.c_Path z] ∧ z.length ≤ sz ∧ nx (strsD (DT.steps z)) m
def φ_Path_last {K : PySem.W.Frag} {mg : Str → Option Value} (T : Txt K mg) : Phi := fun ds m nx _ => ∃ z, ds = [pathD T.c_Path z] ∧ DT.isPath z = true ∧ z.length ≤ sz ∧ nx (lastD z) m
def φ_Path_begin {K : PySem.W.Frag} {mg : Str → Option Value} (T : Txt K mg) : Phi := fun ds m nx _ => ∃ z, ds = [pathD T.c_Path z] ∧ DT.isPath z = true ∧ z.length ≤ sz ∧ nx (pathD T.c_Path (DT.begin z)) m
def φ__law_draw {K : PySem.W.Frag} {mg : Str → Option Value} (T : Txt K mg) : Phi := fun ds m nx _ => ∃ p n, ds = [.s (.ref p), intD n] ∧ Stream m p ∧ 0 < n ∧ n < 1073741824 ∧ m.cnt < 1000000000 ∧ ∀ r, 0 ≤ r → r < n → nx (intD r) (more m 1)
def φ__law_pick {K : PySem.W.Frag} {mg : Str → Option Value} (T : Txt K mg) : Phi := fun ds m nx _ => ∃ p x xs, ds = [.s (.ref p), x] ∧ Stream m p ∧ m.cnt < 1000000000 ∧ DD.seqD x = some xs ∧ xs ≠ [] ∧ xs.length ≤ sz ∧ ∀ d ∈ xs, nx d (more m 1)
def φ__law_same {K : PySem.W.Frag} {mg : Str → Option Value} (T : Txt K mg) (n : Nat) : Phi := fun ds m nx _ => ∃ x, ds = [x, x] ∧ SmOk K T.c_Path n x ∧ nx (blD true) m
def φ__law_frozen {K : PySem.W.Frag} {mg : Str → Option Value} (T : Txt K mg) (n : Nat) : Phi := fun ds m nx _ => ∃ x, ds = [x] ∧ FrOk K T.c_Path n x ∧ nx (frz n x) m
def φ__law_thing {K : PySem.W.Frag} {mg : Str → Option Value} (T : Txt K mg) (n : Nat) : Phi := fun ds m nx _ => ∃ p, ds = [.s (.ref p), intD n] ∧ Stream m p ∧ m.cnt + thN n < 1000000000 ∧ n ≤ 2 ∧ ∀ d, FrOk K T.c_Path (2 * n + 2) d → nx d (more m (thN n))
def φ__law_by_place {K : PySem.W.Frag} {mg : Str → Option Value} (T : Txt K mg) : Phi := fun ds m nx _ => ∃ x, ds = [x] ∧ nx (.lst (madeD T x)) m
def φ__law_by_name {K : PySem.W.Frag} {mg : Str → Option Value} (T : Txt K mg) : Phi := fun ds m nx _ => ∃ x, ds = [x] ∧ nx (.lst (madeD T x)) m
def φ__law_kept {K : PySem.W.Frag} {mg : Str → Option Value} (T : Txt K mg) : Phi := fun ds m nx _ => ∃ x, ds = [.lst (madeD T x)] ∧ nx (.lst (List.replicate 21 x)) m
def φ__law_classes {K : PySem.W.Frag} {mg : Str → Option Value} (T : Txt K mg) : Phi := fun ds m nx _ => ∃ x C, ds = [x] ∧ XcD K C x ∧ ExcC K C ∧ HXv.XKl K T.c_PathError C ∧ nx (.lst ((allC T).map fun C2 => blD (decide (C = C2)))) m
def t_BadPath___init__ {K : PySem.W.Frag} {mg : Str → Option Value} (T : Txt K mg) (E : XK) : TS :=
    (tSeq (tDrop (tVeI K (tCons (tVar 0) (tCons (tC (.str "an object is no path text")) tNil)))) (tOst K "text" (tVar 0) (tVar 1)))
def t_NotBegun___init__ {K : PySem.W.Frag} {mg : Str → Option Value} (T : Txt K mg) (E : XK) : TS :=
    (tSeq (tDrop (tVeI K (tCons (tVar 0) (tCons (tC (.str "a path does not begin with another one")) tNil)))) (tOst K "other" (tVar 0) (tVar 1)))
def t_NoRelative___init__ {K : PySem.W.Frag} {mg : Str → Option Value} (T : Txt K mg) (E : XK) : TS :=
    (tSeq (tDrop (tVeI K (tCons (tVar 0) (tCons (tC (.str "a path has steps that are no names, or one path alone is rooted")) tNil)))) (tOst K "path" (tVar 0) (tVar 1)))
def t_NoFolder___init__ {K : PySem.W.Frag} {mg : Str → Option Value} (T : Txt K mg) (E : XK) : TS :=
    (tSeq (tDrop (tVeI K (tCons (tVar 0) (tCons (tC (.str "there is no folder at a place")) tNil)))) (tOst K "place" (tVar 0) (tVar 1)))
def t_Taken___init__ {K : PySem.W.Frag} {mg : Str → Option Value} (T : Txt K mg) (E : XK) : TS :=
    (tSeq (tDrop (tVeI K (tCons (tVar 0) (tCons (tC (.str "there is a thing at a place")) tNil)))) (tOst K "place" (tVar 0) (tVar 1)))
def t_NoThing___init__ {K : PySem.W.Frag} {mg : Str → Option Value} (T : Txt K mg) (E : XK) : TS :=
    (tSeq (tDrop (tVeI K (tCons (tVar 0) (tCons (tC (.str "there is no thing at a place")) tNil)))) (tOst K "place" (tVar 0) (tVar 1)))
def t_NotEmpty___init__ {K : PySem.W.Frag} {mg : Str → Option Value} (T : Txt K mg) (E : XK) : TS :=
    (tSeq (tDrop (tVeI K (tCons (tVar 0) (tCons (tC (.str "something lies in a folder")) tNil)))) (tOst K "place" (tVar 0) (tVar 1)))
def t_Inside___init__ {K : PySem.W.Frag} {mg : Str → Option Value} (T : Txt K mg) (E : XK) : TS :=
    (tSeq (tDrop (tVeI K (tCons (tVar 0) (tCons (tC (.str "a place lies beneath another one")) tNil)))) (tOst K "place" (tVar 0) (tVar 1)))
def t_BadFact___init__ {K : PySem.W.Frag} {mg : Str → Option Value} (T : Txt K mg) (E : XK) : TS :=
    (tSeq (tDrop (tVeI K (tCons (tVar 0) (tCons (tC (.str "an object is no fact")) tNil)))) (tOst K "index" (tVar 0) (tVar 1)))
def t_BadStart___init__ {K : PySem.W.Frag} {mg : Str → Option Value} (T : Txt K mg) (E : XK) : TS :=
    (tSeq (tDrop (tVeI K (tCons (tVar 0) (tCons (tC (.str "an object is no place to start from")) tNil)))) (tOst K "start" (tVar 0) (tVar 1)))
def t_Clash___init__ {K : PySem.W.Frag} {mg : Str → Option Value} (T : Txt K mg) (E : XK) : TS :=
    (tSeq (tDrop (tVeI K (tCons (tVar 0) (tCons (tC (.str "no tree keeps some facts")) tNil)))) (tOst K "index" (tVar 0) (tVar 1)))
def t_BadWord___init__ {K : PySem.W.Frag} {mg : Str → Option Value} (T : Txt K mg) (E : XK) : TS :=
    (tSeq (tDrop (tVeI K (tCons (tVar 0) (tCons (tC (.str "an object is no word of its kind")) tNil)))) (tOst K "word" (tVar 0) (tVar 1)))
def t_StillAsked___init__ {K : PySem.W.Frag} {mg : Str → Option Value} (T : Txt K mg) (E : XK) : TS :=
    (tSeq (tDrop (tVeI K (tCons (tVar 0) (tCons (tC (.str "something has to be looked at")) tNil)))) (tOst K "path" (tVar 0) (tVar 1)))
def t_NotTold___init__ {K : PySem.W.Frag} {mg : Str → Option Value} (T : Txt K mg) (E : XK) : TS :=
    (tSeq (tDrop (tVeI K (tCons (tVar 0) (tCons (tC (.str "no folder is told at a place")) tNil)))) (tOst K "place" (tVar 0) (tVar 1)))
def t_BadShape___init__ {K : PySem.W.Frag} {mg : Str → Option Value} (T : Txt K mg) (E : XK) : TS :=
    (tSeq (tDrop (tVeI K (tCons (tVar 0) (tCons (tC (.str "an object is no text of a shape")) tNil)))) (tOst K "text" (tVar 0) (tVar 1)))
def t_NoValue___init__ {K : PySem.W.Frag} {mg : Str → Option Value} (T : Txt K mg) (E : XK) : TS :=
    (tSeq (tDrop (tVeI K (tCons (tVar 0) (tCons (tC (.str "a letter has no value")) tNil)))) (tOst K "letter" (tVar 0) (tVar 1)))
def t_BadName___init__ {K : PySem.W.Frag} {mg : Str → Option Value} (T : Txt K mg) (E : XK) : TS :=
    (tSeq (tDrop (tVeI K (tCons (tVar 0) (tCons (tC (.str "an object is no name")) tNil)))) (tOst K "name" (tVar 0) (tVar 1)))
def t_Held___init__ {K : PySem.W.Frag} {mg : Str → Option Value} (T : Txt K mg) (E : XK) : TS :=
    (tSeq (tDrop (tVeI K (tCons (tVar 0) (tCons (tC (.str "a pair is held under a name")) tNil)))) (tOst K "name" (tVar 0) (tVar 1)))
def t_NotHeld___init__ {K : PySem.W.Frag} {mg : Str → Option Value} (T : Txt K mg) (E : XK) : TS :=
    (tSeq (tDrop (tVeI K (tCons (tVar 0) (tCons (tC (.str "nothing is held under a name")) tNil)))) (tOst K "name" (tVar 0) (tVar 1)))
def t_BadDeed___init__ {K : PySem.W.Frag} {mg : Str → Option Value} (T : Txt K mg) (E : XK) : TS :=
    (tSeq (tDrop (tVeI K (tCons (tVar 0) (tCons (tC (.str "an object is no deed")) tNil)))) (tOst K "deed" (tVar 0) (tVar 1)))
def t_BadText___init__ {K : PySem.W.Frag} {mg : Str → Option Value} (T : Txt K mg) (E : XK) : TS :=
    (tSeq (tDrop (tVeI K (tCons (tVar 0) (tCons (tC (.str "a line cannot stand in a text")) tNil)))) (tOst K "line" (tVar 0) (tVar 1)))
def t_is_name {K : PySem.W.Frag} {mg : Str → Option Value} (T : Txt K mg) (E : XK) : TS :=
    (tRet (tAndV (tCB (rIsiA K) (tCons (tVar 0) (tCons (tC (.ty "str")) tNil))) (tAndV (tChain rLeI rLeI (tC (.int 1)) (tCB (rLenA K) (tCons (tVar 0) tNil)) (tC (.int 8))) (tCB (rAll K) (tCons (tLc (iAny K (tVar 0)) (gName 1) tYes (tOp (rInA K) (tVar 1) (tC (.str "abcdefghijklmnopqrstuvwxyz"))) [1]) tNil)))))
def t_is_path_text {K : PySem.W.Frag} {mg : Str → Option Value} (T : Txt K mg) (E : XK) : TS :=
    (tSeq (tIfS (tOr (tNot (tB (tCB (rIsiA K) (tCons (tVar 0) (tCons (tC (.ty "str")) tNil))))) (tTest (tOp (rEqA K) (tVar 0) (tC (.str ""))))) (tRet (tC (.bl false))) tNext)
    (tRet (tCB (rAll K) (tCons (tLc (iAny K (tM1 rSplit (tVar 0) (tC (.str "/")))) (gName 1) tYes (tOrV (tOp (rInA K) (tVar 1) (tTup (tCons (tC (.str "")) (tCons (tC (.str ".")) (tCons (tC (.str "..")) tNil))))) (tCall (spOf K (φ_is_name T)) [] E0 (tCons (tVar 1) tNil))) [1]) tNil))))
def t_Path___init__ {K : PySem.W.Frag} {mg : Str → Option Value} (T : Txt K mg) (E : XK) : TS :=
    (tSeq (tIfS (tNot (tB (tCall (spOf K (φ_is_path_text T)) [] E0 (tCons (tVar 1) tNil)))) tNever tNext)
    (tSeq (sFld K (tVar 0) (tVar 1) "text")
    (tSeq (sFld K (tVar 0) (tOp (rEqA K) (tOp (rIx K) (tVar 1) (tC (.int 0))) (tC (.str "/"))) "rooted")
    (sFld K (tVar 0) (tOp (rInA K) (tOp (rIx K) (tM1 rSplit (tVar 1) (tC (.str "/"))) (tUn rNeg (tC (.int 1)))) (tTup (tCons (tC (.str "")) (tCons (tC (.str ".")) (tCons (tC (.str "..")) tNil))))) "ended"))))
def t_Path___eq__ {K : PySem.W.Frag} {mg : Str → Option Value} (T : Txt K mg) (E : XK) : TS :=
    (tRet (tAndV (tCB (rIsiA K) (tCons (tVar 1) (tCons (tC (.ref T.c_Path)) tNil))) (tOp (rEqA K) (tFld K (tVar 0) "text") (tFld K (tVar 1) "text"))))
def t_Path___len__ {K : PySem.W.Frag} {mg : Str → Option Value} (T : Txt K mg) (E : XK) : TS :=
    (tRet (tCB (rLenA K) (tCons (tMeth T.c_Path "steps" (spOf K (φ_Path_steps T)) [] E0 (tVar 0) tNil) tNil)))
def t_Path___floordiv__ {K : PySem.W.Frag} {mg : Str → Option Value} (T : Txt K mg) (E : XK) : TS :=
    (tSeq (tIfS (tB (tFld K (tVar 1) "rooted")) (tRet (tVar 1)) tNext)
    (tSeq (tAsg (tIf (tTest (tOp (rEqA K) (tOp (rIx K) (tFld K (tVar 0) "text") (tUn rNeg (tC (.int 1)))) (tC (.str "/")))) (tC (.str "")) (tC (.str "/"))) (gName 2))
    (tRet (tMake T.c_Path (spOf K (φ_Path___init__ T)) [] E0 (tCons (tOp (rAddA K) (tOp (rAddA K) (tFld K (tVar 0) "text") (tVar 2)) (tFld K (tVar 1) "text")) tNil)))))
def t_Path_steps {K : PySem.W.Frag} {mg : Str → Option Value} (T : Txt K mg) (E : XK) : TS :=
    (tRet (tLc (iAny K (tM1 rSplit (tFld K (tVar 0) "text") (tC (.str "/")))) (gName 1) (tTest (tOp (rNeA K) (tVar 1) (tC (.str "")))) (tVar 1) [1]))
def t_Path_last {K : PySem.W.Frag} {mg : Str → Option Value} (T : Txt K mg) (E : XK) : TS :=
    (tSeq (tAsg (tMeth T.c_Path "steps" (spOf K (φ_Path_steps T)) [] E0 (tVar 0) tNil) (gName 1))
    (tRet (tIf (tTest (tOp (rNeA K) (tVar 1) (tLst tNil))) (tOp (rIx K) (tVar 1) (tUn rNeg (tC (.int 1)))) (tC .non))))
def t_Path_begin {K : PySem.W.Frag} {mg : Str → Option Value} (T : Txt K mg) (E : XK) : TS :=
    (tSeq (tIfS (tTest (tOp (rEqA K) (tCB (HO1.rLenO T.c_Path (spOf K (φ_Path___len__ T)) E0) (tCons (tVar 0) tNil)) (tC (.int 0)))) (tRet (tVar 0)) tNext)
    (tSeq (tAsg (tM1 (rTxt Txt.rstripChars) (tM1 (rTxt Txt.removesuffix) (tM1 (rTxt Txt.rstripChars) (tFld K (tVar 0) "text") (tC (.str "/"))) (tMeth T.c_Path "last" (spOf K (φ_Path_last T)) [] E0 (tVar 0) tNil)) (tC (.str "/"))) (gName 1))
    (tSeq (tIfS (tTest (tOp (rNeA K) (tVar 1) (tC (.str "")))) (tRet (tMake T.c_Path (spOf K (φ_Path___init__ T)) [] E0 (tCons (tVar 1) tNil))) tNext)
    (tRet (tMake T.c_Path (spOf K (φ_Path___init__ T)) [] E0 (tCons (tIf (tB (tFld K (tVar 0) "rooted")) (tC (.str "/")) (tC (.str "."))) tNil))))))
def t__law_start {K : PySem.W.Frag} {mg : Str → Option Value} (T : Txt K mg) (E : XK) : TS :=
    (tRet (tLst (tCons (tCB (rListA K) (tCons (tVar 0) tNil)) (tCons (tC (.int 0)) (tCons (tC (.int 0)) (tCons (tC (.int 11)) tNil))))))
def t__law_draw {K : PySem.W.Frag} {mg : Str → Option Value} (T : Txt K mg) (E : XK) : TS :=
    (tSeq (tAsg (tOp (rAddA K) (tOp (rIx K) (tVar 0) (tC (.int 2))) (tC (.int 1))) (gSub (tVar 0) (tC (.int 2)) rSetL))
    (tSeq (tIfS (tAnd (tTest (tOp (rEqA K) (tOp (rIx K) (tVar 0) (tC (.int 1))) (tC (.int 0)))) (tTest (tOp (rNeA K) (tOp (rIx K) (tVar 0) (tC (.int 0))) (tLst tNil)))) (tSeq (tAsg (tBM K "list" rPopAt (tOp (rIx K) (tVar 0) (tC (.int 0))) (tCons (tC (.int 0)) tNil)) (gName 2))
    (tSeq (tAsg (tOp rModI (tCB rInt1 (tCons (tOp (rAddA K) (tOp (rAddA K) (tOp rMulA (tOp (rIx K) (tVar 0) (tC (.int 3))) (tC (.int 8191))) (tVar 2)) (tC (.int 3))) tNil)) (tC (.int 2147483647))) (gSub (tVar 0) (tC (.int 3)) rSetL))
    (tAsg (tIf (tTest (tOp rGeI (tVar 2) (tOp rPowI (tC (.int 10)) (tC (.int 18))))) (tVar 2) (tC (.int 0))) (gSub (tVar 0) (tC (.int 1)) rSetL)))) tNext)
    (tSeq (tIfS (tTest (tOp rGtI (tOp (rIx K) (tVar 0) (tC (.int 1))) (tC (.int 0)))) (tSeq (tAsg (tOp rModI (tCB rInt1 (tCons (tOp (rIx K) (tVar 0) (tC (.int 1))) tNil)) (tVar 1)) (gName 3))
    (tSeq (tAsg (tOp rDivI (tOp (rIx K) (tVar 0) (tC (.int 1))) (tVar 1)) (gSub (tVar 0) (tC (.int 1)) rSetL))
    (tRet (tVar 3)))) tNext)
    (tSeq (tAsg (tOp rModI (tCB rInt1 (tCons (tOp rPowI (tOp (rAddA K) (tOp (rAddA K) (tOp (rIx K) (tVar 0) (tC (.int 3))) (tOp rMulA (tC (.int 7919)) (tOp (rIx K) (tVar 0) (tC (.int 2))))) (tC (.int 104729))) (tC (.int 5))) tNil)) (tC (.int 2147483629))) (gName 4))
    (tRet (tOp rModI (tOp rModI (tCB rInt1 (tCons (tOp rPowI (tOp (rAddA K) (tOp (rAddA K) (tOp rMulA (tVar 4) (tC (.int 48271))) (tOp rMulA (tC (.int 30011)) (tOp (rIx K) (tVar 0) (tC (.int 2))))) (tC (.int 29))) (tC (.int 3))) tNil)) (tC (.int 1000000007))) (tVar 1)))))))
def t__law_pick {K : PySem.W.Frag} {mg : Str → Option Value} (T : Txt K mg) (E : XK) : TS :=
    (tRet (tOp (rIx K) (tVar 1) (tCall (spOf K (φ__law_draw T)) [] E0 (tCons (tVar 0) (tCons (tCB (rLenA K) (tCons (tVar 1) tNil)) tNil)))))
def t__law_same {K : PySem.W.Frag} {mg : Str → Option Value} (T : Txt K mg) (φ : Phi) (E : XK) : TS :=
    (tSeq (tIfS (tB (tCB (rIsiA K) (tCons (tVar 1) (tCons (tTup (tCons (tC (.ty "list")) (tCons (tC (.ty "tuple")) tNil))) tNil)))) (tSeq (tIfS (tOr (tTest (tOp (rNeA K) (tCB (rIsiA K) (tCons (tVar 0) (tCons (tC (.ty "list")) tNil))) (tCB (rIsiA K) (tCons (tVar 1) (tCons (tC (.ty "list")) tNil))))) (tTest (tOp (rNeA K) (tCB (rIsiA K) (tCons (tVar 0) (tCons (tC (.ty "tuple")) tNil))) (tCB (rIsiA K) (tCons (tVar 1) (tCons (tC (.ty "tuple")) tNil)))))) (tRet (tC (.bl false))) tNext)
    (tRet (tAndV (tOp (rEqA K) (tCB (rLenA K) (tCons (tVar 0) tNil)) (tCB (rLenA K) (tCons (tVar 1) tNil))) (tCB (rAll K) (tCons (tLc (RZ.iZipA K (tCons (tVar 0) (tCons (tVar 1) tNil))) (gTup K 2 (gCons (gName 2) (gCons (gName 3) gNil))) tYes (tCall (spOf K φ) [] E0 (tCons (tVar 2) (tCons (tVar 3) tNil))) [2, 3]) tNil))))) tNext)
    (tSeq (tIfS (tB (tCB (rIsiA K) (tCons (tVar 1) (tCons (tC (.ty "int")) tNil)))) (tRet (tAndV (tCB (rIsiA K) (tCons (tVar 0) (tCons (tC (.ty "int")) tNil))) (tAndV (tOp (rEqA K) (tCB (rIsiA K) (tCons (tVar 0) (tCons (tC (.ty "bool")) tNil))) (tCB (rIsiA K) (tCons (tVar 1) (tCons (tC (.ty "bool")) tNil)))) (tOp (fun x y H Q => rEqA K x y H Q ∨ HDp.rEqW K x y H Q ∨ (HO1.rCmpO K T.c_Path (spOf K (φ_Path___eq__ T)) E0) x y H Q) (tVar 0) (tVar 1))))) tNext)
    (tRet (tAndV (tOp rIsB (tCB (rIsiA K) (tCons (tVar 0) (tCons (tTup (tCons (tC (.ty "int")) (tCons (tC (.ty "list")) (tCons (tC (.ty "tuple")) tNil)))) tNil))) (tC (.bl false))) (tOp (fun x y H Q => rEqA K x y H Q ∨ HDp.rEqW K x y H Q ∨ (HO1.rCmpO K T.c_Path (spOf K (φ_Path___eq__ T)) E0) x y H Q) (tVar 0) (tVar 1))))))
def t__law_frozen {K : PySem.W.Frag} {mg : Str → Option Value} (T : Txt K mg) (φ : Phi) (E : XK) : TS :=
    (tSeq (tIfS (tB (tCB (rIsiA K) (tCons (tVar 0) (tCons (tC (.ty "dict")) tNil)))) (tRet (HXv.tFrz (tCB (HM1.rDictPK K) (tCons (tLc (HH1.iKy (tVar 0)) (gName 1) tYes (tTup (tCons (tVar 1) (tCons (tCall (spOf K φ) [] E0 (tCons (tDGet (tVar 0) (tVar 1)) tNil)) tNil))) [1]) tNil)))) tNext)
    (tRet (tIf (tB (tCB (rIsiA K) (tCons (tVar 0) (tCons (tTup (tCons (tC (.ty "list")) (tCons (tC (.ty "tuple")) tNil))) tNil)))) (tCB (rTupA K) (tCons (tLc (HH1.iLT K (tVar 0)) (gName 2) tYes (tCall (spOf K φ) [] E0 (tCons (tVar 2) tNil)) [2]) tNil)) (tVar 0))))
def t__law_thing {K : PySem.W.Frag} {mg : Str → Option Value} (T : Txt K mg) (φ : Phi) (E : XK) : TS :=
    (tSeq (tAsg (tCall (spOf K (φ__law_draw T)) [] E0 (tCons (tVar 0) (tCons (tIf (tTest (tOp rGtI (tVar 1) (tC (.int 0)))) (tC (.int 8)) (tC (.int 6))) tNil))) (gName 2))
    (tSeq (tIfS (tTest (tOp rLtI (tVar 2) (tC (.int 6)))) (tRet (tCall (spOf K (φ__law_pick T)) [] E0 (tCons (tVar 0) (tCons (tLst (tCons (tC .non) (tCons (tC (.bl true)) (tCons (tC (.bl false)) (tCons (tC (.int 0)) (tCons (tUn rNeg (tC (.int 7))) (tCons (tOp rPowI (tC (.int 10)) (tC (.int 20))) (tCons (tC (.str "")) (tCons (tC (.str "a/b")) (tCons (tTup (tCons (tC (.str "a")) tNil)) (tCons (tMake T.c_Path (spOf K (φ_Path___init__ T)) [] E0 (tCons (tC (.str "a/..")) tNil)) tNil))))))))))) tNil)))) tNext)
    (tSeq (tAsg (tLc (iRng1 (tCons (tCall (spOf K (φ__law_draw T)) [] E0 (tCons (tVar 0) (tCons (tC (.int 3)) tNil))) tNil)) (gName 4) tYes (tCall (spOf K φ) [] E0 (tCons (tVar 0) (tCons (tOp rSubI (tVar 1) (tC (.int 1))) tNil))) [4]) (gName 3))
    (tRet (tIf (tTest (tOp (rEqA K) (tVar 2) (tC (.int 6)))) (tVar 3) (HXv.tFrz (tDisp [((tC (.str "inner")), (tVar 3))])))))))
def t__law_by_place {K : PySem.W.Frag} {mg : Str → Option Value} (T : Txt K mg) (E : XK) : TS :=
    (tSeq (tAsg (tLst (tCons (HXv.tMkV T.c_BadPath (HX1.spExc T.c_BadPath "text") [] (tCons (tVar 0) tNil)) (tCons (HXv.tMkV T.c_NotBegun (HX1.spExc T.c_NotBegun "other") [] (tCons (tVar 0) tNil)) (tCons (HXv.tMkV T.c_NoRelative (HX1.spExc T.c_NoRelative "path") [] (tCons (tVar 0) tNil)) (tCons (HXv.tMkV T.c_NoFolder (HX1.spExc T.c_NoFolder "place") [] (tCons (tVar 0) tNil)) (tCons (HXv.tMkV T.c_Taken (HX1.spExc T.c_Taken "place") [] (tCons (tVar 0) tNil)) (tCons (HXv.tMkV T.c_NoThing (HX1.spExc T.c_NoThing "place") [] (tCons (tVar 0) tNil)) (tCons (HXv.tMkV T.c_NotEmpty (HX1.spExc T.c_NotEmpty "place") [] (tCons (tVar 0) tNil)) (tCons (HXv.tMkV T.c_Inside (HX1.spExc T.c_Inside "place") [] (tCons (tVar 0) tNil)) tNil))))))))) (gName 1))
    (tSeq (tAsg (tOp (rAddA K) (tVar 1) (tLst (tCons (HXv.tMkV T.c_BadFact (HX1.spExc T.c_BadFact "index") [] (tCons (tVar 0) tNil)) (tCons (HXv.tMkV T.c_BadStart (HX1.spExc T.c_BadStart "start") [] (tCons (tVar 0) tNil)) (tCons (HXv.tMkV T.c_Clash (HX1.spExc T.c_Clash "index") [] (tCons (tVar 0) tNil)) (tCons (HXv.tMkV T.c_BadWord (HX1.spExc T.c_BadWord "word") [] (tCons (tVar 0) tNil)) (tCons (HXv.tMkV T.c_StillAsked (HX1.spExc T.c_StillAsked "path") [] (tCons (tVar 0) tNil)) (tCons (HXv.tMkV T.c_NotTold (HX1.spExc T.c_NotTold "place") [] (tCons (tVar 0) tNil)) (tCons (HXv.tMkV T.c_BadShape (HX1.spExc T.c_BadShape "text") [] (tCons (tVar 0) tNil)) (tCons (HXv.tMkV T.c_NoValue (HX1.spExc T.c_NoValue "letter") [] (tCons (tVar 0) tNil)) tNil)))))))))) (gName 1))
    (tRet (tOp (rAddA K) (tVar 1) (tLst (tCons (HXv.tMkV T.c_BadName (HX1.spExc T.c_BadName "name") [] (tCons (tVar 0) tNil)) (tCons (HXv.tMkV T.c_Held (HX1.spExc T.c_Held "name") [] (tCons (tVar 0) tNil)) (tCons (HXv.tMkV T.c_NotHeld (HX1.spExc T.c_NotHeld "name") [] (tCons (tVar 0) tNil)) (tCons (HXv.tMkV T.c_BadDeed (HX1.spExc T.c_BadDeed "deed") [] (tCons (tVar 0) tNil)) (tCons (HXv.tMkV T.c_BadText (HX1.spExc T.c_BadText "line") [] (tCons (tVar 0) tNil)) tNil))))))))))
def t__law_by_name {K : PySem.W.Frag} {mg : Str → Option Value} (T : Txt K mg) (E : XK) : TS :=
    (tSeq (tAsg (tLst (tCons (HXv.tMkVK T.c_BadPath 1 (HX1.spExc T.c_BadPath "text") (fun vs zs => vs ++ zs) (tCons (tVar 0) tNil)) (tCons (HXv.tMkVK T.c_NotBegun 1 (HX1.spExc T.c_NotBegun "other") (fun vs zs => vs ++ zs) (tCons (tVar 0) tNil)) (tCons (HXv.tMkVK T.c_NoRelative 1 (HX1.spExc T.c_NoRelative "path") (fun vs zs => vs ++ zs) (tCons (tVar 0) tNil)) (tCons (HXv.tMkVK T.c_NoFolder 1 (HX1.spExc T.c_NoFolder "place") (fun vs zs => vs ++ zs) (tCons (tVar 0) tNil)) (tCons (HXv.tMkVK T.c_Taken 1 (HX1.spExc T.c_Taken "place") (fun vs zs => vs ++ zs) (tCons (tVar 0) tNil)) tNil)))))) (gName 1))
    (tSeq (tAsg (tOp (rAddA K) (tVar 1) (tLst (tCons (HXv.tMkVK T.c_NoThing 1 (HX1.spExc T.c_NoThing "place") (fun vs zs => vs ++ zs) (tCons (tVar 0) tNil)) (tCons (HXv.tMkVK T.c_NotEmpty 1 (HX1.spExc T.c_NotEmpty "place") (fun vs zs => vs ++ zs) (tCons (tVar 0) tNil)) (tCons (HXv.tMkVK T.c_Inside 1 (HX1.spExc T.c_Inside "place") (fun vs zs => vs ++ zs) (tCons (tVar 0) tNil)) (tCons (HXv.tMkVK T.c_BadFact 1 (HX1.spExc T.c_BadFact "index") (fun vs zs => vs ++ zs) (tCons (tVar 0) tNil)) (tCons (HXv.tMkVK T.c_BadStart 1 (HX1.spExc T.c_BadStart "start") (fun vs zs => vs ++ zs) (tCons (tVar 0) tNil)) tNil))))))) (gName 1))
    (tSeq (tAsg (tOp (rAddA K) (tVar 1) (tLst (tCons (HXv.tMkVK T.c_Clash 1 (HX1.spExc T.c_Clash "index") (fun vs zs => vs ++ zs) (tCons (tVar 0) tNil)) (tCons (HXv.tMkVK T.c_BadWord 1 (HX1.spExc T.c_BadWord "word") (fun vs zs => vs ++ zs) (tCons (tVar 0) tNil)) (tCons (HXv.tMkVK T.c_StillAsked 1 (HX1.spExc T.c_StillAsked "path") (fun vs zs => vs ++ zs) (tCons (tVar 0) tNil)) (tCons (HXv.tMkVK T.c_NotTold 1 (HX1.spExc T.c_NotTold "place") (fun vs zs => vs ++ zs) (tCons (tVar 0) tNil)) (tCons (HXv.tMkVK T.c_BadShape 1 (HX1.spExc T.c_BadShape "text") (fun vs zs => vs ++ zs) (tCons (tVar 0) tNil)) tNil))))))) (gName 1))
    (tSeq (tAsg (tOp (rAddA K) (tVar 1) (tLst (tCons (HXv.tMkVK T.c_NoValue 1 (HX1.spExc T.c_NoValue "letter") (fun vs zs => vs ++ zs) (tCons (tVar 0) tNil)) (tCons (HXv.tMkVK T.c_BadName 1 (HX1.spExc T.c_BadName "name") (fun vs zs => vs ++ zs) (tCons (tVar 0) tNil)) (tCons (HXv.tMkVK T.c_Held 1 (HX1.spExc T.c_Held "name") (fun vs zs => vs ++ zs) (tCons (tVar 0) tNil)) (tCons (HXv.tMkVK T.c_NotHeld 1 (HX1.spExc T.c_NotHeld "name") (fun vs zs => vs ++ zs) (tCons (tVar 0) tNil)) (tCons (HXv.tMkVK T.c_BadDeed 1 (HX1.spExc T.c_BadDeed "deed") (fun vs zs => vs ++ zs) (tCons (tVar 0) tNil)) tNil))))))) (gName 1))
    (tRet (tOp (rAddA K) (tVar 1) (tLst (tCons (HXv.tMkVK T.c_BadText 1 (HX1.spExc T.c_BadText "line") (fun vs zs => vs ++ zs) (tCons (tVar 0) tNil)) tNil))))))))
def t__law_kept {K : PySem.W.Frag} {mg : Str → Option Value} (T : Txt K mg) (E : XK) : TS :=
    (tSeq (tAsg (tLst (tCons (HXv.tXv T.c_BadPath "text" (tOp (rIx K) (tVar 0) (tC (.int 0)))) (tCons (HXv.tXv T.c_NotBegun "other" (tOp (rIx K) (tVar 0) (tC (.int 1)))) (tCons (HXv.tXv T.c_NoRelative "path" (tOp (rIx K) (tVar 0) (tC (.int 2)))) (tCons (HXv.tXv T.c_NoFolder "place" (tOp (rIx K) (tVar 0) (tC (.int 3)))) (tCons (HXv.tXv T.c_Taken "place" (tOp (rIx K) (tVar 0) (tC (.int 4)))) (tCons (HXv.tXv T.c_NoThing "place" (tOp (rIx K) (tVar 0) (tC (.int 5)))) (tCons (HXv.tXv T.c_NotEmpty "place" (tOp (rIx K) (tVar 0) (tC (.int 6)))) (tCons (HXv.tXv T.c_Inside "place" (tOp (rIx K) (tVar 0) (tC (.int 7)))) (tCons (HXv.tXv T.c_BadFact "index" (tOp (rIx K) (tVar 0) (tC (.int 8)))) tNil)))))))))) (gName 1))
    (tSeq (tAsg (tOp (rAddA K) (tVar 1) (tLst (tCons (HXv.tXv T.c_BadStart "start" (tOp (rIx K) (tVar 0) (tC (.int 9)))) (tCons (HXv.tXv T.c_Clash "index" (tOp (rIx K) (tVar 0) (tC (.int 10)))) (tCons (HXv.tXv T.c_BadWord "word" (tOp (rIx K) (tVar 0) (tC (.int 11)))) (tCons (HXv.tXv T.c_StillAsked "path" (tOp (rIx K) (tVar 0) (tC (.int 12)))) (tCons (HXv.tXv T.c_NotTold "place" (tOp (rIx K) (tVar 0) (tC (.int 13)))) (tCons (HXv.tXv T.c_BadShape "text" (tOp (rIx K) (tVar 0) (tC (.int 14)))) (tCons (HXv.tXv T.c_NoValue "letter" (tOp (rIx K) (tVar 0) (tC (.int 15)))) tNil))))))))) (gName 1))
    (tRet (tOp (rAddA K) (tVar 1) (tLst (tCons (HXv.tXv T.c_BadName "name" (tOp (rIx K) (tVar 0) (tC (.int 16)))) (tCons (HXv.tXv T.c_Held "name" (tOp (rIx K) (tVar 0) (tC (.int 17)))) (tCons (HXv.tXv T.c_NotHeld "name" (tOp (rIx K) (tVar 0) (tC (.int 18)))) (tCons (HXv.tXv T.c_BadDeed "deed" (tOp (rIx K) (tVar 0) (tC (.int 19)))) (tCons (HXv.tXv T.c_BadText "line" (tOp (rIx K) (tVar 0) (tC (.int 20)))) tNil))))))))))
def t__law_classes {K : PySem.W.Frag} {mg : Str → Option Value} (T : Txt K mg) (E : XK) : TS :=
    (tSeq (tAsg (tLst (tCons (tCB (HXv.rIsV K) (tCons (tVar 0) (tCons (tC (.ref T.c_BadPath)) tNil))) (tCons (tCB (HXv.rIsV K) (tCons (tVar 0) (tCons (tC (.ref T.c_NotBegun)) tNil))) (tCons (tCB (HXv.rIsV K) (tCons (tVar 0) (tCons (tC (.ref T.c_NoRelative)) tNil))) (tCons (tCB (HXv.rIsV K) (tCons (tVar 0) (tCons (tC (.ref T.c_NoFolder)) tNil))) tNil))))) (gName 1))
    (tSeq (tAsg (tOp (rAddA K) (tVar 1) (tLst (tCons (tCB (HXv.rIsV K) (tCons (tVar 0) (tCons (tC (.ref T.c_Taken)) tNil))) (tCons (tCB (HXv.rIsV K) (tCons (tVar 0) (tCons (tC (.ref T.c_NoThing)) tNil))) (tCons (tCB (HXv.rIsV K) (tCons (tVar 0) (tCons (tC (.ref T.c_NotEmpty)) tNil))) (tCons (tCB (HXv.rIsV K) (tCons (tVar 0) (tCons (tC (.ref T.c_Inside)) tNil))) tNil)))))) (gName 1))
    (tSeq (tAsg (tOp (rAddA K) (tVar 1) (tLst (tCons (tCB (HXv.rIsV K) (tCons (tVar 0) (tCons (tC (.ref T.c_BadFact)) tNil))) (tCons (tCB (HXv.rIsV K) (tCons (tVar 0) (tCons (tC (.ref T.c_BadStart)) tNil))) (tCons (tCB (HXv.rIsV K) (tCons (tVar 0) (tCons (tC (.ref T.c_Clash)) tNil))) (tCons (tCB (HXv.rIsV K) (tCons (tVar 0) (tCons (tC (.ref T.c_BadWord)) tNil))) tNil)))))) (gName 1))
    (tSeq (tAsg (tOp (rAddA K) (tVar 1) (tLst (tCons (tCB (HXv.rIsV K) (tCons (tVar 0) (tCons (tC (.ref T.c_StillAsked)) tNil))) (tCons (tCB (HXv.rIsV K) (tCons (tVar 0) (tCons (tC (.ref T.c_NotTold)) tNil))) (tCons (tCB (HXv.rIsV K) (tCons (tVar 0) (tCons (tC (.ref T.c_BadShape)) tNil))) tNil))))) (gName 1))
    (tSeq (tAsg (tOp (rAddA K) (tVar 1) (tLst (tCons (tCB (HXv.rIsV K) (tCons (tVar 0) (tCons (tC (.ref T.c_NoValue)) tNil))) (tCons (tCB (HXv.rIsV K) (tCons (tVar 0) (tCons (tC (.ref T.c_BadName)) tNil))) (tCons (tCB (HXv.rIsV K) (tCons (tVar 0) (tCons (tC (.ref T.c_Held)) tNil))) (tCons (tCB (HXv.rIsV K) (tCons (tVar 0) (tCons (tC (.ref T.c_NotHeld)) tNil))) tNil)))))) (gName 1))
    (tSeq (tAsg (tOp (rAddA K) (tVar 1) (tLst (tCons (tCB (HXv.rIsV K) (tCons (tVar 0) (tCons (tC (.ref T.c_BadDeed)) tNil))) (tCons (tCB (HXv.rIsV K) (tCons (tVar 0) (tCons (tC (.ref T.c_BadText)) tNil))) (tCons (tCB (HXv.rIsV K) (tCons (tVar 0) (tCons (tC (.ref T.c_Root)) tNil))) (tCons (tCB (HXv.rIsV K) (tCons (tVar 0) (tCons (tC (.ref T.c_NotAsked)) tNil))) tNil)))))) (gName 1))
    (tRet (tOp (rAddA K) (tVar 1) (tLst (tCons (tCB (HXv.rIsV K) (tCons (tVar 0) (tCons (tC (.ref T.c_NoDeed)) tNil))) tNil))))))))))
def t_law {K : PySem.W.Frag} {mg : Str → Option Value} (T : Txt K mg) (E : XK) : TS :=
    (tSeq (tAsg (tCall (spStart K) [] E0 (tCons (tVar 0) tNil)) (gName 1))
    (tSeq (tFor (iRng1 (tCons (tC (.int 3)) tNil)) (gName 2) (tSeq (tAsg (tCall (spOf K (φ__law_thing T 2)) [] E0 (tCons (tVar 1) (tCons (tC (.int 2)) tNil))) (gName 3))
    (tFor (iAny K (tTup (tCons (tCall (spOf K (φ__law_by_place T)) [] E0 (tCons (tVar 3) tNil)) (tCons (tCall (spOf K (φ__law_by_name T)) [] E0 (tCons (tVar 3) tNil)) tNil)))) (gName 4) (tSeq (tIfS (tNot (tB (tCB (rAll K) (tCons (tLc (iAny K (tCall (spOf K (φ__law_kept T)) [] E0 (tCons (tVar 4) tNil))) (gName 5) tYes (tCall (spOf K (φ__law_same T 6)) [] E0 (tCons (tCall (spOf K (φ__law_frozen T 6)) [] E0 (tCons (tVar 5) tNil)) (tCons (tCall (spOf K (φ__law_frozen T 6)) [] E0 (tCons (tVar 3) tNil)) tNil))) [5]) tNil)))) (tRet (tC (.bl false))) tNext)
    (tFor (iEnum K (tCons (tOp (rAddA K) (tVar 4) (tLst (tCons (HXv.tExc0 T.c_Root) (tCons (HXv.tExc0 T.c_NotAsked) (tCons (HXv.tExc0 T.c_NoDeed) tNil))))) tNil)) (gTup K 2 (gCons (gName 6) (gCons (gName 7) gNil))) (tSeq (tIfS (tOr (tNot (tB (tCB (HXv.rIsV K) (tCons (tVar 7) (tCons (tC (.ref T.c_PathError)) tNil))))) (tNot (tB (tCB (HXv.rIsV K) (tCons (tVar 7) (tCons (tC (.ty "ValueError")) tNil)))))) (tRet (tC (.bl false))) tNext)
    (tIfS (tTest (tOp (rNeA K) (tCall (spOf K (φ__law_classes T)) [] E0 (tCons (tVar 7) tNil)) (tLc (iRng1 (tCons (tC (.int 24)) tNil)) (gName 8) tYes (tOp (rEqA K) (tVar 8) (tVar 6)) [8]))) (tRet (tC (.bl false))) tNext)))))))
    (tRet (tC (.bl true)))))
end My

namespace My
open PySem L2 DD
open PySem.Spec PyProof.Rows
theorem pcs_len : ∀ l : List Nat, (DT.pcs l).length ≤ l.length + 1
  | [] => by simp [DT.pcs]
  | c :: r => by
    have ih := pcs_len r
    have hne := DT.pcs_ne r
    by_cases hc : c = 47
    · subst hc
      rw [DT.pcs_bar]
      simp only [List.length_cons]
      omega
    · rw [DT.pcs_cons _ hc]
      simp only [List.length_cons, List.length_tail]
      omega
theorem pcs_each : ∀ {l p : List Nat}, p ∈ DT.pcs l → p.length ≤ l.length
  | [], p, h => by
    have e : p = [] := by simpa [DT.pcs] using h
    subst e
    exact Nat.le_refl _
  | c :: r, p, h => by
    by_cases hc : c = 47
    · subst hc
      rw [DT.pcs_bar] at h
      rcases List.mem_cons.mp h with z | z
      · subst z
        exact Nat.zero_le _
      · have := pcs_each z
        simp only [List.length_cons]
        omega
    · rw [DT.pcs_cons _ hc] at h
      have e := DT.pcs_head r
      rcases List.mem_cons.mp h with z | z
      · have := pcs_each (l := r) (p := (DT.pcs r).headD []) (by rw [← e]; exact List.mem_cons_self)
        subst z
        simp only [List.length_cons]
        omega
      · have := pcs_each (l := r) (p := p) (by rw [← e]; exact List.mem_cons_of_mem _ z)
        simp only [List.length_cons]
        omega
theorem pieces_len (z : Str) : (DT.pieces z).length ≤ z.length + 1 := by
  unfold DT.pieces
  rw [List.length_map, TL.len_tl]
  exact pcs_len _
theorem pieces_each {z p : Str} (h : p ∈ DT.pieces z) : p.length ≤ z.length := by
  unfold DT.pieces at h
  obtain ⟨q, hq, rfl⟩ := List.mem_map.mp h
  rw [TL.len_tl z]
  exact pcs_each hq
theorem pieces_line {z : Str} (h : z.length ≤ sz) : (DT.pieces z).length ≤ sizeLine := by
  have h1 := pieces_len z
  have h2 : z.length ≤ 1000000 := h
  rw [sizeLine_eq]
  omega
theorem split_line {z : Str} (h : z.length ≤ sz) : z.length + 2 ≤ sizeLine := by
  have h2 : z.length ≤ 1000000 := h
  rw [sizeLine_eq]
  omega
theorem bar1 : (("/" : Str).length == 0) = false := by decide +kernel
theorem inDots (p : Str) : inV (.str p) [.str "", .str ".", .str ".."] = DT.dotty p := rfl
theorem path_ne {z : Str} (h : DT.isPath z = true) : TL.tl z ≠ [] := fun e => (DT.isPath_iff.mp h).1 (DT.tl_ext (l := []) e |>.trans DT.mk_nil)
theorem first_of {z : Str} (h : TL.tl z ≠ []) : ∃ c, atI z.cps.toList 0 = some c ∧ (TL.tl z).head? = some c := by
  cases e : TL.tl z with
  | nil => exact absurd e h
  | cons c r => exact ⟨c, atI_zero (by rw [show z.cps.toList = c :: r from e]; rfl), rfl⟩
theorem last_of {z : Str} (h : TL.tl z ≠ []) : ∃ c, atI z.cps.toList (-1) = some c ∧ (TL.tl z).getLast? = some c := by
  cases e : (TL.tl z).getLast? with
  | none => exact absurd (List.getLast?_eq_none_iff.mp e) h
  | some c => exact ⟨c, atI_last e, rfl⟩
theorem one_eq (c d : Nat) : decide ((V.str ⟨#[c]⟩) = V.str ⟨#[d]⟩) = decide (c = d) := by
  rw [Bool.eq_iff_iff]
  simp
theorem bar_eq (c : Nat) : decide ((V.str ⟨#[c]⟩) = V.str ("/" : Str)) = decide (c = 47) := by
  rw [show ("/" : Str) = ⟨#[47]⟩ by decide +kernel]
  exact one_eq c 47
theorem bar_is : ("/" : Str) = ⟨#[47]⟩ := by decide +kernel
theorem pieces_last (z : Str) : (DT.pieces z).getLast? = some (DT.lastP z) := by
  unfold DT.pieces DT.lastP
  rw [List.getLast?_map]
  cases e : (DT.pcs (TL.tl z)).getLast? with
  | none => exact absurd (List.getLast?_eq_none_iff.mp e) (DT.pcs_ne _)
  | some p =>
    rw [List.getLastD_eq_getLast?, e]
    rfl
theorem steps_ok' {z : Str} (h : DT.isPath z = true) : ∀ p ∈ DT.steps z, PyData.strOk p = true := DT.steps_ok h
theorem join_path {a b : Str} (ha : DT.isPath a = true) (hb : DT.isPath b = true) : DT.isPath (joinP a b) = true := by
  unfold joinP
  by_cases h : DT.rooted b = true
  · rw [if_pos h]
    exact hb
  · rw [if_neg h]
    obtain ⟨a1, a2⟩ := DT.isPath_iff.mp ha
    obtain ⟨b1, b2⟩ := DT.isPath_iff.mp hb
    have hbn := path_ne hb
    have e1 : TL.tl ("/" : Str) = [47] := by decide +kernel
    have e0 : TL.tl ("" : Str) = [] := by decide +kernel
    refine DT.isPath_iff.mpr ⟨fun z => ?_, ?_⟩
    · have z2 := congrArg TL.tl z
      rw [TL.tl_append, e0] at z2
      exact hbn (List.append_eq_nil_iff.mp z2).2
    · rw [TL.tl_append, TL.tl_append]
      unfold sepOf
      by_cases hl : DT.tlLast a = some 47
      · rw [if_pos hl, e0, List.append_nil]
        unfold DT.tlLast at hl
        obtain ⟨a', ha'⟩ : ∃ a', TL.tl a = a' ++ [47] := by
          have := List.getLast?_eq_some_iff.mp hl
          exact this
        rw [ha'] at a2 ⊢
        rw [List.append_assoc]
        exact DT.good_cat (DT.good_cut (b := []) a2).1 b2
      · rw [if_neg hl, e1, List.append_assoc]
        exact DT.good_cat a2 b2
theorem len2 (x y : D) : [x, y].length ≤ sizeLine := le_line (by show 2 ≤ 1000000; decide)
theorem eq_emp (z : Str) : decide (V.str z = V.str ("" : Str)) = decide (z = "") := by
  rw [Bool.eq_iff_iff]
  simp
theorem fst_bar {z : Str} (h : TL.tl z ≠ []) : ∃ c, atI z.cps.toList 0 = some c ∧ DT.rooted z = decide (c = 47) := by
  obtain ⟨c, h1, h2⟩ := first_of h
  refine ⟨c, h1, ?_⟩
  unfold DT.rooted
  rw [h2, Bool.eq_iff_iff]
  simp
theorem strs_of (qs : List (List Nat)) : (qs.map DT.mk).map (fun y => D.s (.str y)) = qs.map fun q => strD (DT.mk q) := by
  rw [List.map_map]
  rfl
theorem strs_scal (zs : List Str) : zs.map strD = (zs.map V.str).map D.s := by
  rw [List.map_map]
  rfl
theorem inV_strs (x : Str) (zs : List Str) : inV (.str x) (zs.map V.str) = decide (x ∈ zs) := by
  unfold inV
  rw [List.any_map, Bool.eq_iff_iff, List.any_eq_true]
  constructor
  · rintro ⟨y, hy, e⟩
    have e2 : (y == x) = true := e
    have e3 : y = x := by simpa using e2
    subst e3
    exact decide_eq_true hy
  · intro h
    refine ⟨x, of_decide_eq_true h, ?_⟩
    show (x == x) = true
    simp
theorem flat_strs (zs : List Str) : (zs.map V.str).all flatV = true := by
  rw [List.all_map, List.all_eq_true]
  intro _ _
  rfl
theorem make_path {K : PySem.W.Frag} {mg : Str → Option Value} (T : Txt K mg) {F B : Hp} {ρ : DD.Env} {m : Mem} {te : TE} {Q : QD} (h : WE K F B te ρ m fun d m1 => ∃ z, d = strD z ∧ DT.isPath z = true ∧ z.length ≤ sz ∧ Q (pathD T.c_Path z) m1) :
    WE K F B (tMake T.c_Path (spOf K (φ_Path___init__ T)) [] E0 (tCons te tNil)) ρ m Q :=
  we_make (dds := []) okx0 RpL.nil (wa_cons (we_imp h fun d m1 ⟨z, e, hp, hz, q⟩ => by
    subst e
    refine wa_nil fun x hx => ?_
    first
      | (refine ⟨x, z, rfl, hp, hz, putM_same, rfl, pN, _, putM_same, ?_⟩; rw [putM_put, dropM_put hx]; exact q)
      | (refine Or.inl ⟨x, z, rfl, hp, hz, putM_same, rfl, pN, _, putM_same, ?_⟩; rw [putM_put, dropM_put hx]; exact q)))
theorem more_more (m : Mem) (a b : Nat) : more (more m a) b = more m (a + b) := by
  unfold more
  rw [Nat.add_assoc]
theorem len_twice {α : Type} (xs : List α) : (List.replicate (2 : Int).toNat xs).flatten.length = 2 * xs.length := by
  show (xs ++ (xs ++ [])).length = _
  rw [List.append_nil, List.length_append]
  omega
theorem lc_draws {K : PySem.W.Frag} {F B : Hp} {ρ : DD.Env} {m : Mem} {wi : TI} {te : TE} {i N : Nat} {Q : QD} (P : Str → Prop) (hN : N ≤ 1000000) (hw : ∀ Q', Q' (rngD 0 N) m → WI K F B wi ρ m Q')
    (ht : ∀ F' k d, k < N → WE K F' B te ((wipeD ρ [i]).set i (some d)) (more m k) fun y m' => ∃ z, y = strD z ∧ P z ∧ m' = more m (k + 1))
    (q : ∀ zs : List Str, zs.length = N → (∀ z ∈ zs, P z) → Q (strsD zs) (more m N)) : WE K F B (tLc wi (gName i) tYes te [i]) ρ m Q := by
  refine we_lc (hw _ ⟨fun k acc m' => ∃ zs : List Str, acc = zs.map strD ∧ zs.length = k ∧ (∀ z ∈ zs, P z) ∧ m' = more m k, ⟨[], rfl, rfl, (fun _ z => nomatch z), rfl⟩, fun F' k d acc m' hd ⟨zs, e1, e2, e3, e4⟩ => ?_, fun acc m' ⟨zs, e1, e2, e3, e4⟩ => ?_⟩)
  · subst e1 e4
    have hk := (rngD_get hd).1
    refine wgw_name List.mem_cons_self (wt_yes ⟨fun _ => we_imp (ht F' k d hk) fun y m4 ⟨z, ey, hz, em⟩ => ?_, fun z => nomatch z⟩)
    subst ey em
    refine ⟨by rw [List.length_map]; exact Nat.lt_of_lt_of_le (by omega) (le_line hN), zs ++ [z], by simp, by simp [e2], fun x hx => ?_, rfl⟩
    rcases List.mem_append.mp hx with w | w
    · exact e3 x w
    · have e : x = z := by simpa using w
      subst e
      exact hz
  · subst e1 e4
    rw [rngD_length] at e2 ⊢
    exact q zs e2 e3
theorem sum_le {b : Nat} : ∀ {zs : List Str}, (∀ z ∈ zs, z.length ≤ b) → (zs.map (·.length)).sum ≤ zs.length * b
  | [], _ => Nat.zero_le _
  | z :: zs, h => by
    have ih := sum_le (zs := zs) fun y hy => h y (List.mem_cons_of_mem _ hy)
    have h1 := h z List.mem_cons_self
    rw [List.map_cons, List.sum_cons, List.length_cons, Nat.succ_mul]
    omega
theorem name_of : ∀ {zs : List Str}, (∀ z ∈ zs, ∃ c, c ∈ DT.letters ∧ z = ⟨#[c]⟩) → (TL.tl (Txt.join "" zs)).length = zs.length ∧ ∀ c ∈ TL.tl (Txt.join "" zs), c ∈ DT.letters := fun {zs} h => by
  rw [DT.tl_join0]
  induction zs with
  | nil => exact ⟨rfl, fun c hc => by cases hc⟩
  | cons z zs ih =>
    obtain ⟨i1, i2⟩ := ih fun y hy => h y (List.mem_cons_of_mem _ hy)
    obtain ⟨c, hc, rfl⟩ := h z List.mem_cons_self
    rw [List.map_cons, List.flatten_cons]
    refine ⟨?_, fun d hd => ?_⟩
    · rw [List.length_append, i1]
      show 1 + zs.length = zs.length + 1
      omega
    · rcases List.mem_append.mp hd with w | w
      · have e : d = c := by simpa [TL.tl] using w
        subst e
        exact hc
      · exact i2 d w
theorem chr_of {z : Str} {d : D} (h : d ∈ chrs z) : ∃ c, c ∈ TL.tl z ∧ d = strD ⟨#[c]⟩ := by
  unfold chrs at h
  obtain ⟨c, hc, rfl⟩ := List.mem_map.mp h
  exact ⟨c, hc, rfl⟩
theorem frz_eqD {K : PySem.W.Frag} {C : Addr} : ∀ (n : Nat) (x : D), FrOk K C n x → EqD K n (frz n x)
  | 0, _, h => (show False from h).elim
  | n + 1, x, h => by
    rcases h with rfl | ⟨b, rfl⟩ | ⟨i, rfl⟩ | ⟨z, rfl⟩ | ⟨a, rfl⟩ | ⟨xs, hx, _, h⟩ | ⟨s, y, rfl, h⟩
    · exact .inl ⟨_, rfl, rfl⟩
    · exact .inl ⟨_, rfl, rfl⟩
    · exact .inl ⟨_, rfl, rfl⟩
    · exact .inl ⟨_, rfl, rfl⟩
    · exact .inr (.inl ⟨a, _, rfl⟩)
    · refine .inr (.inr (.inl ⟨xs.map (frz n), by rcases hx with rfl | rfl <;> rfl, fun y hy => ?_⟩))
      obtain ⟨z, hz, rfl⟩ := List.mem_map.mp hy
      exact frz_eqD n z (h z hz)
    · exact .inr (.inr (.inr ⟨_, frz n y, rfl, frz_eqD n y h⟩))
theorem frz_sm {K : PySem.W.Frag} {C : Addr} : ∀ (n : Nat) (x : D), n ≤ 60 → FrOk K C n x → SmOk K C n (frz n x)
  | 0, _, _, h => (show False from h).elim
  | n + 1, x, hn, h => by
    rcases h with rfl | ⟨b, rfl⟩ | ⟨i, rfl⟩ | ⟨z, rfl⟩ | ⟨a, rfl⟩ | ⟨xs, hx, hl, h⟩ | ⟨s, y, rfl, h⟩
    · exact .inl rfl
    · exact .inr (.inl ⟨b, rfl⟩)
    · exact .inr (.inr (.inl ⟨i, rfl⟩))
    · exact .inr (.inr (.inr (.inl ⟨z, rfl⟩)))
    · exact .inr (.inr (.inr (.inr (.inl ⟨a, rfl⟩))))
    · refine .inr (.inr (.inr (.inr (.inr (.inl ⟨xs.map (frz n), by rcases hx with rfl | rfl <;> rfl, by rw [List.length_map]; exact hl, fun y hy => ?_⟩)))))
      obtain ⟨z, hz, rfl⟩ := List.mem_map.mp hy
      exact frz_sm n z (by omega) (h z hz)
    · exact .inr (.inr (.inr (.inr (.inr (.inr ⟨s, frz n y, n, rfl, by omega, frz_eqD n y h⟩)))))
theorem FrOk_up {K : PySem.W.Frag} {C : Addr} : ∀ (n : Nat) (x : D), FrOk K C n x → FrOk K C (n + 1) x
  | 0, _, h => (show False from h).elim
  | n + 1, x, h => by
    rcases h with h | h | h | h | h | ⟨xs, hx, hl, h⟩ | ⟨s, y, hx, h⟩
    · exact .inl h
    · exact .inr (.inl h)
    · exact .inr (.inr (.inl h))
    · exact .inr (.inr (.inr (.inl h)))
    · exact .inr (.inr (.inr (.inr (.inl h))))
    · exact .inr (.inr (.inr (.inr (.inr (.inl ⟨xs, hx, hl, fun y hy => FrOk_up n y (h y hy)⟩)))))
    · exact .inr (.inr (.inr (.inr (.inr (.inr ⟨s, y, hx, FrOk_up n y h⟩)))))
theorem FrOk_le {K : PySem.W.Frag} {C : Addr} {n : Nat} {x : D} (h : FrOk K C n x) : ∀ k, FrOk K C (n + k) x
  | 0 => h
  | k + 1 => FrOk_up _ _ (FrOk_le h k)
/-- a pinned Path -/
theorem ty_pin {K : PySem.W.Frag} {m : Mem} {C : Addr} (hC : InsTy K C) {v : V} {ns : List Str} {ds : List D} : TyD K m (pinD K v (.ins C ns ds)) (.ref C) := by
  refine .gen fun Hc H w e h => ?_
  obtain ⟨rfl, h⟩ := h
  unfold Rp at h
  obtain ⟨p, dx, vs, rfl, h1, _⟩ := h
  exact .base (.ins (e _ _ h1) hC.cl hC.ha hC.hn hC.htk hC.hm)
theorem we_pinI {K : PySem.W.Frag} {F B : Hp} {ρ : DD.Env} {m : Mem} {te : TE} {C : Addr} {ns : List Str} {ds : List D} {Q : QD} (h : WE K F B te ρ m fun d m1 => d = .ins C ns ds ∧ ∀ a, Q (pinD K (.ref a) d) m1) : WE K F B te ρ m Q := fun Hb H σ R hB r hs k =>
  h Hb H σ _ hB r hs fun v H1 Hb1 d m1 e r1 hd q => by
    obtain ⟨rfl, q⟩ := q
    have hd' := hd
    unfold Rp at hd'
    obtain ⟨p, dx, vs, rfl, _⟩ := hd'
    exact k _ H1 Hb1 _ m1 e r1 (rp_pin hd) (q p)
theorem pyL_bools : ∀ bs : List Bool, pyL (bs.map fun b => D.s (.bl b)) = some (bs.map PyData.bool)
  | [] => by simp [pyL]
  | b :: bs => by
    rw [List.map_cons, List.map_cons]
    unfold pyL
    rw [pyL_bools bs]
    rfl
theorem eqvAll_bools : ∀ bs : List Bool, PyData.eqvAll (bs.map PyData.bool) (bs.map PyData.bool) = true
  | [] => rfl
  | b :: bs => by
    rw [List.map_cons]
    unfold PyData.eqvAll
    rw [eqvAll_bools bs]
    cases b <;> rfl
theorem wo_neBools {K : PySem.W.Frag} {F B : Hp} {m : Mem} {bs : List Bool} {Q : QD} (hs : SeqAt.shaped (.list (bs.map PyData.bool)) = true) (q : Q (blD false) m) : WO K F B (rNeA K) (.lst (bs.map fun b => .s (.bl b))) (.lst (bs.map fun b => .s (.bl b))) m Q := by
  refine wo_neD (a := .list (bs.map PyData.bool)) (b := .list (bs.map PyData.bool)) (by unfold pyD; rw [pyL_bools]; rfl) (by unfold pyD; rw [pyL_bools]; rfl) hs hs ?_
  unfold PyData.eqv
  rw [eqvAll_bools]
  exact q
/-- which of unlike ones it is -/
theorem one_of {L : List Addr} {C : Addr} {i : Nat} (hn : L.Nodup) (h : L[i]? = some C) : L.map (fun C2 => decide (C = C2)) = (List.range L.length).map fun k => decide (k = i) := by
  refine List.ext_getElem (by simp) fun j h1 h2 => ?_
  rw [List.getElem_map, List.getElem_map, List.getElem_range]
  have hj : j < L.length := by simpa using h1
  obtain ⟨hi, e⟩ := List.getElem?_eq_some_iff.mp h
  subst e
  rw [Bool.eq_iff_iff, decide_eq_true_iff, decide_eq_true_iff]
  have pw := List.pairwise_iff_getElem.mp hn
  refine ⟨fun e => ?_, fun e => by subst e; rfl⟩
  rcases Nat.lt_trichotomy i j with z | z | z
  · exact absurd e (pw i j hi hj z)
  · exact z.symm
  · exact absurd e.symm (pw j i hj hi z)
theorem all_x {K : PySem.W.Frag} {mg : Str → Option Value} (T : Txt K mg) (x : D) : ∀ p ∈ (allC T).zip (madeD T x ++ lastsD T), XcD K p.1 p.2 ∧ ExcC K p.1 ∧ HXv.XKl K T.c_PathError p.1 := by
  unfold allC madeD lastsD
  show ∀ p ∈ [(T.c_BadPath, excD K T.c_BadPath "text" x), (T.c_NotBegun, excD K T.c_NotBegun "other" x), (T.c_NoRelative, excD K T.c_NoRelative "path" x), (T.c_NoFolder, excD K T.c_NoFolder "place" x), (T.c_Taken, excD K T.c_Taken "place" x), (T.c_NoThing, excD K T.c_NoThing "place" x), (T.c_NotEmpty, excD K T.c_NotEmpty "place" x), (T.c_Inside, excD K T.c_Inside "place" x), (T.c_BadFact, excD K T.c_BadFact "index" x), (T.c_BadStart, excD K T.c_BadStart "start" x), (T.c_Clash, excD K T.c_Clash "index" x), (T.c_BadWord, excD K T.c_BadWord "word" x), (T.c_StillAsked, excD K T.c_StillAsked "path" x), (T.c_NotTold, excD K T.c_NotTold "place" x), (T.c_BadShape, excD K T.c_BadShape "text" x), (T.c_NoValue, excD K T.c_NoValue "letter" x), (T.c_BadName, excD K T.c_BadName "name" x), (T.c_Held, excD K T.c_Held "name" x), (T.c_NotHeld, excD K T.c_NotHeld "name" x), (T.c_BadDeed, excD K T.c_BadDeed "deed" x), (T.c_BadText, excD K T.c_BadText "line" x), (T.c_Root, exc0D T.c_Root), (T.c_NotAsked, exc0D T.c_NotAsked), (T.c_NoDeed, exc0D T.c_NoDeed)], _
  exact List.forall_mem_cons.mpr ⟨⟨.inl ⟨_, _, rfl⟩, T.ec_BadPath, T.xk_BadPath⟩, (List.forall_mem_cons.mpr ⟨⟨.inl ⟨_, _, rfl⟩, T.ec_NotBegun, T.xk_NotBegun⟩, (List.forall_mem_cons.mpr ⟨⟨.inl ⟨_, _, rfl⟩, T.ec_NoRelative, T.xk_NoRelative⟩, (List.forall_mem_cons.mpr ⟨⟨.inl ⟨_, _, rfl⟩, T.ec_NoFolder, T.xk_NoFolder⟩, (List.forall_mem_cons.mpr ⟨⟨.inl ⟨_, _, rfl⟩, T.ec_Taken, T.xk_Taken⟩, (List.forall_mem_cons.mpr ⟨⟨.inl ⟨_, _, rfl⟩, T.ec_NoThing, T.xk_NoThing⟩, (List.forall_mem_cons.mpr ⟨⟨.inl ⟨_, _, rfl⟩, T.ec_NotEmpty, T.xk_NotEmpty⟩, (List.forall_mem_cons.mpr ⟨⟨.inl ⟨_, _, rfl⟩, T.ec_Inside, T.xk_Inside⟩, (List.forall_mem_cons.mpr ⟨⟨.inl ⟨_, _, rfl⟩, T.ec_BadFact, T.xk_BadFact⟩, (List.forall_mem_cons.mpr ⟨⟨.inl ⟨_, _, rfl⟩, T.ec_BadStart, T.xk_BadStart⟩, (List.forall_mem_cons.mpr ⟨⟨.inl ⟨_, _, rfl⟩, T.ec_Clash, T.xk_Clash⟩, (List.forall_mem_cons.mpr ⟨⟨.inl ⟨_, _, rfl⟩, T.ec_BadWord, T.xk_BadWord⟩, (List.forall_mem_cons.mpr ⟨⟨.inl ⟨_, _, rfl⟩, T.ec_StillAsked, T.xk_StillAsked⟩, (List.forall_mem_cons.mpr ⟨⟨.inl ⟨_, _, rfl⟩, T.ec_NotTold, T.xk_NotTold⟩, (List.forall_mem_cons.mpr ⟨⟨.inl ⟨_, _, rfl⟩, T.ec_BadShape, T.xk_BadShape⟩, (List.forall_mem_cons.mpr ⟨⟨.inl ⟨_, _, rfl⟩, T.ec_NoValue, T.xk_NoValue⟩, (List.forall_mem_cons.mpr ⟨⟨.inl ⟨_, _, rfl⟩, T.ec_BadName, T.xk_BadName⟩, (List.forall_mem_cons.mpr ⟨⟨.inl ⟨_, _, rfl⟩, T.ec_Held, T.xk_Held⟩, (List.forall_mem_cons.mpr ⟨⟨.inl ⟨_, _, rfl⟩, T.ec_NotHeld, T.xk_NotHeld⟩, (List.forall_mem_cons.mpr ⟨⟨.inl ⟨_, _, rfl⟩, T.ec_BadDeed, T.xk_BadDeed⟩, (List.forall_mem_cons.mpr ⟨⟨.inl ⟨_, _, rfl⟩, T.ec_BadText, T.xk_BadText⟩, (List.forall_mem_cons.mpr ⟨⟨.inr rfl, T.ec_Root, T.xk_Root⟩, (List.forall_mem_cons.mpr ⟨⟨.inr rfl, T.ec_NotAsked, T.xk_NotAsked⟩, (List.forall_mem_cons.mpr ⟨⟨.inr rfl, T.ec_NoDeed, T.xk_NoDeed⟩, (fun _ h => nomatch h)⟩)⟩)⟩)⟩)⟩)⟩)⟩)⟩)⟩)⟩)⟩)⟩)⟩)⟩)⟩)⟩)⟩)⟩)⟩)⟩)⟩)⟩)⟩)⟩
theorem shp_bools : ∀ bs : List Bool, PyData.canLayAll0 (bs.map PyData.bool) = true ∧ PyData.depthAll (bs.map PyData.bool) = 0
  | [] => ⟨rfl, rfl⟩
  | n :: ns => by
    obtain ⟨h1, h2⟩ := shp_bools ns
    exact ⟨by rw [List.map_cons]; unfold PyData.canLayAll0; rw [h1]; rfl, by rw [List.map_cons]; unfold PyData.depthAll; rw [h2]; rfl⟩
theorem shaped_bools (bs : List Bool) : SeqAt.shaped (.list (bs.map PyData.bool)) = true := by
  obtain ⟨h1, h2⟩ := shp_bools bs
  unfold SeqAt.shaped PyData.canLay0 PyData.depth
  rw [h1, h2]
  rfl
def isK (i : Nat) : D → D
  | .s (.int k) => blD (decide (V.int k = V.int ((0 + i : Nat) : Int)))
  | _ => nonD
theorem isK_list {K : PySem.W.Frag} {mg : Str → Option Value} (T : Txt K mg) {C : Addr} {i : Nat} (h : (allC T)[i]? = some C) : (rngD 0 24).map (isK i) = ((allC T).map fun C2 => decide (C = C2)).map fun b => .s (.bl b) := by
  rw [one_of (L := allC T) (List.nodup_cons.mp T.nd_x).2 h]
  show (rngD 0 24).map (isK i) = ((List.range 24).map _).map _
  unfold rngD
  rw [List.map_map, List.map_map]
  refine List.map_congr_left fun k _ => ?_
  show blD _ = blD _
  congr 2
  refine propext ⟨fun z => ?_, fun z => ?_⟩
  · have z2 := V.int.inj z
    omega
  · subst z
    rw [Nat.zero_add, Int.zero_add]
theorem rd_is_name {K : PySem.W.Frag} {mg : Str → Option Value} (T : Txt K mg) (E : XK) : BodyOk K (φ_is_name T) N_is_name E (t_is_name T E) := by
  intro ds m nx X F B h hE
  obtain ⟨d, rfl, h⟩ := h
  rw [st_is_name]
  unfold t_is_name
  refine ws_ret (we_andV ?_)
  refine we_cb (wa_cons (we_var rfl (wa_cons (we_c (wa_nil ?_)))))
  rcases h with ⟨z, rfl, hz, h⟩ | ⟨⟨t, ht, hk⟩, h⟩
  · refine wc_isi (.str z) rfl (kit_ty (by decide +kernel)) ⟨true, rfl, fun _ => ?_, (fun q => nomatch q)⟩
    refine we_andV ?_
    refine we_chain (we_c (we_cb (wa_cons (we_var rfl (wa_nil ?_)))))
    refine wc_len ⟨le_line hz, rfl⟩ (wo_I0 ⟨_, rfl, fun h1 => ?_, fun h1 => ?_⟩)
    · refine we_c (wo_I0 ⟨_, rfl, fun h2 => ?_, fun h2 => ?_⟩)
      · refine we_cb (wa_cons ?_)
        refine we_lcMap (wi_any (we_var rfl ⟨_, rfl, fun d => blD (match d with | .s (.str c) => decide ((c.cps.toList.headD 0) ∈ DT.letters) | _ => false), ?_, fun F' d hd => ?_, ?_⟩))
        · rw [chrs_length]
          exact le_line hz
        · obtain ⟨c, hc, rfl⟩ := List.mem_map.mp hd
          refine wgw_name List.mem_cons_self ⟨rfl, ?_⟩
          exact we_op (we_var rfl (we_c (wo_inC ⟨rfl, rfl⟩)))
        · refine wa_nil ?_
          have e : (chrs z).map (fun d => blD (match d with | .s (.str c) => decide ((c.cps.toList.headD 0) ∈ DT.letters) | _ => false)) = (((TL.tl z).map fun c => decide (c ∈ DT.letters))).map fun b => .s (.bl b) := by
            unfold chrs
            rw [List.map_map, List.map_map]
            rfl
          rw [e]
          refine wc_all ?_
          have e2 : DT.isName z = ((TL.tl z).map fun c => decide (c ∈ DT.letters)).all id := by
            unfold DT.isName
            have a1 : (1 : Int) ≤ (z.length : Nat) := of_decide_eq_true h1
            have a2 : ((z.length : Nat) : Int) ≤ 8 := of_decide_eq_true h2
            rw [decide_eq_true (show 1 ≤ z.length by omega), decide_eq_true (show z.length ≤ 8 by omega), List.all_map]
            rfl
          rw [← e2]
          exact h
      · have e2 : DT.isName z = false := by
          unfold DT.isName
          have a2 : ¬ ((z.length : Nat) : Int) ≤ 8 := of_decide_eq_false h2
          rw [decide_eq_false (show ¬ z.length ≤ 8 by omega)]
          simp
        rw [e2] at h
        exact h
    · have e2 : DT.isName z = false := by
        unfold DT.isName
        have a2 : ¬ (1 : Int) ≤ ((z.length : Nat) : Int) := of_decide_eq_false h1
        rw [decide_eq_false (show ¬ 1 ≤ z.length by omega)]
        rfl
      rw [e2] at h
      exact ⟨false, rfl, (fun q => nomatch q), fun _ => h⟩
  · exact wc_isi ht rfl hk ⟨false, rfl, (fun q => nomatch q), fun _ => h⟩
theorem rd_is_path_text {K : PySem.W.Frag} {mg : Str → Option Value} (T : Txt K mg) (E : XK) : BodyOk K (φ_is_path_text T) N_is_path_text E (t_is_path_text T E) := by
  intro ds m nx X F B h hE
  obtain ⟨d, rfl, h⟩ := h
  rw [st_is_path_text]
  unfold t_is_path_text
  refine ws_seq (ws_if (wt_or (wt_not (wt_B (we_cb (wa_cons (we_var rfl (wa_cons (we_c (wa_nil ?_))))))))))
  rcases h with ⟨z, rfl, hz, h⟩ | ⟨⟨t, ht, hk⟩, h⟩
  · refine wc_isi (.str z) rfl (kit_ty (by decide +kernel)) ⟨true, rfl, fun _ => ?_, (fun q => nomatch q)⟩
    refine wt_test (we_op (we_var rfl (we_c (wo_eqS rfl ⟨_, rfl, fun q => ?_, fun q => ?_⟩))))
    · refine ws_ret (we_c ?_)
      have e : z = "" := by simpa using of_decide_eq_true q
      have e2 : DT.isPath z = false := by
        unfold DT.isPath
        rw [decide_eq_true e]
        rfl
      rw [e2] at h
      exact h
    · have e : ¬ z = "" := by simpa using of_decide_eq_false q
      refine ws_next (ws_ret (we_cb (wa_cons ?_)))
      refine we_lcMap (wi_any (we_m1 (we_var rfl ⟨⟨_, rfl⟩, we_c (wm_split bar1 (split_line hz) ⟨_, rfl, fun d => blD (match d with | .s (.str p) => DT.dotty p || DT.isName p | _ => false), ?_, fun F' d hd => ?_, ?_⟩)⟩)))
      · rw [List.length_map, DT.split_eq]
        exact pieces_line hz
      · rw [DT.split_eq] at hd
        obtain ⟨p, hp, rfl⟩ := List.mem_map.mp hd
        refine wgw_name List.mem_cons_self ⟨rfl, ?_⟩
        refine we_orV (we_op (we_var rfl (we_tup (wa_cons (we_c (wa_cons (we_c (wa_cons (we_c (wa_nil ⟨by decide, ?_⟩))))))))))
        refine wo_inT (xs := [.str "", .str ".", .str ".."]) rfl rfl ⟨_, rfl, fun q => ?_, fun q => ?_⟩
        · rw [inDots] at q
          refine we_call okx0 (wa_cons (we_var rfl (wa_nil ⟨_, rfl, .inl ⟨p, rfl, Nat.le_trans (pieces_each hp) hz, ?_, rfl⟩⟩)))
          show blD (DT.isName p) = blD (DT.dotty p || DT.isName p)
          rw [q]
          rfl
        · rw [inDots] at q
          refine ⟨?_, rfl⟩
          show blD true = blD (DT.dotty p || DT.isName p)
          rw [q]
          rfl
      · refine wa_nil ?_
        rw [DT.split_eq, List.map_map]
        have e1 : (DT.pieces z).map ((fun d => blD (match d with | .s (.str p) => DT.dotty p || DT.isName p | _ => false)) ∘ fun y => D.s (.str y)) = ((DT.pieces z).map fun p => DT.dotty p || DT.isName p).map fun b => .s (.bl b) := by
          rw [List.map_map]
          rfl
        rw [e1]
        refine wc_all ?_
        have e2 : DT.isPath z = ((DT.pieces z).map fun p => DT.dotty p || DT.isName p).all id := by
          unfold DT.isPath
          rw [decide_eq_false e, List.all_map]
          rfl
        rw [← e2]
        exact h
  · exact wc_isi ht rfl hk ⟨false, rfl, (fun q => nomatch q), fun _ => ⟨fun _ => ws_ret (we_c h), fun q => nomatch q⟩⟩
theorem rd_Path___init__ {K : PySem.W.Frag} {mg : Str → Option Value} (T : Txt K mg) (E : XK) : BodyOk K (φ_Path___init__ T) N_Path___init__ E (t_Path___init__ T E) := by
  intro ds m nx X F B h hE
  obtain ⟨x, z, rfl, hp, hz, ho, h⟩ := h
  rw [st_Path___init__]
  unfold t_Path___init__
  refine ws_seq (ws_if (wt_not (wt_B (we_call okx0 (wa_cons (we_var rfl (wa_nil ⟨_, rfl, .inl ⟨z, rfl, hz, _, rfl, ?_⟩⟩)))))))
  rw [hp]
  refine ⟨(fun q => nomatch q), fun _ => ws_next (ws_seq (ws_fld (we_var rfl (we_var rfl ⟨x, T.c_Path, [], [], rfl, T.y_Path.cl, T.n_Path_text, ho, by decide, ?_⟩))))⟩
  obtain ⟨c, hc, hc2⟩ := first_of (path_ne hp)
  refine ws_seq (ws_fld (we_op (we_op (we_var rfl (we_c (wo_ixS (le_line hz) hc (we_c ?_)))))))
  refine wo_eqS rfl ?_
  rw [bar_eq]
  refine we_var rfl ⟨x, T.c_Path, _, _, rfl, T.y_Path.cl, T.n_Path_rooted, putM_same, by decide, ?_⟩
  refine ws_fld (we_op (we_op (we_m1 (we_var rfl ⟨⟨_, rfl⟩, we_c (wm_split bar1 (split_line hz) (we_un (we_c (wu_neg ?_))))⟩))))
  rw [DT.split_eq]
  refine wo_ixL (d := strD (DT.lastP z)) (atI_last ?_) (we_tup (wa_cons (we_c (wa_cons (we_c (wa_cons (we_c (wa_nil ⟨by decide, ?_⟩))))))))
  · rw [List.getLast?_map, pieces_last]
    rfl
  refine wo_inT (xs := [.str "", .str ".", .str ".."]) rfl rfl (we_var rfl ⟨x, T.c_Path, _, _, rfl, T.y_Path.cl, T.n_Path_ended, putM_same, by decide, ?_⟩)
  have e : DT.rooted z = decide (c = 47) := by
    unfold DT.rooted
    rw [hc2]
    rw [Bool.eq_iff_iff]
    simp
  have h' := h
  unfold pV at h'
  rw [e] at h'
  simp only [putM_put]
  exact h'
theorem rd_Path___eq__ {K : PySem.W.Frag} {mg : Str → Option Value} (T : Txt K mg) (E : XK) : BodyOk K (φ_Path___eq__ T) N_Path___eq__ E (t_Path___eq__ T E) := by
  intro ds m nx X F B h hE
  obtain ⟨z, y, rfl, h⟩ := h
  rw [st_Path___eq__]
  unfold t_Path___eq__
  refine ws_ret (we_andV (we_cb (wa_cons (we_var rfl (wa_cons (we_c (wa_nil ?_)))))))
  refine wc_isi (.ins T.y_Path _ _) rfl T.kt_Path_Path ⟨true, rfl, (fun _ => ?_), fun q => nomatch q⟩
  refine we_op (we_fld (we_var rfl ⟨T.c_Path, strD z, T.y_Path.cl, T.n_Path_text, ⟨rfl, rfl⟩, we_fld (we_var rfl ⟨T.c_Path, strD y, T.y_Path.cl, T.n_Path_text, ⟨rfl, rfl⟩, wo_eqS rfl ?_⟩)⟩))
  have e : decide (V.str z = V.str y) = decide (z = y) := by
    rw [Bool.eq_iff_iff]
    simp
  rw [e]
  exact h
theorem rd_Path___len__ {K : PySem.W.Frag} {mg : Str → Option Value} (T : Txt K mg) (E : XK) : BodyOk K (φ_Path___len__ T) N_Path___len__ E (t_Path___len__ T E) := by
  intro ds m nx X F B h hE
  obtain ⟨z, rfl, hz, h⟩ := h
  rw [st_Path___len__]
  unfold t_Path___len__
  refine ws_ret (we_cb (wa_cons (we_meth okx0 (we_var rfl ⟨⟨rfl, by decide +kernel⟩, wa_nil ⟨z, rfl, hz, wa_nil (wc_len (n := (DT.steps z).length) ?_ h)⟩⟩))))
  show (DT.steps z).length = ((DT.steps z).map strD).length
  rw [List.length_map]
theorem rd_Path___floordiv__ {K : PySem.W.Frag} {mg : Str → Option Value} (T : Txt K mg) (E : XK) : BodyOk K (φ_Path___floordiv__ T) N_Path___floordiv__ E (t_Path___floordiv__ T E) := by
  intro ds m nx X F B h hE
  obtain ⟨a, b, rfl, ha, hb, la, lb, h⟩ := h
  rw [st_Path___floordiv__]
  unfold t_Path___floordiv__
  refine ws_seq (ws_if (wt_B (we_fld (we_var rfl ⟨T.c_Path, blD (DT.rooted b), T.y_Path.cl, T.n_Path_rooted, ⟨rfl, rfl⟩, _, rfl, fun q => ?_, fun q => ?_⟩))))
  · refine ws_ret (we_var rfl ?_)
    unfold joinP at h
    rw [if_pos q] at h
    exact h
  have la' : a.length ≤ sizeLine := by
    rw [sizeLine_eq]
    omega
  obtain ⟨c, hc, hc2⟩ := last_of (path_ne ha)
  refine ws_next (ws_seq (ws_asg (we_if (wt_test (we_op (we_op (we_fld (we_var rfl ⟨T.c_Path, strD a, T.y_Path.cl, T.n_Path_text, ⟨rfl, rfl⟩, we_un (we_c (wu_neg (wo_ixS la' hc (we_c ?_))))⟩))))))))
  refine wo_eqS rfl ⟨_, rfl, ?_⟩
  rw [bar_eq]
  have key : ∀ s : Str, s = sepOf a → WS K F B (tRet (tMake T.c_Path (spOf K (φ_Path___init__ T)) [] E0 (tCons (tOp (rAddA K) (tOp (rAddA K) (tFld K (tVar 0) "text") (tVar 2)) (tFld K (tVar 1) "text")) tNil))) [some (pathD T.c_Path a), some (pathD T.c_Path b), some (strD s)] m { nx := fun _ m' => nx (.s .non) m', rt := nx } := fun s hs => by
    have hl : s.length ≤ 1 := by
      rw [hs]
      unfold sepOf
      split <;> decide +kernel
    refine ws_ret (we_make (dds := []) okx0 RpL.nil (wa_cons (we_op (we_op (we_fld (we_var rfl ⟨T.c_Path, strD a, T.y_Path.cl, T.n_Path_text, ⟨rfl, rfl⟩, we_var rfl (wo_addS (by rw [sizeLine_eq]; omega) (we_fld (we_var rfl ⟨T.c_Path, strD b, T.y_Path.cl, T.n_Path_text, ⟨rfl, rfl⟩, wo_addS ?_ (wa_nil fun x hx => ⟨x, _, rfl, ?_, ?_, putM_same, rfl, pN, _, putM_same, ?_⟩)⟩)))⟩))))))
    · rw [Str.length_append, sizeLine_eq]
      omega
    · have e := join_path ha hb
      unfold joinP at e
      rw [if_neg (by rw [q]; exact Bool.false_ne_true), ← hs] at e
      exact e
    · rw [Str.length_append, Str.length_append]
      show _ ≤ 1000000
      omega
    · unfold joinP at h
      rw [if_neg (by rw [q]; exact Bool.false_ne_true), ← hs] at h
      rw [putM_put, dropM_put hx]
      exact h
  refine ⟨fun q2 => we_c ?_, fun q2 => we_c ?_⟩
  · refine key "" ?_
    unfold sepOf DT.tlLast
    rw [hc2, of_decide_eq_true q2, if_pos rfl]
  · refine key "/" ?_
    unfold sepOf DT.tlLast
    rw [hc2, if_neg (fun z => of_decide_eq_false q2 (Option.some.inj z))]
theorem steps_rd {K : PySem.W.Frag} {F B : Hp} {ρ : DD.Env} {m : Mem} {z : Str} {Q : QD} {te : TE} (hz : z.length ≤ sz) (ht : ∀ Q', Q' (strD z) m → WE K F B te ρ m Q') (h1 : 1 < ρ.length) (h : Q (strsD (DT.steps z)) m) :
    WE K F B (tLc (iAny K (tM1 rSplit te (tC (.str "/")))) (gName 1) (tTest (tOp (rNeA K) (tVar 1) (tC (.str "")))) (tVar 1) [1]) ρ m Q := by
  refine we_lcFilter (wi_any (we_m1 (ht _ ⟨⟨_, rfl⟩, we_c (wm_split bar1 (split_line hz) ⟨_, rfl, fun d => (match d with | .s (.str p) => !decide (p = "") | _ => false), id, ?_, fun F' d hd => ?_, ?_⟩)⟩)))
  · rw [List.length_map, DT.split_eq]
    exact pieces_line hz
  · rw [DT.split_eq] at hd
    obtain ⟨p, hp, rfl⟩ := List.mem_map.mp hd
    have hg : ((wipeD ρ [1]).set 1 (some (strD p)))[1]? = some (some (strD p)) := by
      rw [List.getElem?_set_self]
      show 1 < ((wipeD ρ []).set 1 none).length
      rw [List.length_set]
      exact h1
    refine wgw_name List.mem_cons_self ⟨rfl, ?_⟩
    refine wt_test (we_op (we_var hg (we_c (wo_neS rfl ⟨_, rfl, ?_, rfl, fun q => we_var hg ⟨rfl, rfl⟩⟩))))
    show (!decide (V.str p = V.str "")) = !decide (p = "")
    congr 1
    rw [Bool.eq_iff_iff]
    simp
  · rw [DT.split_eq, List.map_id]
    have e : ((DT.pieces z).map fun y => D.s (.str y)).filter (fun d => (match d with | .s (.str p) => !decide (p = "") | _ => false)) = (DT.steps z).map strD := by
      unfold DT.steps
      rw [List.filter_map]
      rfl
    rw [e]
    exact h
theorem rd_Path_steps {K : PySem.W.Frag} {mg : Str → Option Value} (T : Txt K mg) (E : XK) : BodyOk K (φ_Path_steps T) N_Path_steps E (t_Path_steps T E) := by
  intro ds m nx X F B h hE
  obtain ⟨z, rfl, hz, h⟩ := h
  rw [st_Path_steps]
  unfold t_Path_steps
  exact ws_ret (steps_rd hz (fun Q' q => we_fld (we_var rfl ⟨T.c_Path, strD z, T.y_Path.cl, T.n_Path_text, ⟨rfl, rfl⟩, q⟩)) (by show 1 < 2; decide) h)
theorem rd_Path_last {K : PySem.W.Frag} {mg : Str → Option Value} (T : Txt K mg) (E : XK) : BodyOk K (φ_Path_last T) N_Path_last E (t_Path_last T E) := by
  intro ds m nx X F B h hE
  obtain ⟨z, rfl, hp, hz, h⟩ := h
  rw [st_Path_last]
  unfold t_Path_last
  refine ws_seq (ws_asg (we_meth okx0 (we_var rfl ⟨⟨rfl, by decide +kernel⟩, wa_nil ⟨z, rfl, hz, ?_⟩⟩)))
  refine ws_ret (we_if (wt_test (we_op (we_var rfl (we_lst (wa_nil ⟨by decide, wo_neNilS (steps_ok' hp) ⟨_, rfl, fun q => ?_, fun q => ?_⟩⟩))))))
  · have hne : DT.steps z ≠ [] := by simpa using q
    obtain ⟨p, hp2⟩ : ∃ p, (DT.steps z).getLast? = some p := by
      cases e : (DT.steps z).getLast? with
      | none => exact absurd (List.getLast?_eq_none_iff.mp e) hne
      | some p => exact ⟨p, rfl⟩
    refine we_op (we_var rfl (we_un (we_c (wu_neg (wo_ixL (d := strD p) (atI_last ?_) ?_)))))
    · rw [List.getLast?_map, hp2]
      rfl
    · unfold lastD at h
      rw [hp2] at h
      exact h
  · have hne : DT.steps z = [] := by simpa using q
    refine we_c ?_
    unfold lastD at h
    rw [hne] at h
    exact h
theorem begin_len {z : Str} (h : z.length ≤ sz) : (DT.begin z).length ≤ sz := by
  unfold DT.begin
  split
  · exact h
  · split
    · split <;> decide +kernel
    · rename_i h1 h2
      rcases DT.steps_cut z with z1 | ⟨qs, p, k, q1, q2, q3, q4, q5⟩
      · exact absurd z1 h1
      · have e := DT.head_eq q1 q3
        rw [← e]
        refine Nat.le_trans (PyProof.Rows.len_rstripChars _ _) ?_
        have e1 : TL.tl (Txt.rstripChars z "/") = DT.jn (qs ++ [p]) := by rw [DT.tl_strip, ← DT.jn_dropE, q3]
        have l1 := DT.rst_len (TL.tl z)
        rw [← DT.tl_strip] at l1
        have l2 : (Txt.removesuffix (Txt.rstripChars z "/") (DT.mk p)).length ≤ (Txt.rstripChars z "/").length := by
          rw [DT.jn_snoc] at e1
          by_cases h0 : qs = []
          · rw [if_pos h0] at e1
            rw [TL.len_tl, DT.tl_rmsuf (a := []) (y := DT.mk p) e1 q1]
            exact Nat.zero_le _
          · rw [if_neg h0] at e1
            have e2 : DT.jn qs ++ 47 :: p = (DT.jn qs ++ [47]) ++ TL.tl (DT.mk p) := by
              show _ = (DT.jn qs ++ [47]) ++ p
              simp
            rw [e2] at e1
            rw [TL.len_tl, DT.tl_rmsuf e1 q1, TL.len_tl (Txt.rstripChars z "/"), e1, List.length_append (as := DT.jn qs ++ [47])]
            omega
        rw [TL.len_tl z] at h
        rw [TL.len_tl (Txt.rstripChars z "/")] at l2
        exact Nat.le_trans l2 (Nat.le_trans l1 h)
theorem rd_Path_begin {K : PySem.W.Frag} {mg : Str → Option Value} (T : Txt K mg) (E : XK) : BodyOk K (φ_Path_begin T) N_Path_begin E (t_Path_begin T E) := by
  intro ds m nx X F B h hE
  obtain ⟨z, rfl, hp, hz, h⟩ := h
  rw [st_Path_begin]
  unfold t_Path_begin
  have hsl : (DT.steps z).length ≤ 1000001 := by
    unfold DT.steps
    have h1 := List.length_filter_le (fun p : Str => !decide (p = "")) (DT.pieces z)
    have h2 := pieces_len z
    have h3 : z.length ≤ 1000000 := hz
    omega
  refine ws_seq (ws_if (wt_test (we_op (we_cb (wa_cons (we_var rfl (wa_nil (wc_lenO okx0 rfl ⟨z, rfl, hz, ⟨_, rfl, Int.natCast_nonneg _, by omega, we_c (wo_eqS rfl ⟨_, rfl, fun q => ?_, fun q => ?_⟩)⟩⟩))))))))
  · refine ws_ret (we_var rfl ?_)
    have e : DT.steps z = [] := by
      have := of_decide_eq_true q
      exact List.eq_nil_of_length_eq_zero (by simpa using this)
    unfold DT.begin at h
    rw [if_pos e] at h
    exact h
  · have hne : DT.steps z ≠ [] := fun e => by
      rw [e] at q
      exact of_decide_eq_false q rfl
    rcases DT.steps_cut z with z1 | ⟨qs, p, k, q1, q2, q3, q4, q5⟩
    · exact absurd z1 hne
    have hhead := DT.head_eq q1 q3
    have hlast : lastD z = strD (DT.mk p) := by
      unfold lastD
      rw [q4]
    have hbl := begin_len hz
    have hbp := DT.begin_path hp
    refine ws_next (ws_seq (ws_asg (we_m1 (we_m1 (we_m1 (we_fld (we_var rfl ⟨T.c_Path, strD z, T.y_Path.cl, T.n_Path_text, ⟨rfl, rfl⟩, ⟨_, rfl⟩, we_c (wm_txt (le_line hz) ⟨⟨_, rfl⟩, we_meth okx0 (we_var rfl ⟨⟨rfl, by decide +kernel⟩, wa_nil ⟨z, rfl, hp, hz, ?_⟩⟩)⟩)⟩)))))))
    rw [hlast]
    have l1 : (Txt.rstripChars z "/").length ≤ sz := Nat.le_trans (PyProof.Rows.len_rstripChars _ _) hz
    have l2 : (Txt.removesuffix (Txt.rstripChars z "/") (DT.mk p)).length ≤ sz := by
      have e1 : TL.tl (Txt.rstripChars z "/") = DT.jn (qs ++ [p]) := by rw [DT.tl_strip, ← DT.jn_dropE, q3]
      rw [DT.jn_snoc] at e1
      by_cases h0 : qs = []
      · rw [if_pos h0] at e1
        rw [TL.len_tl, DT.tl_rmsuf (a := []) (y := DT.mk p) e1 q1]
        exact Nat.zero_le _
      · rw [if_neg h0] at e1
        have e2 : DT.jn qs ++ 47 :: p = (DT.jn qs ++ [47]) ++ TL.tl (DT.mk p) := by
          show _ = (DT.jn qs ++ [47]) ++ p
          simp
        rw [e2] at e1
        rw [TL.len_tl, DT.tl_rmsuf e1 q1]
        rw [TL.len_tl, e1, List.length_append] at l1
        omega
    refine wm_txt (le_line l1) ⟨⟨_, rfl⟩, we_c (wm_txt (le_line l2) ?_)⟩
    rw [hhead]
    have hbe : DT.begin z = if DT.beginL (TL.tl z) = [] then (if DT.rooted z = true then ("/" : Str) else (".": Str)) else DT.mk (DT.beginL (TL.tl z)) := by
      unfold DT.begin
      rw [if_neg hne]
    refine ws_seq (ws_if (wt_test (we_op (we_var rfl (we_c (wo_neS rfl ⟨_, rfl, fun q => ?_, fun q => ?_⟩))))))
    · have hx : DT.beginL (TL.tl z) ≠ [] := fun e => by
        rw [e] at q
        rw [DT.mk_nil] at q
        simp at q
      rw [if_neg hx] at hbe
      rw [hbe] at h hbl hbp
      exact ws_ret (make_path T (we_var rfl ⟨_, rfl, hbp, hbl, h⟩))
    · have hx : DT.beginL (TL.tl z) = [] := by
        have : DT.mk (DT.beginL (TL.tl z)) = "" := by simpa using q
        exact DT.mk_eq_nil.mp this
      rw [if_pos hx] at hbe
      refine ws_next (ws_ret (make_path T (we_if (wt_B (we_fld (we_var rfl ⟨T.c_Path, blD (DT.rooted z), T.y_Path.cl, T.n_Path_rooted, ⟨rfl, rfl⟩, _, rfl, fun q => ?_, fun q => ?_⟩))))))
      · rw [if_pos q] at hbe
        rw [hbe] at h hbl hbp
        exact we_c ⟨_, rfl, hbp, hbl, h⟩
      · rw [if_neg (by rw [q]; exact Bool.false_ne_true)] at hbe
        rw [hbe] at h hbl hbp
        exact we_c ⟨_, rfl, hbp, hbl, h⟩
theorem rd__law_draw {K : PySem.W.Frag} {mg : Str → Option Value} (T : Txt K mg) (E : XK) : BodyOk K (φ__law_draw T) N__law_draw E (t__law_draw T E) := by
  intro ds m nx X F B h hE
  obtain ⟨p, n, rfl, ⟨c, hp, hc, hpc⟩, n0, n1, hm, h⟩ := h
  rw [st__law_draw]
  unfold t__law_draw
  refine ws_open hp hc hpc fun s1 s2 s3 ns hst hl => ?_
  obtain ⟨a1, ⟨a2, a3⟩, a4, a5⟩ := hst
  refine ws_seq (ws_setO (we_op (we_op (we_var rfl (we_c (wo_ixO (d := .s (.int s2)) opened_p rfl (we_c (wo_addI (we_var rfl (we_c ⟨p, _, 2, 2, rfl, rfl, opened_p, rfl, ?_⟩))))))))))
  show WS K F B _ _ ⟨m.cnt, putM (opened m.own p c s1 s2 s3 ns) p (.lst [.s (.ref c), .s (.int s1), .s (.int (s2 + 1)), .s (.int s3)])⟩ _
  rw [put4]
  have b2 : 0 ≤ s2 + 1 ∧ s2 + 1 ≤ ((m.cnt + 1 : Nat) : Int) := by omega
  generalize s2 + 1 = s2 at b2 ⊢
  refine ws_seqI (fun ρ1 m1 => ∃ s1 s3 ns x, ρ1 = [some (.s (.ref p)), some (intD n), x, none, none] ∧ m1 = ⟨m.cnt, opened m.own p c s1 s2 s3 ns⟩ ∧ 0 ≤ s1 ∧ (0 ≤ s3 ∧ s3 < 2147483647) ∧ ns.length ≤ 63) ?_ ?_
  · refine ws_if (wt_and (wt_test (we_op (we_op (we_var rfl (we_c (wo_ixO (d := .s (.int s1)) opened_p rfl (we_c (wo_eqS rfl ⟨_, rfl, fun q => ?_, fun q => ?_⟩)))))))))
    · refine wt_test (we_op (we_op (we_var rfl (we_c (wo_ixO (d := .s (.ref c)) opened_p rfl (we_lst (wa_nil ⟨by decide, wo_neNilO (opened_c hpc) ⟨_, rfl, fun q2 => ?_, fun q2 => ?_⟩⟩)))))))
      · cases ns with
        | nil => cases q2
        | cons z zs =>
          refine ws_seq (ws_asg (we_pop0 (we_op (we_var rfl (we_c (wo_ixO (d := .s (.ref c)) opened_p rfl ⟨c, rfl, ⟨_, opened_c hpc⟩, we_c ⟨rfl, .s (.int z), _, opened_c hpc, ?_⟩⟩))))))
          show WS K F B _ _ ⟨m.cnt, putM (opened m.own p c s1 s2 s3 (z :: zs)) c (.lst ((zs.map V.int).map D.s))⟩ _
          rw [putc hpc]
          have hzl : zs.length ≤ 63 := by
            simp only [List.length_cons] at hl
            omega
          refine ws_seq (ws_setO (we_op (we_cb (wa_cons (we_op (we_op (we_op (we_op (we_var rfl (we_c (wo_ixO (d := .s (.int s3)) opened_p rfl (we_c (wo_mulI (.inr ⟨by decide, by decide⟩) (we_var rfl (wo_addI (we_c (wo_addI (wa_nil (wc_int (we_c (wo_I (by decide) (we_var rfl (we_c ⟨p, _, 3, 3, rfl, rfl, opened_p, rfl, ?_⟩)))))))))))))))))))))))
          show WS K F B _ _ ⟨m.cnt, putM (opened m.own p c s1 s2 s3 zs) p (.lst [.s (.ref c), .s (.int s1), .s (.int s2), .s (.int ((s3 * 8191 + z + 3) % 2147483647))])⟩ _
          rw [put4]
          have b3 : 0 ≤ (s3 * 8191 + z + 3) % 2147483647 ∧ (s3 * 8191 + z + 3) % 2147483647 < 2147483647 := ⟨Int.emod_nonneg _ (by decide), Int.emod_lt_of_pos _ (by decide)⟩
          generalize (s3 * 8191 + z + 3) % 2147483647 = s3' at b3 ⊢
          refine ws_setO (we_if (wt_test (we_op (we_var rfl (we_op (we_c (we_c (wo_I ⟨by decide, by decide, by decide⟩ (wo_I0 ⟨_, rfl, fun q3 => ?_, fun q3 => ?_⟩)))))))))
          · refine we_var rfl (we_var rfl (we_c ⟨p, _, 1, 1, rfl, rfl, opened_p, rfl, z, s3', zs, _, rfl, ?_, ?_, b3, hzl⟩))
            · show (⟨m.cnt, putM (opened m.own p c s1 s2 s3' zs) p (.lst [.s (.ref c), .s (.int z), .s (.int s2), .s (.int s3')])⟩ : Mem) = _
              rw [put4]
            · have e : ((10 : Int) ^ (18 : Int).toNat) ≤ z := of_decide_eq_true q3
              have e2 : ((10 : Int) ^ (18 : Int).toNat) = 1000000000000000000 := by decide
              omega
          · refine we_c (we_var rfl (we_c ⟨p, _, 1, 1, rfl, rfl, opened_p, rfl, 0, s3', zs, _, rfl, ?_, Int.le_refl _, b3, hzl⟩))
            show (⟨m.cnt, putM (opened m.own p c s1 s2 s3' zs) p (.lst [.s (.ref c), .s (.int 0), .s (.int s2), .s (.int s3')])⟩ : Mem) = _
            rw [put4]
      · exact ws_next ⟨s1, s3, ns, _, rfl, rfl, a1, ⟨a4, a5⟩, hl⟩
    · exact ⟨(fun z => nomatch z), fun _ => ws_next ⟨s1, s3, ns, _, rfl, rfl, a1, ⟨a4, a5⟩, hl⟩⟩
  · rintro ρ1 m1 ⟨s1, s3, ns, x, rfl, rfl, a1, ⟨a4, a5⟩, hl⟩
    have close : ∀ {te : TE} {ρ : DD.Env} {s1' : Int}, 0 ≤ s1' → WE K F B te ρ ⟨m.cnt, opened m.own p c s1' s2 s3 ns⟩ (fun d m' => ∃ r, d = intD r ∧ 0 ≤ r ∧ r < n ∧ m' = ⟨m.cnt, opened m.own p c s1' s2 s3 ns⟩) → WE K F B te ρ ⟨m.cnt, opened m.own p c s1' s2 s3 ns⟩ nx := fun {te ρ s1'} h1 hw => we_conv hw fun d m' ⟨r, e, r0, r1, em⟩ => by
      subst e em
      exact ⟨more m 1, Conv.close hp hc hpc (Nat.le_succ _) ⟨h1, b2, a4, a5⟩ hl, h r r0 r1⟩
    have hmod : ∀ x : Int, 0 ≤ x % n ∧ x % n < n := fun x => ⟨Int.emod_nonneg _ (by omega), Int.emod_lt_of_pos _ n0⟩
    refine ws_seq (ws_if (wt_test (we_op (we_op (we_var rfl (we_c (wo_ixO (d := .s (.int s1)) opened_p rfl (we_c (wo_I0 ⟨_, rfl, fun q => ?_, fun q => ?_⟩)))))))))
    · refine ws_seq (ws_asg (we_op (we_cb (wa_cons (we_op (we_var rfl (we_c (wo_ixO (d := .s (.int s1)) opened_p rfl (wa_nil (wc_int (we_var rfl (wo_I n0 ?_))))))))))))
      refine ws_seq (ws_setO (we_op (we_op (we_var rfl (we_c (wo_ixO (d := .s (.int s1)) opened_p rfl (we_var rfl (wo_I ⟨n0, n1⟩ (we_var rfl (we_c ⟨p, _, 1, 1, rfl, rfl, opened_p, rfl, ?_⟩))))))))))
      show WS K F B _ _ ⟨m.cnt, putM (opened m.own p c s1 s2 s3 ns) p (.lst [.s (.ref c), .s (.int (s1 / n)), .s (.int s2), .s (.int s3)])⟩ _
      rw [put4]
      refine ws_ret (close (Int.ediv_nonneg a1 (by omega)) (we_var rfl ⟨_, rfl, (hmod s1).1, (hmod s1).2, rfl⟩))
    · refine ws_next (ws_seq (ws_asg (we_op (we_cb (wa_cons (we_op (we_op (we_op (we_op (we_var rfl (we_c (wo_ixO (d := .s (.int s3)) opened_p rfl (we_op (we_c (we_op (we_var rfl (we_c (wo_ixO (d := .s (.int s2)) opened_p rfl (wo_mulI (.inl ⟨by decide, by decide⟩) (wo_addI (we_c (wo_addI (we_c (wo_I ⟨by decide, by decide, ?_⟩ (wa_nil (wc_int (we_c (wo_I (by decide) ?_))))))))))))))))))))))))))))
      · omega
      have b6 := (⟨Int.emod_nonneg _ (by decide), Int.emod_lt_of_pos _ (by decide)⟩ : 0 ≤ ((s3 + 7919 * s2 + 104729) ^ (5 : Int).toNat) % 2147483629 ∧ ((s3 + 7919 * s2 + 104729) ^ (5 : Int).toNat) % 2147483629 < 2147483629)
      show WS K F B _ [_, _, _, _, some (D.s (V.int (((s3 + 7919 * s2 + 104729) ^ (5 : Int).toNat) % 2147483629)))] _ _
      generalize ((s3 + 7919 * s2 + 104729) ^ (5 : Int).toNat) % 2147483629 = s6 at b6 ⊢
      refine ws_ret (close a1 (we_op (we_op (we_cb (wa_cons (we_op (we_op (we_op (we_op (we_var rfl (we_c (wo_mulI (.inr ⟨by decide, by decide⟩) (we_op (we_c (we_op (we_var rfl (we_c (wo_ixO (d := .s (.int s2)) opened_p rfl (wo_mulI (.inl ⟨by decide, by decide⟩) (wo_addI (we_c (wo_addI (we_c (wo_I ⟨by decide, by decide, ?_⟩ (wa_nil (wc_int (we_c (wo_I (by decide) (we_var rfl (wo_I n0 ⟨_, rfl, (hmod _).1, (hmod _).2, rfl⟩))))))))))))))))))))))))))))))
      omega
theorem rd__law_pick {K : PySem.W.Frag} {mg : Str → Option Value} (T : Txt K mg) (E : XK) : BodyOk K (φ__law_pick T) N__law_pick E (t__law_pick T E) := by
  intro ds m nx X F B h hE
  obtain ⟨p, x, xs, rfl, hS, hm, hx, hne, hl, h⟩ := h
  rw [st__law_pick]
  unfold t__law_pick
  have hl' : xs.length ≤ 1000000 := hl
  have hpos : 0 < xs.length := List.length_pos_iff.mpr hne
  refine ws_ret (we_op (we_var rfl (we_call okx0 (wa_cons (we_var rfl (wa_cons (we_cb (wa_cons (we_var rfl (wa_nil (wc_len (lenD_seq hx hl) (wa_nil ⟨p, _, rfl, hS, by omega, by omega, hm, fun r r0 r1 => ?_⟩))))))))))))
  obtain ⟨d, hd, hd2⟩ := atI_int r0 r1
  exact wo_ixSeq hx hl hd (h d hd2)
theorem rd__law_same {K : PySem.W.Frag} {mg : Str → Option Value} (T : Txt K mg) (E : XK) (n : Nat) (φ : Phi) (hφ : ∀ x ds m nx X, (∃ j, n = j + 1 ∧ SmOk K T.c_Path j x) → ds = [x, x] → nx (blD true) m → φ ds m nx X) : BodyOk K (φ__law_same T n) N__law_same E (t__law_same T φ E) := by
  intro ds m nx X F B h hE
  obtain ⟨x, rfl, hx, h⟩ := h
  rw [st__law_same]
  have seqs : ∀ (xs : List D) (hx1 : xs.length ≤ 1000000) (j : Nat), n = j + 1 → (∀ y ∈ xs, SmOk K T.c_Path j y) → ∀ (x : D), lenD m x xs.length → (x = .lst xs ∨ x = .tup xs) → WE K F B (tAndV (tOp (rEqA K) (tCB (rLenA K) (tCons (tVar 0) tNil)) (tCB (rLenA K) (tCons (tVar 1) tNil))) (tCB (rAll K) (tCons (tLc (RZ.iZipA K (tCons (tVar 0) (tCons (tVar 1) tNil))) (gTup K 2 (gCons (gName 2) (gCons (gName 3) gNil))) tYes (tCall (spOf K φ) [] E0 (tCons (tVar 2) (tCons (tVar 3) tNil))) [2, 3]) tNil))) [some x, some x, none, none] m nx := fun xs hx1 j hj hy x hlen hxx => by
    refine we_andV (we_op (we_cb (wa_cons (we_var rfl (wa_nil (wc_len hlen (we_cb (wa_cons (we_var rfl (wa_nil (wc_len hlen (wo_eqS rfl ⟨true, by rw [decide_eq_true rfl], fun _ => ?_, fun q => nomatch q⟩))))))))))))
    have hzl : (xs.zip xs).length ≤ sizeLine := by
      rw [List.length_zip]
      have := le_line hx1
      omega
    refine we_cb (wa_cons (we_lcMap (wi_zipL (wa_cons (we_var rfl (wa_cons (we_var rfl (wa_nil ⟨xs, xs, by rcases hxx with rfl | rfl; exact .inl rfl; exact .inr rfl, fun _ => blD true, by rw [List.length_map]; exact hzl, fun F' d hd => ?_, ?_⟩))))))))
    · obtain ⟨pr, hpr, rfl⟩ := List.mem_map.mp hd
      obtain ⟨e1, e2⟩ := zip_self hpr
      refine wgw_pair (by decide) (by decide) ⟨rfl, ?_⟩
      refine we_call okx0 (wa_cons (we_var rfl (wa_cons (we_var rfl (wa_nil (hφ pr.1 _ _ _ X0 ⟨j, hj, hy _ e2⟩ ?_ ⟨rfl, rfl⟩))))))
      rw [← e1]
    · refine wa_nil ?_
      have e : ((xs.zip xs).map fun p => D.tup [p.1, p.2]).map (fun _ => blD true) = ((xs.zip xs).map fun _ => true).map fun b => .s (.bl b) := by
        rw [List.map_map, List.map_map]
        rfl
      rw [e]
      refine wc_all ?_
      have e2 : ((xs.zip xs).map fun _ => true).all id = true := by
        rw [List.all_map, List.all_eq_true]
        intro _ _
        rfl
      rw [e2]
      exact h
  have fin : ∀ (t : Value) (v : D), TyD K m v t → PySem.W.kitAny K t (["list", "tuple"].map Value.type) = some false → PySem.W.kitOne K t (.type "int") = some false → PySem.W.kitAny K t (["int", "list", "tuple"].map Value.type) = some false →
      (∀ Q : QD, Q (blD true) m → WO K F B (fun x y H Q => rEqA K x y H Q ∨ HDp.rEqW K x y H Q ∨ (HO1.rCmpO K T.c_Path (spOf K (φ_Path___eq__ T)) E0) x y H Q) v v m Q) → nx (blD true) m →
      WS K F B (t__law_same T φ E) [some v, some v, none, none] m { nx := fun _ m' => nx (.s .non) m', rt := nx } := fun t v ht k1 k2 k3 hs h => by
    unfold t__law_same
    refine ws_seq (ws_if (wt_B (we_cb (wa_cons (we_var rfl (wa_cons (we_tup (wa_cons (we_c (wa_cons (we_c (wa_nil ⟨by decide, wa_nil ?_⟩))))))))))))
    refine wc_isiT (us := ["list", "tuple"].map Value.type) ht rfl k1 ⟨false, rfl, (fun q => nomatch q), fun _ => ?_⟩
    refine ws_next (ws_seq (ws_if (wt_B (we_cb (wa_cons (we_var rfl (wa_cons (we_c (wa_nil ?_)))))))))
    refine wc_isi ht rfl k2 ⟨false, rfl, (fun q => nomatch q), fun _ => ?_⟩
    refine ws_next (ws_ret (we_andV (we_op (we_cb (wa_cons (we_var rfl (wa_cons (we_tup (wa_cons (we_c (wa_cons (we_c (wa_cons (we_c (wa_nil ⟨by decide, wa_nil ?_⟩)))))))))))))))
    refine wc_isiT (us := ["int", "list", "tuple"].map Value.type) ht rfl k3 (we_c (wo_isB ⟨true, rfl, fun _ => ?_, fun q => nomatch q⟩))
    exact we_op (we_var rfl (we_var rfl (hs _ h)))
  have fins : ∀ (t : String) (v : V), TyD K m (.s v) (.type t) → kitAnyB t ["list", "tuple"] = some false → kitB t "int" = some false → kitAnyB t ["int", "list", "tuple"] = some false → scal v v = true → nx (blD true) m →
      WS K F B (t__law_same T φ E) [some (.s v), some (.s v), none, none] m { nx := fun _ m' => nx (.s .non) m', rt := nx } := fun t v ht k1 k2 k3 hs h =>
    fin (.type t) (.s v) ht (kit_any k1) (kit_ty k2) (kit_any k3) (fun Q q => fun Hb H vx vy R hB r hx hy k => .inl (wo_eqS hs (by rw [decide_eq_true rfl]; exact q) Hb H vx vy R hB r hx hy k)) h
  have num : ∀ (t : String) (v : V) (bb : Bool), TyD K m (.s v) (.type t) → kitAnyB t ["list", "tuple"] = some false → kitB t "int" = some true → kitB t "bool" = some bb → scal v v = true → nx (blD true) m →
      WS K F B (t__law_same T φ E) [some (.s v), some (.s v), none, none] m { nx := fun _ m' => nx (.s .non) m', rt := nx } := fun t v bb ht k1 k2 k3 hs h => by
    unfold t__law_same
    refine ws_seq (ws_if (wt_B (we_cb (wa_cons (we_var rfl (wa_cons (we_tup (wa_cons (we_c (wa_cons (we_c (wa_nil ⟨by decide, wa_nil ?_⟩))))))))))))
    refine wc_isiT (us := ["list", "tuple"].map Value.type) ht rfl (kit_any k1) ⟨false, rfl, (fun q => nomatch q), fun _ => ?_⟩
    refine ws_next (ws_seq (ws_if (wt_B (we_cb (wa_cons (we_var rfl (wa_cons (we_c (wa_nil ?_)))))))))
    refine wc_isi ht rfl (kit_ty k2) ⟨true, rfl, (fun _ => ?_), fun q => nomatch q⟩
    refine ws_ret (we_andV (we_cb (wa_cons (we_var rfl (wa_cons (we_c (wa_nil ?_)))))))
    refine wc_isi ht rfl (kit_ty k2) ⟨true, rfl, (fun _ => ?_), fun q => nomatch q⟩
    refine we_andV (we_op (we_cb (wa_cons (we_var rfl (wa_cons (we_c (wa_nil ?_)))))))
    refine wc_isi ht rfl (kit_ty k3) (we_cb (wa_cons (we_var rfl (wa_cons (we_c (wa_nil ?_))))))
    refine wc_isi ht rfl (kit_ty k3) (wo_eqS rfl ⟨true, by rw [decide_eq_true rfl], fun _ => ?_, fun q => nomatch q⟩)
    refine we_op (we_var rfl (we_var rfl fun Hb H vx vy R hB r hx hy k => .inl (wo_eqS hs ?_ Hb H vx vy R hB r hx hy k)))
    rw [decide_eq_true rfl]
    exact h
  cases n with
  | zero => exact (show False from hx).elim
  | succ j =>
    rcases hx with rfl | ⟨b, rfl⟩ | ⟨i, rfl⟩ | ⟨z, rfl⟩ | ⟨a, rfl⟩ | ⟨xs, rfl, hl, hy⟩ | ⟨s, y, k, rfl, hk, hy⟩
    · exact fins "NoneType" .non .non (by decide +kernel) (by decide +kernel) (by decide +kernel) rfl h
    · exact num "bool" (.bl b) true (.bl b) (by decide +kernel) (by decide +kernel) (by decide +kernel) rfl h
    · exact num "int" (.int i) false (.int i) (by decide +kernel) (by decide +kernel) (by decide +kernel) rfl h
    · exact fins "str" (.str z) (.str z) (by decide +kernel) (by decide +kernel) (by decide +kernel) rfl h
    · have k2 : PySem.W.kitAny K (.ref T.c_Path) (["list", "tuple"].map Value.type) = some false := by
        show PySem.W.kitAny K _ [.type "list", .type "tuple"] = some false
        unfold PySem.W.kitAny
        rw [T.kt_Path_list]
        unfold PySem.W.kitAny
        rw [T.kt_Path_tuple]
        rfl
      have k3 : PySem.W.kitAny K (.ref T.c_Path) (["int", "list", "tuple"].map Value.type) = some false := by
        show PySem.W.kitAny K _ [.type "int", .type "list", .type "tuple"] = some false
        unfold PySem.W.kitAny
        rw [T.kt_Path_int]
        exact k2
      refine fin (.ref T.c_Path) _ (ty_pin T.y_Path) k2 T.kt_Path_int k3 (fun Q q => fun Hb H vx vy R hB r hx hy k => .inr (.inr (wo_less (m := m) (F := F) (B := B) (Q := Q) less_pin less_pin (wo_cmpO (x := pathD T.c_Path "a/..") (y := pathD T.c_Path "a/..") (t := .ref T.c_Path) okx0 rfl (.ins T.y_Path _ _) (by unfold PySem.W.notFirst; simp) ⟨_, _, rfl, ?_⟩) Hb H vx vy R hB r hx hy k))) h
      rw [decide_eq_true rfl]
      exact q
    · unfold t__law_same
      refine ws_seq (ws_if (wt_B (we_cb (wa_cons (we_var rfl (wa_cons (we_tup (wa_cons (we_c (wa_cons (we_c (wa_nil ⟨by decide, wa_nil ?_⟩))))))))))))
      refine wc_isiT (us := ["list", "tuple"].map Value.type) (.tup xs) rfl (kit_any (by decide +kernel)) ⟨true, rfl, (fun _ => ?_), fun q => nomatch q⟩
      refine ws_seq (ws_if (wt_or (wt_test (we_op (we_cb (wa_cons (we_var rfl (wa_cons (we_c (wa_nil ?_))))))))))
      refine wc_isi (b := false) (.tup xs) rfl (kit_ty (by decide +kernel)) (we_cb (wa_cons (we_var rfl (wa_cons (we_c (wa_nil ?_))))))
      refine wc_isi (b := false) (.tup xs) rfl (kit_ty (by decide +kernel)) (wo_neS rfl ⟨false, rfl, fun _ => ?_, fun q => nomatch q⟩)
      refine wt_test (we_op (we_cb (wa_cons (we_var rfl (wa_cons (we_c (wa_nil ?_)))))))
      refine wc_isi (b := true) (.tup xs) rfl (kit_ty (by decide +kernel)) (we_cb (wa_cons (we_var rfl (wa_cons (we_c (wa_nil ?_))))))
      refine wc_isi (b := true) (.tup xs) rfl (kit_ty (by decide +kernel)) (wo_neS rfl ⟨false, rfl, (fun q => nomatch q), fun _ => ?_⟩)
      exact ws_next (ws_ret (seqs xs (by omega) j rfl hy _ rfl (.inr rfl)))
    · exact fin (.type "dict") _ (.dic _ _) (kit_any (by decide +kernel)) (kit_ty (by decide +kernel)) (kit_any (by decide +kernel)) (fun Q q => fun Hb H vx vy R hB r h1 h2 kk => .inr (.inl (wo_eqW1 hk hy q Hb H vx vy R hB r h1 h2 kk))) h
theorem rd__law_frozen {K : PySem.W.Frag} {mg : Str → Option Value} (T : Txt K mg) (E : XK) (n : Nat) (φ : Phi) (hφ : ∀ j x ds m nx X, n = j + 1 → FrOk K T.c_Path j x → ds = [x] → nx (frz j x) m → φ ds m nx X) : BodyOk K (φ__law_frozen T n) N__law_frozen E (t__law_frozen T φ E) := by
  intro ds m nx X F B h hE
  obtain ⟨x, rfl, hx, h⟩ := h
  rw [st__law_frozen]
  have fin : ∀ (t : Value) (v : D), TyD K m v t → PySem.W.kitOne K t (.type "dict") = some false → PySem.W.kitAny K t (["list", "tuple"].map Value.type) = some false → nx v m →
      WS K F B (t__law_frozen T φ E) [some v, none, none] m { nx := fun _ m' => nx (.s .non) m', rt := nx } := fun t v ht k1 k2 h => by
    unfold t__law_frozen
    refine ws_seq (ws_if (wt_B (we_cb (wa_cons (we_var rfl (wa_cons (we_c (wa_nil (wc_isi ht rfl k1 ⟨false, rfl, (fun q => nomatch q), fun _ => ?_⟩)))))))))
    refine ws_next (ws_ret (we_if (wt_B (we_cb (wa_cons (we_var rfl (wa_cons (we_tup (wa_cons (we_c (wa_cons (we_c (wa_nil ⟨by decide, wa_nil ?_⟩)))))))))))))
    exact wc_isiT (us := ["list", "tuple"].map Value.type) ht rfl k2 ⟨false, rfl, (fun q => nomatch q), fun _ => we_var rfl h⟩
  have scl : ∀ (t : String) (v : V), TyD K m (.s v) (.type t) → kitB t "dict" = some false → kitAnyB t ["list", "tuple"] = some false → nx (.s v) m →
      WS K F B (t__law_frozen T φ E) [some (.s v), none, none] m { nx := fun _ m' => nx (.s .non) m', rt := nx } := fun t v ht k1 k2 h => fin (.type t) (.s v) ht (kit_ty k1) (kit_any k2) h
  have seqs : ∀ (t : String) (x : D) (xs : List D) (j : Nat), n = j + 1 → (x = .lst xs ∨ x = .tup xs) → xs.length ≤ 1000000 → (∀ y ∈ xs, FrOk K T.c_Path j y) → TyD K m x (.type t) → kitB t "dict" = some false → kitAnyB t ["list", "tuple"] = some true → nx (.tup (xs.map (frz j))) m →
      WS K F B (t__law_frozen T φ E) [some x, none, none] m { nx := fun _ m' => nx (.s .non) m', rt := nx } := fun t x xs j hj hxx hl hy ht k1 k2 h => by
    unfold t__law_frozen
    refine ws_seq (ws_if (wt_B (we_cb (wa_cons (we_var rfl (wa_cons (we_c (wa_nil (wc_isi ht rfl (kit_ty k1) ⟨false, rfl, (fun q => nomatch q), fun _ => ?_⟩)))))))))
    refine ws_next (ws_ret (we_if (wt_B (we_cb (wa_cons (we_var rfl (wa_cons (we_tup (wa_cons (we_c (wa_cons (we_c (wa_nil ⟨by decide, wa_nil ?_⟩)))))))))))))
    refine wc_isiT (us := ["list", "tuple"].map Value.type) ht rfl (kit_any k2) ⟨true, rfl, (fun _ => ?_), fun q => nomatch q⟩
    refine we_cb (wa_cons (we_lcMap (wi_LT (we_var rfl ⟨xs, hxx, frz j, le_line hl, fun F' d hd => ?_, wa_nil (wc_tupL h)⟩))))
    exact wgw_name List.mem_cons_self ⟨rfl, we_call okx0 (wa_cons (we_var rfl (wa_nil (hφ j d _ _ _ X0 hj (hy d hd) rfl ⟨rfl, rfl⟩))))⟩
  cases n with
  | zero => exact (show False from hx).elim
  | succ j =>
    rcases hx with rfl | ⟨b, rfl⟩ | ⟨i, rfl⟩ | ⟨z, rfl⟩ | ⟨a, rfl⟩ | ⟨xs, hxx, hl, hy⟩ | ⟨s, y, rfl, hy⟩
    · exact scl "NoneType" .non .non (by decide +kernel) (by decide +kernel) h
    · exact scl "bool" (.bl b) (.bl b) (by decide +kernel) (by decide +kernel) h
    · exact scl "int" (.int i) (.int i) (by decide +kernel) (by decide +kernel) h
    · exact scl "str" (.str z) (.str z) (by decide +kernel) (by decide +kernel) h
    · refine fin (.ref T.c_Path) _ (ty_pin T.y_Path) T.kt_Path_dict ?_ h
      show PySem.W.kitAny K _ [.type "list", .type "tuple"] = some false
      unfold PySem.W.kitAny
      rw [T.kt_Path_list]
      unfold PySem.W.kitAny
      rw [T.kt_Path_tuple]
      rfl
    · rcases hxx with rfl | rfl
      · exact seqs "list" _ xs j rfl (.inl rfl) (by omega) hy (.lst xs) (by decide +kernel) (by decide +kernel) h
      · exact seqs "tuple" _ xs j rfl (.inr rfl) (by omega) hy (.tup xs) (by decide +kernel) (by decide +kernel) h
    · unfold t__law_frozen
      refine ws_seq (ws_if (wt_B (we_cb (wa_cons (we_var rfl (wa_cons (we_c (wa_nil (wc_isi (.dic _ _) rfl (kit_ty (by decide +kernel)) ⟨true, rfl, (fun _ => ?_), fun q => nomatch q⟩)))))))))
      refine ws_ret (we_dictPKF (wa_cons (we_lcMap (wi_kyN (we_var rfl ⟨[s], [y], rfl, fun d => .tup [d, frz j y], (by show 1 ≤ sizeLine; decide), fun F' d hd => ?_, wa_nil ⟨[s], [frz j y], rfl, List.nodup_cons.mpr ⟨(fun z => nomatch z), List.nodup_nil⟩, rfl, h⟩⟩)))))
      obtain rfl : d = strD s := by simpa using hd
      refine wgw_name List.mem_cons_self ⟨rfl, we_tup (wa_cons (we_var rfl (wa_cons (we_call okx0 (wa_cons (we_dgF (we_var rfl (we_var rfl ⟨[.inr s], [y], s, y, rfl, rfl, ?_, wa_nil (hφ j y _ _ _ X0 rfl hy rfl (wa_nil ⟨len2 _ _, rfl, rfl⟩))⟩))))))))⟩
      unfold lookK
      rw [if_pos rfl]
theorem rd__law_thing {K : PySem.W.Frag} {mg : Str → Option Value} (T : Txt K mg) (E : XK) (n : Nat) (φ : Phi) (hφ : ∀ k p ds m nx X, n = k + 1 → ds = [.s (.ref p), intD k] → Stream m p → m.cnt + thN k < 1000000000 → k ≤ 2 → (∀ d, FrOk K T.c_Path (2 * k + 2) d → nx d (more m (thN k))) → φ ds m nx X) : BodyOk K (φ__law_thing T n) N__law_thing E (t__law_thing T φ E) := by
  intro ds m nx X F B h hE
  obtain ⟨p, rfl, hS, hm, hn, h⟩ := h
  rw [st__law_thing]
  unfold t__law_thing
  have hth : 2 ≤ thN n := by
    cases n with
    | zero => exact Nat.le_refl _
    | succ k => unfold thN; omega
  have fin : ∀ {ρ : DD.Env} {m1 : Mem} {te : TE} {E2 : DE}, E2.rt = nx → WE K F B te ρ m1 (fun d m' => FrOk K T.c_Path (2 * n + 2) d ∧ ∃ k, k ≤ thN n ∧ m' = more m k) → WS K F B (tRet te) ρ m1 E2 := fun {ρ m1 te E2} he hw => by
    refine ws_ret ?_
    rw [he]
    refine we_conv hw fun d m' hq => ?_
    obtain ⟨hd, k, hk, em⟩ := hq
    subst em
    exact ⟨more m (thN n), Conv.count (m := more m k) (n := m.cnt + thN n) (Nat.add_le_add_left hk _), h d hd⟩
  have body : ∀ r : Int, 0 ≤ r → (n = 0 → r < 6) → WS K F B (tSeq (tIfS (tTest (tOp rLtI (tVar 2) (tC (.int 6)))) (tRet (tCall (spOf K (φ__law_pick T)) [] E0 (tCons (tVar 0) (tCons (tLst (tCons (tC .non) (tCons (tC (.bl true)) (tCons (tC (.bl false)) (tCons (tC (.int 0)) (tCons (tUn rNeg (tC (.int 7))) (tCons (tOp rPowI (tC (.int 10)) (tC (.int 20))) (tCons (tC (.str "")) (tCons (tC (.str "a/b")) (tCons (tTup (tCons (tC (.str "a")) tNil)) (tCons (tMake T.c_Path (spOf K (φ_Path___init__ T)) [] E0 (tCons (tC (.str "a/..")) tNil)) tNil))))))))))) tNil)))) tNext)
    (tSeq (tAsg (tLc (iRng1 (tCons (tCall (spOf K (φ__law_draw T)) [] E0 (tCons (tVar 0) (tCons (tC (.int 3)) tNil))) tNil)) (gName 4) tYes (tCall (spOf K φ) [] E0 (tCons (tVar 0) (tCons (tOp rSubI (tVar 1) (tC (.int 1))) tNil))) [4]) (gName 3))
    (tRet (tIf (tTest (tOp (rEqA K) (tVar 2) (tC (.int 6)))) (tVar 3) (HXv.tFrz (tDisp [((tC (.str "inner")), (tVar 3))])))))) [some (.s (.ref p)), some (intD n), some (intD r), none, none] (more m 1) { nx := fun _ m' => nx (.s .non) m', rt := nx } := fun r r0 r6 => by
    have hS1 : Stream (more m 1) p := hS
    refine ws_seq (ws_if (wt_test (we_op (we_var rfl (we_c (wo_I0 ⟨decide (r < 6), rfl, fun q => ?_, fun q => ?_⟩))))))
    · refine fin rfl ?_
      refine we_call okx0 (wa_cons (we_var rfl (wa_cons (we_lst ?_))))
      refine wa_cons (we_c (wa_cons (we_c (wa_cons (we_c (wa_cons (we_c ?_)))))))
      refine wa_cons (we_un (we_c (wu_neg ?_)))
      refine wa_cons (we_op (we_c (we_c (wo_I (C := CPow) (i := 10) (j := 20) ?_ ?_))))
      · show CPow 10 20
        unfold CPow
        decide
      refine wa_cons (we_c (wa_cons (we_c ?_)))
      refine wa_cons (we_tup (wa_cons (we_c (wa_nil ⟨(by show 1 ≤ sizeLine; decide), ?_⟩))))
      refine wa_cons (we_pinI (C := T.c_Path) (ns := pN) (ds := pV "a/..") (make_path T (we_c ⟨"a/..", rfl, by decide +kernel, by decide +kernel, rfl, fun a => ?_⟩)))
      refine wa_nil ⟨le_line (by show 10 ≤ 1000000; decide), wa_nil ⟨p, _, _, rfl, hS1, ?_, rfl, List.cons_ne_nil _ _, ?_, fun d hd => ?_⟩⟩
      · show m.cnt + 1 < _
        omega
      · show 10 ≤ 1000000
        decide
      refine ⟨?_, 2, hth, rfl⟩
      have h2 : FrOk K T.c_Path 2 d := by
        simp only [List.mem_cons, List.not_mem_nil, or_false] at hd
        rcases hd with rfl | rfl | rfl | rfl | rfl | rfl | rfl | rfl | rfl | rfl
        · exact .inl rfl
        · exact .inr (.inl ⟨_, rfl⟩)
        · exact .inr (.inl ⟨_, rfl⟩)
        · exact .inr (.inr (.inl ⟨_, rfl⟩))
        · exact .inr (.inr (.inl ⟨_, rfl⟩))
        · exact .inr (.inr (.inl ⟨_, rfl⟩))
        · exact .inr (.inr (.inr (.inl ⟨_, rfl⟩)))
        · exact .inr (.inr (.inr (.inl ⟨_, rfl⟩)))
        · refine .inr (.inr (.inr (.inr (.inr (.inl ⟨_, .inr rfl, (by show 1 ≤ 1000; decide), fun y hy => ?_⟩)))))
          obtain rfl : y = strD "a" := by simpa using hy
          exact .inr (.inr (.inr (.inl ⟨_, rfl⟩)))
        · exact .inr (.inr (.inr (.inr (.inl ⟨a, rfl⟩))))
      rw [show 2 * n + 2 = 2 + 2 * n by omega]
      exact FrOk_le h2 _
    · cases n with
      | zero => exact absurd (r6 rfl) (of_decide_eq_false q)
      | succ k =>
        have hthk : thN (k + 1) = 2 + 2 * thN k := rfl
        refine ws_next (ws_seq (ws_asg (we_lc (wi_rng1 (wa_cons (we_call okx0 (wa_cons (we_var rfl (wa_cons (we_c (wa_nil ⟨p, 3, rfl, hS1, by decide, by decide, (by show m.cnt + 1 < _; omega), fun j j0 j1 => wa_nil ⟨j, rfl, by omega, by omega, fun i acc m' => acc.length = i ∧ (∀ y ∈ acc, FrOk K T.c_Path (2 * k + 2) y) ∧ m' = more m (2 + i * thN k), ⟨rfl, (fun _ z => nomatch z), by rw [Nat.zero_mul]; rfl⟩, fun F' i d acc m' hd hI => ?_, fun acc m' hI => ?_⟩⟩)))))))))))
        · obtain ⟨e1, e2, rfl⟩ := hI
          have hi := (rngD_get hd).1
          have hi2 : i ≤ 1 := by omega
          have hit : i * thN k ≤ 1 * thN k := Nat.mul_le_mul_right _ hi2
          refine wgw_name List.mem_cons_self (wt_yes ⟨fun _ => ?_, fun z => nomatch z⟩)
          refine we_call okx0 (wa_cons (we_var rfl (wa_cons (we_op (we_var rfl (we_c (wo_I0 (wa_nil (hφ k p _ _ _ X0 rfl ?_ hS ?_ (by omega) fun d hd => ⟨?_, ?_, ?_, ?_⟩)))))))))
          · rw [show ((k + 1 : Nat) : Int) - 1 = k by omega]
          · show m.cnt + (2 + i * thN k) + thN k < _
            omega
          · rw [e1]
            exact Nat.lt_of_lt_of_le (by omega) (le_line (show 1000 ≤ 1000000 by decide))
          · rw [List.length_append, e1]
            rfl
          · intro y hy
            rcases List.mem_append.mp hy with z | z
            · exact e2 y z
            · obtain rfl := List.mem_singleton.mp z
              exact hd
          · rw [more_more]
            congr 1
            rw [Nat.succ_mul]
            omega
        · obtain ⟨e1, e2, rfl⟩ := hI
          rw [rngD_length] at e1
          have hl2 : acc.length ≤ 2 := by omega
          have hit : acc.length * thN k ≤ 2 * thN k := Nat.mul_le_mul_right _ hl2
          have hF : FrOk K T.c_Path (2 * k + 3) (.lst acc) := .inr (.inr (.inr (.inr (.inr (.inl ⟨acc, .inl rfl, by omega, e2⟩)))))
          refine fin rfl (we_if (wt_test (we_op (we_var rfl (we_c (wo_eqS rfl ⟨_, rfl, fun q => ?_, fun q => ?_⟩))))))
          · exact we_var rfl ⟨FrOk_up _ _ hF, _, by rw [hthk, rngD_length, ← e1]; omega, rfl⟩
          · exact we_disp1 rfl ⟨.inr (.inr (.inr (.inr (.inr (.inr ⟨_, _, rfl, hF⟩))))), _, by rw [hthk, rngD_length, ← e1]; omega, rfl⟩
  cases n with
  | zero =>
    refine ws_seq (ws_asg (we_call okx0 (wa_cons (we_var rfl (wa_cons (we_if (wt_test (we_op (we_var rfl (we_c (wo_I0 ⟨false, rfl, (fun q => nomatch q), fun _ => we_c (wa_nil ⟨p, 6, rfl, hS, by decide, by decide, (by omega), fun r r0 r1 => ?_⟩)⟩)))))))))))
    exact body r r0 fun _ => r1
  | succ k =>
    refine ws_seq (ws_asg (we_call okx0 (wa_cons (we_var rfl (wa_cons (we_if (wt_test (we_op (we_var rfl (we_c (wo_I0 ⟨true, congrArg _ (congrArg _ (decide_eq_true (by omega))), (fun _ => we_c (wa_nil ⟨p, 8, rfl, hS, by decide, by decide, (by omega), fun r r0 r1 => ?_⟩)), fun q => nomatch q⟩)))))))))))
    exact body r r0 fun z => nomatch z
theorem rd__law_by_place {K : PySem.W.Frag} {mg : Str → Option Value} (T : Txt K mg) (E : XK) : BodyOk K (φ__law_by_place T) N__law_by_place E (t__law_by_place T E) := by
  intro ds m nx X F B h hE
  obtain ⟨x, rfl, h⟩ := h
  rw [st__law_by_place]
  unfold t__law_by_place
  refine ws_seq (ws_asg (we_lst (wa_cons (we_mkV (wa_cons (we_var rfl (wa_nil ⟨_, rfl, wa_cons (we_mkV (wa_cons (we_var rfl (wa_nil ⟨_, rfl, wa_cons (we_mkV (wa_cons (we_var rfl (wa_nil ⟨_, rfl, wa_cons (we_mkV (wa_cons (we_var rfl (wa_nil ⟨_, rfl, wa_cons (we_mkV (wa_cons (we_var rfl (wa_nil ⟨_, rfl, wa_cons (we_mkV (wa_cons (we_var rfl (wa_nil ⟨_, rfl, wa_cons (we_mkV (wa_cons (we_var rfl (wa_nil ⟨_, rfl, wa_cons (we_mkV (wa_cons (we_var rfl (wa_nil ⟨_, rfl, wa_nil ⟨le_line (by show 8 ≤ 1000000; decide), ?_⟩⟩))))⟩))))⟩))))⟩))))⟩))))⟩))))⟩))))⟩)))))))
  refine ws_seq (ws_asg (we_op (we_var rfl (we_lst (wa_cons (we_mkV (wa_cons (we_var rfl (wa_nil ⟨_, rfl, wa_cons (we_mkV (wa_cons (we_var rfl (wa_nil ⟨_, rfl, wa_cons (we_mkV (wa_cons (we_var rfl (wa_nil ⟨_, rfl, wa_cons (we_mkV (wa_cons (we_var rfl (wa_nil ⟨_, rfl, wa_cons (we_mkV (wa_cons (we_var rfl (wa_nil ⟨_, rfl, wa_cons (we_mkV (wa_cons (we_var rfl (wa_nil ⟨_, rfl, wa_cons (we_mkV (wa_cons (we_var rfl (wa_nil ⟨_, rfl, wa_cons (we_mkV (wa_cons (we_var rfl (wa_nil ⟨_, rfl, wa_nil ⟨le_line (by show 8 ≤ 1000000; decide), wo_addL (le_line (by show 16 ≤ 1000000; decide)) ?_⟩⟩))))⟩))))⟩))))⟩))))⟩))))⟩))))⟩))))⟩)))))))))
  refine ws_ret (we_op (we_var rfl (we_lst (wa_cons (we_mkV (wa_cons (we_var rfl (wa_nil ⟨_, rfl, wa_cons (we_mkV (wa_cons (we_var rfl (wa_nil ⟨_, rfl, wa_cons (we_mkV (wa_cons (we_var rfl (wa_nil ⟨_, rfl, wa_cons (we_mkV (wa_cons (we_var rfl (wa_nil ⟨_, rfl, wa_cons (we_mkV (wa_cons (we_var rfl (wa_nil ⟨_, rfl, wa_nil ⟨le_line (by show 5 ≤ 1000000; decide), wo_addL (le_line (by show 21 ≤ 1000000; decide)) ?_⟩⟩))))⟩))))⟩))))⟩))))⟩))))))))
  exact h
theorem rd__law_by_name {K : PySem.W.Frag} {mg : Str → Option Value} (T : Txt K mg) (E : XK) : BodyOk K (φ__law_by_name T) N__law_by_name E (t__law_by_name T E) := by
  intro ds m nx X F B h hE
  obtain ⟨x, rfl, h⟩ := h
  rw [st__law_by_name]
  unfold t__law_by_name
  refine ws_seq (ws_asg (we_lst (wa_cons (we_mkVK (wa_cons (we_var rfl (wa_nil ⟨_, rfl, wa_cons (we_mkVK (wa_cons (we_var rfl (wa_nil ⟨_, rfl, wa_cons (we_mkVK (wa_cons (we_var rfl (wa_nil ⟨_, rfl, wa_cons (we_mkVK (wa_cons (we_var rfl (wa_nil ⟨_, rfl, wa_cons (we_mkVK (wa_cons (we_var rfl (wa_nil ⟨_, rfl, wa_nil ⟨le_line (by show 5 ≤ 1000000; decide), ?_⟩⟩))))⟩))))⟩))))⟩))))⟩)))))))
  refine ws_seq (ws_asg (we_op (we_var rfl (we_lst (wa_cons (we_mkVK (wa_cons (we_var rfl (wa_nil ⟨_, rfl, wa_cons (we_mkVK (wa_cons (we_var rfl (wa_nil ⟨_, rfl, wa_cons (we_mkVK (wa_cons (we_var rfl (wa_nil ⟨_, rfl, wa_cons (we_mkVK (wa_cons (we_var rfl (wa_nil ⟨_, rfl, wa_cons (we_mkVK (wa_cons (we_var rfl (wa_nil ⟨_, rfl, wa_nil ⟨le_line (by show 5 ≤ 1000000; decide), wo_addL (le_line (by show 10 ≤ 1000000; decide)) ?_⟩⟩))))⟩))))⟩))))⟩))))⟩)))))))))
  refine ws_seq (ws_asg (we_op (we_var rfl (we_lst (wa_cons (we_mkVK (wa_cons (we_var rfl (wa_nil ⟨_, rfl, wa_cons (we_mkVK (wa_cons (we_var rfl (wa_nil ⟨_, rfl, wa_cons (we_mkVK (wa_cons (we_var rfl (wa_nil ⟨_, rfl, wa_cons (we_mkVK (wa_cons (we_var rfl (wa_nil ⟨_, rfl, wa_cons (we_mkVK (wa_cons (we_var rfl (wa_nil ⟨_, rfl, wa_nil ⟨le_line (by show 5 ≤ 1000000; decide), wo_addL (le_line (by show 15 ≤ 1000000; decide)) ?_⟩⟩))))⟩))))⟩))))⟩))))⟩)))))))))
  refine ws_seq (ws_asg (we_op (we_var rfl (we_lst (wa_cons (we_mkVK (wa_cons (we_var rfl (wa_nil ⟨_, rfl, wa_cons (we_mkVK (wa_cons (we_var rfl (wa_nil ⟨_, rfl, wa_cons (we_mkVK (wa_cons (we_var rfl (wa_nil ⟨_, rfl, wa_cons (we_mkVK (wa_cons (we_var rfl (wa_nil ⟨_, rfl, wa_cons (we_mkVK (wa_cons (we_var rfl (wa_nil ⟨_, rfl, wa_nil ⟨le_line (by show 5 ≤ 1000000; decide), wo_addL (le_line (by show 20 ≤ 1000000; decide)) ?_⟩⟩))))⟩))))⟩))))⟩))))⟩)))))))))
  refine ws_ret (we_op (we_var rfl (we_lst (wa_cons (we_mkVK (wa_cons (we_var rfl (wa_nil ⟨_, rfl, wa_nil ⟨le_line (by show 1 ≤ 1000000; decide), wo_addL (le_line (by show 21 ≤ 1000000; decide)) ?_⟩⟩))))))))
  exact h
theorem rd__law_kept {K : PySem.W.Frag} {mg : Str → Option Value} (T : Txt K mg) (E : XK) : BodyOk K (φ__law_kept T) N__law_kept E (t__law_kept T E) := by
  intro ds m nx X F B h hE
  obtain ⟨x, rfl, h⟩ := h
  rw [st__law_kept]
  unfold t__law_kept
  refine ws_seq (ws_asg (we_lst (wa_cons (we_xv (we_op (we_var rfl (we_c (wo_ixL (d := excD K T.c_BadPath "text" x) rfl ⟨x, rfl, wa_cons (we_xv (we_op (we_var rfl (we_c (wo_ixL (d := excD K T.c_NotBegun "other" x) rfl ⟨x, rfl, wa_cons (we_xv (we_op (we_var rfl (we_c (wo_ixL (d := excD K T.c_NoRelative "path" x) rfl ⟨x, rfl, wa_cons (we_xv (we_op (we_var rfl (we_c (wo_ixL (d := excD K T.c_NoFolder "place" x) rfl ⟨x, rfl, wa_cons (we_xv (we_op (we_var rfl (we_c (wo_ixL (d := excD K T.c_Taken "place" x) rfl ⟨x, rfl, wa_cons (we_xv (we_op (we_var rfl (we_c (wo_ixL (d := excD K T.c_NoThing "place" x) rfl ⟨x, rfl, wa_cons (we_xv (we_op (we_var rfl (we_c (wo_ixL (d := excD K T.c_NotEmpty "place" x) rfl ⟨x, rfl, wa_cons (we_xv (we_op (we_var rfl (we_c (wo_ixL (d := excD K T.c_Inside "place" x) rfl ⟨x, rfl, wa_cons (we_xv (we_op (we_var rfl (we_c (wo_ixL (d := excD K T.c_BadFact "index" x) rfl ⟨x, rfl, wa_nil ⟨le_line (by show 9 ≤ 1000000; decide), ?_⟩⟩)))))⟩)))))⟩)))))⟩)))))⟩)))))⟩)))))⟩)))))⟩)))))⟩))))))))
  refine ws_seq (ws_asg (we_op (we_var rfl (we_lst (wa_cons (we_xv (we_op (we_var rfl (we_c (wo_ixL (d := excD K T.c_BadStart "start" x) rfl ⟨x, rfl, wa_cons (we_xv (we_op (we_var rfl (we_c (wo_ixL (d := excD K T.c_Clash "index" x) rfl ⟨x, rfl, wa_cons (we_xv (we_op (we_var rfl (we_c (wo_ixL (d := excD K T.c_BadWord "word" x) rfl ⟨x, rfl, wa_cons (we_xv (we_op (we_var rfl (we_c (wo_ixL (d := excD K T.c_StillAsked "path" x) rfl ⟨x, rfl, wa_cons (we_xv (we_op (we_var rfl (we_c (wo_ixL (d := excD K T.c_NotTold "place" x) rfl ⟨x, rfl, wa_cons (we_xv (we_op (we_var rfl (we_c (wo_ixL (d := excD K T.c_BadShape "text" x) rfl ⟨x, rfl, wa_cons (we_xv (we_op (we_var rfl (we_c (wo_ixL (d := excD K T.c_NoValue "letter" x) rfl ⟨x, rfl, wa_nil ⟨le_line (by show 7 ≤ 1000000; decide), wo_addL (le_line (by show 16 ≤ 1000000; decide)) ?_⟩⟩)))))⟩)))))⟩)))))⟩)))))⟩)))))⟩)))))⟩))))))))))
  refine ws_ret (we_op (we_var rfl (we_lst (wa_cons (we_xv (we_op (we_var rfl (we_c (wo_ixL (d := excD K T.c_BadName "name" x) rfl ⟨x, rfl, wa_cons (we_xv (we_op (we_var rfl (we_c (wo_ixL (d := excD K T.c_Held "name" x) rfl ⟨x, rfl, wa_cons (we_xv (we_op (we_var rfl (we_c (wo_ixL (d := excD K T.c_NotHeld "name" x) rfl ⟨x, rfl, wa_cons (we_xv (we_op (we_var rfl (we_c (wo_ixL (d := excD K T.c_BadDeed "deed" x) rfl ⟨x, rfl, wa_cons (we_xv (we_op (we_var rfl (we_c (wo_ixL (d := excD K T.c_BadText "line" x) rfl ⟨x, rfl, wa_nil ⟨le_line (by show 5 ≤ 1000000; decide), wo_addL (le_line (by show 21 ≤ 1000000; decide)) ?_⟩⟩)))))⟩)))))⟩)))))⟩)))))⟩)))))))))
  exact h
theorem rd__law_classes {K : PySem.W.Frag} {mg : Str → Option Value} (T : Txt K mg) (E : XK) : BodyOk K (φ__law_classes T) N__law_classes E (t__law_classes T E) := by
  intro ds m nx X F B h hE
  obtain ⟨x, C, rfl, hx, hec, hxk, h⟩ := h
  rw [st__law_classes]
  unfold t__law_classes
  have hP : ∀ C2 ∈ allC T, C2 ≠ T.c_PathError := fun C2 h2 z => (List.nodup_cons.mp T.nd_x).1 (z ▸ h2)
  refine ws_seq (ws_asg (we_lst (wa_cons (we_cb (wa_cons (we_var rfl (wa_cons (we_c (wa_nil (wc_isV hx hec (HXv.kit_x hxk T.xk_BadPath (hP _ (by simp [allC]))) (wa_cons (we_cb (wa_cons (we_var rfl (wa_cons (we_c (wa_nil (wc_isV hx hec (HXv.kit_x hxk T.xk_NotBegun (hP _ (by simp [allC]))) (wa_cons (we_cb (wa_cons (we_var rfl (wa_cons (we_c (wa_nil (wc_isV hx hec (HXv.kit_x hxk T.xk_NoRelative (hP _ (by simp [allC]))) (wa_cons (we_cb (wa_cons (we_var rfl (wa_cons (we_c (wa_nil (wc_isV hx hec (HXv.kit_x hxk T.xk_NoFolder (hP _ (by simp [allC]))) (wa_nil ⟨le_line (by show 4 ≤ 1000000; decide), ?_⟩)))))))))))))))))))))))))))))))))))
  refine ws_seq (ws_asg (we_op (we_var rfl (we_lst (wa_cons (we_cb (wa_cons (we_var rfl (wa_cons (we_c (wa_nil (wc_isV hx hec (HXv.kit_x hxk T.xk_Taken (hP _ (by simp [allC]))) (wa_cons (we_cb (wa_cons (we_var rfl (wa_cons (we_c (wa_nil (wc_isV hx hec (HXv.kit_x hxk T.xk_NoThing (hP _ (by simp [allC]))) (wa_cons (we_cb (wa_cons (we_var rfl (wa_cons (we_c (wa_nil (wc_isV hx hec (HXv.kit_x hxk T.xk_NotEmpty (hP _ (by simp [allC]))) (wa_cons (we_cb (wa_cons (we_var rfl (wa_cons (we_c (wa_nil (wc_isV hx hec (HXv.kit_x hxk T.xk_Inside (hP _ (by simp [allC]))) (wa_nil ⟨le_line (by show 4 ≤ 1000000; decide), wo_addL (le_line (by show 8 ≤ 1000000; decide)) ?_⟩)))))))))))))))))))))))))))))))))))))
  refine ws_seq (ws_asg (we_op (we_var rfl (we_lst (wa_cons (we_cb (wa_cons (we_var rfl (wa_cons (we_c (wa_nil (wc_isV hx hec (HXv.kit_x hxk T.xk_BadFact (hP _ (by simp [allC]))) (wa_cons (we_cb (wa_cons (we_var rfl (wa_cons (we_c (wa_nil (wc_isV hx hec (HXv.kit_x hxk T.xk_BadStart (hP _ (by simp [allC]))) (wa_cons (we_cb (wa_cons (we_var rfl (wa_cons (we_c (wa_nil (wc_isV hx hec (HXv.kit_x hxk T.xk_Clash (hP _ (by simp [allC]))) (wa_cons (we_cb (wa_cons (we_var rfl (wa_cons (we_c (wa_nil (wc_isV hx hec (HXv.kit_x hxk T.xk_BadWord (hP _ (by simp [allC]))) (wa_nil ⟨le_line (by show 4 ≤ 1000000; decide), wo_addL (le_line (by show 12 ≤ 1000000; decide)) ?_⟩)))))))))))))))))))))))))))))))))))))
  refine ws_seq (ws_asg (we_op (we_var rfl (we_lst (wa_cons (we_cb (wa_cons (we_var rfl (wa_cons (we_c (wa_nil (wc_isV hx hec (HXv.kit_x hxk T.xk_StillAsked (hP _ (by simp [allC]))) (wa_cons (we_cb (wa_cons (we_var rfl (wa_cons (we_c (wa_nil (wc_isV hx hec (HXv.kit_x hxk T.xk_NotTold (hP _ (by simp [allC]))) (wa_cons (we_cb (wa_cons (we_var rfl (wa_cons (we_c (wa_nil (wc_isV hx hec (HXv.kit_x hxk T.xk_BadShape (hP _ (by simp [allC]))) (wa_nil ⟨le_line (by show 3 ≤ 1000000; decide), wo_addL (le_line (by show 15 ≤ 1000000; decide)) ?_⟩)))))))))))))))))))))))))))))
  refine ws_seq (ws_asg (we_op (we_var rfl (we_lst (wa_cons (we_cb (wa_cons (we_var rfl (wa_cons (we_c (wa_nil (wc_isV hx hec (HXv.kit_x hxk T.xk_NoValue (hP _ (by simp [allC]))) (wa_cons (we_cb (wa_cons (we_var rfl (wa_cons (we_c (wa_nil (wc_isV hx hec (HXv.kit_x hxk T.xk_BadName (hP _ (by simp [allC]))) (wa_cons (we_cb (wa_cons (we_var rfl (wa_cons (we_c (wa_nil (wc_isV hx hec (HXv.kit_x hxk T.xk_Held (hP _ (by simp [allC]))) (wa_cons (we_cb (wa_cons (we_var rfl (wa_cons (we_c (wa_nil (wc_isV hx hec (HXv.kit_x hxk T.xk_NotHeld (hP _ (by simp [allC]))) (wa_nil ⟨le_line (by show 4 ≤ 1000000; decide), wo_addL (le_line (by show 19 ≤ 1000000; decide)) ?_⟩)))))))))))))))))))))))))))))))))))))
  refine ws_seq (ws_asg (we_op (we_var rfl (we_lst (wa_cons (we_cb (wa_cons (we_var rfl (wa_cons (we_c (wa_nil (wc_isV hx hec (HXv.kit_x hxk T.xk_BadDeed (hP _ (by simp [allC]))) (wa_cons (we_cb (wa_cons (we_var rfl (wa_cons (we_c (wa_nil (wc_isV hx hec (HXv.kit_x hxk T.xk_BadText (hP _ (by simp [allC]))) (wa_cons (we_cb (wa_cons (we_var rfl (wa_cons (we_c (wa_nil (wc_isV hx hec (HXv.kit_x hxk T.xk_Root (hP _ (by simp [allC]))) (wa_cons (we_cb (wa_cons (we_var rfl (wa_cons (we_c (wa_nil (wc_isV hx hec (HXv.kit_x hxk T.xk_NotAsked (hP _ (by simp [allC]))) (wa_nil ⟨le_line (by show 4 ≤ 1000000; decide), wo_addL (le_line (by show 23 ≤ 1000000; decide)) ?_⟩)))))))))))))))))))))))))))))))))))))
  refine ws_ret (we_op (we_var rfl (we_lst (wa_cons (we_cb (wa_cons (we_var rfl (wa_cons (we_c (wa_nil (wc_isV hx hec (HXv.kit_x hxk T.xk_NoDeed (hP _ (by simp [allC]))) (wa_nil ⟨le_line (by show 1 ≤ 1000000; decide), wo_addL (le_line (by show 24 ≤ 1000000; decide)) ?_⟩))))))))))))
  exact h
theorem rd_law {K : PySem.W.Frag} {mg : Str → Option Value} (T : Txt K mg) (E : XK) (a : Addr) (ns : List Int) (B : Hp) (hS : SqL K B a (ns.map V.int)) (hl : ns.length ≤ 63) : WS K (fun _ => none) B (t_law T E) (startD N_law [.s (.ref a)]) ⟨0, fun _ => none⟩ { nx := fun _ _ => False, rt := fun d _ => d = .s (.bl true) } := by
  rw [st_law]
  unfold t_law
  refine ws_seq (ws_asg (we_start (wa_cons (we_var rfl (wa_nil ⟨a, ns, rfl, hS, hl, fun c p hpc hc0 hp0 => ?_⟩)))))
  generalize hown : putM (putM (fun _ => none) c MO.cel) p (MO.stm c) = own
  have hst : ∀ n, Stream ⟨n, own⟩ p := fun n => by
    subst hown
    exact ⟨c, putM_same, (putM_ne (Ne.symm hpc)).trans putM_same, hpc⟩
  refine ws_seq (ws_for (wi_rng1 (wa_cons (we_c (wa_nil ⟨3, rfl, by decide, by decide, fun i ρ1 m1 => m1 = ⟨14 * i, own⟩ ∧ ∃ x2 x3 x4 x5 x6 x7 x8, ρ1 = [some (.s (.ref a)), some (.s (.ref p)), x2, x3, x4, x5, x6, x7, x8], ?_, ?_, ?_⟩)))))
  · exact ⟨rfl, _, _, _, _, _, _, _, rfl⟩
  · rintro i d ρ1 m1 hd ⟨rfl, x2, x3, x4, x5, x6, x7, x8, rfl⟩
    have hi : i < 3 := (rngD_get hd).1
    refine wg_name ?_
    refine ws_seq (ws_asg (we_call okx0 (wa_cons (we_var rfl (wa_cons (we_c (wa_nil ⟨p, rfl, hst _, (by show 14 * i + 14 < _; omega), by decide, fun x hx => ?_⟩)))))))
    have hx6 : FrOk K T.c_Path 6 x := hx
    have em : more ⟨14 * i, own⟩ (thN 2) = ⟨14 * (i + 1), own⟩ := by
      show (⟨14 * i + 14, own⟩ : Mem) = _
      rw [Nat.mul_succ]
    rw [em]
    refine ws_for (wi_any (we_tup (wa_cons (we_call okx0 (wa_cons (we_var rfl (wa_nil ⟨x, rfl, wa_cons (we_call okx0 (wa_cons (we_var rfl (wa_nil ⟨x, rfl, wa_nil ⟨len2 _ _, [.lst (madeD T x), .lst (madeD T x)], rfl, fun i2 ρ2 m2 => m2 = ⟨14 * (i + 1), own⟩ ∧ ∃ x4 x5 x6 x7 x8, ρ2 = [some (.s (.ref a)), some (.s (.ref p)), some d, some x, x4, x5, x6, x7, x8], ⟨rfl, _, _, _, _, _, rfl⟩, ?_, ?_⟩⟩))))⟩)))))))
    · rintro i2 md ρ2 m2 hmd ⟨rfl, x4, x5, x6, x7, x8, rfl⟩
      obtain rfl : md = .lst (madeD T x) := by
        have := List.mem_of_getElem? hmd
        simpa using this
      refine wg_name ?_
      refine ws_seq (ws_if (wt_not (wt_B (we_cb (wa_cons (we_lcMap (wi_any (we_call okx0 (wa_cons (we_var rfl (wa_nil ⟨x, rfl, List.replicate 21 x, rfl, fun _ => blD true, (by show 21 ≤ sizeLine; exact le_line (by decide)), fun F' d hd => ?_, ?_⟩)))))))))))
      · obtain rfl : d = x := List.eq_of_mem_replicate hd
        exact wgw_name List.mem_cons_self ⟨rfl, we_call okx0 (wa_cons (we_call okx0 (wa_cons (we_var rfl (wa_nil ⟨d, rfl, hx6, wa_cons (we_call okx0 (wa_cons (we_var rfl (wa_nil ⟨d, rfl, hx6, wa_nil ⟨_, rfl, frz_sm 6 d (by decide) hx6, rfl, rfl⟩⟩))))⟩)))))⟩
      refine wa_nil (wc_all (bs := List.replicate 21 true) ⟨true, rfl, (fun q => nomatch q), fun _ => ws_next ?_⟩)
      refine ws_for (wi_enum (wa_cons (we_op (we_var rfl (we_lst (wa_cons (we_exc0 (wa_cons (we_exc0 (wa_cons (we_exc0 (wa_nil ⟨le_line (by show 3 ≤ 1000000; decide), wo_addL (le_line (by show 24 ≤ 1000000; decide)) (wa_nil ⟨madeD T x ++ lastsD T, rfl, fun i3 ρ3 m3 => m3 = ⟨14 * (i + 1), own⟩ ∧ ∃ x5 x6 x7 x8, ρ3 = [some (.s (.ref a)), some (.s (.ref p)), some d, some x, some (.lst (madeD T x)), x5, x6, x7, x8], ⟨rfl, _, _, _, _, rfl⟩, ?_, ?_⟩)⟩))))))))))))
      · rintro i3 d3 ρ3 m3 hd3 ⟨rfl, x5, x6, x7, x8, rfl⟩
        obtain ⟨e, he, rfl⟩ := enumD_get hd3
        have hi3 : i3 < 24 := (List.getElem?_eq_some_iff.mp he).1
        obtain ⟨C, hC⟩ : ∃ C, (allC T)[i3]? = some C := ⟨_, List.getElem?_eq_getElem (show i3 < (allC T).length from hi3)⟩
        obtain ⟨hxc, hec, hxk⟩ := all_x T x (C, e) (List.mem_of_getElem? (i := i3) (List.getElem?_zip_eq_some.mpr ⟨hC, he⟩))
        refine wg_tup rfl (wgs_cons (wg_name (wgs_cons (wg_name (wgs_nil ?_)))))
        refine ws_seq (ws_if (wt_or (wt_not (wt_B (we_cb (wa_cons (we_var rfl (wa_cons (we_c (wa_nil (wc_isV hxc hec (HXv.kit_xP hxk T.xic_PathError T.xty_PathError) ⟨true, rfl, (fun _ => ?_), fun q => nomatch q⟩)))))))))))
        refine wt_not (wt_B (we_cb (wa_cons (we_var rfl (wa_cons (we_c (wa_nil (wc_isVT hxc hec (HXv.kit_xV hxk) ⟨true, rfl, (fun q => nomatch q), fun _ => ws_next ?_⟩))))))))
        refine ws_if (wt_test (we_op (we_call okx0 (wa_cons (we_var rfl (wa_nil ⟨e, C, rfl, hxc, hec, hxk, ?_⟩))))))
        refine we_lcMap (wi_rng1 (wa_cons (we_c (wa_nil ⟨24, rfl, by decide, by decide, isK i3, (by show 24 ≤ sizeLine; exact le_line (by decide)), fun F' d hd => ?_, ?_⟩))))
        · obtain ⟨k, hk⟩ := List.getElem?_of_mem hd
          obtain ⟨_, rfl⟩ := rngD_get hk
          exact wgw_name List.mem_cons_self ⟨rfl, we_op (we_var rfl (we_var rfl (wo_eqS rfl ⟨rfl, rfl⟩)))⟩
        rw [show ((24 : Int)).toNat = 24 from rfl, isK_list T hC, show ((allC T).map fun C2 => blD (decide (C = C2))) = ((allC T).map fun C2 => decide (C = C2)).map fun b => .s (.bl b) by rw [List.map_map]; rfl]
        exact wo_neBools (shaped_bools _) ⟨false, rfl, (fun q => nomatch q), fun _ => ws_next ⟨rfl, _, _, _, _, rfl⟩⟩
      · rintro ρ3 m3 ⟨rfl, x5, x6, x7, x8, rfl⟩
        exact ⟨rfl, _, _, _, _, _, rfl⟩
    · rintro ρ2 m2 ⟨rfl, x4, x5, x6, x7, x8, rfl⟩
      exact ⟨rfl, _, _, _, _, _, _, _, rfl⟩
  · rintro ρ1 m1 ⟨rfl, x2, x3, x4, x5, x6, x7, x8, rfl⟩
    exact ws_ret (we_c rfl)
end My

namespace My
open PySem L2 DD
open PySem.Spec PyProof.Rows
theorem len_is_name {K : PySem.W.Frag} {mg : Str → Option Value} (T : Txt K mg) : ∀ ds m nx X, φ_is_name T ds m nx X → ds.length = (["thing"] : List Str).length := fun ds m nx X h => by
  unfold φ_is_name at h
  first | (rcases h with ⟨_, _, rfl, _⟩ | ⟨_, _, rfl, _⟩ <;> rfl) | (rcases h with ⟨_, _, _, rfl, _⟩ | ⟨_, _, _, rfl, _⟩ <;> rfl) | (obtain ⟨_, rfl, _⟩ := h; rfl) | (obtain ⟨_, _, rfl, _⟩ := h; rfl) | (obtain ⟨_, _, _, rfl, _⟩ := h; rfl) | (obtain ⟨_, _, _, _, rfl, _⟩ := h; rfl) | (obtain ⟨rfl, _⟩ := h; rfl) | (obtain ⟨_, _, _, _, _, rfl, _⟩ := h; rfl) | (obtain ⟨_, _, _, _, _, _, rfl, _⟩ := h; rfl) | (obtain ⟨_, _, _, _, _, _, _, rfl, _⟩ := h; rfl) | (obtain ⟨_, _, _, _, _, _, _, _, rfl, _⟩ := h; rfl) | (obtain ⟨_, _, _, _, _, _, _, _, _, rfl, _⟩ := h; rfl) | (obtain ⟨_, _, _, _, _, _, _, _, _, _, rfl, _⟩ := h; rfl)
theorem len_is_path_text {K : PySem.W.Frag} {mg : Str → Option Value} (T : Txt K mg) : ∀ ds m nx X, φ_is_path_text T ds m nx X → ds.length = (["thing"] : List Str).length := fun ds m nx X h => by
  unfold φ_is_path_text at h
  first | (rcases h with ⟨_, _, rfl, _⟩ | ⟨_, _, rfl, _⟩ <;> rfl) | (rcases h with ⟨_, _, _, rfl, _⟩ | ⟨_, _, _, rfl, _⟩ <;> rfl) | (obtain ⟨_, rfl, _⟩ := h; rfl) | (obtain ⟨_, _, rfl, _⟩ := h; rfl) | (obtain ⟨_, _, _, rfl, _⟩ := h; rfl) | (obtain ⟨_, _, _, _, rfl, _⟩ := h; rfl) | (obtain ⟨rfl, _⟩ := h; rfl) | (obtain ⟨_, _, _, _, _, rfl, _⟩ := h; rfl) | (obtain ⟨_, _, _, _, _, _, rfl, _⟩ := h; rfl) | (obtain ⟨_, _, _, _, _, _, _, rfl, _⟩ := h; rfl) | (obtain ⟨_, _, _, _, _, _, _, _, rfl, _⟩ := h; rfl) | (obtain ⟨_, _, _, _, _, _, _, _, _, rfl, _⟩ := h; rfl) | (obtain ⟨_, _, _, _, _, _, _, _, _, _, rfl, _⟩ := h; rfl)
theorem len_Path___init__ {K : PySem.W.Frag} {mg : Str → Option Value} (T : Txt K mg) : ∀ ds m nx X, φ_Path___init__ T ds m nx X → ds.length = (["self", "text"] : List Str).length := fun ds m nx X h => by
  unfold φ_Path___init__ at h
  first | (rcases h with ⟨_, _, rfl, _⟩ | ⟨_, _, rfl, _⟩ <;> rfl) | (rcases h with ⟨_, _, _, rfl, _⟩ | ⟨_, _, _, rfl, _⟩ <;> rfl) | (obtain ⟨_, rfl, _⟩ := h; rfl) | (obtain ⟨_, _, rfl, _⟩ := h; rfl) | (obtain ⟨_, _, _, rfl, _⟩ := h; rfl) | (obtain ⟨_, _, _, _, rfl, _⟩ := h; rfl) | (obtain ⟨rfl, _⟩ := h; rfl) | (obtain ⟨_, _, _, _, _, rfl, _⟩ := h; rfl) | (obtain ⟨_, _, _, _, _, _, rfl, _⟩ := h; rfl) | (obtain ⟨_, _, _, _, _, _, _, rfl, _⟩ := h; rfl) | (obtain ⟨_, _, _, _, _, _, _, _, rfl, _⟩ := h; rfl) | (obtain ⟨_, _, _, _, _, _, _, _, _, rfl, _⟩ := h; rfl) | (obtain ⟨_, _, _, _, _, _, _, _, _, _, rfl, _⟩ := h; rfl)
theorem len_Path___eq__ {K : PySem.W.Frag} {mg : Str → Option Value} (T : Txt K mg) : ∀ ds m nx X, φ_Path___eq__ T ds m nx X → ds.length = (["self", "other"] : List Str).length := fun ds m nx X h => by
  unfold φ_Path___eq__ at h
  first | (rcases h with ⟨_, _, rfl, _⟩ | ⟨_, _, rfl, _⟩ <;> rfl) | (rcases h with ⟨_, _, _, rfl, _⟩ | ⟨_, _, _, rfl, _⟩ <;> rfl) | (obtain ⟨_, rfl, _⟩ := h; rfl) | (obtain ⟨_, _, rfl, _⟩ := h; rfl) | (obtain ⟨_, _, _, rfl, _⟩ := h; rfl) | (obtain ⟨_, _, _, _, rfl, _⟩ := h; rfl) | (obtain ⟨rfl, _⟩ := h; rfl) | (obtain ⟨_, _, _, _, _, rfl, _⟩ := h; rfl) | (obtain ⟨_, _, _, _, _, _, rfl, _⟩ := h; rfl) | (obtain ⟨_, _, _, _, _, _, _, rfl, _⟩ := h; rfl) | (obtain ⟨_, _, _, _, _, _, _, _, rfl, _⟩ := h; rfl) | (obtain ⟨_, _, _, _, _, _, _, _, _, rfl, _⟩ := h; rfl) | (obtain ⟨_, _, _, _, _, _, _, _, _, _, rfl, _⟩ := h; rfl)
theorem len_Path___len__ {K : PySem.W.Frag} {mg : Str → Option Value} (T : Txt K mg) : ∀ ds m nx X, φ_Path___len__ T ds m nx X → ds.length = (["self"] : List Str).length := fun ds m nx X h => by
  unfold φ_Path___len__ at h
  first | (rcases h with ⟨_, _, rfl, _⟩ | ⟨_, _, rfl, _⟩ <;> rfl) | (rcases h with ⟨_, _, _, rfl, _⟩ | ⟨_, _, _, rfl, _⟩ <;> rfl) | (obtain ⟨_, rfl, _⟩ := h; rfl) | (obtain ⟨_, _, rfl, _⟩ := h; rfl) | (obtain ⟨_, _, _, rfl, _⟩ := h; rfl) | (obtain ⟨_, _, _, _, rfl, _⟩ := h; rfl) | (obtain ⟨rfl, _⟩ := h; rfl) | (obtain ⟨_, _, _, _, _, rfl, _⟩ := h; rfl) | (obtain ⟨_, _, _, _, _, _, rfl, _⟩ := h; rfl) | (obtain ⟨_, _, _, _, _, _, _, rfl, _⟩ := h; rfl) | (obtain ⟨_, _, _, _, _, _, _, _, rfl, _⟩ := h; rfl) | (obtain ⟨_, _, _, _, _, _, _, _, _, rfl, _⟩ := h; rfl) | (obtain ⟨_, _, _, _, _, _, _, _, _, _, rfl, _⟩ := h; rfl)
theorem len_Path___floordiv__ {K : PySem.W.Frag} {mg : Str → Option Value} (T : Txt K mg) : ∀ ds m nx X, φ_Path___floordiv__ T ds m nx X → ds.length = (["self", "other"] : List Str).length := fun ds m nx X h => by
  unfold φ_Path___floordiv__ at h
  first | (rcases h with ⟨_, _, rfl, _⟩ | ⟨_, _, rfl, _⟩ <;> rfl) | (rcases h with ⟨_, _, _, rfl, _⟩ | ⟨_, _, _, rfl, _⟩ <;> rfl) | (obtain ⟨_, rfl, _⟩ := h; rfl) | (obtain ⟨_, _, rfl, _⟩ := h; rfl) | (obtain ⟨_, _, _, rfl, _⟩ := h; rfl) | (obtain ⟨_, _, _, _, rfl, _⟩ := h; rfl) | (obtain ⟨rfl, _⟩ := h; rfl) | (obtain ⟨_, _, _, _, _, rfl, _⟩ := h; rfl) | (obtain ⟨_, _, _, _, _, _, rfl, _⟩ := h; rfl) | (obtain ⟨_, _, _, _, _, _, _, rfl, _⟩ := h; rfl) | (obtain ⟨_, _, _, _, _, _, _, _, rfl, _⟩ := h; rfl) | (obtain ⟨_, _, _, _, _, _, _, _, _, rfl, _⟩ := h; rfl) | (obtain ⟨_, _, _, _, _, _, _, _, _, _, rfl, _⟩ := h; rfl)
theorem len_Path_steps {K : PySem.W.Frag} {mg : Str → Option Value} (T : Txt K mg) : ∀ ds m nx X, φ_Path_steps T ds m nx X → ds.length = (["self"] : List Str).length := fun ds m nx X h => by
  unfold φ_Path_steps at h
  first | (rcases h with ⟨_, _, rfl, _⟩ | ⟨_, _, rfl, _⟩ <;> rfl) | (rcases h with ⟨_, _, _, rfl, _⟩ | ⟨_, _, _, rfl, _⟩ <;> rfl) | (obtain ⟨_, rfl, _⟩ := h; rfl) | (obtain ⟨_, _, rfl, _⟩ := h; rfl) | (obtain ⟨_, _, _, rfl, _⟩ := h; rfl) | (obtain ⟨_, _, _, _, rfl, _⟩ := h; rfl) | (obtain ⟨rfl, _⟩ := h; rfl) | (obtain ⟨_, _, _, _, _, rfl, _⟩ := h; rfl) | (obtain ⟨_, _, _, _, _, _, rfl, _⟩ := h; rfl) | (obtain ⟨_, _, _, _, _, _, _, rfl, _⟩ := h; rfl) | (obtain ⟨_, _, _, _, _, _, _, _, rfl, _⟩ := h; rfl) | (obtain ⟨_, _, _, _, _, _, _, _, _, rfl, _⟩ := h; rfl) | (obtain ⟨_, _, _, _, _, _, _, _, _, _, rfl, _⟩ := h; rfl)
theorem len_Path_last {K : PySem.W.Frag} {mg : Str → Option Value} (T : Txt K mg) : ∀ ds m nx X, φ_Path_last T ds m nx X → ds.length = (["self"] : List Str).length := fun ds m nx X h => by
  unfold φ_Path_last at h
  first | (rcases h with ⟨_, _, rfl, _⟩ | ⟨_, _, rfl, _⟩ <;> rfl) | (rcases h with ⟨_, _, _, rfl, _⟩ | ⟨_, _, _, rfl, _⟩ <;> rfl) | (obtain ⟨_, rfl, _⟩ := h; rfl) | (obtain ⟨_, _, rfl, _⟩ := h; rfl) | (obtain ⟨_, _, _, rfl, _⟩ := h; rfl) | (obtain ⟨_, _, _, _, rfl, _⟩ := h; rfl) | (obtain ⟨rfl, _⟩ := h; rfl) | (obtain ⟨_, _, _, _, _, rfl, _⟩ := h; rfl) | (obtain ⟨_, _, _, _, _, _, rfl, _⟩ := h; rfl) | (obtain ⟨_, _, _, _, _, _, _, rfl, _⟩ := h; rfl) | (obtain ⟨_, _, _, _, _, _, _, _, rfl, _⟩ := h; rfl) | (obtain ⟨_, _, _, _, _, _, _, _, _, rfl, _⟩ := h; rfl) | (obtain ⟨_, _, _, _, _, _, _, _, _, _, rfl, _⟩ := h; rfl)
theorem len_Path_begin {K : PySem.W.Frag} {mg : Str → Option Value} (T : Txt K mg) : ∀ ds m nx X, φ_Path_begin T ds m nx X → ds.length = (["self"] : List Str).length := fun ds m nx X h => by
  unfold φ_Path_begin at h
  first | (rcases h with ⟨_, _, rfl, _⟩ | ⟨_, _, rfl, _⟩ <;> rfl) | (rcases h with ⟨_, _, _, rfl, _⟩ | ⟨_, _, _, rfl, _⟩ <;> rfl) | (obtain ⟨_, rfl, _⟩ := h; rfl) | (obtain ⟨_, _, rfl, _⟩ := h; rfl) | (obtain ⟨_, _, _, rfl, _⟩ := h; rfl) | (obtain ⟨_, _, _, _, rfl, _⟩ := h; rfl) | (obtain ⟨rfl, _⟩ := h; rfl) | (obtain ⟨_, _, _, _, _, rfl, _⟩ := h; rfl) | (obtain ⟨_, _, _, _, _, _, rfl, _⟩ := h; rfl) | (obtain ⟨_, _, _, _, _, _, _, rfl, _⟩ := h; rfl) | (obtain ⟨_, _, _, _, _, _, _, _, rfl, _⟩ := h; rfl) | (obtain ⟨_, _, _, _, _, _, _, _, _, rfl, _⟩ := h; rfl) | (obtain ⟨_, _, _, _, _, _, _, _, _, _, rfl, _⟩ := h; rfl)
theorem len__law_draw {K : PySem.W.Frag} {mg : Str → Option Value} (T : Txt K mg) : ∀ ds m nx X, φ__law_draw T ds m nx X → ds.length = (["_law_stream", "_law_many"] : List Str).length := fun ds m nx X h => by
  unfold φ__law_draw at h
  first | (rcases h with ⟨_, _, rfl, _⟩ | ⟨_, _, rfl, _⟩ <;> rfl) | (rcases h with ⟨_, _, _, rfl, _⟩ | ⟨_, _, _, rfl, _⟩ <;> rfl) | (obtain ⟨_, rfl, _⟩ := h; rfl) | (obtain ⟨_, _, rfl, _⟩ := h; rfl) | (obtain ⟨_, _, _, rfl, _⟩ := h; rfl) | (obtain ⟨_, _, _, _, rfl, _⟩ := h; rfl) | (obtain ⟨rfl, _⟩ := h; rfl) | (obtain ⟨_, _, _, _, _, rfl, _⟩ := h; rfl) | (obtain ⟨_, _, _, _, _, _, rfl, _⟩ := h; rfl) | (obtain ⟨_, _, _, _, _, _, _, rfl, _⟩ := h; rfl) | (obtain ⟨_, _, _, _, _, _, _, _, rfl, _⟩ := h; rfl) | (obtain ⟨_, _, _, _, _, _, _, _, _, rfl, _⟩ := h; rfl) | (obtain ⟨_, _, _, _, _, _, _, _, _, _, rfl, _⟩ := h; rfl)
theorem len__law_pick {K : PySem.W.Frag} {mg : Str → Option Value} (T : Txt K mg) : ∀ ds m nx X, φ__law_pick T ds m nx X → ds.length = (["_law_stream", "_law_some"] : List Str).length := fun ds m nx X h => by
  unfold φ__law_pick at h
  first | (rcases h with ⟨_, _, rfl, _⟩ | ⟨_, _, rfl, _⟩ <;> rfl) | (rcases h with ⟨_, _, _, rfl, _⟩ | ⟨_, _, _, rfl, _⟩ <;> rfl) | (obtain ⟨_, rfl, _⟩ := h; rfl) | (obtain ⟨_, _, rfl, _⟩ := h; rfl) | (obtain ⟨_, _, _, rfl, _⟩ := h; rfl) | (obtain ⟨_, _, _, _, rfl, _⟩ := h; rfl) | (obtain ⟨rfl, _⟩ := h; rfl) | (obtain ⟨_, _, _, _, _, rfl, _⟩ := h; rfl) | (obtain ⟨_, _, _, _, _, _, rfl, _⟩ := h; rfl) | (obtain ⟨_, _, _, _, _, _, _, rfl, _⟩ := h; rfl) | (obtain ⟨_, _, _, _, _, _, _, _, rfl, _⟩ := h; rfl) | (obtain ⟨_, _, _, _, _, _, _, _, _, rfl, _⟩ := h; rfl) | (obtain ⟨_, _, _, _, _, _, _, _, _, _, rfl, _⟩ := h; rfl)
theorem len__law_same {K : PySem.W.Frag} {mg : Str → Option Value} (T : Txt K mg) (n : Nat) : ∀ ds m nx X, φ__law_same T n ds m nx X → ds.length = (["_law_found", "_law_due"] : List Str).length := fun ds m nx X h => by
  unfold φ__law_same at h
  first | (rcases h with ⟨_, _, rfl, _⟩ | ⟨_, _, rfl, _⟩ <;> rfl) | (rcases h with ⟨_, _, _, rfl, _⟩ | ⟨_, _, _, rfl, _⟩ <;> rfl) | (obtain ⟨_, rfl, _⟩ := h; rfl) | (obtain ⟨_, _, rfl, _⟩ := h; rfl) | (obtain ⟨_, _, _, rfl, _⟩ := h; rfl) | (obtain ⟨_, _, _, _, rfl, _⟩ := h; rfl) | (obtain ⟨rfl, _⟩ := h; rfl) | (obtain ⟨_, _, _, _, _, rfl, _⟩ := h; rfl) | (obtain ⟨_, _, _, _, _, _, rfl, _⟩ := h; rfl) | (obtain ⟨_, _, _, _, _, _, _, rfl, _⟩ := h; rfl) | (obtain ⟨_, _, _, _, _, _, _, _, rfl, _⟩ := h; rfl) | (obtain ⟨_, _, _, _, _, _, _, _, _, rfl, _⟩ := h; rfl) | (obtain ⟨_, _, _, _, _, _, _, _, _, _, rfl, _⟩ := h; rfl)
theorem len__law_frozen {K : PySem.W.Frag} {mg : Str → Option Value} (T : Txt K mg) (n : Nat) : ∀ ds m nx X, φ__law_frozen T n ds m nx X → ds.length = (["_law_thing_here"] : List Str).length := fun ds m nx X h => by
  unfold φ__law_frozen at h
  first | (rcases h with ⟨_, _, rfl, _⟩ | ⟨_, _, rfl, _⟩ <;> rfl) | (rcases h with ⟨_, _, _, rfl, _⟩ | ⟨_, _, _, rfl, _⟩ <;> rfl) | (obtain ⟨_, rfl, _⟩ := h; rfl) | (obtain ⟨_, _, rfl, _⟩ := h; rfl) | (obtain ⟨_, _, _, rfl, _⟩ := h; rfl) | (obtain ⟨_, _, _, _, rfl, _⟩ := h; rfl) | (obtain ⟨rfl, _⟩ := h; rfl) | (obtain ⟨_, _, _, _, _, rfl, _⟩ := h; rfl) | (obtain ⟨_, _, _, _, _, _, rfl, _⟩ := h; rfl) | (obtain ⟨_, _, _, _, _, _, _, rfl, _⟩ := h; rfl) | (obtain ⟨_, _, _, _, _, _, _, _, rfl, _⟩ := h; rfl) | (obtain ⟨_, _, _, _, _, _, _, _, _, rfl, _⟩ := h; rfl) | (obtain ⟨_, _, _, _, _, _, _, _, _, _, rfl, _⟩ := h; rfl)
theorem len__law_thing {K : PySem.W.Frag} {mg : Str → Option Value} (T : Txt K mg) (n : Nat) : ∀ ds m nx X, φ__law_thing T n ds m nx X → ds.length = (["_law_stream", "_law_deep"] : List Str).length := fun ds m nx X h => by
  unfold φ__law_thing at h
  first | (rcases h with ⟨_, _, rfl, _⟩ | ⟨_, _, rfl, _⟩ <;> rfl) | (rcases h with ⟨_, _, _, rfl, _⟩ | ⟨_, _, _, rfl, _⟩ <;> rfl) | (obtain ⟨_, rfl, _⟩ := h; rfl) | (obtain ⟨_, _, rfl, _⟩ := h; rfl) | (obtain ⟨_, _, _, rfl, _⟩ := h; rfl) | (obtain ⟨_, _, _, _, rfl, _⟩ := h; rfl) | (obtain ⟨rfl, _⟩ := h; rfl) | (obtain ⟨_, _, _, _, _, rfl, _⟩ := h; rfl) | (obtain ⟨_, _, _, _, _, _, rfl, _⟩ := h; rfl) | (obtain ⟨_, _, _, _, _, _, _, rfl, _⟩ := h; rfl) | (obtain ⟨_, _, _, _, _, _, _, _, rfl, _⟩ := h; rfl) | (obtain ⟨_, _, _, _, _, _, _, _, _, rfl, _⟩ := h; rfl) | (obtain ⟨_, _, _, _, _, _, _, _, _, _, rfl, _⟩ := h; rfl)
theorem len__law_by_place {K : PySem.W.Frag} {mg : Str → Option Value} (T : Txt K mg) : ∀ ds m nx X, φ__law_by_place T ds m nx X → ds.length = (["_law_x"] : List Str).length := fun ds m nx X h => by
  unfold φ__law_by_place at h
  first | (rcases h with ⟨_, _, rfl, _⟩ | ⟨_, _, rfl, _⟩ <;> rfl) | (rcases h with ⟨_, _, _, rfl, _⟩ | ⟨_, _, _, rfl, _⟩ <;> rfl) | (obtain ⟨_, rfl, _⟩ := h; rfl) | (obtain ⟨_, _, rfl, _⟩ := h; rfl) | (obtain ⟨_, _, _, rfl, _⟩ := h; rfl) | (obtain ⟨_, _, _, _, rfl, _⟩ := h; rfl) | (obtain ⟨rfl, _⟩ := h; rfl) | (obtain ⟨_, _, _, _, _, rfl, _⟩ := h; rfl) | (obtain ⟨_, _, _, _, _, _, rfl, _⟩ := h; rfl) | (obtain ⟨_, _, _, _, _, _, _, rfl, _⟩ := h; rfl) | (obtain ⟨_, _, _, _, _, _, _, _, rfl, _⟩ := h; rfl) | (obtain ⟨_, _, _, _, _, _, _, _, _, rfl, _⟩ := h; rfl) | (obtain ⟨_, _, _, _, _, _, _, _, _, _, rfl, _⟩ := h; rfl)
theorem len__law_by_name {K : PySem.W.Frag} {mg : Str → Option Value} (T : Txt K mg) : ∀ ds m nx X, φ__law_by_name T ds m nx X → ds.length = (["_law_x"] : List Str).length := fun ds m nx X h => by
  unfold φ__law_by_name at h
  first | (rcases h with ⟨_, _, rfl, _⟩ | ⟨_, _, rfl, _⟩ <;> rfl) | (rcases h with ⟨_, _, _, rfl, _⟩ | ⟨_, _, _, rfl, _⟩ <;> rfl) | (obtain ⟨_, rfl, _⟩ := h; rfl) | (obtain ⟨_, _, rfl, _⟩ := h; rfl) | (obtain ⟨_, _, _, rfl, _⟩ := h; rfl) | (obtain ⟨_, _, _, _, rfl, _⟩ := h; rfl) | (obtain ⟨rfl, _⟩ := h; rfl) | (obtain ⟨_, _, _, _, _, rfl, _⟩ := h; rfl) | (obtain ⟨_, _, _, _, _, _, rfl, _⟩ := h; rfl) | (obtain ⟨_, _, _, _, _, _, _, rfl, _⟩ := h; rfl) | (obtain ⟨_, _, _, _, _, _, _, _, rfl, _⟩ := h; rfl) | (obtain ⟨_, _, _, _, _, _, _, _, _, rfl, _⟩ := h; rfl) | (obtain ⟨_, _, _, _, _, _, _, _, _, _, rfl, _⟩ := h; rfl)
theorem len__law_kept {K : PySem.W.Frag} {mg : Str → Option Value} (T : Txt K mg) : ∀ ds m nx X, φ__law_kept T ds m nx X → ds.length = (["_law_e"] : List Str).length := fun ds m nx X h => by
  unfold φ__law_kept at h
  first | (rcases h with ⟨_, _, rfl, _⟩ | ⟨_, _, rfl, _⟩ <;> rfl) | (rcases h with ⟨_, _, _, rfl, _⟩ | ⟨_, _, _, rfl, _⟩ <;> rfl) | (obtain ⟨_, rfl, _⟩ := h; rfl) | (obtain ⟨_, _, rfl, _⟩ := h; rfl) | (obtain ⟨_, _, _, rfl, _⟩ := h; rfl) | (obtain ⟨_, _, _, _, rfl, _⟩ := h; rfl) | (obtain ⟨rfl, _⟩ := h; rfl) | (obtain ⟨_, _, _, _, _, rfl, _⟩ := h; rfl) | (obtain ⟨_, _, _, _, _, _, rfl, _⟩ := h; rfl) | (obtain ⟨_, _, _, _, _, _, _, rfl, _⟩ := h; rfl) | (obtain ⟨_, _, _, _, _, _, _, _, rfl, _⟩ := h; rfl) | (obtain ⟨_, _, _, _, _, _, _, _, _, rfl, _⟩ := h; rfl) | (obtain ⟨_, _, _, _, _, _, _, _, _, _, rfl, _⟩ := h; rfl)
theorem len__law_classes {K : PySem.W.Frag} {mg : Str → Option Value} (T : Txt K mg) : ∀ ds m nx X, φ__law_classes T ds m nx X → ds.length = (["_law_e"] : List Str).length := fun ds m nx X h => by
  unfold φ__law_classes at h
  first | (rcases h with ⟨_, _, rfl, _⟩ | ⟨_, _, rfl, _⟩ <;> rfl) | (rcases h with ⟨_, _, _, rfl, _⟩ | ⟨_, _, _, rfl, _⟩ <;> rfl) | (obtain ⟨_, rfl, _⟩ := h; rfl) | (obtain ⟨_, _, rfl, _⟩ := h; rfl) | (obtain ⟨_, _, _, rfl, _⟩ := h; rfl) | (obtain ⟨_, _, _, _, rfl, _⟩ := h; rfl) | (obtain ⟨rfl, _⟩ := h; rfl) | (obtain ⟨_, _, _, _, _, rfl, _⟩ := h; rfl) | (obtain ⟨_, _, _, _, _, _, rfl, _⟩ := h; rfl) | (obtain ⟨_, _, _, _, _, _, _, rfl, _⟩ := h; rfl) | (obtain ⟨_, _, _, _, _, _, _, _, rfl, _⟩ := h; rfl) | (obtain ⟨_, _, _, _, _, _, _, _, _, rfl, _⟩ := h; rfl) | (obtain ⟨_, _, _, _, _, _, _, _, _, _, rfl, _⟩ := h; rfl)
theorem ok_BadPath___init__ {P : Program} {w : World} {K : PySem.W.Frag} {mg : Str → Option Value} {base : Heap} (T : Txt K mg) : FnOk P w K mg base (L2.CX P w) 1 T.a_BadPath___init__ T.d_BadPath___init__ ["self", "text"] (HX1.spExc T.c_BadPath "text") :=
  okC T.F_BadPath___init__ sc_BadPath___init__ (fun vs H Q E h => by obtain ⟨_, _, rfl, _⟩ := h; rfl) fun cdv A outer s H vs Q E hr h => ⟨t_BadPath___init__ T E,
    (pss_cons (ps_expr (HX1.pe_peinit rfl T.g_PathError T.er_PathError T.ea_PathError T.ev_PathError (pa_cons (pv 0) (pa_cons pe_str pa_nil))))
    (pss_one (ps_ost (pv 0) (pv 1)))),
    HX1.exc_init T.oe_BadPath T.ef_BadPath rfl h⟩
theorem ok_NotBegun___init__ {P : Program} {w : World} {K : PySem.W.Frag} {mg : Str → Option Value} {base : Heap} (T : Txt K mg) : FnOk P w K mg base (L2.CX P w) 1 T.a_NotBegun___init__ T.d_NotBegun___init__ ["self", "other"] (HX1.spExc T.c_NotBegun "other") :=
  okC T.F_NotBegun___init__ sc_NotBegun___init__ (fun vs H Q E h => by obtain ⟨_, _, rfl, _⟩ := h; rfl) fun cdv A outer s H vs Q E hr h => ⟨t_NotBegun___init__ T E,
    (pss_cons (ps_expr (HX1.pe_peinit rfl T.g_PathError T.er_PathError T.ea_PathError T.ev_PathError (pa_cons (pv 0) (pa_cons pe_str pa_nil))))
    (pss_one (ps_ost (pv 0) (pv 1)))),
    HX1.exc_init T.oe_NotBegun T.ef_NotBegun rfl h⟩
theorem ok_NoRelative___init__ {P : Program} {w : World} {K : PySem.W.Frag} {mg : Str → Option Value} {base : Heap} (T : Txt K mg) : FnOk P w K mg base (L2.CX P w) 1 T.a_NoRelative___init__ T.d_NoRelative___init__ ["self", "path"] (HX1.spExc T.c_NoRelative "path") :=
  okC T.F_NoRelative___init__ sc_NoRelative___init__ (fun vs H Q E h => by obtain ⟨_, _, rfl, _⟩ := h; rfl) fun cdv A outer s H vs Q E hr h => ⟨t_NoRelative___init__ T E,
    (pss_cons (ps_expr (HX1.pe_peinit rfl T.g_PathError T.er_PathError T.ea_PathError T.ev_PathError (pa_cons (pv 0) (pa_cons pe_str pa_nil))))
    (pss_one (ps_ost (pv 0) (pv 1)))),
    HX1.exc_init T.oe_NoRelative T.ef_NoRelative rfl h⟩
theorem ok_NoFolder___init__ {P : Program} {w : World} {K : PySem.W.Frag} {mg : Str → Option Value} {base : Heap} (T : Txt K mg) : FnOk P w K mg base (L2.CX P w) 1 T.a_NoFolder___init__ T.d_NoFolder___init__ ["self", "place"] (HX1.spExc T.c_NoFolder "place") :=
  okC T.F_NoFolder___init__ sc_NoFolder___init__ (fun vs H Q E h => by obtain ⟨_, _, rfl, _⟩ := h; rfl) fun cdv A outer s H vs Q E hr h => ⟨t_NoFolder___init__ T E,
    (pss_cons (ps_expr (HX1.pe_peinit rfl T.g_PathError T.er_PathError T.ea_PathError T.ev_PathError (pa_cons (pv 0) (pa_cons pe_str pa_nil))))
    (pss_one (ps_ost (pv 0) (pv 1)))),
    HX1.exc_init T.oe_NoFolder T.ef_NoFolder rfl h⟩
theorem ok_Taken___init__ {P : Program} {w : World} {K : PySem.W.Frag} {mg : Str → Option Value} {base : Heap} (T : Txt K mg) : FnOk P w K mg base (L2.CX P w) 1 T.a_Taken___init__ T.d_Taken___init__ ["self", "place"] (HX1.spExc T.c_Taken "place") :=
  okC T.F_Taken___init__ sc_Taken___init__ (fun vs H Q E h => by obtain ⟨_, _, rfl, _⟩ := h; rfl) fun cdv A outer s H vs Q E hr h => ⟨t_Taken___init__ T E,
    (pss_cons (ps_expr (HX1.pe_peinit rfl T.g_PathError T.er_PathError T.ea_PathError T.ev_PathError (pa_cons (pv 0) (pa_cons pe_str pa_nil))))
    (pss_one (ps_ost (pv 0) (pv 1)))),
    HX1.exc_init T.oe_Taken T.ef_Taken rfl h⟩
theorem ok_NoThing___init__ {P : Program} {w : World} {K : PySem.W.Frag} {mg : Str → Option Value} {base : Heap} (T : Txt K mg) : FnOk P w K mg base (L2.CX P w) 1 T.a_NoThing___init__ T.d_NoThing___init__ ["self", "place"] (HX1.spExc T.c_NoThing "place") :=
  okC T.F_NoThing___init__ sc_NoThing___init__ (fun vs H Q E h => by obtain ⟨_, _, rfl, _⟩ := h; rfl) fun cdv A outer s H vs Q E hr h => ⟨t_NoThing___init__ T E,
    (pss_cons (ps_expr (HX1.pe_peinit rfl T.g_PathError T.er_PathError T.ea_PathError T.ev_PathError (pa_cons (pv 0) (pa_cons pe_str pa_nil))))
    (pss_one (ps_ost (pv 0) (pv 1)))),
    HX1.exc_init T.oe_NoThing T.ef_NoThing rfl h⟩
theorem ok_NotEmpty___init__ {P : Program} {w : World} {K : PySem.W.Frag} {mg : Str → Option Value} {base : Heap} (T : Txt K mg) : FnOk P w K mg base (L2.CX P w) 1 T.a_NotEmpty___init__ T.d_NotEmpty___init__ ["self", "place"] (HX1.spExc T.c_NotEmpty "place") :=
  okC T.F_NotEmpty___init__ sc_NotEmpty___init__ (fun vs H Q E h => by obtain ⟨_, _, rfl, _⟩ := h; rfl) fun cdv A outer s H vs Q E hr h => ⟨t_NotEmpty___init__ T E,
    (pss_cons (ps_expr (HX1.pe_peinit rfl T.g_PathError T.er_PathError T.ea_PathError T.ev_PathError (pa_cons (pv 0) (pa_cons pe_str pa_nil))))
    (pss_one (ps_ost (pv 0) (pv 1)))),
    HX1.exc_init T.oe_NotEmpty T.ef_NotEmpty rfl h⟩
theorem ok_Inside___init__ {P : Program} {w : World} {K : PySem.W.Frag} {mg : Str → Option Value} {base : Heap} (T : Txt K mg) : FnOk P w K mg base (L2.CX P w) 1 T.a_Inside___init__ T.d_Inside___init__ ["self", "place"] (HX1.spExc T.c_Inside "place") :=
  okC T.F_Inside___init__ sc_Inside___init__ (fun vs H Q E h => by obtain ⟨_, _, rfl, _⟩ := h; rfl) fun cdv A outer s H vs Q E hr h => ⟨t_Inside___init__ T E,
    (pss_cons (ps_expr (HX1.pe_peinit rfl T.g_PathError T.er_PathError T.ea_PathError T.ev_PathError (pa_cons (pv 0) (pa_cons pe_str pa_nil))))
    (pss_one (ps_ost (pv 0) (pv 1)))),
    HX1.exc_init T.oe_Inside T.ef_Inside rfl h⟩
theorem ok_BadFact___init__ {P : Program} {w : World} {K : PySem.W.Frag} {mg : Str → Option Value} {base : Heap} (T : Txt K mg) : FnOk P w K mg base (L2.CX P w) 1 T.a_BadFact___init__ T.d_BadFact___init__ ["self", "index"] (HX1.spExc T.c_BadFact "index") :=
  okC T.F_BadFact___init__ sc_BadFact___init__ (fun vs H Q E h => by obtain ⟨_, _, rfl, _⟩ := h; rfl) fun cdv A outer s H vs Q E hr h => ⟨t_BadFact___init__ T E,
    (pss_cons (ps_expr (HX1.pe_peinit rfl T.g_PathError T.er_PathError T.ea_PathError T.ev_PathError (pa_cons (pv 0) (pa_cons pe_str pa_nil))))
    (pss_one (ps_ost (pv 0) (pv 1)))),
    HX1.exc_init T.oe_BadFact T.ef_BadFact rfl h⟩
theorem ok_BadStart___init__ {P : Program} {w : World} {K : PySem.W.Frag} {mg : Str → Option Value} {base : Heap} (T : Txt K mg) : FnOk P w K mg base (L2.CX P w) 1 T.a_BadStart___init__ T.d_BadStart___init__ ["self", "start"] (HX1.spExc T.c_BadStart "start") :=
  okC T.F_BadStart___init__ sc_BadStart___init__ (fun vs H Q E h => by obtain ⟨_, _, rfl, _⟩ := h; rfl) fun cdv A outer s H vs Q E hr h => ⟨t_BadStart___init__ T E,
    (pss_cons (ps_expr (HX1.pe_peinit rfl T.g_PathError T.er_PathError T.ea_PathError T.ev_PathError (pa_cons (pv 0) (pa_cons pe_str pa_nil))))
    (pss_one (ps_ost (pv 0) (pv 1)))),
    HX1.exc_init T.oe_BadStart T.ef_BadStart rfl h⟩
theorem ok_Clash___init__ {P : Program} {w : World} {K : PySem.W.Frag} {mg : Str → Option Value} {base : Heap} (T : Txt K mg) : FnOk P w K mg base (L2.CX P w) 1 T.a_Clash___init__ T.d_Clash___init__ ["self", "index"] (HX1.spExc T.c_Clash "index") :=
  okC T.F_Clash___init__ sc_Clash___init__ (fun vs H Q E h => by obtain ⟨_, _, rfl, _⟩ := h; rfl) fun cdv A outer s H vs Q E hr h => ⟨t_Clash___init__ T E,
    (pss_cons (ps_expr (HX1.pe_peinit rfl T.g_PathError T.er_PathError T.ea_PathError T.ev_PathError (pa_cons (pv 0) (pa_cons pe_str pa_nil))))
    (pss_one (ps_ost (pv 0) (pv 1)))),
    HX1.exc_init T.oe_Clash T.ef_Clash rfl h⟩
theorem ok_BadWord___init__ {P : Program} {w : World} {K : PySem.W.Frag} {mg : Str → Option Value} {base : Heap} (T : Txt K mg) : FnOk P w K mg base (L2.CX P w) 1 T.a_BadWord___init__ T.d_BadWord___init__ ["self", "word"] (HX1.spExc T.c_BadWord "word") :=
  okC T.F_BadWord___init__ sc_BadWord___init__ (fun vs H Q E h => by obtain ⟨_, _, rfl, _⟩ := h; rfl) fun cdv A outer s H vs Q E hr h => ⟨t_BadWord___init__ T E,
    (pss_cons (ps_expr (HX1.pe_peinit rfl T.g_PathError T.er_PathError T.ea_PathError T.ev_PathError (pa_cons (pv 0) (pa_cons pe_str pa_nil))))
    (pss_one (ps_ost (pv 0) (pv 1)))),
    HX1.exc_init T.oe_BadWord T.ef_BadWord rfl h⟩
theorem ok_StillAsked___init__ {P : Program} {w : World} {K : PySem.W.Frag} {mg : Str → Option Value} {base : Heap} (T : Txt K mg) : FnOk P w K mg base (L2.CX P w) 1 T.a_StillAsked___init__ T.d_StillAsked___init__ ["self", "path"] (HX1.spExc T.c_StillAsked "path") :=
  okC T.F_StillAsked___init__ sc_StillAsked___init__ (fun vs H Q E h => by obtain ⟨_, _, rfl, _⟩ := h; rfl) fun cdv A outer s H vs Q E hr h => ⟨t_StillAsked___init__ T E,
    (pss_cons (ps_expr (HX1.pe_peinit rfl T.g_PathError T.er_PathError T.ea_PathError T.ev_PathError (pa_cons (pv 0) (pa_cons pe_str pa_nil))))
    (pss_one (ps_ost (pv 0) (pv 1)))),
    HX1.exc_init T.oe_StillAsked T.ef_StillAsked rfl h⟩
theorem ok_NotTold___init__ {P : Program} {w : World} {K : PySem.W.Frag} {mg : Str → Option Value} {base : Heap} (T : Txt K mg) : FnOk P w K mg base (L2.CX P w) 1 T.a_NotTold___init__ T.d_NotTold___init__ ["self", "place"] (HX1.spExc T.c_NotTold "place") :=
  okC T.F_NotTold___init__ sc_NotTold___init__ (fun vs H Q E h => by obtain ⟨_, _, rfl, _⟩ := h; rfl) fun cdv A outer s H vs Q E hr h => ⟨t_NotTold___init__ T E,
    (pss_cons (ps_expr (HX1.pe_peinit rfl T.g_PathError T.er_PathError T.ea_PathError T.ev_PathError (pa_cons (pv 0) (pa_cons pe_str pa_nil))))
    (pss_one (ps_ost (pv 0) (pv 1)))),
    HX1.exc_init T.oe_NotTold T.ef_NotTold rfl h⟩
theorem ok_BadShape___init__ {P : Program} {w : World} {K : PySem.W.Frag} {mg : Str → Option Value} {base : Heap} (T : Txt K mg) : FnOk P w K mg base (L2.CX P w) 1 T.a_BadShape___init__ T.d_BadShape___init__ ["self", "text"] (HX1.spExc T.c_BadShape "text") :=
  okC T.F_BadShape___init__ sc_BadShape___init__ (fun vs H Q E h => by obtain ⟨_, _, rfl, _⟩ := h; rfl) fun cdv A outer s H vs Q E hr h => ⟨t_BadShape___init__ T E,
    (pss_cons (ps_expr (HX1.pe_peinit rfl T.g_PathError T.er_PathError T.ea_PathError T.ev_PathError (pa_cons (pv 0) (pa_cons pe_str pa_nil))))
    (pss_one (ps_ost (pv 0) (pv 1)))),
    HX1.exc_init T.oe_BadShape T.ef_BadShape rfl h⟩
theorem ok_NoValue___init__ {P : Program} {w : World} {K : PySem.W.Frag} {mg : Str → Option Value} {base : Heap} (T : Txt K mg) : FnOk P w K mg base (L2.CX P w) 1 T.a_NoValue___init__ T.d_NoValue___init__ ["self", "letter"] (HX1.spExc T.c_NoValue "letter") :=
  okC T.F_NoValue___init__ sc_NoValue___init__ (fun vs H Q E h => by obtain ⟨_, _, rfl, _⟩ := h; rfl) fun cdv A outer s H vs Q E hr h => ⟨t_NoValue___init__ T E,
    (pss_cons (ps_expr (HX1.pe_peinit rfl T.g_PathError T.er_PathError T.ea_PathError T.ev_PathError (pa_cons (pv 0) (pa_cons pe_str pa_nil))))
    (pss_one (ps_ost (pv 0) (pv 1)))),
    HX1.exc_init T.oe_NoValue T.ef_NoValue rfl h⟩
theorem ok_BadName___init__ {P : Program} {w : World} {K : PySem.W.Frag} {mg : Str → Option Value} {base : Heap} (T : Txt K mg) : FnOk P w K mg base (L2.CX P w) 1 T.a_BadName___init__ T.d_BadName___init__ ["self", "name"] (HX1.spExc T.c_BadName "name") :=
  okC T.F_BadName___init__ sc_BadName___init__ (fun vs H Q E h => by obtain ⟨_, _, rfl, _⟩ := h; rfl) fun cdv A outer s H vs Q E hr h => ⟨t_BadName___init__ T E,
    (pss_cons (ps_expr (HX1.pe_peinit rfl T.g_PathError T.er_PathError T.ea_PathError T.ev_PathError (pa_cons (pv 0) (pa_cons pe_str pa_nil))))
    (pss_one (ps_ost (pv 0) (pv 1)))),
    HX1.exc_init T.oe_BadName T.ef_BadName rfl h⟩
theorem ok_Held___init__ {P : Program} {w : World} {K : PySem.W.Frag} {mg : Str → Option Value} {base : Heap} (T : Txt K mg) : FnOk P w K mg base (L2.CX P w) 1 T.a_Held___init__ T.d_Held___init__ ["self", "name"] (HX1.spExc T.c_Held "name") :=
  okC T.F_Held___init__ sc_Held___init__ (fun vs H Q E h => by obtain ⟨_, _, rfl, _⟩ := h; rfl) fun cdv A outer s H vs Q E hr h => ⟨t_Held___init__ T E,
    (pss_cons (ps_expr (HX1.pe_peinit rfl T.g_PathError T.er_PathError T.ea_PathError T.ev_PathError (pa_cons (pv 0) (pa_cons pe_str pa_nil))))
    (pss_one (ps_ost (pv 0) (pv 1)))),
    HX1.exc_init T.oe_Held T.ef_Held rfl h⟩
theorem ok_NotHeld___init__ {P : Program} {w : World} {K : PySem.W.Frag} {mg : Str → Option Value} {base : Heap} (T : Txt K mg) : FnOk P w K mg base (L2.CX P w) 1 T.a_NotHeld___init__ T.d_NotHeld___init__ ["self", "name"] (HX1.spExc T.c_NotHeld "name") :=
  okC T.F_NotHeld___init__ sc_NotHeld___init__ (fun vs H Q E h => by obtain ⟨_, _, rfl, _⟩ := h; rfl) fun cdv A outer s H vs Q E hr h => ⟨t_NotHeld___init__ T E,
    (pss_cons (ps_expr (HX1.pe_peinit rfl T.g_PathError T.er_PathError T.ea_PathError T.ev_PathError (pa_cons (pv 0) (pa_cons pe_str pa_nil))))
    (pss_one (ps_ost (pv 0) (pv 1)))),
    HX1.exc_init T.oe_NotHeld T.ef_NotHeld rfl h⟩
theorem ok_BadDeed___init__ {P : Program} {w : World} {K : PySem.W.Frag} {mg : Str → Option Value} {base : Heap} (T : Txt K mg) : FnOk P w K mg base (L2.CX P w) 1 T.a_BadDeed___init__ T.d_BadDeed___init__ ["self", "deed"] (HX1.spExc T.c_BadDeed "deed") :=
  okC T.F_BadDeed___init__ sc_BadDeed___init__ (fun vs H Q E h => by obtain ⟨_, _, rfl, _⟩ := h; rfl) fun cdv A outer s H vs Q E hr h => ⟨t_BadDeed___init__ T E,
    (pss_cons (ps_expr (HX1.pe_peinit rfl T.g_PathError T.er_PathError T.ea_PathError T.ev_PathError (pa_cons (pv 0) (pa_cons pe_str pa_nil))))
    (pss_one (ps_ost (pv 0) (pv 1)))),
    HX1.exc_init T.oe_BadDeed T.ef_BadDeed rfl h⟩
theorem ok_BadText___init__ {P : Program} {w : World} {K : PySem.W.Frag} {mg : Str → Option Value} {base : Heap} (T : Txt K mg) : FnOk P w K mg base (L2.CX P w) 1 T.a_BadText___init__ T.d_BadText___init__ ["self", "line"] (HX1.spExc T.c_BadText "line") :=
  okC T.F_BadText___init__ sc_BadText___init__ (fun vs H Q E h => by obtain ⟨_, _, rfl, _⟩ := h; rfl) fun cdv A outer s H vs Q E hr h => ⟨t_BadText___init__ T E,
    (pss_cons (ps_expr (HX1.pe_peinit rfl T.g_PathError T.er_PathError T.ea_PathError T.ev_PathError (pa_cons (pv 0) (pa_cons pe_str pa_nil))))
    (pss_one (ps_ost (pv 0) (pv 1)))),
    HX1.exc_init T.oe_BadText T.ef_BadText rfl h⟩
theorem ok_is_name {P : Program} {w : World} {K : PySem.W.Frag} {mg : Str → Option Value} {base : Heap} (T : Txt K mg)  : FnOk P w K mg base (L2.CX P w) 1 T.a_is_name T.d_is_name ["thing"] (spOf K (φ_is_name T)) :=
  ok_D (k := 0) T.F_is_name sc_is_name (len_is_name T) fun cdv A outer s H E hr => ⟨t_is_name T E,
    (pss_one (ps_ret (pe_and (pe_callB call_isiA (by rfl) T.z_isinstance (by decide +kernel) (pa_cons (pv 0) (pa_cons (pe_bltn (v := .ty "str") (by rfl) T.z_str (by decide +kernel) rfl) pa_nil))) (pe_and (pe_chain op_le op_le pe_int (pe_callB call_lenA (by rfl) T.z_len (by decide +kernel) (pa_cons (pv 0) pa_nil)) (pe_glob rfl T.g_LONGEST T.r_LONGEST)) (pe_one (pe_callB (cr_all rfl) (by rfl) T.z_all (by decide +kernel) (pa_cons (pe_lc (own := [("sign", 1)]) rfl sc_is_name.nd (pi_any (pv 0)) (blkOk_by (own := [("sign", 1)]) (N := N_is_name) (sc := defScope s_is_name) (by decide +kernel)) (fun _ _ _ _ _ => (pg_name (i := 1) sc_is_name.nd rfl (Or.inl rfl))) (fun _ _ _ _ _ => pts_nil) (fun _ _ _ _ _ => (pe_cmpR op_inA (pv 1) (pe_glob rfl T.g_LETTERS T.r_LETTERS) (by rfl)))) pa_nil))))))),
    rd_is_name T E⟩
theorem ok_is_path_text {P : Program} {w : World} {K : PySem.W.Frag} {mg : Str → Option Value} {base : Heap} (T : Txt K mg) (G_is_name : FnOk P w K mg base (L2.CX P w) 1 T.a_is_name T.d_is_name ["thing"] (spOf K (φ_is_name T))) : FnOk P w K mg base (L2.CX P w) 2 T.a_is_path_text T.d_is_path_text ["thing"] (spOf K (φ_is_path_text T)) :=
  ok_D (k := 1) T.F_is_path_text sc_is_path_text (len_is_path_text T) fun cdv A outer s H E hr => ⟨t_is_path_text T E,
    (pss_cons (ps_if (PW.pt (pw_or (pt_not (pt_val (pe_callB call_isiA (by rfl) T.z_isinstance (by decide +kernel) (pa_cons (pv 0) (pa_cons (pe_bltn (v := .ty "str") (by rfl) T.z_str (by decide +kernel) rfl) pa_nil))))) (pw_or1 (pt_cmpR (op_eqA hr.units) (pv 0) pe_str (nomark _))))) (pss_one (ps_ret pe_bl)) pss_nil)
    (pss_one (ps_ret (pe_callB (cr_all rfl) (by rfl) T.z_all (by decide +kernel) (pa_cons (pe_lc (own := [("piece", 1)]) rfl sc_is_path_text.nd (pi_any (pe_m1 PySem.F.slot_str_split PySem.F.type_str_split mt_splitA (pv 0) pe_str)) (blkOk_by (own := [("piece", 1)]) (N := N_is_path_text) (sc := defScope s_is_path_text) (by decide +kernel)) (fun _ _ _ _ _ => (pg_name (i := 1) sc_is_path_text.nd rfl (Or.inl rfl))) (fun _ _ _ _ _ => pts_nil) (fun _ _ _ _ _ => (pe_or (pe_cmpR op_inA (pv 1) (pe_tup (pa_cons pe_str (pa_cons pe_str (pa_cons pe_str pa_nil)))) (by rfl)) (pe_one (pe_call G_is_name (hr.mono (by decide)) rfl T.g_is_name T.F_is_name.kp T.b_is_name .nil passL (pa_cons (pv 1) pa_nil)))))) pa_nil))))),
    rd_is_path_text T E⟩
theorem ok_Path___init__ {P : Program} {w : World} {K : PySem.W.Frag} {mg : Str → Option Value} {base : Heap} (T : Txt K mg) (G_is_path_text : FnOk P w K mg base (L2.CX P w) 2 T.a_is_path_text T.d_is_path_text ["thing"] (spOf K (φ_is_path_text T))) : FnOk P w K mg base (L2.CX P w) 3 T.a_Path___init__ T.d_Path___init__ ["self", "text"] (spOf K (φ_Path___init__ T)) :=
  ok_D (k := 2) T.F_Path___init__ sc_Path___init__ (len_Path___init__ T) fun cdv A outer s H E hr => ⟨t_Path___init__ T E,
    (pss_cons (ps_if (pt_not (pt_val (pe_call G_is_path_text (hr.mono (by decide)) rfl T.g_is_path_text T.F_is_path_text.kp T.b_is_path_text .nil passL (pa_cons (pv 1) pa_nil)))) pss_never pss_nil)
    (pss_cons (ps_fld (pv 0) (pv 1) rfl)
    (pss_cons (ps_fld (pv 0) (pe_cmpR (op_eqA hr.units) (pe_ix ix_seq (pv 1) pe_int (fun _ _ => rfl)) pe_str (nomark _)) rfl)
    (pss_one (ps_fld (pv 0) (pe_cmpR op_inA (pe_ix ix_seq (pe_m1 PySem.F.slot_str_split PySem.F.type_str_split mt_splitA (pv 1) pe_str) (pe_un un_neg pe_int) (fun _ _ => rfl)) (pe_tup (pa_cons pe_str (pa_cons pe_str (pa_cons pe_str pa_nil)))) (by rfl)) rfl))))),
    rd_Path___init__ T E⟩
theorem ok_Path___eq__ {P : Program} {w : World} {K : PySem.W.Frag} {mg : Str → Option Value} {base : Heap} (T : Txt K mg)  : FnOk P w K mg base (L2.CX P w) 1 T.a_Path___eq__ T.d_Path___eq__ ["self", "other"] (spOf K (φ_Path___eq__ T)) :=
  ok_D (k := 0) T.F_Path___eq__ sc_Path___eq__ (len_Path___eq__ T) fun cdv A outer s H E hr => ⟨t_Path___eq__ T E,
    (pss_one (ps_ret (pe_and (pe_callB call_isiA (by rfl) T.z_isinstance (by decide +kernel) (pa_cons (pv 1) (pa_cons (pe_glob rfl T.g_Path (RelV_ref _)) pa_nil))) (pe_one (pe_cmpR (op_eqA hr.units) (pe_fld (pv 0) rfl) (pe_fld (pv 1) rfl) (nomark _)))))),
    rd_Path___eq__ T E⟩
theorem ok_Path___len__ {P : Program} {w : World} {K : PySem.W.Frag} {mg : Str → Option Value} {base : Heap} (T : Txt K mg) (G_Path_steps : FnOk P w K mg base (L2.CX P w) 1 T.a_Path_steps T.d_Path_steps ["self"] (spOf K (φ_Path_steps T))) : FnOk P w K mg base (L2.CX P w) 2 T.a_Path___len__ T.d_Path___len__ ["self"] (spOf K (φ_Path___len__ T)) :=
  ok_D (k := 1) T.F_Path___len__ sc_Path___len__ (len_Path___len__ T) fun cdv A outer s H E hr => ⟨t_Path___len__ T E,
    (pss_one (ps_ret (pe_callB call_lenA (by rfl) T.z_len (by decide +kernel) (pa_cons (pe_meth0 (pv 0) T.y_Path.cl T.m_Path_steps G_Path_steps (hr.mono (by decide)) T.b_Path_steps .nil passL) pa_nil)))),
    rd_Path___len__ T E⟩
theorem ok_Path___floordiv__ {P : Program} {w : World} {K : PySem.W.Frag} {mg : Str → Option Value} {base : Heap} (T : Txt K mg) (G_Path___init__ : FnOk P w K mg base (L2.CX P w) 3 T.a_Path___init__ T.d_Path___init__ ["self", "text"] (spOf K (φ_Path___init__ T))) : FnOk P w K mg base (L2.CX P w) 5 T.a_Path___floordiv__ T.d_Path___floordiv__ ["self", "other"] (spOf K (φ_Path___floordiv__ T)) :=
  ok_D (k := 4) T.F_Path___floordiv__ sc_Path___floordiv__ (len_Path___floordiv__ T) fun cdv A outer s H E hr => ⟨t_Path___floordiv__ T E,
    (pss_cons (ps_if (pt_val (pe_fld (pv 1) rfl)) (pss_one (ps_ret (pv 1))) pss_nil)
    (pss_cons (ps_set (i := 2) sc_Path___floordiv__.nd rfl (Or.inl rfl) (pe_ifExp (pt_cmpR (op_eqA hr.units) (pe_ix ix_seq (pe_fld (pv 0) rfl) (pe_un un_neg pe_int) (fun _ _ => rfl)) pe_str (nomark _)) pe_str pe_str))
    (pss_one (ps_ret (pe_make T.mk_Path G_Path___init__ (hr.mono (by decide)) rfl T.g_Path T.b_Path___init__ .nil passL (pa_cons (pe_op op_addA (pe_op op_addA (pe_fld (pv 0) rfl) (pv 2)) (pe_fld (pv 1) rfl)) pa_nil)))))),
    rd_Path___floordiv__ T E⟩
theorem ok_Path_steps {P : Program} {w : World} {K : PySem.W.Frag} {mg : Str → Option Value} {base : Heap} (T : Txt K mg)  : FnOk P w K mg base (L2.CX P w) 1 T.a_Path_steps T.d_Path_steps ["self"] (spOf K (φ_Path_steps T)) :=
  ok_D (k := 0) T.F_Path_steps sc_Path_steps (len_Path_steps T) fun cdv A outer s H E hr => ⟨t_Path_steps T E,
    (pss_one (ps_ret (pe_lc (own := [("piece", 1)]) rfl sc_Path_steps.nd (pi_any (pe_m1 PySem.F.slot_str_split PySem.F.type_str_split mt_splitA (pe_fld (pv 0) rfl) pe_str)) (blkOk_by (own := [("piece", 1)]) (N := N_Path_steps) (sc := defScope s_Path_steps) (by decide +kernel)) (fun _ _ _ _ _ => (pg_name (i := 1) sc_Path_steps.nd rfl (Or.inl rfl))) (fun _ _ _ _ _ => (pts_one (pt_cmpR (op_neA hr.units) (pv 1) pe_str (nomark _)))) (fun _ _ _ _ _ => (pv 1))))),
    rd_Path_steps T E⟩
theorem ok_Path_last {P : Program} {w : World} {K : PySem.W.Frag} {mg : Str → Option Value} {base : Heap} (T : Txt K mg) (G_Path_steps : FnOk P w K mg base (L2.CX P w) 1 T.a_Path_steps T.d_Path_steps ["self"] (spOf K (φ_Path_steps T))) : FnOk P w K mg base (L2.CX P w) 2 T.a_Path_last T.d_Path_last ["self"] (spOf K (φ_Path_last T)) :=
  ok_D (k := 1) T.F_Path_last sc_Path_last (len_Path_last T) fun cdv A outer s H E hr => ⟨t_Path_last T E,
    (pss_cons (ps_set (i := 1) sc_Path_last.nd rfl (Or.inl rfl) (pe_meth0 (pv 0) T.y_Path.cl T.m_Path_steps G_Path_steps (hr.mono (by decide)) T.b_Path_steps .nil passL))
    (pss_one (ps_ret (pe_ifExp (pt_cmpR (op_neA hr.units) (pv 1) (pe_lst pa_nil) (nomark _)) (pe_ix ix_seq (pv 1) (pe_un un_neg pe_int) (fun _ _ => rfl)) pe_non)))),
    rd_Path_last T E⟩
theorem ok_Path_begin {P : Program} {w : World} {K : PySem.W.Frag} {mg : Str → Option Value} {base : Heap} (T : Txt K mg) (G_Path___init__ : FnOk P w K mg base (L2.CX P w) 3 T.a_Path___init__ T.d_Path___init__ ["self", "text"] (spOf K (φ_Path___init__ T))) (G_Path___len__ : FnOk P w K mg base (L2.CX P w) 2 T.a_Path___len__ T.d_Path___len__ ["self"] (spOf K (φ_Path___len__ T))) (G_Path_last : FnOk P w K mg base (L2.CX P w) 2 T.a_Path_last T.d_Path_last ["self"] (spOf K (φ_Path_last T))) : FnOk P w K mg base (L2.CX P w) 5 T.a_Path_begin T.d_Path_begin ["self"] (spOf K (φ_Path_begin T)) :=
  ok_D (k := 4) T.F_Path_begin sc_Path_begin (len_Path_begin T) fun cdv A outer s H E hr => ⟨t_Path_begin T E,
    (pss_cons (ps_if (pt_cmpR (op_eqA hr.units) (pe_callB (HO1.call_lenO (F := G_Path___len__) (hr := hr.mono (by decide)) (hb := T.b_Path___len__) (hx := passL) (hs := T.op_Path___len__) (hf := T.m_Path___len__.fn)) (by rfl) T.z_len (by decide +kernel) (pa_cons (pv 0) pa_nil)) pe_int (nomark _)) (pss_one (ps_ret (pv 0))) pss_nil)
    (pss_cons (ps_set (i := 1) sc_Path_begin.nd rfl (Or.inl rfl) (pe_m1 PySem.F.slot_str_rstrip PySem.F.type_str_rstrip mt_rstripA (pe_m1 PySem.F.slot_str_removesuffix PySem.F.type_str_removesuffix mt_rmsufA (pe_m1 PySem.F.slot_str_rstrip PySem.F.type_str_rstrip mt_rstripA (pe_fld (pv 0) rfl) pe_str) (pe_meth0 (pv 0) T.y_Path.cl T.m_Path_last G_Path_last (hr.mono (by decide)) T.b_Path_last .nil passL)) pe_str))
    (pss_cons (ps_if (pt_cmpR (op_neA hr.units) (pv 1) pe_str (nomark _)) (pss_one (ps_ret (pe_make T.mk_Path G_Path___init__ (hr.mono (by decide)) rfl T.g_Path T.b_Path___init__ .nil passL (pa_cons (pv 1) pa_nil)))) pss_nil)
    (pss_one (ps_ret (pe_make T.mk_Path G_Path___init__ (hr.mono (by decide)) rfl T.g_Path T.b_Path___init__ .nil passL (pa_cons (pe_ifExp (pt_val (pe_fld (pv 0) rfl)) pe_str pe_str) pa_nil))))))),
    rd_Path_begin T E⟩
theorem ok__law_start {P : Program} {w : World} {K : PySem.W.Frag} {mg : Str → Option Value} {base : Heap} (T : Txt K mg)  : FnOk P w K mg base (L2.CX P w) 1 T.a__law_start T.d__law_start ["_law_script"] (spStart K) := by
  refine okC T.F__law_start sc__law_start (fun vs H Q E h => by obtain ⟨a, ns, rfl, _⟩ := h; rfl) fun cdv A outer s H vs Q E hr h => ⟨t__law_start T E,
    (pss_one (ps_ret (pe_lst (pa_cons (pe_callTy call_listA (by rfl) T.z_list (by decide +kernel) (pa_cons (pv 0) pa_nil)) (pa_cons pe_int (pa_cons pe_int (pa_cons pe_int pa_nil))))))), ?_⟩
  obtain ⟨a, ns, rfl, hS, hl, q⟩ := h
  exact ⟨_, rfl, a, _, rfl, .inl hS, fun c hc => ⟨(by show 4 ≤ sizeLine; decide), fun p hp => q c p hc hp⟩⟩

theorem ok__law_draw {P : Program} {w : World} {K : PySem.W.Frag} {mg : Str → Option Value} {base : Heap} (T : Txt K mg)  : FnOk P w K mg base (L2.CX P w) 1 T.a__law_draw T.d__law_draw ["_law_stream", "_law_many"] (spOf K (φ__law_draw T)) :=
  ok_D (k := 0) T.F__law_draw sc__law_draw (len__law_draw T) fun cdv A outer s H E hr => ⟨t__law_draw T E,
    (pss_cons (ps_asg (pe_op op_addA (pe_ix ix_seq (pv 0) pe_int (fun _ _ => rfl)) pe_int) (pg_sub (pv 0) pe_int set_list))
    (pss_cons (ps_if (PW.pt (pw_and (pt_cmpR (op_eqA hr.units) (pe_ix ix_seq (pv 0) pe_int (fun _ _ => rfl)) pe_int (nomark _)) (pw_and1 (pt_cmpR (op_neA hr.units) (pe_ix ix_seq (pv 0) pe_int (fun _ _ => rfl)) (pe_lst pa_nil) (nomark _))))) (pss_cons (ps_set (i := 2) sc__law_draw.nd rfl (Or.inl rfl) (pe_bm PySem.F.plainAttrs_list PySem.F.slot_list_pop PySem.F.type_list_pop mt_popAt (pe_ix ix_seq (pv 0) pe_int (fun _ _ => rfl)) (pa_cons pe_int pa_nil)))
    (pss_cons (ps_asg (pe_op op_mod (pe_callTy call_intA (by rfl) T.z_int (by decide +kernel) (pa_cons (pe_op op_addA (pe_op op_addA (pe_op op_mulA (pe_ix ix_seq (pv 0) pe_int (fun _ _ => rfl)) pe_int) (pv 2)) pe_int) pa_nil)) pe_int) (pg_sub (pv 0) pe_int set_list))
    (pss_one (ps_asg (pe_ifExp (pt_cmpR op_ge (pv 2) (pe_op op_pow pe_int pe_int) (nomark _)) (pv 2) pe_int) (pg_sub (pv 0) pe_int set_list))))) pss_nil)
    (pss_cons (ps_if (pt_cmpR op_gt (pe_ix ix_seq (pv 0) pe_int (fun _ _ => rfl)) pe_int (nomark _)) (pss_cons (ps_set (i := 3) sc__law_draw.nd rfl (Or.inl rfl) (pe_op op_mod (pe_callTy call_intA (by rfl) T.z_int (by decide +kernel) (pa_cons (pe_ix ix_seq (pv 0) pe_int (fun _ _ => rfl)) pa_nil)) (pv 1)))
    (pss_cons (ps_asg (pe_op op_fdiv (pe_ix ix_seq (pv 0) pe_int (fun _ _ => rfl)) (pv 1)) (pg_sub (pv 0) pe_int set_list))
    (pss_one (ps_ret (pv 3))))) pss_nil)
    (pss_cons (ps_set (i := 4) sc__law_draw.nd rfl (Or.inl rfl) (pe_op op_mod (pe_callTy call_intA (by rfl) T.z_int (by decide +kernel) (pa_cons (pe_op op_pow (pe_op op_addA (pe_op op_addA (pe_ix ix_seq (pv 0) pe_int (fun _ _ => rfl)) (pe_op op_mulA pe_int (pe_ix ix_seq (pv 0) pe_int (fun _ _ => rfl)))) pe_int) pe_int) pa_nil)) pe_int))
    (pss_one (ps_ret (pe_op op_mod (pe_op op_mod (pe_callTy call_intA (by rfl) T.z_int (by decide +kernel) (pa_cons (pe_op op_pow (pe_op op_addA (pe_op op_addA (pe_op op_mulA (pv 4) pe_int) (pe_op op_mulA pe_int (pe_ix ix_seq (pv 0) pe_int (fun _ _ => rfl)))) pe_int) pe_int) pa_nil)) pe_int) (pv 1)))))))),
    rd__law_draw T E⟩
theorem ok__law_pick {P : Program} {w : World} {K : PySem.W.Frag} {mg : Str → Option Value} {base : Heap} (T : Txt K mg) (G__law_draw : FnOk P w K mg base (L2.CX P w) 1 T.a__law_draw T.d__law_draw ["_law_stream", "_law_many"] (spOf K (φ__law_draw T))) : FnOk P w K mg base (L2.CX P w) 2 T.a__law_pick T.d__law_pick ["_law_stream", "_law_some"] (spOf K (φ__law_pick T)) :=
  ok_D (k := 1) T.F__law_pick sc__law_pick (len__law_pick T) fun cdv A outer s H E hr => ⟨t__law_pick T E,
    (pss_one (ps_ret (pe_ix ix_seq (pv 1) (pe_call G__law_draw (hr.mono (by decide)) rfl T.g__law_draw T.F__law_draw.kp T.b__law_draw .nil passL (pa_cons (pv 0) (pa_cons (pe_callB call_lenA (by rfl) T.z_len (by decide +kernel) (pa_cons (pv 1) pa_nil)) pa_nil))) (fun _ _ => rfl)))),
    rd__law_pick T E⟩
theorem ok0__law_same {P : Program} {w : World} {K : PySem.W.Frag} {mg : Str → Option Value} {base : Heap} (T : Txt K mg) (G_Path___eq__ : FnOk P w K mg base (L2.CX P w) 1 T.a_Path___eq__ T.d_Path___eq__ ["self", "other"] (spOf K (φ_Path___eq__ T))) (k n : Nat) (hk : 1 ≤ k) (φ : Phi) (IH : FnOk P w K mg base (L2.CX P w) k T.a__law_same T.d__law_same ["_law_found", "_law_due"] (spOf K φ))
    (hφ : ∀ x ds m nx X, (∃ j, n = j + 1 ∧ SmOk K T.c_Path j x) → ds = [x, x] → nx (blD true) m → φ ds m nx X) : FnOk P w K mg base (L2.CX P w) (k + 1) T.a__law_same T.d__law_same ["_law_found", "_law_due"] (spOf K (φ__law_same T n)) :=
  ok_D (k := k) T.F__law_same sc__law_same (len__law_same T n) fun cdv A outer s H E hrI => have hr := hrI.mono hk; ⟨t__law_same T φ E,
    (pss_cons (ps_if (pt_val (pe_callB call_isiA (by rfl) T.z_isinstance (by decide +kernel) (pa_cons (pv 1) (pa_cons (pe_tup (pa_cons (pe_bltn (v := .ty "list") (by rfl) T.z_list (by decide +kernel) rfl) (pa_cons (pe_bltn (v := .ty "tuple") (by rfl) T.z_tuple (by decide +kernel) rfl) pa_nil))) pa_nil)))) (pss_cons (ps_if (PW.pt (pw_or (pt_cmpR (op_neA hr.units) (pe_callB call_isiA (by rfl) T.z_isinstance (by decide +kernel) (pa_cons (pv 0) (pa_cons (pe_bltn (v := .ty "list") (by rfl) T.z_list (by decide +kernel) rfl) pa_nil))) (pe_callB call_isiA (by rfl) T.z_isinstance (by decide +kernel) (pa_cons (pv 1) (pa_cons (pe_bltn (v := .ty "list") (by rfl) T.z_list (by decide +kernel) rfl) pa_nil))) (nomark _)) (pw_or1 (pt_cmpR (op_neA hr.units) (pe_callB call_isiA (by rfl) T.z_isinstance (by decide +kernel) (pa_cons (pv 0) (pa_cons (pe_bltn (v := .ty "tuple") (by rfl) T.z_tuple (by decide +kernel) rfl) pa_nil))) (pe_callB call_isiA (by rfl) T.z_isinstance (by decide +kernel) (pa_cons (pv 1) (pa_cons (pe_bltn (v := .ty "tuple") (by rfl) T.z_tuple (by decide +kernel) rfl) pa_nil))) (nomark _))))) (pss_one (ps_ret pe_bl)) pss_nil)
    (pss_one (ps_ret (pe_and (pe_cmpR (op_eqA hr.units) (pe_callB call_lenA (by rfl) T.z_len (by decide +kernel) (pa_cons (pv 0) pa_nil)) (pe_callB call_lenA (by rfl) T.z_len (by decide +kernel) (pa_cons (pv 1) pa_nil)) (nomark _)) (pe_one (pe_callB (cr_all rfl) (by rfl) T.z_all (by decide +kernel) (pa_cons (pe_lc (own := [("_law_x", 2), ("_law_y", 3)]) rfl sc__law_same.nd (RZ.pi_zipA (by rfl) T.z_zip (pa_cons (pv 0) (pa_cons (pv 1) pa_nil))) (blkOk_by (own := [("_law_x", 2), ("_law_y", 3)]) (N := N__law_same) (sc := defScope s__law_same) (by decide +kernel)) (fun _ _ _ _ _ => (pg_tup rfl (pgs_cons (pg_name (i := 2) sc__law_same.nd rfl (Or.inl rfl)) (pgs_cons (pg_name (i := 3) sc__law_same.nd rfl (Or.inl rfl)) pgs_nil)))) (fun _ _ _ _ _ => pts_nil) (fun _ _ _ _ _ => (pe_call IH hrI rfl T.g__law_same T.F__law_same.kp T.b__law_same .nil passL (pa_cons (pv 2) (pa_cons (pv 3) pa_nil))))) pa_nil))))))) pss_nil)
    (pss_cons (ps_if (pt_val (pe_callB call_isiA (by rfl) T.z_isinstance (by decide +kernel) (pa_cons (pv 1) (pa_cons (pe_bltn (v := .ty "int") (by rfl) T.z_int (by decide +kernel) rfl) pa_nil)))) (pss_one (ps_ret (pe_and (pe_callB call_isiA (by rfl) T.z_isinstance (by decide +kernel) (pa_cons (pv 0) (pa_cons (pe_bltn (v := .ty "int") (by rfl) T.z_int (by decide +kernel) rfl) pa_nil))) (pe_and (pe_cmpR (op_eqA hr.units) (pe_callB call_isiA (by rfl) T.z_isinstance (by decide +kernel) (pa_cons (pv 0) (pa_cons (pe_bltn (v := .ty "bool") (by rfl) T.z_bool (by decide +kernel) rfl) pa_nil))) (pe_callB call_isiA (by rfl) T.z_isinstance (by decide +kernel) (pa_cons (pv 1) (pa_cons (pe_bltn (v := .ty "bool") (by rfl) T.z_bool (by decide +kernel) rfl) pa_nil))) (nomark _)) (pe_one (pe_cmpR (OpR.or (op_eqA hr.units) (OpR.or (HDp.op_eqW (HXv.room64 hr)) (HO1.op_cmpO (hop := fun _ _ => rfl) (F := G_Path___eq__) (hr := hr.mono (by decide)) (hb := T.b_Path___eq__) (hx := passL) (hs := T.op_Path___eq__) (hf := T.m_Path___eq__.fn)))) (pv 0) (pv 1) (nomark _))))))) pss_nil)
    (pss_one (ps_ret (pe_and (pe_cmpR op_isBl (pe_callB call_isiA (by rfl) T.z_isinstance (by decide +kernel) (pa_cons (pv 0) (pa_cons (pe_tup (pa_cons (pe_bltn (v := .ty "int") (by rfl) T.z_int (by decide +kernel) rfl) (pa_cons (pe_bltn (v := .ty "list") (by rfl) T.z_list (by decide +kernel) rfl) (pa_cons (pe_bltn (v := .ty "tuple") (by rfl) T.z_tuple (by decide +kernel) rfl) pa_nil)))) pa_nil))) pe_bl (nomark _)) (pe_one (pe_cmpR (OpR.or (op_eqA hr.units) (OpR.or (HDp.op_eqW (HXv.room64 hr)) (HO1.op_cmpO (hop := fun _ _ => rfl) (F := G_Path___eq__) (hr := hr.mono (by decide)) (hb := T.b_Path___eq__) (hx := passL) (hs := T.op_Path___eq__) (hf := T.m_Path___eq__.fn)))) (pv 0) (pv 1) (nomark _)))))))),
    rd__law_same T E n φ hφ⟩
theorem ok__law_same {P : Program} {w : World} {K : PySem.W.Frag} {mg : Str → Option Value} {base : Heap} (T : Txt K mg) (G_Path___eq__ : FnOk P w K mg base (L2.CX P w) 1 T.a_Path___eq__ T.d_Path___eq__ ["self", "other"] (spOf K (φ_Path___eq__ T))) : ∀ n : Nat, FnOk P w K mg base (L2.CX P w) (n + 2) T.a__law_same T.d__law_same ["_law_found", "_law_due"] (spOf K (φ__law_same T n))
  | 0 => ok0__law_same T G_Path___eq__ 1 0 (by decide) (fun _ _ _ _ => False) ⟨fun vs H Q E h => by obtain ⟨_, _, _, _, _, _, _, _, z, _⟩ := h; exact z.elim, fun A outer s H args us vs Q E hr e0 hb r h => by obtain ⟨_, _, _, _, _, _, _, _, z, _⟩ := h; exact z.elim⟩ fun x ds m nx X h => by obtain ⟨j, z, _⟩ := h; cases z
  | n + 1 => ok0__law_same T G_Path___eq__ (n + 2) (n + 1) (by omega) _ (ok__law_same T G_Path___eq__ n) fun x ds m nx X h e q => by
      obtain ⟨j, z, h⟩ := h
      cases z
      exact ⟨x, e, h, q⟩

theorem ok0__law_frozen {P : Program} {w : World} {K : PySem.W.Frag} {mg : Str → Option Value} {base : Heap} (T : Txt K mg) (k n : Nat) (φ : Phi) (IH : FnOk P w K mg base (L2.CX P w) k T.a__law_frozen T.d__law_frozen ["_law_thing_here"] (spOf K φ))
    (hφ : ∀ j x ds m nx X, n = j + 1 → FrOk K T.c_Path j x → ds = [x] → nx (frz j x) m → φ ds m nx X) : FnOk P w K mg base (L2.CX P w) (k + 1) T.a__law_frozen T.d__law_frozen ["_law_thing_here"] (spOf K (φ__law_frozen T n)) :=
  ok_D (k := k) T.F__law_frozen sc__law_frozen (len__law_frozen T n) fun cdv A outer s H E hr => have hrI := hr; ⟨t__law_frozen T φ E,
    (pss_cons (ps_if (pt_val (pe_callB call_isiA (by rfl) T.z_isinstance (by decide +kernel) (pa_cons (pv 0) (pa_cons (pe_bltn (v := .ty "dict") (by rfl) T.z_dict (by decide +kernel) rfl) pa_nil)))) (pss_one (ps_ret (HXv.pe_frz (pe_callTy (HM1.call_dictPK rfl) (by rfl) T.z_dict (by decide +kernel) (pa_cons (pe_lc (own := [("_law_key", 1)]) rfl sc__law_frozen.nd (HH1.pi_ky (pv 0)) (blkOk_by (own := [("_law_key", 1)]) (N := N__law_frozen) (sc := defScope s__law_frozen) (by decide +kernel)) (fun _ _ _ _ _ => (pg_name (i := 1) sc__law_frozen.nd rfl (Or.inl rfl))) (fun _ _ _ _ _ => pts_nil) (fun _ _ _ _ _ => (pe_tup (pa_cons (pv 1) (pa_cons (pe_call IH hrI rfl T.g__law_frozen T.F__law_frozen.kp T.b__law_frozen .nil passL (pa_cons (pe_dget (HP1.room1 hr) (pv 0) (pv 1) (fun _ _ => rfl)) pa_nil)) pa_nil))))) pa_nil))))) pss_nil)
    (pss_one (ps_ret (pe_ifExp (pt_val (pe_callB call_isiA (by rfl) T.z_isinstance (by decide +kernel) (pa_cons (pv 0) (pa_cons (pe_tup (pa_cons (pe_bltn (v := .ty "list") (by rfl) T.z_list (by decide +kernel) rfl) (pa_cons (pe_bltn (v := .ty "tuple") (by rfl) T.z_tuple (by decide +kernel) rfl) pa_nil))) pa_nil)))) (pe_callTy call_tupA (by rfl) T.z_tuple (by decide +kernel) (pa_cons (pe_lc (own := [("_law_part", 2)]) rfl sc__law_frozen.nd (HH1.pi_LT (pv 0)) (blkOk_by (own := [("_law_part", 2)]) (N := N__law_frozen) (sc := defScope s__law_frozen) (by decide +kernel)) (fun _ _ _ _ _ => (pg_name (i := 2) sc__law_frozen.nd rfl (Or.inl rfl))) (fun _ _ _ _ _ => pts_nil) (fun _ _ _ _ _ => (pe_call IH hrI rfl T.g__law_frozen T.F__law_frozen.kp T.b__law_frozen .nil passL (pa_cons (pv 2) pa_nil)))) pa_nil)) (pv 0))))),
    rd__law_frozen T E n φ hφ⟩
theorem ok__law_frozen {P : Program} {w : World} {K : PySem.W.Frag} {mg : Str → Option Value} {base : Heap} (T : Txt K mg) : ∀ n : Nat, FnOk P w K mg base (L2.CX P w) (n + 2) T.a__law_frozen T.d__law_frozen ["_law_thing_here"] (spOf K (φ__law_frozen T n))
  | 0 => ok0__law_frozen T 1 0 (fun _ _ _ _ => False) ⟨fun vs H Q E h => by obtain ⟨_, _, _, _, _, _, _, _, z, _⟩ := h; exact z.elim, fun A outer s H args us vs Q E hr e0 hb r h => by obtain ⟨_, _, _, _, _, _, _, _, z, _⟩ := h; exact z.elim⟩ fun j x ds m nx X z => by cases z
  | n + 1 => ok0__law_frozen T (n + 2) (n + 1) _ (ok__law_frozen T n) fun j x ds m nx X z h e q => by
      cases z
      exact ⟨x, e, h, q⟩


theorem ok0__law_thing {P : Program} {w : World} {K : PySem.W.Frag} {mg : Str → Option Value} {base : Heap} (T : Txt K mg) (G_Path___init__ : FnOk P w K mg base (L2.CX P w) 3 T.a_Path___init__ T.d_Path___init__ ["self", "text"] (spOf K (φ_Path___init__ T))) (G__law_draw : FnOk P w K mg base (L2.CX P w) 1 T.a__law_draw T.d__law_draw ["_law_stream", "_law_many"] (spOf K (φ__law_draw T))) (G__law_pick : FnOk P w K mg base (L2.CX P w) 2 T.a__law_pick T.d__law_pick ["_law_stream", "_law_some"] (spOf K (φ__law_pick T))) (k n : Nat) (hk : 4 ≤ k) (φ : Phi) (IH : FnOk P w K mg base (L2.CX P w) k T.a__law_thing T.d__law_thing ["_law_stream", "_law_deep"] (spOf K φ))
    (hφ : ∀ k p ds m nx X, n = k + 1 → ds = [.s (.ref p), intD k] → Stream m p → m.cnt + thN k < 1000000000 → k ≤ 2 → (∀ d, FrOk K T.c_Path (2 * k + 2) d → nx d (more m (thN k))) → φ ds m nx X) : FnOk P w K mg base (L2.CX P w) (k + 1) T.a__law_thing T.d__law_thing ["_law_stream", "_law_deep"] (spOf K (φ__law_thing T n)) :=
  ok_D (k := k) T.F__law_thing sc__law_thing (len__law_thing T n) fun cdv A outer s H E hrI => have hr := hrI.mono hk; ⟨t__law_thing T φ E,
    (pss_cons (ps_set (i := 2) sc__law_thing.nd rfl (Or.inl rfl) (pe_call G__law_draw (hr.mono (by decide)) rfl T.g__law_draw T.F__law_draw.kp T.b__law_draw .nil passL (pa_cons (pv 0) (pa_cons (pe_ifExp (pt_cmpR op_gt (pv 1) pe_int (nomark _)) pe_int pe_int) pa_nil))))
    (pss_cons (ps_if (pt_cmpR op_lt (pv 2) pe_int (nomark _)) (pss_one (ps_ret (pe_call G__law_pick (hr.mono (by decide)) rfl T.g__law_pick T.F__law_pick.kp T.b__law_pick .nil passL (pa_cons (pv 0) (pa_cons (pe_lst (pa_cons pe_non (pa_cons pe_bl (pa_cons pe_bl (pa_cons pe_int (pa_cons (pe_un un_neg pe_int) (pa_cons (pe_op op_pow pe_int pe_int) (pa_cons pe_str (pa_cons pe_str (pa_cons (pe_tup (pa_cons pe_str pa_nil)) (pa_cons (pe_make T.mk_Path G_Path___init__ (hr.mono (by decide)) rfl T.g_Path T.b_Path___init__ .nil passL (pa_cons pe_str pa_nil)) pa_nil))))))))))) pa_nil))))) pss_nil)
    (pss_cons (ps_setLc (own := [("_law_k", 4)]) (i := 3) rfl sc__law_thing.nd rfl rfl (sw_true rfl rfl rfl (by decide +kernel)) (pi_range1 rfl T.z_range (pa_cons (pe_call G__law_draw (hr.mono (by decide)) rfl T.g__law_draw T.F__law_draw.kp T.b__law_draw .nil passL (pa_cons (pv 0) (pa_cons pe_int pa_nil))) pa_nil)) (blkOk_by (own := [("_law_k", 4)]) (N := N__law_thing) (sc := defScope s__law_thing) (by decide +kernel)) (fun _ _ _ _ _ => (pg_name (i := 4) sc__law_thing.nd rfl (Or.inl rfl))) (fun _ _ _ _ _ => pts_nil) (fun _ _ _ _ _ => (pe_call IH hrI rfl T.g__law_thing T.F__law_thing.kp T.b__law_thing .nil passL (pa_cons (pv 0) (pa_cons (pe_op op_sub (pv 1) pe_int) pa_nil)))))
    (pss_one (ps_ret (pe_ifExp (pt_cmpR (op_eqA hr.units) (pv 2) pe_int (nomark _)) (pv 3) (HXv.pe_frz (pe_disp (pps_cons pe_str (pv 3) pps_nil) rfl rfl (List.cons_ne_nil _ _) (by decide))))))))),
    rd__law_thing T E n φ hφ⟩
theorem ok__law_thing {P : Program} {w : World} {K : PySem.W.Frag} {mg : Str → Option Value} {base : Heap} (T : Txt K mg) (G_Path___init__ : FnOk P w K mg base (L2.CX P w) 3 T.a_Path___init__ T.d_Path___init__ ["self", "text"] (spOf K (φ_Path___init__ T))) (G__law_draw : FnOk P w K mg base (L2.CX P w) 1 T.a__law_draw T.d__law_draw ["_law_stream", "_law_many"] (spOf K (φ__law_draw T))) (G__law_pick : FnOk P w K mg base (L2.CX P w) 2 T.a__law_pick T.d__law_pick ["_law_stream", "_law_some"] (spOf K (φ__law_pick T))) : ∀ n : Nat, FnOk P w K mg base (L2.CX P w) (n + 6) T.a__law_thing T.d__law_thing ["_law_stream", "_law_deep"] (spOf K (φ__law_thing T n))
  | 0 => ok0__law_thing T G_Path___init__ G__law_draw G__law_pick 5 0 (by decide) (fun _ _ _ _ => False) ⟨fun vs H Q E h => by obtain ⟨_, _, _, _, _, _, _, _, z, _⟩ := h; exact z.elim, fun A outer s H args us vs Q E hr e0 hb r h => by obtain ⟨_, _, _, _, _, _, _, _, z, _⟩ := h; exact z.elim⟩ fun k p ds m nx X z => by cases z
  | n + 1 => ok0__law_thing T G_Path___init__ G__law_draw G__law_pick (n + 6) (n + 1) (by omega) _ (ok__law_thing T G_Path___init__ G__law_draw G__law_pick n) fun k p ds m nx X z h h1 h2 h3 h4 => by
      cases z
      exact ⟨p, h, h1, h2, h3, h4⟩

theorem ok__law_by_place {P : Program} {w : World} {K : PySem.W.Frag} {mg : Str → Option Value} {base : Heap} (T : Txt K mg) (G_BadDeed___init__ : FnOk P w K mg base (L2.CX P w) 1 T.a_BadDeed___init__ T.d_BadDeed___init__ ["self", "deed"] (HX1.spExc T.c_BadDeed "deed")) (G_BadFact___init__ : FnOk P w K mg base (L2.CX P w) 1 T.a_BadFact___init__ T.d_BadFact___init__ ["self", "index"] (HX1.spExc T.c_BadFact "index")) (G_BadName___init__ : FnOk P w K mg base (L2.CX P w) 1 T.a_BadName___init__ T.d_BadName___init__ ["self", "name"] (HX1.spExc T.c_BadName "name")) (G_BadPath___init__ : FnOk P w K mg base (L2.CX P w) 1 T.a_BadPath___init__ T.d_BadPath___init__ ["self", "text"] (HX1.spExc T.c_BadPath "text")) (G_BadShape___init__ : FnOk P w K mg base (L2.CX P w) 1 T.a_BadShape___init__ T.d_BadShape___init__ ["self", "text"] (HX1.spExc T.c_BadShape "text")) (G_BadStart___init__ : FnOk P w K mg base (L2.CX P w) 1 T.a_BadStart___init__ T.d_BadStart___init__ ["self", "start"] (HX1.spExc T.c_BadStart "start")) (G_BadText___init__ : FnOk P w K mg base (L2.CX P w) 1 T.a_BadText___init__ T.d_BadText___init__ ["self", "line"] (HX1.spExc T.c_BadText "line")) (G_BadWord___init__ : FnOk P w K mg base (L2.CX P w) 1 T.a_BadWord___init__ T.d_BadWord___init__ ["self", "word"] (HX1.spExc T.c_BadWord "word")) (G_Clash___init__ : FnOk P w K mg base (L2.CX P w) 1 T.a_Clash___init__ T.d_Clash___init__ ["self", "index"] (HX1.spExc T.c_Clash "index")) (G_Held___init__ : FnOk P w K mg base (L2.CX P w) 1 T.a_Held___init__ T.d_Held___init__ ["self", "name"] (HX1.spExc T.c_Held "name")) (G_Inside___init__ : FnOk P w K mg base (L2.CX P w) 1 T.a_Inside___init__ T.d_Inside___init__ ["self", "place"] (HX1.spExc T.c_Inside "place")) (G_NoFolder___init__ : FnOk P w K mg base (L2.CX P w) 1 T.a_NoFolder___init__ T.d_NoFolder___init__ ["self", "place"] (HX1.spExc T.c_NoFolder "place")) (G_NoRelative___init__ : FnOk P w K mg base (L2.CX P w) 1 T.a_NoRelative___init__ T.d_NoRelative___init__ ["self", "path"] (HX1.spExc T.c_NoRelative "path")) (G_NoThing___init__ : FnOk P w K mg base (L2.CX P w) 1 T.a_NoThing___init__ T.d_NoThing___init__ ["self", "place"] (HX1.spExc T.c_NoThing "place")) (G_NoValue___init__ : FnOk P w K mg base (L2.CX P w) 1 T.a_NoValue___init__ T.d_NoValue___init__ ["self", "letter"] (HX1.spExc T.c_NoValue "letter")) (G_NotBegun___init__ : FnOk P w K mg base (L2.CX P w) 1 T.a_NotBegun___init__ T.d_NotBegun___init__ ["self", "other"] (HX1.spExc T.c_NotBegun "other")) (G_NotEmpty___init__ : FnOk P w K mg base (L2.CX P w) 1 T.a_NotEmpty___init__ T.d_NotEmpty___init__ ["self", "place"] (HX1.spExc T.c_NotEmpty "place")) (G_NotHeld___init__ : FnOk P w K mg base (L2.CX P w) 1 T.a_NotHeld___init__ T.d_NotHeld___init__ ["self", "name"] (HX1.spExc T.c_NotHeld "name")) (G_NotTold___init__ : FnOk P w K mg base (L2.CX P w) 1 T.a_NotTold___init__ T.d_NotTold___init__ ["self", "place"] (HX1.spExc T.c_NotTold "place")) (G_StillAsked___init__ : FnOk P w K mg base (L2.CX P w) 1 T.a_StillAsked___init__ T.d_StillAsked___init__ ["self", "path"] (HX1.spExc T.c_StillAsked "path")) (G_Taken___init__ : FnOk P w K mg base (L2.CX P w) 1 T.a_Taken___init__ T.d_Taken___init__ ["self", "place"] (HX1.spExc T.c_Taken "place")) : FnOk P w K mg base (L2.CX P w) 3 T.a__law_by_place T.d__law_by_place ["_law_x"] (spOf K (φ__law_by_place T)) :=
  ok_D (k := 2) T.F__law_by_place sc__law_by_place (len__law_by_place T) fun cdv A outer s H E hr => ⟨t__law_by_place T E,
    (pss_cons (ps_set (i := 1) sc__law_by_place.nd rfl (Or.inl rfl) (pe_lst (pa_cons (HXv.pe_oexV T.oe_BadPath T.ei_BadPath T.et_BadPath G_BadPath___init__ (hr.mono (by decide)) T.b_BadPath___init__ .nil passL rfl T.g_BadPath (pa_cons (pv 0) pa_nil)) (pa_cons (HXv.pe_oexV T.oe_NotBegun T.ei_NotBegun T.et_NotBegun G_NotBegun___init__ (hr.mono (by decide)) T.b_NotBegun___init__ .nil passL rfl T.g_NotBegun (pa_cons (pv 0) pa_nil)) (pa_cons (HXv.pe_oexV T.oe_NoRelative T.ei_NoRelative T.et_NoRelative G_NoRelative___init__ (hr.mono (by decide)) T.b_NoRelative___init__ .nil passL rfl T.g_NoRelative (pa_cons (pv 0) pa_nil)) (pa_cons (HXv.pe_oexV T.oe_NoFolder T.ei_NoFolder T.et_NoFolder G_NoFolder___init__ (hr.mono (by decide)) T.b_NoFolder___init__ .nil passL rfl T.g_NoFolder (pa_cons (pv 0) pa_nil)) (pa_cons (HXv.pe_oexV T.oe_Taken T.ei_Taken T.et_Taken G_Taken___init__ (hr.mono (by decide)) T.b_Taken___init__ .nil passL rfl T.g_Taken (pa_cons (pv 0) pa_nil)) (pa_cons (HXv.pe_oexV T.oe_NoThing T.ei_NoThing T.et_NoThing G_NoThing___init__ (hr.mono (by decide)) T.b_NoThing___init__ .nil passL rfl T.g_NoThing (pa_cons (pv 0) pa_nil)) (pa_cons (HXv.pe_oexV T.oe_NotEmpty T.ei_NotEmpty T.et_NotEmpty G_NotEmpty___init__ (hr.mono (by decide)) T.b_NotEmpty___init__ .nil passL rfl T.g_NotEmpty (pa_cons (pv 0) pa_nil)) (pa_cons (HXv.pe_oexV T.oe_Inside T.ei_Inside T.et_Inside G_Inside___init__ (hr.mono (by decide)) T.b_Inside___init__ .nil passL rfl T.g_Inside (pa_cons (pv 0) pa_nil)) pa_nil))))))))))
    (pss_cons (ps_set (i := 1) sc__law_by_place.nd rfl (Or.inl rfl) (pe_op op_addA (pv 1) (pe_lst (pa_cons (HXv.pe_oexV T.oe_BadFact T.ei_BadFact T.et_BadFact G_BadFact___init__ (hr.mono (by decide)) T.b_BadFact___init__ .nil passL rfl T.g_BadFact (pa_cons (pv 0) pa_nil)) (pa_cons (HXv.pe_oexV T.oe_BadStart T.ei_BadStart T.et_BadStart G_BadStart___init__ (hr.mono (by decide)) T.b_BadStart___init__ .nil passL rfl T.g_BadStart (pa_cons (pv 0) pa_nil)) (pa_cons (HXv.pe_oexV T.oe_Clash T.ei_Clash T.et_Clash G_Clash___init__ (hr.mono (by decide)) T.b_Clash___init__ .nil passL rfl T.g_Clash (pa_cons (pv 0) pa_nil)) (pa_cons (HXv.pe_oexV T.oe_BadWord T.ei_BadWord T.et_BadWord G_BadWord___init__ (hr.mono (by decide)) T.b_BadWord___init__ .nil passL rfl T.g_BadWord (pa_cons (pv 0) pa_nil)) (pa_cons (HXv.pe_oexV T.oe_StillAsked T.ei_StillAsked T.et_StillAsked G_StillAsked___init__ (hr.mono (by decide)) T.b_StillAsked___init__ .nil passL rfl T.g_StillAsked (pa_cons (pv 0) pa_nil)) (pa_cons (HXv.pe_oexV T.oe_NotTold T.ei_NotTold T.et_NotTold G_NotTold___init__ (hr.mono (by decide)) T.b_NotTold___init__ .nil passL rfl T.g_NotTold (pa_cons (pv 0) pa_nil)) (pa_cons (HXv.pe_oexV T.oe_BadShape T.ei_BadShape T.et_BadShape G_BadShape___init__ (hr.mono (by decide)) T.b_BadShape___init__ .nil passL rfl T.g_BadShape (pa_cons (pv 0) pa_nil)) (pa_cons (HXv.pe_oexV T.oe_NoValue T.ei_NoValue T.et_NoValue G_NoValue___init__ (hr.mono (by decide)) T.b_NoValue___init__ .nil passL rfl T.g_NoValue (pa_cons (pv 0) pa_nil)) pa_nil)))))))))))
    (pss_one (ps_ret (pe_op op_addA (pv 1) (pe_lst (pa_cons (HXv.pe_oexV T.oe_BadName T.ei_BadName T.et_BadName G_BadName___init__ (hr.mono (by decide)) T.b_BadName___init__ .nil passL rfl T.g_BadName (pa_cons (pv 0) pa_nil)) (pa_cons (HXv.pe_oexV T.oe_Held T.ei_Held T.et_Held G_Held___init__ (hr.mono (by decide)) T.b_Held___init__ .nil passL rfl T.g_Held (pa_cons (pv 0) pa_nil)) (pa_cons (HXv.pe_oexV T.oe_NotHeld T.ei_NotHeld T.et_NotHeld G_NotHeld___init__ (hr.mono (by decide)) T.b_NotHeld___init__ .nil passL rfl T.g_NotHeld (pa_cons (pv 0) pa_nil)) (pa_cons (HXv.pe_oexV T.oe_BadDeed T.ei_BadDeed T.et_BadDeed G_BadDeed___init__ (hr.mono (by decide)) T.b_BadDeed___init__ .nil passL rfl T.g_BadDeed (pa_cons (pv 0) pa_nil)) (pa_cons (HXv.pe_oexV T.oe_BadText T.ei_BadText T.et_BadText G_BadText___init__ (hr.mono (by decide)) T.b_BadText___init__ .nil passL rfl T.g_BadText (pa_cons (pv 0) pa_nil)) pa_nil))))))))))),
    rd__law_by_place T E⟩
theorem ok__law_by_name {P : Program} {w : World} {K : PySem.W.Frag} {mg : Str → Option Value} {base : Heap} (T : Txt K mg) (G_BadDeed___init__ : FnOk P w K mg base (L2.CX P w) 1 T.a_BadDeed___init__ T.d_BadDeed___init__ ["self", "deed"] (HX1.spExc T.c_BadDeed "deed")) (G_BadFact___init__ : FnOk P w K mg base (L2.CX P w) 1 T.a_BadFact___init__ T.d_BadFact___init__ ["self", "index"] (HX1.spExc T.c_BadFact "index")) (G_BadName___init__ : FnOk P w K mg base (L2.CX P w) 1 T.a_BadName___init__ T.d_BadName___init__ ["self", "name"] (HX1.spExc T.c_BadName "name")) (G_BadPath___init__ : FnOk P w K mg base (L2.CX P w) 1 T.a_BadPath___init__ T.d_BadPath___init__ ["self", "text"] (HX1.spExc T.c_BadPath "text")) (G_BadShape___init__ : FnOk P w K mg base (L2.CX P w) 1 T.a_BadShape___init__ T.d_BadShape___init__ ["self", "text"] (HX1.spExc T.c_BadShape "text")) (G_BadStart___init__ : FnOk P w K mg base (L2.CX P w) 1 T.a_BadStart___init__ T.d_BadStart___init__ ["self", "start"] (HX1.spExc T.c_BadStart "start")) (G_BadText___init__ : FnOk P w K mg base (L2.CX P w) 1 T.a_BadText___init__ T.d_BadText___init__ ["self", "line"] (HX1.spExc T.c_BadText "line")) (G_BadWord___init__ : FnOk P w K mg base (L2.CX P w) 1 T.a_BadWord___init__ T.d_BadWord___init__ ["self", "word"] (HX1.spExc T.c_BadWord "word")) (G_Clash___init__ : FnOk P w K mg base (L2.CX P w) 1 T.a_Clash___init__ T.d_Clash___init__ ["self", "index"] (HX1.spExc T.c_Clash "index")) (G_Held___init__ : FnOk P w K mg base (L2.CX P w) 1 T.a_Held___init__ T.d_Held___init__ ["self", "name"] (HX1.spExc T.c_Held "name")) (G_Inside___init__ : FnOk P w K mg base (L2.CX P w) 1 T.a_Inside___init__ T.d_Inside___init__ ["self", "place"] (HX1.spExc T.c_Inside "place")) (G_NoFolder___init__ : FnOk P w K mg base (L2.CX P w) 1 T.a_NoFolder___init__ T.d_NoFolder___init__ ["self", "place"] (HX1.spExc T.c_NoFolder "place")) (G_NoRelative___init__ : FnOk P w K mg base (L2.CX P w) 1 T.a_NoRelative___init__ T.d_NoRelative___init__ ["self", "path"] (HX1.spExc T.c_NoRelative "path")) (G_NoThing___init__ : FnOk P w K mg base (L2.CX P w) 1 T.a_NoThing___init__ T.d_NoThing___init__ ["self", "place"] (HX1.spExc T.c_NoThing "place")) (G_NoValue___init__ : FnOk P w K mg base (L2.CX P w) 1 T.a_NoValue___init__ T.d_NoValue___init__ ["self", "letter"] (HX1.spExc T.c_NoValue "letter")) (G_NotBegun___init__ : FnOk P w K mg base (L2.CX P w) 1 T.a_NotBegun___init__ T.d_NotBegun___init__ ["self", "other"] (HX1.spExc T.c_NotBegun "other")) (G_NotEmpty___init__ : FnOk P w K mg base (L2.CX P w) 1 T.a_NotEmpty___init__ T.d_NotEmpty___init__ ["self", "place"] (HX1.spExc T.c_NotEmpty "place")) (G_NotHeld___init__ : FnOk P w K mg base (L2.CX P w) 1 T.a_NotHeld___init__ T.d_NotHeld___init__ ["self", "name"] (HX1.spExc T.c_NotHeld "name")) (G_NotTold___init__ : FnOk P w K mg base (L2.CX P w) 1 T.a_NotTold___init__ T.d_NotTold___init__ ["self", "place"] (HX1.spExc T.c_NotTold "place")) (G_StillAsked___init__ : FnOk P w K mg base (L2.CX P w) 1 T.a_StillAsked___init__ T.d_StillAsked___init__ ["self", "path"] (HX1.spExc T.c_StillAsked "path")) (G_Taken___init__ : FnOk P w K mg base (L2.CX P w) 1 T.a_Taken___init__ T.d_Taken___init__ ["self", "place"] (HX1.spExc T.c_Taken "place")) : FnOk P w K mg base (L2.CX P w) 3 T.a__law_by_name T.d__law_by_name ["_law_x"] (spOf K (φ__law_by_name T)) :=
  ok_D (k := 2) T.F__law_by_name sc__law_by_name (len__law_by_name T) fun cdv A outer s H E hr => ⟨t__law_by_name T E,
    (pss_cons (ps_set (i := 1) sc__law_by_name.nd rfl (Or.inl rfl) (pe_lst (pa_cons (HXv.pe_oexVK (ks := ["text"]) T.oe_BadPath T.ei_BadPath T.et_BadPath G_BadPath___init__ (hr.mono (by decide)) T.kb_BadPath___init___text passL rfl T.g_BadPath (pk_cons (pv 0) pk_nil)) (pa_cons (HXv.pe_oexVK (ks := ["other"]) T.oe_NotBegun T.ei_NotBegun T.et_NotBegun G_NotBegun___init__ (hr.mono (by decide)) T.kb_NotBegun___init___other passL rfl T.g_NotBegun (pk_cons (pv 0) pk_nil)) (pa_cons (HXv.pe_oexVK (ks := ["path"]) T.oe_NoRelative T.ei_NoRelative T.et_NoRelative G_NoRelative___init__ (hr.mono (by decide)) T.kb_NoRelative___init___path passL rfl T.g_NoRelative (pk_cons (pv 0) pk_nil)) (pa_cons (HXv.pe_oexVK (ks := ["place"]) T.oe_NoFolder T.ei_NoFolder T.et_NoFolder G_NoFolder___init__ (hr.mono (by decide)) T.kb_NoFolder___init___place passL rfl T.g_NoFolder (pk_cons (pv 0) pk_nil)) (pa_cons (HXv.pe_oexVK (ks := ["place"]) T.oe_Taken T.ei_Taken T.et_Taken G_Taken___init__ (hr.mono (by decide)) T.kb_Taken___init___place passL rfl T.g_Taken (pk_cons (pv 0) pk_nil)) pa_nil)))))))
    (pss_cons (ps_set (i := 1) sc__law_by_name.nd rfl (Or.inl rfl) (pe_op op_addA (pv 1) (pe_lst (pa_cons (HXv.pe_oexVK (ks := ["place"]) T.oe_NoThing T.ei_NoThing T.et_NoThing G_NoThing___init__ (hr.mono (by decide)) T.kb_NoThing___init___place passL rfl T.g_NoThing (pk_cons (pv 0) pk_nil)) (pa_cons (HXv.pe_oexVK (ks := ["place"]) T.oe_NotEmpty T.ei_NotEmpty T.et_NotEmpty G_NotEmpty___init__ (hr.mono (by decide)) T.kb_NotEmpty___init___place passL rfl T.g_NotEmpty (pk_cons (pv 0) pk_nil)) (pa_cons (HXv.pe_oexVK (ks := ["place"]) T.oe_Inside T.ei_Inside T.et_Inside G_Inside___init__ (hr.mono (by decide)) T.kb_Inside___init___place passL rfl T.g_Inside (pk_cons (pv 0) pk_nil)) (pa_cons (HXv.pe_oexVK (ks := ["index"]) T.oe_BadFact T.ei_BadFact T.et_BadFact G_BadFact___init__ (hr.mono (by decide)) T.kb_BadFact___init___index passL rfl T.g_BadFact (pk_cons (pv 0) pk_nil)) (pa_cons (HXv.pe_oexVK (ks := ["start"]) T.oe_BadStart T.ei_BadStart T.et_BadStart G_BadStart___init__ (hr.mono (by decide)) T.kb_BadStart___init___start passL rfl T.g_BadStart (pk_cons (pv 0) pk_nil)) pa_nil))))))))
    (pss_cons (ps_set (i := 1) sc__law_by_name.nd rfl (Or.inl rfl) (pe_op op_addA (pv 1) (pe_lst (pa_cons (HXv.pe_oexVK (ks := ["index"]) T.oe_Clash T.ei_Clash T.et_Clash G_Clash___init__ (hr.mono (by decide)) T.kb_Clash___init___index passL rfl T.g_Clash (pk_cons (pv 0) pk_nil)) (pa_cons (HXv.pe_oexVK (ks := ["word"]) T.oe_BadWord T.ei_BadWord T.et_BadWord G_BadWord___init__ (hr.mono (by decide)) T.kb_BadWord___init___word passL rfl T.g_BadWord (pk_cons (pv 0) pk_nil)) (pa_cons (HXv.pe_oexVK (ks := ["path"]) T.oe_StillAsked T.ei_StillAsked T.et_StillAsked G_StillAsked___init__ (hr.mono (by decide)) T.kb_StillAsked___init___path passL rfl T.g_StillAsked (pk_cons (pv 0) pk_nil)) (pa_cons (HXv.pe_oexVK (ks := ["place"]) T.oe_NotTold T.ei_NotTold T.et_NotTold G_NotTold___init__ (hr.mono (by decide)) T.kb_NotTold___init___place passL rfl T.g_NotTold (pk_cons (pv 0) pk_nil)) (pa_cons (HXv.pe_oexVK (ks := ["text"]) T.oe_BadShape T.ei_BadShape T.et_BadShape G_BadShape___init__ (hr.mono (by decide)) T.kb_BadShape___init___text passL rfl T.g_BadShape (pk_cons (pv 0) pk_nil)) pa_nil))))))))
    (pss_cons (ps_set (i := 1) sc__law_by_name.nd rfl (Or.inl rfl) (pe_op op_addA (pv 1) (pe_lst (pa_cons (HXv.pe_oexVK (ks := ["letter"]) T.oe_NoValue T.ei_NoValue T.et_NoValue G_NoValue___init__ (hr.mono (by decide)) T.kb_NoValue___init___letter passL rfl T.g_NoValue (pk_cons (pv 0) pk_nil)) (pa_cons (HXv.pe_oexVK (ks := ["name"]) T.oe_BadName T.ei_BadName T.et_BadName G_BadName___init__ (hr.mono (by decide)) T.kb_BadName___init___name passL rfl T.g_BadName (pk_cons (pv 0) pk_nil)) (pa_cons (HXv.pe_oexVK (ks := ["name"]) T.oe_Held T.ei_Held T.et_Held G_Held___init__ (hr.mono (by decide)) T.kb_Held___init___name passL rfl T.g_Held (pk_cons (pv 0) pk_nil)) (pa_cons (HXv.pe_oexVK (ks := ["name"]) T.oe_NotHeld T.ei_NotHeld T.et_NotHeld G_NotHeld___init__ (hr.mono (by decide)) T.kb_NotHeld___init___name passL rfl T.g_NotHeld (pk_cons (pv 0) pk_nil)) (pa_cons (HXv.pe_oexVK (ks := ["deed"]) T.oe_BadDeed T.ei_BadDeed T.et_BadDeed G_BadDeed___init__ (hr.mono (by decide)) T.kb_BadDeed___init___deed passL rfl T.g_BadDeed (pk_cons (pv 0) pk_nil)) pa_nil))))))))
    (pss_one (ps_ret (pe_op op_addA (pv 1) (pe_lst (pa_cons (HXv.pe_oexVK (ks := ["line"]) T.oe_BadText T.ei_BadText T.et_BadText G_BadText___init__ (hr.mono (by decide)) T.kb_BadText___init___line passL rfl T.g_BadText (pk_cons (pv 0) pk_nil)) pa_nil))))))))),
    rd__law_by_name T E⟩
theorem ok__law_kept {P : Program} {w : World} {K : PySem.W.Frag} {mg : Str → Option Value} {base : Heap} (T : Txt K mg)  : FnOk P w K mg base (L2.CX P w) 1 T.a__law_kept T.d__law_kept ["_law_e"] (spOf K (φ__law_kept T)) :=
  ok_D (k := 0) T.F__law_kept sc__law_kept (len__law_kept T) fun cdv A outer s H E hr => ⟨t__law_kept T E,
    (pss_cons (ps_set (i := 1) sc__law_kept.nd rfl (Or.inl rfl) (pe_lst (pa_cons (HXv.pe_xv T.ex_BadPath T.ef_BadPath (pe_ix ix_seq (pv 0) pe_int (fun _ _ => rfl))) (pa_cons (HXv.pe_xv T.ex_NotBegun T.ef_NotBegun (pe_ix ix_seq (pv 0) pe_int (fun _ _ => rfl))) (pa_cons (HXv.pe_xv T.ex_NoRelative T.ef_NoRelative (pe_ix ix_seq (pv 0) pe_int (fun _ _ => rfl))) (pa_cons (HXv.pe_xv T.ex_NoFolder T.ef_NoFolder (pe_ix ix_seq (pv 0) pe_int (fun _ _ => rfl))) (pa_cons (HXv.pe_xv T.ex_Taken T.ef_Taken (pe_ix ix_seq (pv 0) pe_int (fun _ _ => rfl))) (pa_cons (HXv.pe_xv T.ex_NoThing T.ef_NoThing (pe_ix ix_seq (pv 0) pe_int (fun _ _ => rfl))) (pa_cons (HXv.pe_xv T.ex_NotEmpty T.ef_NotEmpty (pe_ix ix_seq (pv 0) pe_int (fun _ _ => rfl))) (pa_cons (HXv.pe_xv T.ex_Inside T.ef_Inside (pe_ix ix_seq (pv 0) pe_int (fun _ _ => rfl))) (pa_cons (HXv.pe_xv T.ex_BadFact T.ef_BadFact (pe_ix ix_seq (pv 0) pe_int (fun _ _ => rfl))) pa_nil)))))))))))
    (pss_cons (ps_set (i := 1) sc__law_kept.nd rfl (Or.inl rfl) (pe_op op_addA (pv 1) (pe_lst (pa_cons (HXv.pe_xv T.ex_BadStart T.ef_BadStart (pe_ix ix_seq (pv 0) pe_int (fun _ _ => rfl))) (pa_cons (HXv.pe_xv T.ex_Clash T.ef_Clash (pe_ix ix_seq (pv 0) pe_int (fun _ _ => rfl))) (pa_cons (HXv.pe_xv T.ex_BadWord T.ef_BadWord (pe_ix ix_seq (pv 0) pe_int (fun _ _ => rfl))) (pa_cons (HXv.pe_xv T.ex_StillAsked T.ef_StillAsked (pe_ix ix_seq (pv 0) pe_int (fun _ _ => rfl))) (pa_cons (HXv.pe_xv T.ex_NotTold T.ef_NotTold (pe_ix ix_seq (pv 0) pe_int (fun _ _ => rfl))) (pa_cons (HXv.pe_xv T.ex_BadShape T.ef_BadShape (pe_ix ix_seq (pv 0) pe_int (fun _ _ => rfl))) (pa_cons (HXv.pe_xv T.ex_NoValue T.ef_NoValue (pe_ix ix_seq (pv 0) pe_int (fun _ _ => rfl))) pa_nil))))))))))
    (pss_one (ps_ret (pe_op op_addA (pv 1) (pe_lst (pa_cons (HXv.pe_xv T.ex_BadName T.ef_BadName (pe_ix ix_seq (pv 0) pe_int (fun _ _ => rfl))) (pa_cons (HXv.pe_xv T.ex_Held T.ef_Held (pe_ix ix_seq (pv 0) pe_int (fun _ _ => rfl))) (pa_cons (HXv.pe_xv T.ex_NotHeld T.ef_NotHeld (pe_ix ix_seq (pv 0) pe_int (fun _ _ => rfl))) (pa_cons (HXv.pe_xv T.ex_BadDeed T.ef_BadDeed (pe_ix ix_seq (pv 0) pe_int (fun _ _ => rfl))) (pa_cons (HXv.pe_xv T.ex_BadText T.ef_BadText (pe_ix ix_seq (pv 0) pe_int (fun _ _ => rfl))) pa_nil))))))))))),
    rd__law_kept T E⟩
theorem ok__law_classes {P : Program} {w : World} {K : PySem.W.Frag} {mg : Str → Option Value} {base : Heap} (T : Txt K mg)  : FnOk P w K mg base (L2.CX P w) 1 T.a__law_classes T.d__law_classes ["_law_e"] (spOf K (φ__law_classes T)) :=
  ok_D (k := 0) T.F__law_classes sc__law_classes (len__law_classes T) fun cdv A outer s H E hr => ⟨t__law_classes T E,
    (pss_cons (ps_set (i := 1) sc__law_classes.nd rfl (Or.inl rfl) (pe_lst (pa_cons (pe_callB HXv.call_isV (by rfl) T.z_isinstance (by decide +kernel) (pa_cons (pv 0) (pa_cons (pe_glob rfl T.g_BadPath (RelV_ref _)) pa_nil))) (pa_cons (pe_callB HXv.call_isV (by rfl) T.z_isinstance (by decide +kernel) (pa_cons (pv 0) (pa_cons (pe_glob rfl T.g_NotBegun (RelV_ref _)) pa_nil))) (pa_cons (pe_callB HXv.call_isV (by rfl) T.z_isinstance (by decide +kernel) (pa_cons (pv 0) (pa_cons (pe_glob rfl T.g_NoRelative (RelV_ref _)) pa_nil))) (pa_cons (pe_callB HXv.call_isV (by rfl) T.z_isinstance (by decide +kernel) (pa_cons (pv 0) (pa_cons (pe_glob rfl T.g_NoFolder (RelV_ref _)) pa_nil))) pa_nil))))))
    (pss_cons (ps_set (i := 1) sc__law_classes.nd rfl (Or.inl rfl) (pe_op op_addA (pv 1) (pe_lst (pa_cons (pe_callB HXv.call_isV (by rfl) T.z_isinstance (by decide +kernel) (pa_cons (pv 0) (pa_cons (pe_glob rfl T.g_Taken (RelV_ref _)) pa_nil))) (pa_cons (pe_callB HXv.call_isV (by rfl) T.z_isinstance (by decide +kernel) (pa_cons (pv 0) (pa_cons (pe_glob rfl T.g_NoThing (RelV_ref _)) pa_nil))) (pa_cons (pe_callB HXv.call_isV (by rfl) T.z_isinstance (by decide +kernel) (pa_cons (pv 0) (pa_cons (pe_glob rfl T.g_NotEmpty (RelV_ref _)) pa_nil))) (pa_cons (pe_callB HXv.call_isV (by rfl) T.z_isinstance (by decide +kernel) (pa_cons (pv 0) (pa_cons (pe_glob rfl T.g_Inside (RelV_ref _)) pa_nil))) pa_nil)))))))
    (pss_cons (ps_set (i := 1) sc__law_classes.nd rfl (Or.inl rfl) (pe_op op_addA (pv 1) (pe_lst (pa_cons (pe_callB HXv.call_isV (by rfl) T.z_isinstance (by decide +kernel) (pa_cons (pv 0) (pa_cons (pe_glob rfl T.g_BadFact (RelV_ref _)) pa_nil))) (pa_cons (pe_callB HXv.call_isV (by rfl) T.z_isinstance (by decide +kernel) (pa_cons (pv 0) (pa_cons (pe_glob rfl T.g_BadStart (RelV_ref _)) pa_nil))) (pa_cons (pe_callB HXv.call_isV (by rfl) T.z_isinstance (by decide +kernel) (pa_cons (pv 0) (pa_cons (pe_glob rfl T.g_Clash (RelV_ref _)) pa_nil))) (pa_cons (pe_callB HXv.call_isV (by rfl) T.z_isinstance (by decide +kernel) (pa_cons (pv 0) (pa_cons (pe_glob rfl T.g_BadWord (RelV_ref _)) pa_nil))) pa_nil)))))))
    (pss_cons (ps_set (i := 1) sc__law_classes.nd rfl (Or.inl rfl) (pe_op op_addA (pv 1) (pe_lst (pa_cons (pe_callB HXv.call_isV (by rfl) T.z_isinstance (by decide +kernel) (pa_cons (pv 0) (pa_cons (pe_glob rfl T.g_StillAsked (RelV_ref _)) pa_nil))) (pa_cons (pe_callB HXv.call_isV (by rfl) T.z_isinstance (by decide +kernel) (pa_cons (pv 0) (pa_cons (pe_glob rfl T.g_NotTold (RelV_ref _)) pa_nil))) (pa_cons (pe_callB HXv.call_isV (by rfl) T.z_isinstance (by decide +kernel) (pa_cons (pv 0) (pa_cons (pe_glob rfl T.g_BadShape (RelV_ref _)) pa_nil))) pa_nil))))))
    (pss_cons (ps_set (i := 1) sc__law_classes.nd rfl (Or.inl rfl) (pe_op op_addA (pv 1) (pe_lst (pa_cons (pe_callB HXv.call_isV (by rfl) T.z_isinstance (by decide +kernel) (pa_cons (pv 0) (pa_cons (pe_glob rfl T.g_NoValue (RelV_ref _)) pa_nil))) (pa_cons (pe_callB HXv.call_isV (by rfl) T.z_isinstance (by decide +kernel) (pa_cons (pv 0) (pa_cons (pe_glob rfl T.g_BadName (RelV_ref _)) pa_nil))) (pa_cons (pe_callB HXv.call_isV (by rfl) T.z_isinstance (by decide +kernel) (pa_cons (pv 0) (pa_cons (pe_glob rfl T.g_Held (RelV_ref _)) pa_nil))) (pa_cons (pe_callB HXv.call_isV (by rfl) T.z_isinstance (by decide +kernel) (pa_cons (pv 0) (pa_cons (pe_glob rfl T.g_NotHeld (RelV_ref _)) pa_nil))) pa_nil)))))))
    (pss_cons (ps_set (i := 1) sc__law_classes.nd rfl (Or.inl rfl) (pe_op op_addA (pv 1) (pe_lst (pa_cons (pe_callB HXv.call_isV (by rfl) T.z_isinstance (by decide +kernel) (pa_cons (pv 0) (pa_cons (pe_glob rfl T.g_BadDeed (RelV_ref _)) pa_nil))) (pa_cons (pe_callB HXv.call_isV (by rfl) T.z_isinstance (by decide +kernel) (pa_cons (pv 0) (pa_cons (pe_glob rfl T.g_BadText (RelV_ref _)) pa_nil))) (pa_cons (pe_callB HXv.call_isV (by rfl) T.z_isinstance (by decide +kernel) (pa_cons (pv 0) (pa_cons (pe_glob rfl T.g_Root (RelV_ref _)) pa_nil))) (pa_cons (pe_callB HXv.call_isV (by rfl) T.z_isinstance (by decide +kernel) (pa_cons (pv 0) (pa_cons (pe_glob rfl T.g_NotAsked (RelV_ref _)) pa_nil))) pa_nil)))))))
    (pss_one (ps_ret (pe_op op_addA (pv 1) (pe_lst (pa_cons (pe_callB HXv.call_isV (by rfl) T.z_isinstance (by decide +kernel) (pa_cons (pv 0) (pa_cons (pe_glob rfl T.g_NoDeed (RelV_ref _)) pa_nil))) pa_nil))))))))))),
    rd__law_classes T E⟩
theorem ok_law {P : Program} {w : World} {K : PySem.W.Frag} {mg : Str → Option Value} {base : Heap} (T : Txt K mg) (G__law_by_name : FnOk P w K mg base (L2.CX P w) 3 T.a__law_by_name T.d__law_by_name ["_law_x"] (spOf K (φ__law_by_name T))) (G__law_by_place : FnOk P w K mg base (L2.CX P w) 3 T.a__law_by_place T.d__law_by_place ["_law_x"] (spOf K (φ__law_by_place T))) (G__law_classes : FnOk P w K mg base (L2.CX P w) 1 T.a__law_classes T.d__law_classes ["_law_e"] (spOf K (φ__law_classes T))) (G__law_frozen : FnOk P w K mg base (L2.CX P w) 8 T.a__law_frozen T.d__law_frozen ["_law_thing_here"] (spOf K (φ__law_frozen T 6))) (G__law_kept : FnOk P w K mg base (L2.CX P w) 1 T.a__law_kept T.d__law_kept ["_law_e"] (spOf K (φ__law_kept T))) (G__law_same : FnOk P w K mg base (L2.CX P w) 8 T.a__law_same T.d__law_same ["_law_found", "_law_due"] (spOf K (φ__law_same T 6))) (G__law_start : FnOk P w K mg base (L2.CX P w) 1 T.a__law_start T.d__law_start ["_law_script"] (spStart K)) (G__law_thing : FnOk P w K mg base (L2.CX P w) 8 T.a__law_thing T.d__law_thing ["_law_stream", "_law_deep"] (spOf K (φ__law_thing T 2))) : FnOk P w K mg base (L2.CX P w) 9 T.a_law T.d_law ["_law_script"] (spLaw K) :=
  ok_lawD (k := 8) T.F_law sc_law fun cdv A outer s H E hr => ⟨t_law T E,
    (pss_cons (ps_set (i := 1) sc_law.nd rfl (Or.inl rfl) (pe_call G__law_start (hr.mono (by decide)) rfl T.g__law_start T.F__law_start.kp T.b__law_start .nil passL (pa_cons (pv 0) pa_nil)))
    (pss_cons (ps_for (passes_of rfl) rfl (pi_range1 rfl T.z_range (pa_cons pe_int pa_nil)) (pg_name (i := 2) sc_law.nd rfl (Or.inl rfl)) (pss_cons (ps_set (i := 3) sc_law.nd rfl (Or.inr rfl) (pe_call G__law_thing (hr.mono (by decide)) rfl T.g__law_thing T.F__law_thing.kp T.b__law_thing .nil passL (pa_cons (pv 1) (pa_cons pe_int pa_nil))))
    (pss_one (ps_for (passes_of rfl) rfl (pi_any (pe_tup (pa_cons (pe_call G__law_by_place (hr.mono (by decide)) rfl T.g__law_by_place T.F__law_by_place.kp T.b__law_by_place .nil passL (pa_cons (pv 3) pa_nil)) (pa_cons (pe_call G__law_by_name (hr.mono (by decide)) rfl T.g__law_by_name T.F__law_by_name.kp T.b__law_by_name .nil passL (pa_cons (pv 3) pa_nil)) pa_nil)))) (pg_name (i := 4) sc_law.nd rfl (Or.inl rfl)) (pss_cons (ps_if (pt_not (pt_val (pe_callB (cr_all rfl) (by rfl) T.z_all (by decide +kernel) (pa_cons (pe_lc (own := [("_law_kept_here", 5)]) rfl sc_law.nd (pi_any (pe_call G__law_kept (hr.mono (by decide)) rfl T.g__law_kept T.F__law_kept.kp T.b__law_kept .nil passL (pa_cons (pv 4) pa_nil))) (blkOk_by (own := [("_law_kept_here", 5)]) (N := N_law) (sc := defScope s_law) (by decide +kernel)) (fun _ _ _ _ _ => (pg_name (i := 5) sc_law.nd rfl (Or.inl rfl))) (fun _ _ _ _ _ => pts_nil) (fun _ _ _ _ _ => (pe_call G__law_same (hr.mono (by decide)) rfl T.g__law_same T.F__law_same.kp T.b__law_same .nil passL (pa_cons (pe_call G__law_frozen (hr.mono (by decide)) rfl T.g__law_frozen T.F__law_frozen.kp T.b__law_frozen .nil passL (pa_cons (pv 5) pa_nil)) (pa_cons (pe_call G__law_frozen (hr.mono (by decide)) rfl T.g__law_frozen T.F__law_frozen.kp T.b__law_frozen .nil passL (pa_cons (pv 3) pa_nil)) pa_nil))))) pa_nil)))) (pss_one (ps_ret pe_bl)) pss_nil)
    (pss_one (ps_for (passes_of rfl) rfl (pi_enum (by rfl) T.z_enumerate (pa_cons (pe_op op_addA (pv 4) (pe_lst (pa_cons (HXv.pe_exc0 PySem.F.excBase_ValueError T.qx_Root T.g_Root T.xkc_Root rfl) (pa_cons (HXv.pe_exc0 PySem.F.excBase_ValueError T.qx_NotAsked T.g_NotAsked T.xkc_NotAsked rfl) (pa_cons (HXv.pe_exc0 PySem.F.excBase_ValueError T.qx_NoDeed T.g_NoDeed T.xkc_NoDeed rfl) pa_nil))))) pa_nil)) (pg_tup rfl (pgs_cons (pg_name (i := 6) sc_law.nd rfl (Or.inr rfl)) (pgs_cons (pg_name (i := 7) sc_law.nd rfl (Or.inl rfl)) pgs_nil))) (pss_cons (ps_if (PW.pt (pw_or (pt_not (pt_val (pe_callB HXv.call_isV (by rfl) T.z_isinstance (by decide +kernel) (pa_cons (pv 7) (pa_cons (pe_glob rfl T.g_PathError (RelV_ref _)) pa_nil))))) (pw_or1 (pt_not (pt_val (pe_callB HXv.call_isV (by rfl) T.z_isinstance (by decide +kernel) (pa_cons (pv 7) (pa_cons (pe_bltn (v := .ty "ValueError") (by rfl) T.z_ValueError (by decide +kernel) rfl) pa_nil)))))))) (pss_one (ps_ret pe_bl)) pss_nil)
    (pss_one (ps_if (pt_cmpR (op_neA hr.units) (pe_call G__law_classes (hr.mono (by decide)) rfl T.g__law_classes T.F__law_classes.kp T.b__law_classes .nil passL (pa_cons (pv 7) pa_nil)) (pe_lc (own := [("_law_k", 8)]) rfl sc_law.nd (pi_range1 rfl T.z_range (pa_cons pe_int pa_nil)) (blkOk_by (own := [("_law_k", 8)]) (N := N_law) (sc := defScope s_law) (by decide +kernel)) (fun _ _ _ _ _ => (pg_name (i := 8) sc_law.nd rfl (Or.inl rfl))) (fun _ _ _ _ _ => pts_nil) (fun _ _ _ _ _ => (pe_cmpR (op_eqA hr.units) (pv 8) (pv 6) (nomark _)))) (nomark _)) (pss_one (ps_ret pe_bl)) pss_nil))))))))))
    (pss_one (ps_ret pe_bl)))),
    rd_law T E⟩

end My

namespace My
open PySem L2 DD
open PySem.Spec PyProof.Rows

theorem all_mk {l : PySem.W.OpenLaw} {w : World} {K : PySem.W.Frag} {h : Heap} {mg : Str → Option Value} {fa : Addr} (X : K.In h) (G : h.Ns mainGlobals mg) (hfa : mg "law" = some (.ref fa))
    {f_BadPath___init__ : Addr} {od_BadPath___init__ an_BadPath___init__ : Option Addr} {sl_BadPath___init__ : Array (Option Value)} {oc_BadPath___init__ kV_BadPath___init__ dc_BadPath___init__ pm_BadPath___init__ cd_BadPath___init__ ct_BadPath___init__ : Value}
    {f_NotBegun___init__ : Addr} {od_NotBegun___init__ an_NotBegun___init__ : Option Addr} {sl_NotBegun___init__ : Array (Option Value)} {oc_NotBegun___init__ kV_NotBegun___init__ dc_NotBegun___init__ pm_NotBegun___init__ cd_NotBegun___init__ ct_NotBegun___init__ : Value}
    {f_NoRelative___init__ : Addr} {od_NoRelative___init__ an_NoRelative___init__ : Option Addr} {sl_NoRelative___init__ : Array (Option Value)} {oc_NoRelative___init__ kV_NoRelative___init__ dc_NoRelative___init__ pm_NoRelative___init__ cd_NoRelative___init__ ct_NoRelative___init__ : Value}
    {f_NoFolder___init__ : Addr} {od_NoFolder___init__ an_NoFolder___init__ : Option Addr} {sl_NoFolder___init__ : Array (Option Value)} {oc_NoFolder___init__ kV_NoFolder___init__ dc_NoFolder___init__ pm_NoFolder___init__ cd_NoFolder___init__ ct_NoFolder___init__ : Value}
    {f_Taken___init__ : Addr} {od_Taken___init__ an_Taken___init__ : Option Addr} {sl_Taken___init__ : Array (Option Value)} {oc_Taken___init__ kV_Taken___init__ dc_Taken___init__ pm_Taken___init__ cd_Taken___init__ ct_Taken___init__ : Value}
    {f_NoThing___init__ : Addr} {od_NoThing___init__ an_NoThing___init__ : Option Addr} {sl_NoThing___init__ : Array (Option Value)} {oc_NoThing___init__ kV_NoThing___init__ dc_NoThing___init__ pm_NoThing___init__ cd_NoThing___init__ ct_NoThing___init__ : Value}
    {f_NotEmpty___init__ : Addr} {od_NotEmpty___init__ an_NotEmpty___init__ : Option Addr} {sl_NotEmpty___init__ : Array (Option Value)} {oc_NotEmpty___init__ kV_NotEmpty___init__ dc_NotEmpty___init__ pm_NotEmpty___init__ cd_NotEmpty___init__ ct_NotEmpty___init__ : Value}
    {f_Inside___init__ : Addr} {od_Inside___init__ an_Inside___init__ : Option Addr} {sl_Inside___init__ : Array (Option Value)} {oc_Inside___init__ kV_Inside___init__ dc_Inside___init__ pm_Inside___init__ cd_Inside___init__ ct_Inside___init__ : Value}
    {f_BadFact___init__ : Addr} {od_BadFact___init__ an_BadFact___init__ : Option Addr} {sl_BadFact___init__ : Array (Option Value)} {oc_BadFact___init__ kV_BadFact___init__ dc_BadFact___init__ pm_BadFact___init__ cd_BadFact___init__ ct_BadFact___init__ : Value}
    {f_BadStart___init__ : Addr} {od_BadStart___init__ an_BadStart___init__ : Option Addr} {sl_BadStart___init__ : Array (Option Value)} {oc_BadStart___init__ kV_BadStart___init__ dc_BadStart___init__ pm_BadStart___init__ cd_BadStart___init__ ct_BadStart___init__ : Value}
    {f_Clash___init__ : Addr} {od_Clash___init__ an_Clash___init__ : Option Addr} {sl_Clash___init__ : Array (Option Value)} {oc_Clash___init__ kV_Clash___init__ dc_Clash___init__ pm_Clash___init__ cd_Clash___init__ ct_Clash___init__ : Value}
    {f_BadWord___init__ : Addr} {od_BadWord___init__ an_BadWord___init__ : Option Addr} {sl_BadWord___init__ : Array (Option Value)} {oc_BadWord___init__ kV_BadWord___init__ dc_BadWord___init__ pm_BadWord___init__ cd_BadWord___init__ ct_BadWord___init__ : Value}
    {f_StillAsked___init__ : Addr} {od_StillAsked___init__ an_StillAsked___init__ : Option Addr} {sl_StillAsked___init__ : Array (Option Value)} {oc_StillAsked___init__ kV_StillAsked___init__ dc_StillAsked___init__ pm_StillAsked___init__ cd_StillAsked___init__ ct_StillAsked___init__ : Value}
    {f_NotTold___init__ : Addr} {od_NotTold___init__ an_NotTold___init__ : Option Addr} {sl_NotTold___init__ : Array (Option Value)} {oc_NotTold___init__ kV_NotTold___init__ dc_NotTold___init__ pm_NotTold___init__ cd_NotTold___init__ ct_NotTold___init__ : Value}
    {f_BadShape___init__ : Addr} {od_BadShape___init__ an_BadShape___init__ : Option Addr} {sl_BadShape___init__ : Array (Option Value)} {oc_BadShape___init__ kV_BadShape___init__ dc_BadShape___init__ pm_BadShape___init__ cd_BadShape___init__ ct_BadShape___init__ : Value}
    {f_NoValue___init__ : Addr} {od_NoValue___init__ an_NoValue___init__ : Option Addr} {sl_NoValue___init__ : Array (Option Value)} {oc_NoValue___init__ kV_NoValue___init__ dc_NoValue___init__ pm_NoValue___init__ cd_NoValue___init__ ct_NoValue___init__ : Value}
    {f_BadName___init__ : Addr} {od_BadName___init__ an_BadName___init__ : Option Addr} {sl_BadName___init__ : Array (Option Value)} {oc_BadName___init__ kV_BadName___init__ dc_BadName___init__ pm_BadName___init__ cd_BadName___init__ ct_BadName___init__ : Value}
    {f_Held___init__ : Addr} {od_Held___init__ an_Held___init__ : Option Addr} {sl_Held___init__ : Array (Option Value)} {oc_Held___init__ kV_Held___init__ dc_Held___init__ pm_Held___init__ cd_Held___init__ ct_Held___init__ : Value}
    {f_NotHeld___init__ : Addr} {od_NotHeld___init__ an_NotHeld___init__ : Option Addr} {sl_NotHeld___init__ : Array (Option Value)} {oc_NotHeld___init__ kV_NotHeld___init__ dc_NotHeld___init__ pm_NotHeld___init__ cd_NotHeld___init__ ct_NotHeld___init__ : Value}
    {f_BadDeed___init__ : Addr} {od_BadDeed___init__ an_BadDeed___init__ : Option Addr} {sl_BadDeed___init__ : Array (Option Value)} {oc_BadDeed___init__ kV_BadDeed___init__ dc_BadDeed___init__ pm_BadDeed___init__ cd_BadDeed___init__ ct_BadDeed___init__ : Value}
    {f_BadText___init__ : Addr} {od_BadText___init__ an_BadText___init__ : Option Addr} {sl_BadText___init__ : Array (Option Value)} {oc_BadText___init__ kV_BadText___init__ dc_BadText___init__ pm_BadText___init__ cd_BadText___init__ ct_BadText___init__ : Value}
    {f_is_name : Addr} {od_is_name an_is_name : Option Addr} {sl_is_name : Array (Option Value)} {oc_is_name kV_is_name dc_is_name pm_is_name cd_is_name ct_is_name : Value}
    {f_is_path_text : Addr} {od_is_path_text an_is_path_text : Option Addr} {sl_is_path_text : Array (Option Value)} {oc_is_path_text kV_is_path_text dc_is_path_text pm_is_path_text cd_is_path_text ct_is_path_text : Value}
    {f_Path___init__ : Addr} {od_Path___init__ an_Path___init__ : Option Addr} {sl_Path___init__ : Array (Option Value)} {oc_Path___init__ kV_Path___init__ dc_Path___init__ pm_Path___init__ cd_Path___init__ ct_Path___init__ : Value}
    {f_Path___eq__ : Addr} {od_Path___eq__ an_Path___eq__ : Option Addr} {sl_Path___eq__ : Array (Option Value)} {oc_Path___eq__ kV_Path___eq__ dc_Path___eq__ pm_Path___eq__ cd_Path___eq__ ct_Path___eq__ : Value}
    {f_Path___len__ : Addr} {od_Path___len__ an_Path___len__ : Option Addr} {sl_Path___len__ : Array (Option Value)} {oc_Path___len__ kV_Path___len__ dc_Path___len__ pm_Path___len__ cd_Path___len__ ct_Path___len__ : Value}
    {f_Path___floordiv__ : Addr} {od_Path___floordiv__ an_Path___floordiv__ : Option Addr} {sl_Path___floordiv__ : Array (Option Value)} {oc_Path___floordiv__ kV_Path___floordiv__ dc_Path___floordiv__ pm_Path___floordiv__ cd_Path___floordiv__ ct_Path___floordiv__ : Value}
    {f_Path_steps : Addr} {od_Path_steps an_Path_steps : Option Addr} {sl_Path_steps : Array (Option Value)} {oc_Path_steps kV_Path_steps dc_Path_steps pm_Path_steps cd_Path_steps ct_Path_steps : Value}
    {f_Path_last : Addr} {od_Path_last an_Path_last : Option Addr} {sl_Path_last : Array (Option Value)} {oc_Path_last kV_Path_last dc_Path_last pm_Path_last cd_Path_last ct_Path_last : Value}
    {f_Path_begin : Addr} {od_Path_begin an_Path_begin : Option Addr} {sl_Path_begin : Array (Option Value)} {oc_Path_begin kV_Path_begin dc_Path_begin pm_Path_begin cd_Path_begin ct_Path_begin : Value}
    {f__law_start : Addr} {od__law_start an__law_start : Option Addr} {sl__law_start : Array (Option Value)} {oc__law_start kV__law_start dc__law_start pm__law_start cd__law_start ct__law_start : Value}
    {f__law_draw : Addr} {od__law_draw an__law_draw : Option Addr} {sl__law_draw : Array (Option Value)} {oc__law_draw kV__law_draw dc__law_draw pm__law_draw cd__law_draw ct__law_draw : Value}
    {f__law_pick : Addr} {od__law_pick an__law_pick : Option Addr} {sl__law_pick : Array (Option Value)} {oc__law_pick kV__law_pick dc__law_pick pm__law_pick cd__law_pick ct__law_pick : Value}
    {f__law_same : Addr} {od__law_same an__law_same : Option Addr} {sl__law_same : Array (Option Value)} {oc__law_same kV__law_same dc__law_same pm__law_same cd__law_same ct__law_same : Value}
    {f__law_frozen : Addr} {od__law_frozen an__law_frozen : Option Addr} {sl__law_frozen : Array (Option Value)} {oc__law_frozen kV__law_frozen dc__law_frozen pm__law_frozen cd__law_frozen ct__law_frozen : Value}
    {f__law_thing : Addr} {od__law_thing an__law_thing : Option Addr} {sl__law_thing : Array (Option Value)} {oc__law_thing kV__law_thing dc__law_thing pm__law_thing cd__law_thing ct__law_thing : Value}
    {f__law_by_place : Addr} {od__law_by_place an__law_by_place : Option Addr} {sl__law_by_place : Array (Option Value)} {oc__law_by_place kV__law_by_place dc__law_by_place pm__law_by_place cd__law_by_place ct__law_by_place : Value}
    {f__law_by_name : Addr} {od__law_by_name an__law_by_name : Option Addr} {sl__law_by_name : Array (Option Value)} {oc__law_by_name kV__law_by_name dc__law_by_name pm__law_by_name cd__law_by_name ct__law_by_name : Value}
    {f__law_kept : Addr} {od__law_kept an__law_kept : Option Addr} {sl__law_kept : Array (Option Value)} {oc__law_kept kV__law_kept dc__law_kept pm__law_kept cd__law_kept ct__law_kept : Value}
    {f__law_classes : Addr} {od__law_classes an__law_classes : Option Addr} {sl__law_classes : Array (Option Value)} {oc__law_classes kV__law_classes dc__law_classes pm__law_classes cd__law_classes ct__law_classes : Value}
    {f_law : Addr} {od_law an_law : Option Addr} {sl_law : Array (Option Value)} {oc_law kV_law dc_law pm_law cd_law ct_law : Value}
    {C_Path : Addr}
    {C_PathError : Addr}
    {C_BadDeed xN_BadDeed : Addr} {xm_BadDeed xq_BadDeed : Str} {xb_BadDeed : List Value} {xs_BadDeed : List Str} {xu_BadDeed : List Value} {xa_BadDeed : Bool} {xc_BadDeed : Option Bool} {xd_BadDeed : Option Addr} {x0_BadDeed x1_BadDeed x2_BadDeed x3_BadDeed x5_BadDeed : Option Value}
    {C_BadFact xN_BadFact : Addr} {xm_BadFact xq_BadFact : Str} {xb_BadFact : List Value} {xs_BadFact : List Str} {xu_BadFact : List Value} {xa_BadFact : Bool} {xc_BadFact : Option Bool} {xd_BadFact : Option Addr} {x0_BadFact x1_BadFact x2_BadFact x3_BadFact x5_BadFact : Option Value}
    {C_BadName xN_BadName : Addr} {xm_BadName xq_BadName : Str} {xb_BadName : List Value} {xs_BadName : List Str} {xu_BadName : List Value} {xa_BadName : Bool} {xc_BadName : Option Bool} {xd_BadName : Option Addr} {x0_BadName x1_BadName x2_BadName x3_BadName x5_BadName : Option Value}
    {C_BadPath xN_BadPath : Addr} {xm_BadPath xq_BadPath : Str} {xb_BadPath : List Value} {xs_BadPath : List Str} {xu_BadPath : List Value} {xa_BadPath : Bool} {xc_BadPath : Option Bool} {xd_BadPath : Option Addr} {x0_BadPath x1_BadPath x2_BadPath x3_BadPath x5_BadPath : Option Value}
    {C_BadShape xN_BadShape : Addr} {xm_BadShape xq_BadShape : Str} {xb_BadShape : List Value} {xs_BadShape : List Str} {xu_BadShape : List Value} {xa_BadShape : Bool} {xc_BadShape : Option Bool} {xd_BadShape : Option Addr} {x0_BadShape x1_BadShape x2_BadShape x3_BadShape x5_BadShape : Option Value}
    {C_BadStart xN_BadStart : Addr} {xm_BadStart xq_BadStart : Str} {xb_BadStart : List Value} {xs_BadStart : List Str} {xu_BadStart : List Value} {xa_BadStart : Bool} {xc_BadStart : Option Bool} {xd_BadStart : Option Addr} {x0_BadStart x1_BadStart x2_BadStart x3_BadStart x5_BadStart : Option Value}
    {C_BadText xN_BadText : Addr} {xm_BadText xq_BadText : Str} {xb_BadText : List Value} {xs_BadText : List Str} {xu_BadText : List Value} {xa_BadText : Bool} {xc_BadText : Option Bool} {xd_BadText : Option Addr} {x0_BadText x1_BadText x2_BadText x3_BadText x5_BadText : Option Value}
    {C_BadWord xN_BadWord : Addr} {xm_BadWord xq_BadWord : Str} {xb_BadWord : List Value} {xs_BadWord : List Str} {xu_BadWord : List Value} {xa_BadWord : Bool} {xc_BadWord : Option Bool} {xd_BadWord : Option Addr} {x0_BadWord x1_BadWord x2_BadWord x3_BadWord x5_BadWord : Option Value}
    {C_Clash xN_Clash : Addr} {xm_Clash xq_Clash : Str} {xb_Clash : List Value} {xs_Clash : List Str} {xu_Clash : List Value} {xa_Clash : Bool} {xc_Clash : Option Bool} {xd_Clash : Option Addr} {x0_Clash x1_Clash x2_Clash x3_Clash x5_Clash : Option Value}
    {C_Held xN_Held : Addr} {xm_Held xq_Held : Str} {xb_Held : List Value} {xs_Held : List Str} {xu_Held : List Value} {xa_Held : Bool} {xc_Held : Option Bool} {xd_Held : Option Addr} {x0_Held x1_Held x2_Held x3_Held x5_Held : Option Value}
    {C_Inside xN_Inside : Addr} {xm_Inside xq_Inside : Str} {xb_Inside : List Value} {xs_Inside : List Str} {xu_Inside : List Value} {xa_Inside : Bool} {xc_Inside : Option Bool} {xd_Inside : Option Addr} {x0_Inside x1_Inside x2_Inside x3_Inside x5_Inside : Option Value}
    {C_NoFolder xN_NoFolder : Addr} {xm_NoFolder xq_NoFolder : Str} {xb_NoFolder : List Value} {xs_NoFolder : List Str} {xu_NoFolder : List Value} {xa_NoFolder : Bool} {xc_NoFolder : Option Bool} {xd_NoFolder : Option Addr} {x0_NoFolder x1_NoFolder x2_NoFolder x3_NoFolder x5_NoFolder : Option Value}
    {C_NoRelative xN_NoRelative : Addr} {xm_NoRelative xq_NoRelative : Str} {xb_NoRelative : List Value} {xs_NoRelative : List Str} {xu_NoRelative : List Value} {xa_NoRelative : Bool} {xc_NoRelative : Option Bool} {xd_NoRelative : Option Addr} {x0_NoRelative x1_NoRelative x2_NoRelative x3_NoRelative x5_NoRelative : Option Value}
    {C_NoThing xN_NoThing : Addr} {xm_NoThing xq_NoThing : Str} {xb_NoThing : List Value} {xs_NoThing : List Str} {xu_NoThing : List Value} {xa_NoThing : Bool} {xc_NoThing : Option Bool} {xd_NoThing : Option Addr} {x0_NoThing x1_NoThing x2_NoThing x3_NoThing x5_NoThing : Option Value}
    {C_NoValue xN_NoValue : Addr} {xm_NoValue xq_NoValue : Str} {xb_NoValue : List Value} {xs_NoValue : List Str} {xu_NoValue : List Value} {xa_NoValue : Bool} {xc_NoValue : Option Bool} {xd_NoValue : Option Addr} {x0_NoValue x1_NoValue x2_NoValue x3_NoValue x5_NoValue : Option Value}
    {C_NotBegun xN_NotBegun : Addr} {xm_NotBegun xq_NotBegun : Str} {xb_NotBegun : List Value} {xs_NotBegun : List Str} {xu_NotBegun : List Value} {xa_NotBegun : Bool} {xc_NotBegun : Option Bool} {xd_NotBegun : Option Addr} {x0_NotBegun x1_NotBegun x2_NotBegun x3_NotBegun x5_NotBegun : Option Value}
    {C_NotEmpty xN_NotEmpty : Addr} {xm_NotEmpty xq_NotEmpty : Str} {xb_NotEmpty : List Value} {xs_NotEmpty : List Str} {xu_NotEmpty : List Value} {xa_NotEmpty : Bool} {xc_NotEmpty : Option Bool} {xd_NotEmpty : Option Addr} {x0_NotEmpty x1_NotEmpty x2_NotEmpty x3_NotEmpty x5_NotEmpty : Option Value}
    {C_NotHeld xN_NotHeld : Addr} {xm_NotHeld xq_NotHeld : Str} {xb_NotHeld : List Value} {xs_NotHeld : List Str} {xu_NotHeld : List Value} {xa_NotHeld : Bool} {xc_NotHeld : Option Bool} {xd_NotHeld : Option Addr} {x0_NotHeld x1_NotHeld x2_NotHeld x3_NotHeld x5_NotHeld : Option Value}
    {C_NotTold xN_NotTold : Addr} {xm_NotTold xq_NotTold : Str} {xb_NotTold : List Value} {xs_NotTold : List Str} {xu_NotTold : List Value} {xa_NotTold : Bool} {xc_NotTold : Option Bool} {xd_NotTold : Option Addr} {x0_NotTold x1_NotTold x2_NotTold x3_NotTold x5_NotTold : Option Value}
    {C_StillAsked xN_StillAsked : Addr} {xm_StillAsked xq_StillAsked : Str} {xb_StillAsked : List Value} {xs_StillAsked : List Str} {xu_StillAsked : List Value} {xa_StillAsked : Bool} {xc_StillAsked : Option Bool} {xd_StillAsked : Option Addr} {x0_StillAsked x1_StillAsked x2_StillAsked x3_StillAsked x5_StillAsked : Option Value}
    {C_Taken xN_Taken : Addr} {xm_Taken xq_Taken : Str} {xb_Taken : List Value} {xs_Taken : List Str} {xu_Taken : List Value} {xa_Taken : Bool} {xc_Taken : Option Bool} {xd_Taken : Option Addr} {x0_Taken x1_Taken x2_Taken x3_Taken x5_Taken : Option Value}
    {C_Root xN_Root : Addr} {xm_Root xq_Root : Str} {xb_Root : List Value} {xs_Root : List Str} {xu_Root : List Value} {xa_Root : Bool} {xc_Root : Option Bool} {xd_Root : Option Addr} {x0_Root x1_Root x2_Root x3_Root x5_Root : Option Value}
    {C_NotAsked xN_NotAsked : Addr} {xm_NotAsked xq_NotAsked : Str} {xb_NotAsked : List Value} {xs_NotAsked : List Str} {xu_NotAsked : List Value} {xa_NotAsked : Bool} {xc_NotAsked : Option Bool} {xd_NotAsked : Option Addr} {x0_NotAsked x1_NotAsked x2_NotAsked x3_NotAsked x5_NotAsked : Option Value}
    {C_NoDeed xN_NoDeed : Addr} {xm_NoDeed xq_NoDeed : Str} {xb_NoDeed : List Value} {xs_NoDeed : List Str} {xu_NoDeed : List Value} {xa_NoDeed : Bool} {xc_NoDeed : Option Bool} {xd_NoDeed : Option Addr} {x0_NoDeed x1_NoDeed x2_NoDeed x3_NoDeed x5_NoDeed : Option Value}
    {t_LETTERS : Tok}
    {t_LONGEST : Tok}
    (a_BadPath___init__ : PySem.W.findIn K (.ref C_BadPath) "__init__" = some (some (.ref f_BadPath___init__)))
    (i_BadPath___init__ : PySem.W.isFn K (.ref f_BadPath___init__) = true)
    (l_BadPath___init__ : K.lookup f_BadPath___init__ = some ⟨oc_BadPath___init__, od_BadPath___init__, .func (PySem.W.fnOf "__init__" "BadPath.__init__" (defArgs s_BadPath___init__) (defBody s_BadPath___init__) (defScope s_BadPath___init__) .none kV_BadPath___init__ dc_BadPath___init__ pm_BadPath___init__ an_BadPath___init__ cd_BadPath___init__ ct_BadPath___init__), sl_BadPath___init__⟩)
    (c_BadPath___init__ : PySem.W.codeIn K cd_BadPath___init__ "BadPath.__init__" = true)
    (k_BadPath___init__ : PySem.W.keepIn K (.ref f_BadPath___init__) = true)
    (a_NotBegun___init__ : PySem.W.findIn K (.ref C_NotBegun) "__init__" = some (some (.ref f_NotBegun___init__)))
    (i_NotBegun___init__ : PySem.W.isFn K (.ref f_NotBegun___init__) = true)
    (l_NotBegun___init__ : K.lookup f_NotBegun___init__ = some ⟨oc_NotBegun___init__, od_NotBegun___init__, .func (PySem.W.fnOf "__init__" "NotBegun.__init__" (defArgs s_NotBegun___init__) (defBody s_NotBegun___init__) (defScope s_NotBegun___init__) .none kV_NotBegun___init__ dc_NotBegun___init__ pm_NotBegun___init__ an_NotBegun___init__ cd_NotBegun___init__ ct_NotBegun___init__), sl_NotBegun___init__⟩)
    (c_NotBegun___init__ : PySem.W.codeIn K cd_NotBegun___init__ "NotBegun.__init__" = true)
    (k_NotBegun___init__ : PySem.W.keepIn K (.ref f_NotBegun___init__) = true)
    (a_NoRelative___init__ : PySem.W.findIn K (.ref C_NoRelative) "__init__" = some (some (.ref f_NoRelative___init__)))
    (i_NoRelative___init__ : PySem.W.isFn K (.ref f_NoRelative___init__) = true)
    (l_NoRelative___init__ : K.lookup f_NoRelative___init__ = some ⟨oc_NoRelative___init__, od_NoRelative___init__, .func (PySem.W.fnOf "__init__" "NoRelative.__init__" (defArgs s_NoRelative___init__) (defBody s_NoRelative___init__) (defScope s_NoRelative___init__) .none kV_NoRelative___init__ dc_NoRelative___init__ pm_NoRelative___init__ an_NoRelative___init__ cd_NoRelative___init__ ct_NoRelative___init__), sl_NoRelative___init__⟩)
    (c_NoRelative___init__ : PySem.W.codeIn K cd_NoRelative___init__ "NoRelative.__init__" = true)
    (k_NoRelative___init__ : PySem.W.keepIn K (.ref f_NoRelative___init__) = true)
    (a_NoFolder___init__ : PySem.W.findIn K (.ref C_NoFolder) "__init__" = some (some (.ref f_NoFolder___init__)))
    (i_NoFolder___init__ : PySem.W.isFn K (.ref f_NoFolder___init__) = true)
    (l_NoFolder___init__ : K.lookup f_NoFolder___init__ = some ⟨oc_NoFolder___init__, od_NoFolder___init__, .func (PySem.W.fnOf "__init__" "NoFolder.__init__" (defArgs s_NoFolder___init__) (defBody s_NoFolder___init__) (defScope s_NoFolder___init__) .none kV_NoFolder___init__ dc_NoFolder___init__ pm_NoFolder___init__ an_NoFolder___init__ cd_NoFolder___init__ ct_NoFolder___init__), sl_NoFolder___init__⟩)
    (c_NoFolder___init__ : PySem.W.codeIn K cd_NoFolder___init__ "NoFolder.__init__" = true)
    (k_NoFolder___init__ : PySem.W.keepIn K (.ref f_NoFolder___init__) = true)
    (a_Taken___init__ : PySem.W.findIn K (.ref C_Taken) "__init__" = some (some (.ref f_Taken___init__)))
    (i_Taken___init__ : PySem.W.isFn K (.ref f_Taken___init__) = true)
    (l_Taken___init__ : K.lookup f_Taken___init__ = some ⟨oc_Taken___init__, od_Taken___init__, .func (PySem.W.fnOf "__init__" "Taken.__init__" (defArgs s_Taken___init__) (defBody s_Taken___init__) (defScope s_Taken___init__) .none kV_Taken___init__ dc_Taken___init__ pm_Taken___init__ an_Taken___init__ cd_Taken___init__ ct_Taken___init__), sl_Taken___init__⟩)
    (c_Taken___init__ : PySem.W.codeIn K cd_Taken___init__ "Taken.__init__" = true)
    (k_Taken___init__ : PySem.W.keepIn K (.ref f_Taken___init__) = true)
    (a_NoThing___init__ : PySem.W.findIn K (.ref C_NoThing) "__init__" = some (some (.ref f_NoThing___init__)))
    (i_NoThing___init__ : PySem.W.isFn K (.ref f_NoThing___init__) = true)
    (l_NoThing___init__ : K.lookup f_NoThing___init__ = some ⟨oc_NoThing___init__, od_NoThing___init__, .func (PySem.W.fnOf "__init__" "NoThing.__init__" (defArgs s_NoThing___init__) (defBody s_NoThing___init__) (defScope s_NoThing___init__) .none kV_NoThing___init__ dc_NoThing___init__ pm_NoThing___init__ an_NoThing___init__ cd_NoThing___init__ ct_NoThing___init__), sl_NoThing___init__⟩)
    (c_NoThing___init__ : PySem.W.codeIn K cd_NoThing___init__ "NoThing.__init__" = true)
    (k_NoThing___init__ : PySem.W.keepIn K (.ref f_NoThing___init__) = true)
    (a_NotEmpty___init__ : PySem.W.findIn K (.ref C_NotEmpty) "__init__" = some (some (.ref f_NotEmpty___init__)))
    (i_NotEmpty___init__ : PySem.W.isFn K (.ref f_NotEmpty___init__) = true)
    (l_NotEmpty___init__ : K.lookup f_NotEmpty___init__ = some ⟨oc_NotEmpty___init__, od_NotEmpty___init__, .func (PySem.W.fnOf "__init__" "NotEmpty.__init__" (defArgs s_NotEmpty___init__) (defBody s_NotEmpty___init__) (defScope s_NotEmpty___init__) .none kV_NotEmpty___init__ dc_NotEmpty___init__ pm_NotEmpty___init__ an_NotEmpty___init__ cd_NotEmpty___init__ ct_NotEmpty___init__), sl_NotEmpty___init__⟩)
    (c_NotEmpty___init__ : PySem.W.codeIn K cd_NotEmpty___init__ "NotEmpty.__init__" = true)
    (k_NotEmpty___init__ : PySem.W.keepIn K (.ref f_NotEmpty___init__) = true)
    (a_Inside___init__ : PySem.W.findIn K (.ref C_Inside) "__init__" = some (some (.ref f_Inside___init__)))
    (i_Inside___init__ : PySem.W.isFn K (.ref f_Inside___init__) = true)
    (l_Inside___init__ : K.lookup f_Inside___init__ = some ⟨oc_Inside___init__, od_Inside___init__, .func (PySem.W.fnOf "__init__" "Inside.__init__" (defArgs s_Inside___init__) (defBody s_Inside___init__) (defScope s_Inside___init__) .none kV_Inside___init__ dc_Inside___init__ pm_Inside___init__ an_Inside___init__ cd_Inside___init__ ct_Inside___init__), sl_Inside___init__⟩)
    (c_Inside___init__ : PySem.W.codeIn K cd_Inside___init__ "Inside.__init__" = true)
    (k_Inside___init__ : PySem.W.keepIn K (.ref f_Inside___init__) = true)
    (a_BadFact___init__ : PySem.W.findIn K (.ref C_BadFact) "__init__" = some (some (.ref f_BadFact___init__)))
    (i_BadFact___init__ : PySem.W.isFn K (.ref f_BadFact___init__) = true)
    (l_BadFact___init__ : K.lookup f_BadFact___init__ = some ⟨oc_BadFact___init__, od_BadFact___init__, .func (PySem.W.fnOf "__init__" "BadFact.__init__" (defArgs s_BadFact___init__) (defBody s_BadFact___init__) (defScope s_BadFact___init__) .none kV_BadFact___init__ dc_BadFact___init__ pm_BadFact___init__ an_BadFact___init__ cd_BadFact___init__ ct_BadFact___init__), sl_BadFact___init__⟩)
    (c_BadFact___init__ : PySem.W.codeIn K cd_BadFact___init__ "BadFact.__init__" = true)
    (k_BadFact___init__ : PySem.W.keepIn K (.ref f_BadFact___init__) = true)
    (a_BadStart___init__ : PySem.W.findIn K (.ref C_BadStart) "__init__" = some (some (.ref f_BadStart___init__)))
    (i_BadStart___init__ : PySem.W.isFn K (.ref f_BadStart___init__) = true)
    (l_BadStart___init__ : K.lookup f_BadStart___init__ = some ⟨oc_BadStart___init__, od_BadStart___init__, .func (PySem.W.fnOf "__init__" "BadStart.__init__" (defArgs s_BadStart___init__) (defBody s_BadStart___init__) (defScope s_BadStart___init__) .none kV_BadStart___init__ dc_BadStart___init__ pm_BadStart___init__ an_BadStart___init__ cd_BadStart___init__ ct_BadStart___init__), sl_BadStart___init__⟩)
    (c_BadStart___init__ : PySem.W.codeIn K cd_BadStart___init__ "BadStart.__init__" = true)
    (k_BadStart___init__ : PySem.W.keepIn K (.ref f_BadStart___init__) = true)
    (a_Clash___init__ : PySem.W.findIn K (.ref C_Clash) "__init__" = some (some (.ref f_Clash___init__)))
    (i_Clash___init__ : PySem.W.isFn K (.ref f_Clash___init__) = true)
    (l_Clash___init__ : K.lookup f_Clash___init__ = some ⟨oc_Clash___init__, od_Clash___init__, .func (PySem.W.fnOf "__init__" "Clash.__init__" (defArgs s_Clash___init__) (defBody s_Clash___init__) (defScope s_Clash___init__) .none kV_Clash___init__ dc_Clash___init__ pm_Clash___init__ an_Clash___init__ cd_Clash___init__ ct_Clash___init__), sl_Clash___init__⟩)
    (c_Clash___init__ : PySem.W.codeIn K cd_Clash___init__ "Clash.__init__" = true)
    (k_Clash___init__ : PySem.W.keepIn K (.ref f_Clash___init__) = true)
    (a_BadWord___init__ : PySem.W.findIn K (.ref C_BadWord) "__init__" = some (some (.ref f_BadWord___init__)))
    (i_BadWord___init__ : PySem.W.isFn K (.ref f_BadWord___init__) = true)
    (l_BadWord___init__ : K.lookup f_BadWord___init__ = some ⟨oc_BadWord___init__, od_BadWord___init__, .func (PySem.W.fnOf "__init__" "BadWord.__init__" (defArgs s_BadWord___init__) (defBody s_BadWord___init__) (defScope s_BadWord___init__) .none kV_BadWord___init__ dc_BadWord___init__ pm_BadWord___init__ an_BadWord___init__ cd_BadWord___init__ ct_BadWord___init__), sl_BadWord___init__⟩)
    (c_BadWord___init__ : PySem.W.codeIn K cd_BadWord___init__ "BadWord.__init__" = true)
    (k_BadWord___init__ : PySem.W.keepIn K (.ref f_BadWord___init__) = true)
    (a_StillAsked___init__ : PySem.W.findIn K (.ref C_StillAsked) "__init__" = some (some (.ref f_StillAsked___init__)))
    (i_StillAsked___init__ : PySem.W.isFn K (.ref f_StillAsked___init__) = true)
    (l_StillAsked___init__ : K.lookup f_StillAsked___init__ = some ⟨oc_StillAsked___init__, od_StillAsked___init__, .func (PySem.W.fnOf "__init__" "StillAsked.__init__" (defArgs s_StillAsked___init__) (defBody s_StillAsked___init__) (defScope s_StillAsked___init__) .none kV_StillAsked___init__ dc_StillAsked___init__ pm_StillAsked___init__ an_StillAsked___init__ cd_StillAsked___init__ ct_StillAsked___init__), sl_StillAsked___init__⟩)
    (c_StillAsked___init__ : PySem.W.codeIn K cd_StillAsked___init__ "StillAsked.__init__" = true)
    (k_StillAsked___init__ : PySem.W.keepIn K (.ref f_StillAsked___init__) = true)
    (a_NotTold___init__ : PySem.W.findIn K (.ref C_NotTold) "__init__" = some (some (.ref f_NotTold___init__)))
    (i_NotTold___init__ : PySem.W.isFn K (.ref f_NotTold___init__) = true)
    (l_NotTold___init__ : K.lookup f_NotTold___init__ = some ⟨oc_NotTold___init__, od_NotTold___init__, .func (PySem.W.fnOf "__init__" "NotTold.__init__" (defArgs s_NotTold___init__) (defBody s_NotTold___init__) (defScope s_NotTold___init__) .none kV_NotTold___init__ dc_NotTold___init__ pm_NotTold___init__ an_NotTold___init__ cd_NotTold___init__ ct_NotTold___init__), sl_NotTold___init__⟩)
    (c_NotTold___init__ : PySem.W.codeIn K cd_NotTold___init__ "NotTold.__init__" = true)
    (k_NotTold___init__ : PySem.W.keepIn K (.ref f_NotTold___init__) = true)
    (a_BadShape___init__ : PySem.W.findIn K (.ref C_BadShape) "__init__" = some (some (.ref f_BadShape___init__)))
    (i_BadShape___init__ : PySem.W.isFn K (.ref f_BadShape___init__) = true)
    (l_BadShape___init__ : K.lookup f_BadShape___init__ = some ⟨oc_BadShape___init__, od_BadShape___init__, .func (PySem.W.fnOf "__init__" "BadShape.__init__" (defArgs s_BadShape___init__) (defBody s_BadShape___init__) (defScope s_BadShape___init__) .none kV_BadShape___init__ dc_BadShape___init__ pm_BadShape___init__ an_BadShape___init__ cd_BadShape___init__ ct_BadShape___init__), sl_BadShape___init__⟩)
    (c_BadShape___init__ : PySem.W.codeIn K cd_BadShape___init__ "BadShape.__init__" = true)
    (k_BadShape___init__ : PySem.W.keepIn K (.ref f_BadShape___init__) = true)
    (a_NoValue___init__ : PySem.W.findIn K (.ref C_NoValue) "__init__" = some (some (.ref f_NoValue___init__)))
    (i_NoValue___init__ : PySem.W.isFn K (.ref f_NoValue___init__) = true)
    (l_NoValue___init__ : K.lookup f_NoValue___init__ = some ⟨oc_NoValue___init__, od_NoValue___init__, .func (PySem.W.fnOf "__init__" "NoValue.__init__" (defArgs s_NoValue___init__) (defBody s_NoValue___init__) (defScope s_NoValue___init__) .none kV_NoValue___init__ dc_NoValue___init__ pm_NoValue___init__ an_NoValue___init__ cd_NoValue___init__ ct_NoValue___init__), sl_NoValue___init__⟩)
    (c_NoValue___init__ : PySem.W.codeIn K cd_NoValue___init__ "NoValue.__init__" = true)
    (k_NoValue___init__ : PySem.W.keepIn K (.ref f_NoValue___init__) = true)
    (a_BadName___init__ : PySem.W.findIn K (.ref C_BadName) "__init__" = some (some (.ref f_BadName___init__)))
    (i_BadName___init__ : PySem.W.isFn K (.ref f_BadName___init__) = true)
    (l_BadName___init__ : K.lookup f_BadName___init__ = some ⟨oc_BadName___init__, od_BadName___init__, .func (PySem.W.fnOf "__init__" "BadName.__init__" (defArgs s_BadName___init__) (defBody s_BadName___init__) (defScope s_BadName___init__) .none kV_BadName___init__ dc_BadName___init__ pm_BadName___init__ an_BadName___init__ cd_BadName___init__ ct_BadName___init__), sl_BadName___init__⟩)
    (c_BadName___init__ : PySem.W.codeIn K cd_BadName___init__ "BadName.__init__" = true)
    (k_BadName___init__ : PySem.W.keepIn K (.ref f_BadName___init__) = true)
    (a_Held___init__ : PySem.W.findIn K (.ref C_Held) "__init__" = some (some (.ref f_Held___init__)))
    (i_Held___init__ : PySem.W.isFn K (.ref f_Held___init__) = true)
    (l_Held___init__ : K.lookup f_Held___init__ = some ⟨oc_Held___init__, od_Held___init__, .func (PySem.W.fnOf "__init__" "Held.__init__" (defArgs s_Held___init__) (defBody s_Held___init__) (defScope s_Held___init__) .none kV_Held___init__ dc_Held___init__ pm_Held___init__ an_Held___init__ cd_Held___init__ ct_Held___init__), sl_Held___init__⟩)
    (c_Held___init__ : PySem.W.codeIn K cd_Held___init__ "Held.__init__" = true)
    (k_Held___init__ : PySem.W.keepIn K (.ref f_Held___init__) = true)
    (a_NotHeld___init__ : PySem.W.findIn K (.ref C_NotHeld) "__init__" = some (some (.ref f_NotHeld___init__)))
    (i_NotHeld___init__ : PySem.W.isFn K (.ref f_NotHeld___init__) = true)
    (l_NotHeld___init__ : K.lookup f_NotHeld___init__ = some ⟨oc_NotHeld___init__, od_NotHeld___init__, .func (PySem.W.fnOf "__init__" "NotHeld.__init__" (defArgs s_NotHeld___init__) (defBody s_NotHeld___init__) (defScope s_NotHeld___init__) .none kV_NotHeld___init__ dc_NotHeld___init__ pm_NotHeld___init__ an_NotHeld___init__ cd_NotHeld___init__ ct_NotHeld___init__), sl_NotHeld___init__⟩)
    (c_NotHeld___init__ : PySem.W.codeIn K cd_NotHeld___init__ "NotHeld.__init__" = true)
    (k_NotHeld___init__ : PySem.W.keepIn K (.ref f_NotHeld___init__) = true)
    (a_BadDeed___init__ : PySem.W.findIn K (.ref C_BadDeed) "__init__" = some (some (.ref f_BadDeed___init__)))
    (i_BadDeed___init__ : PySem.W.isFn K (.ref f_BadDeed___init__) = true)
    (l_BadDeed___init__ : K.lookup f_BadDeed___init__ = some ⟨oc_BadDeed___init__, od_BadDeed___init__, .func (PySem.W.fnOf "__init__" "BadDeed.__init__" (defArgs s_BadDeed___init__) (defBody s_BadDeed___init__) (defScope s_BadDeed___init__) .none kV_BadDeed___init__ dc_BadDeed___init__ pm_BadDeed___init__ an_BadDeed___init__ cd_BadDeed___init__ ct_BadDeed___init__), sl_BadDeed___init__⟩)
    (c_BadDeed___init__ : PySem.W.codeIn K cd_BadDeed___init__ "BadDeed.__init__" = true)
    (k_BadDeed___init__ : PySem.W.keepIn K (.ref f_BadDeed___init__) = true)
    (a_BadText___init__ : PySem.W.findIn K (.ref C_BadText) "__init__" = some (some (.ref f_BadText___init__)))
    (i_BadText___init__ : PySem.W.isFn K (.ref f_BadText___init__) = true)
    (l_BadText___init__ : K.lookup f_BadText___init__ = some ⟨oc_BadText___init__, od_BadText___init__, .func (PySem.W.fnOf "__init__" "BadText.__init__" (defArgs s_BadText___init__) (defBody s_BadText___init__) (defScope s_BadText___init__) .none kV_BadText___init__ dc_BadText___init__ pm_BadText___init__ an_BadText___init__ cd_BadText___init__ ct_BadText___init__), sl_BadText___init__⟩)
    (c_BadText___init__ : PySem.W.codeIn K cd_BadText___init__ "BadText.__init__" = true)
    (k_BadText___init__ : PySem.W.keepIn K (.ref f_BadText___init__) = true)
    (a_is_name : PySem.W.nsIn K mainGlobals "is_name" = some (some (.ref f_is_name)))
    (l_is_name : K.lookup f_is_name = some ⟨oc_is_name, od_is_name, .func (PySem.W.fnOf "is_name" "is_name" (defArgs s_is_name) (defBody s_is_name) (defScope s_is_name) .none kV_is_name dc_is_name pm_is_name an_is_name cd_is_name ct_is_name), sl_is_name⟩)
    (c_is_name : PySem.W.codeIn K cd_is_name "is_name" = true)
    (k_is_name : PySem.W.keepIn K (.ref f_is_name) = true)
    (a_is_path_text : PySem.W.nsIn K mainGlobals "is_path_text" = some (some (.ref f_is_path_text)))
    (l_is_path_text : K.lookup f_is_path_text = some ⟨oc_is_path_text, od_is_path_text, .func (PySem.W.fnOf "is_path_text" "is_path_text" (defArgs s_is_path_text) (defBody s_is_path_text) (defScope s_is_path_text) .none kV_is_path_text dc_is_path_text pm_is_path_text an_is_path_text cd_is_path_text ct_is_path_text), sl_is_path_text⟩)
    (c_is_path_text : PySem.W.codeIn K cd_is_path_text "is_path_text" = true)
    (k_is_path_text : PySem.W.keepIn K (.ref f_is_path_text) = true)
    (a_Path___init__ : PySem.W.findIn K (.ref C_Path) "__init__" = some (some (.ref f_Path___init__)))
    (i_Path___init__ : PySem.W.isFn K (.ref f_Path___init__) = true)
    (l_Path___init__ : K.lookup f_Path___init__ = some ⟨oc_Path___init__, od_Path___init__, .func (PySem.W.fnOf "__init__" "Path.__init__" (defArgs s_Path___init__) (defBody s_Path___init__) (defScope s_Path___init__) .none kV_Path___init__ dc_Path___init__ pm_Path___init__ an_Path___init__ cd_Path___init__ ct_Path___init__), sl_Path___init__⟩)
    (c_Path___init__ : PySem.W.codeIn K cd_Path___init__ "Path.__init__" = true)
    (k_Path___init__ : PySem.W.keepIn K (.ref f_Path___init__) = true)
    (a_Path___eq__ : PySem.W.findIn K (.ref C_Path) "__eq__" = some (some (.ref f_Path___eq__)))
    (i_Path___eq__ : PySem.W.isFn K (.ref f_Path___eq__) = true)
    (l_Path___eq__ : K.lookup f_Path___eq__ = some ⟨oc_Path___eq__, od_Path___eq__, .func (PySem.W.fnOf "__eq__" "Path.__eq__" (defArgs s_Path___eq__) (defBody s_Path___eq__) (defScope s_Path___eq__) .none kV_Path___eq__ dc_Path___eq__ pm_Path___eq__ an_Path___eq__ cd_Path___eq__ ct_Path___eq__), sl_Path___eq__⟩)
    (c_Path___eq__ : PySem.W.codeIn K cd_Path___eq__ "Path.__eq__" = true)
    (k_Path___eq__ : PySem.W.keepIn K (.ref f_Path___eq__) = true)
    (a_Path___len__ : PySem.W.findIn K (.ref C_Path) "__len__" = some (some (.ref f_Path___len__)))
    (i_Path___len__ : PySem.W.isFn K (.ref f_Path___len__) = true)
    (l_Path___len__ : K.lookup f_Path___len__ = some ⟨oc_Path___len__, od_Path___len__, .func (PySem.W.fnOf "__len__" "Path.__len__" (defArgs s_Path___len__) (defBody s_Path___len__) (defScope s_Path___len__) .none kV_Path___len__ dc_Path___len__ pm_Path___len__ an_Path___len__ cd_Path___len__ ct_Path___len__), sl_Path___len__⟩)
    (c_Path___len__ : PySem.W.codeIn K cd_Path___len__ "Path.__len__" = true)
    (k_Path___len__ : PySem.W.keepIn K (.ref f_Path___len__) = true)
    (a_Path___floordiv__ : PySem.W.findIn K (.ref C_Path) "__floordiv__" = some (some (.ref f_Path___floordiv__)))
    (i_Path___floordiv__ : PySem.W.isFn K (.ref f_Path___floordiv__) = true)
    (l_Path___floordiv__ : K.lookup f_Path___floordiv__ = some ⟨oc_Path___floordiv__, od_Path___floordiv__, .func (PySem.W.fnOf "__floordiv__" "Path.__floordiv__" (defArgs s_Path___floordiv__) (defBody s_Path___floordiv__) (defScope s_Path___floordiv__) .none kV_Path___floordiv__ dc_Path___floordiv__ pm_Path___floordiv__ an_Path___floordiv__ cd_Path___floordiv__ ct_Path___floordiv__), sl_Path___floordiv__⟩)
    (c_Path___floordiv__ : PySem.W.codeIn K cd_Path___floordiv__ "Path.__floordiv__" = true)
    (k_Path___floordiv__ : PySem.W.keepIn K (.ref f_Path___floordiv__) = true)
    (a_Path_steps : PySem.W.findIn K (.ref C_Path) "steps" = some (some (.ref f_Path_steps)))
    (i_Path_steps : PySem.W.isFn K (.ref f_Path_steps) = true)
    (l_Path_steps : K.lookup f_Path_steps = some ⟨oc_Path_steps, od_Path_steps, .func (PySem.W.fnOf "steps" "Path.steps" (defArgs s_Path_steps) (defBody s_Path_steps) (defScope s_Path_steps) .none kV_Path_steps dc_Path_steps pm_Path_steps an_Path_steps cd_Path_steps ct_Path_steps), sl_Path_steps⟩)
    (c_Path_steps : PySem.W.codeIn K cd_Path_steps "Path.steps" = true)
    (k_Path_steps : PySem.W.keepIn K (.ref f_Path_steps) = true)
    (a_Path_last : PySem.W.findIn K (.ref C_Path) "last" = some (some (.ref f_Path_last)))
    (i_Path_last : PySem.W.isFn K (.ref f_Path_last) = true)
    (l_Path_last : K.lookup f_Path_last = some ⟨oc_Path_last, od_Path_last, .func (PySem.W.fnOf "last" "Path.last" (defArgs s_Path_last) (defBody s_Path_last) (defScope s_Path_last) .none kV_Path_last dc_Path_last pm_Path_last an_Path_last cd_Path_last ct_Path_last), sl_Path_last⟩)
    (c_Path_last : PySem.W.codeIn K cd_Path_last "Path.last" = true)
    (k_Path_last : PySem.W.keepIn K (.ref f_Path_last) = true)
    (a_Path_begin : PySem.W.findIn K (.ref C_Path) "begin" = some (some (.ref f_Path_begin)))
    (i_Path_begin : PySem.W.isFn K (.ref f_Path_begin) = true)
    (l_Path_begin : K.lookup f_Path_begin = some ⟨oc_Path_begin, od_Path_begin, .func (PySem.W.fnOf "begin" "Path.begin" (defArgs s_Path_begin) (defBody s_Path_begin) (defScope s_Path_begin) .none kV_Path_begin dc_Path_begin pm_Path_begin an_Path_begin cd_Path_begin ct_Path_begin), sl_Path_begin⟩)
    (c_Path_begin : PySem.W.codeIn K cd_Path_begin "Path.begin" = true)
    (k_Path_begin : PySem.W.keepIn K (.ref f_Path_begin) = true)
    (a__law_start : PySem.W.nsIn K mainGlobals "_law_start" = some (some (.ref f__law_start)))
    (l__law_start : K.lookup f__law_start = some ⟨oc__law_start, od__law_start, .func (PySem.W.fnOf "_law_start" "_law_start" (defArgs s__law_start) (defBody s__law_start) (defScope s__law_start) .none kV__law_start dc__law_start pm__law_start an__law_start cd__law_start ct__law_start), sl__law_start⟩)
    (c__law_start : PySem.W.codeIn K cd__law_start "_law_start" = true)
    (k__law_start : PySem.W.keepIn K (.ref f__law_start) = true)
    (a__law_draw : PySem.W.nsIn K mainGlobals "_law_draw" = some (some (.ref f__law_draw)))
    (l__law_draw : K.lookup f__law_draw = some ⟨oc__law_draw, od__law_draw, .func (PySem.W.fnOf "_law_draw" "_law_draw" (defArgs s__law_draw) (defBody s__law_draw) (defScope s__law_draw) .none kV__law_draw dc__law_draw pm__law_draw an__law_draw cd__law_draw ct__law_draw), sl__law_draw⟩)
    (c__law_draw : PySem.W.codeIn K cd__law_draw "_law_draw" = true)
    (k__law_draw : PySem.W.keepIn K (.ref f__law_draw) = true)
    (a__law_pick : PySem.W.nsIn K mainGlobals "_law_pick" = some (some (.ref f__law_pick)))
    (l__law_pick : K.lookup f__law_pick = some ⟨oc__law_pick, od__law_pick, .func (PySem.W.fnOf "_law_pick" "_law_pick" (defArgs s__law_pick) (defBody s__law_pick) (defScope s__law_pick) .none kV__law_pick dc__law_pick pm__law_pick an__law_pick cd__law_pick ct__law_pick), sl__law_pick⟩)
    (c__law_pick : PySem.W.codeIn K cd__law_pick "_law_pick" = true)
    (k__law_pick : PySem.W.keepIn K (.ref f__law_pick) = true)
    (a__law_same : PySem.W.nsIn K mainGlobals "_law_same" = some (some (.ref f__law_same)))
    (l__law_same : K.lookup f__law_same = some ⟨oc__law_same, od__law_same, .func (PySem.W.fnOf "_law_same" "_law_same" (defArgs s__law_same) (defBody s__law_same) (defScope s__law_same) .none kV__law_same dc__law_same pm__law_same an__law_same cd__law_same ct__law_same), sl__law_same⟩)
    (c__law_same : PySem.W.codeIn K cd__law_same "_law_same" = true)
    (k__law_same : PySem.W.keepIn K (.ref f__law_same) = true)
    (a__law_frozen : PySem.W.nsIn K mainGlobals "_law_frozen" = some (some (.ref f__law_frozen)))
    (l__law_frozen : K.lookup f__law_frozen = some ⟨oc__law_frozen, od__law_frozen, .func (PySem.W.fnOf "_law_frozen" "_law_frozen" (defArgs s__law_frozen) (defBody s__law_frozen) (defScope s__law_frozen) .none kV__law_frozen dc__law_frozen pm__law_frozen an__law_frozen cd__law_frozen ct__law_frozen), sl__law_frozen⟩)
    (c__law_frozen : PySem.W.codeIn K cd__law_frozen "_law_frozen" = true)
    (k__law_frozen : PySem.W.keepIn K (.ref f__law_frozen) = true)
    (a__law_thing : PySem.W.nsIn K mainGlobals "_law_thing" = some (some (.ref f__law_thing)))
    (l__law_thing : K.lookup f__law_thing = some ⟨oc__law_thing, od__law_thing, .func (PySem.W.fnOf "_law_thing" "_law_thing" (defArgs s__law_thing) (defBody s__law_thing) (defScope s__law_thing) .none kV__law_thing dc__law_thing pm__law_thing an__law_thing cd__law_thing ct__law_thing), sl__law_thing⟩)
    (c__law_thing : PySem.W.codeIn K cd__law_thing "_law_thing" = true)
    (k__law_thing : PySem.W.keepIn K (.ref f__law_thing) = true)
    (a__law_by_place : PySem.W.nsIn K mainGlobals "_law_by_place" = some (some (.ref f__law_by_place)))
    (l__law_by_place : K.lookup f__law_by_place = some ⟨oc__law_by_place, od__law_by_place, .func (PySem.W.fnOf "_law_by_place" "_law_by_place" (defArgs s__law_by_place) (defBody s__law_by_place) (defScope s__law_by_place) .none kV__law_by_place dc__law_by_place pm__law_by_place an__law_by_place cd__law_by_place ct__law_by_place), sl__law_by_place⟩)
    (c__law_by_place : PySem.W.codeIn K cd__law_by_place "_law_by_place" = true)
    (k__law_by_place : PySem.W.keepIn K (.ref f__law_by_place) = true)
    (a__law_by_name : PySem.W.nsIn K mainGlobals "_law_by_name" = some (some (.ref f__law_by_name)))
    (l__law_by_name : K.lookup f__law_by_name = some ⟨oc__law_by_name, od__law_by_name, .func (PySem.W.fnOf "_law_by_name" "_law_by_name" (defArgs s__law_by_name) (defBody s__law_by_name) (defScope s__law_by_name) .none kV__law_by_name dc__law_by_name pm__law_by_name an__law_by_name cd__law_by_name ct__law_by_name), sl__law_by_name⟩)
    (c__law_by_name : PySem.W.codeIn K cd__law_by_name "_law_by_name" = true)
    (k__law_by_name : PySem.W.keepIn K (.ref f__law_by_name) = true)
    (a__law_kept : PySem.W.nsIn K mainGlobals "_law_kept" = some (some (.ref f__law_kept)))
    (l__law_kept : K.lookup f__law_kept = some ⟨oc__law_kept, od__law_kept, .func (PySem.W.fnOf "_law_kept" "_law_kept" (defArgs s__law_kept) (defBody s__law_kept) (defScope s__law_kept) .none kV__law_kept dc__law_kept pm__law_kept an__law_kept cd__law_kept ct__law_kept), sl__law_kept⟩)
    (c__law_kept : PySem.W.codeIn K cd__law_kept "_law_kept" = true)
    (k__law_kept : PySem.W.keepIn K (.ref f__law_kept) = true)
    (a__law_classes : PySem.W.nsIn K mainGlobals "_law_classes" = some (some (.ref f__law_classes)))
    (l__law_classes : K.lookup f__law_classes = some ⟨oc__law_classes, od__law_classes, .func (PySem.W.fnOf "_law_classes" "_law_classes" (defArgs s__law_classes) (defBody s__law_classes) (defScope s__law_classes) .none kV__law_classes dc__law_classes pm__law_classes an__law_classes cd__law_classes ct__law_classes), sl__law_classes⟩)
    (c__law_classes : PySem.W.codeIn K cd__law_classes "_law_classes" = true)
    (k__law_classes : PySem.W.keepIn K (.ref f__law_classes) = true)
    (a_law : PySem.W.nsIn K mainGlobals "law" = some (some (.ref f_law)))
    (l_law : K.lookup f_law = some ⟨oc_law, od_law, .func (PySem.W.fnOf "law" "law" (defArgs s_law) (defBody s_law) (defScope s_law) .none kV_law dc_law pm_law an_law cd_law ct_law), sl_law⟩)
    (c_law : PySem.W.codeIn K cd_law "law" = true)
    (k_law : PySem.W.keepIn K (.ref f_law) = true)
    (aC_Path : PySem.W.nsIn K mainGlobals "Path" = some (some (.ref C_Path)))
    (pg_Path : PySem.W.plainGet K C_Path Str.empty = true)
    (hd_Path : PySem.W.hasDictIn K C_Path = true)
    (po_Path : PySem.W.plainOver K C_Path = true)
    (sa_Path : PySem.W.findIn K (.ref C_Path) "__setattr__" = some (some (.builtin "object.__setattr__")))
    (ha_Path : PySem.W.findIn K (.ref C_Path) "__class__" = some (some (.builtin "object.__class__")))
    (hn_Path : PySem.W.specialIn K (.builtin "object.__class__") "__get__" = some (some (.builtin "getset_descriptor.__get__")))
    (ht_Path : PySem.W.takesIn K (.builtin "object.__class__") = some true)
    (hm_Path : PySem.W.mroIn K C_Path (.type "object") = some true)
    (mi_Path : PySem.W.makesIn K C_Path = true)
    (kc_Path : PySem.W.keepIn K (.ref C_Path) = true)
    (n_Path_text : PySem.W.findIn K (.ref C_Path) "text" = some none)
    (n_Path_rooted : PySem.W.findIn K (.ref C_Path) "rooted" = some none)
    (n_Path_ended : PySem.W.findIn K (.ref C_Path) "ended" = some none)
    (kt_Path_Path : PySem.W.kitOne K (.ref C_Path) (.ref C_Path) = some true)
    (kt_Path_dict : PySem.W.kitOne K (.ref C_Path) (.type "dict") = some false)
    (kt_Path_list : PySem.W.kitOne K (.ref C_Path) (.type "list") = some false)
    (kt_Path_tuple : PySem.W.kitOne K (.ref C_Path) (.type "tuple") = some false)
    (kt_Path_int : PySem.W.kitOne K (.ref C_Path) (.type "int") = some false)
    (aC_PathError : PySem.W.nsIn K mainGlobals "PathError" = some (some (.ref C_PathError)))
    (er_PathError : PySem.W.readsIn K C_PathError (.type "type") = true)
    (ea_PathError : PySem.W.specialIn K (.ref C_PathError) "__getattribute__" = some (some (.builtin "type.__getattribute__")))
    (ev_PathError : PySem.W.findCls K (.ref C_PathError) (.type "type") "__init__" = some (.val (.builtin "ValueError.__init__")))
    (aC_BadDeed : PySem.W.nsIn K mainGlobals "BadDeed" = some (some (.ref C_BadDeed)))
    (xl_BadDeed : K.lookup C_BadDeed = some (excClassObj xm_BadDeed xq_BadDeed C_BadDeed xN_BadDeed xb_BadDeed [.ref C_PathError, .type "ValueError", .type "Exception", .type "BaseException", .type "object"] true xs_BadDeed xu_BadDeed xa_BadDeed xc_BadDeed xd_BadDeed x0_BadDeed x1_BadDeed x2_BadDeed x3_BadDeed x5_BadDeed "ValueError.__new__"))
    (xsa_BadDeed : PySem.W.findIn K (.ref C_BadDeed) "__setattr__" = some (some (.builtin "object.__setattr__")))
    (xeb_BadDeed : PySem.W.subIn K (.ref C_BadDeed) (.type "BaseException") = some true)
    (xty_BadDeed : PySem.W.typeIn K (.ref C_BadDeed) = some (.type "type"))
    (xkc_BadDeed : PySem.W.keepIn K (.ref C_BadDeed) = true)
    (xga_BadDeed : PySem.W.findIn K (.ref C_BadDeed) "__getattribute__" = some (some (.builtin "BaseException.__getattribute__")))
    (xgg_BadDeed : PySem.W.findIn K (.ref C_BadDeed) "__getattr__" = some none)
    (xhd_BadDeed : PySem.W.hasDictIn K C_BadDeed = true)
    (xic_BadDeed : PySem.W.isClsIn K C_BadDeed = true)
    (xss_BadDeed : PySem.W.subIn K (.ref C_BadDeed) (.ref C_BadDeed) = some true)
    (xno_BadDeed : PySem.W.findIn K (.ref C_BadDeed) "deed" = some none)
    (xti_BadDeed : PySem.W.typeIn K (.ref f_BadDeed___init__) = some (.type "function"))
    (xha_BadDeed : PySem.W.findIn K (.ref C_BadDeed) "__class__" = some (some (.builtin "object.__class__")))
    (xhm_BadDeed : PySem.W.mroIn K C_BadDeed (.type "object") = some true)
    (aC_BadFact : PySem.W.nsIn K mainGlobals "BadFact" = some (some (.ref C_BadFact)))
    (xl_BadFact : K.lookup C_BadFact = some (excClassObj xm_BadFact xq_BadFact C_BadFact xN_BadFact xb_BadFact [.ref C_PathError, .type "ValueError", .type "Exception", .type "BaseException", .type "object"] true xs_BadFact xu_BadFact xa_BadFact xc_BadFact xd_BadFact x0_BadFact x1_BadFact x2_BadFact x3_BadFact x5_BadFact "ValueError.__new__"))
    (xsa_BadFact : PySem.W.findIn K (.ref C_BadFact) "__setattr__" = some (some (.builtin "object.__setattr__")))
    (xeb_BadFact : PySem.W.subIn K (.ref C_BadFact) (.type "BaseException") = some true)
    (xty_BadFact : PySem.W.typeIn K (.ref C_BadFact) = some (.type "type"))
    (xkc_BadFact : PySem.W.keepIn K (.ref C_BadFact) = true)
    (xga_BadFact : PySem.W.findIn K (.ref C_BadFact) "__getattribute__" = some (some (.builtin "BaseException.__getattribute__")))
    (xgg_BadFact : PySem.W.findIn K (.ref C_BadFact) "__getattr__" = some none)
    (xhd_BadFact : PySem.W.hasDictIn K C_BadFact = true)
    (xic_BadFact : PySem.W.isClsIn K C_BadFact = true)
    (xss_BadFact : PySem.W.subIn K (.ref C_BadFact) (.ref C_BadFact) = some true)
    (xno_BadFact : PySem.W.findIn K (.ref C_BadFact) "index" = some none)
    (xti_BadFact : PySem.W.typeIn K (.ref f_BadFact___init__) = some (.type "function"))
    (xha_BadFact : PySem.W.findIn K (.ref C_BadFact) "__class__" = some (some (.builtin "object.__class__")))
    (xhm_BadFact : PySem.W.mroIn K C_BadFact (.type "object") = some true)
    (aC_BadName : PySem.W.nsIn K mainGlobals "BadName" = some (some (.ref C_BadName)))
    (xl_BadName : K.lookup C_BadName = some (excClassObj xm_BadName xq_BadName C_BadName xN_BadName xb_BadName [.ref C_PathError, .type "ValueError", .type "Exception", .type "BaseException", .type "object"] true xs_BadName xu_BadName xa_BadName xc_BadName xd_BadName x0_BadName x1_BadName x2_BadName x3_BadName x5_BadName "ValueError.__new__"))
    (xsa_BadName : PySem.W.findIn K (.ref C_BadName) "__setattr__" = some (some (.builtin "object.__setattr__")))
    (xeb_BadName : PySem.W.subIn K (.ref C_BadName) (.type "BaseException") = some true)
    (xty_BadName : PySem.W.typeIn K (.ref C_BadName) = some (.type "type"))
    (xkc_BadName : PySem.W.keepIn K (.ref C_BadName) = true)
    (xga_BadName : PySem.W.findIn K (.ref C_BadName) "__getattribute__" = some (some (.builtin "BaseException.__getattribute__")))
    (xgg_BadName : PySem.W.findIn K (.ref C_BadName) "__getattr__" = some none)
    (xhd_BadName : PySem.W.hasDictIn K C_BadName = true)
    (xic_BadName : PySem.W.isClsIn K C_BadName = true)
    (xss_BadName : PySem.W.subIn K (.ref C_BadName) (.ref C_BadName) = some true)
    (xno_BadName : PySem.W.findIn K (.ref C_BadName) "name" = some none)
    (xti_BadName : PySem.W.typeIn K (.ref f_BadName___init__) = some (.type "function"))
    (xha_BadName : PySem.W.findIn K (.ref C_BadName) "__class__" = some (some (.builtin "object.__class__")))
    (xhm_BadName : PySem.W.mroIn K C_BadName (.type "object") = some true)
    (aC_BadPath : PySem.W.nsIn K mainGlobals "BadPath" = some (some (.ref C_BadPath)))
    (xl_BadPath : K.lookup C_BadPath = some (excClassObj xm_BadPath xq_BadPath C_BadPath xN_BadPath xb_BadPath [.ref C_PathError, .type "ValueError", .type "Exception", .type "BaseException", .type "object"] true xs_BadPath xu_BadPath xa_BadPath xc_BadPath xd_BadPath x0_BadPath x1_BadPath x2_BadPath x3_BadPath x5_BadPath "ValueError.__new__"))
    (xsa_BadPath : PySem.W.findIn K (.ref C_BadPath) "__setattr__" = some (some (.builtin "object.__setattr__")))
    (xeb_BadPath : PySem.W.subIn K (.ref C_BadPath) (.type "BaseException") = some true)
    (xty_BadPath : PySem.W.typeIn K (.ref C_BadPath) = some (.type "type"))
    (xkc_BadPath : PySem.W.keepIn K (.ref C_BadPath) = true)
    (xga_BadPath : PySem.W.findIn K (.ref C_BadPath) "__getattribute__" = some (some (.builtin "BaseException.__getattribute__")))
    (xgg_BadPath : PySem.W.findIn K (.ref C_BadPath) "__getattr__" = some none)
    (xhd_BadPath : PySem.W.hasDictIn K C_BadPath = true)
    (xic_BadPath : PySem.W.isClsIn K C_BadPath = true)
    (xss_BadPath : PySem.W.subIn K (.ref C_BadPath) (.ref C_BadPath) = some true)
    (xno_BadPath : PySem.W.findIn K (.ref C_BadPath) "text" = some none)
    (xti_BadPath : PySem.W.typeIn K (.ref f_BadPath___init__) = some (.type "function"))
    (xha_BadPath : PySem.W.findIn K (.ref C_BadPath) "__class__" = some (some (.builtin "object.__class__")))
    (xhm_BadPath : PySem.W.mroIn K C_BadPath (.type "object") = some true)
    (aC_BadShape : PySem.W.nsIn K mainGlobals "BadShape" = some (some (.ref C_BadShape)))
    (xl_BadShape : K.lookup C_BadShape = some (excClassObj xm_BadShape xq_BadShape C_BadShape xN_BadShape xb_BadShape [.ref C_PathError, .type "ValueError", .type "Exception", .type "BaseException", .type "object"] true xs_BadShape xu_BadShape xa_BadShape xc_BadShape xd_BadShape x0_BadShape x1_BadShape x2_BadShape x3_BadShape x5_BadShape "ValueError.__new__"))
    (xsa_BadShape : PySem.W.findIn K (.ref C_BadShape) "__setattr__" = some (some (.builtin "object.__setattr__")))
    (xeb_BadShape : PySem.W.subIn K (.ref C_BadShape) (.type "BaseException") = some true)
    (xty_BadShape : PySem.W.typeIn K (.ref C_BadShape) = some (.type "type"))
    (xkc_BadShape : PySem.W.keepIn K (.ref C_BadShape) = true)
    (xga_BadShape : PySem.W.findIn K (.ref C_BadShape) "__getattribute__" = some (some (.builtin "BaseException.__getattribute__")))
    (xgg_BadShape : PySem.W.findIn K (.ref C_BadShape) "__getattr__" = some none)
    (xhd_BadShape : PySem.W.hasDictIn K C_BadShape = true)
    (xic_BadShape : PySem.W.isClsIn K C_BadShape = true)
    (xss_BadShape : PySem.W.subIn K (.ref C_BadShape) (.ref C_BadShape) = some true)
    (xno_BadShape : PySem.W.findIn K (.ref C_BadShape) "text" = some none)
    (xti_BadShape : PySem.W.typeIn K (.ref f_BadShape___init__) = some (.type "function"))
    (xha_BadShape : PySem.W.findIn K (.ref C_BadShape) "__class__" = some (some (.builtin "object.__class__")))
    (xhm_BadShape : PySem.W.mroIn K C_BadShape (.type "object") = some true)
    (aC_BadStart : PySem.W.nsIn K mainGlobals "BadStart" = some (some (.ref C_BadStart)))
    (xl_BadStart : K.lookup C_BadStart = some (excClassObj xm_BadStart xq_BadStart C_BadStart xN_BadStart xb_BadStart [.ref C_PathError, .type "ValueError", .type "Exception", .type "BaseException", .type "object"] true xs_BadStart xu_BadStart xa_BadStart xc_BadStart xd_BadStart x0_BadStart x1_BadStart x2_BadStart x3_BadStart x5_BadStart "ValueError.__new__"))
    (xsa_BadStart : PySem.W.findIn K (.ref C_BadStart) "__setattr__" = some (some (.builtin "object.__setattr__")))
    (xeb_BadStart : PySem.W.subIn K (.ref C_BadStart) (.type "BaseException") = some true)
    (xty_BadStart : PySem.W.typeIn K (.ref C_BadStart) = some (.type "type"))
    (xkc_BadStart : PySem.W.keepIn K (.ref C_BadStart) = true)
    (xga_BadStart : PySem.W.findIn K (.ref C_BadStart) "__getattribute__" = some (some (.builtin "BaseException.__getattribute__")))
    (xgg_BadStart : PySem.W.findIn K (.ref C_BadStart) "__getattr__" = some none)
    (xhd_BadStart : PySem.W.hasDictIn K C_BadStart = true)
    (xic_BadStart : PySem.W.isClsIn K C_BadStart = true)
    (xss_BadStart : PySem.W.subIn K (.ref C_BadStart) (.ref C_BadStart) = some true)
    (xno_BadStart : PySem.W.findIn K (.ref C_BadStart) "start" = some none)
    (xti_BadStart : PySem.W.typeIn K (.ref f_BadStart___init__) = some (.type "function"))
    (xha_BadStart : PySem.W.findIn K (.ref C_BadStart) "__class__" = some (some (.builtin "object.__class__")))
    (xhm_BadStart : PySem.W.mroIn K C_BadStart (.type "object") = some true)
    (aC_BadText : PySem.W.nsIn K mainGlobals "BadText" = some (some (.ref C_BadText)))
    (xl_BadText : K.lookup C_BadText = some (excClassObj xm_BadText xq_BadText C_BadText xN_BadText xb_BadText [.ref C_PathError, .type "ValueError", .type "Exception", .type "BaseException", .type "object"] true xs_BadText xu_BadText xa_BadText xc_BadText xd_BadText x0_BadText x1_BadText x2_BadText x3_BadText x5_BadText "ValueError.__new__"))
    (xsa_BadText : PySem.W.findIn K (.ref C_BadText) "__setattr__" = some (some (.builtin "object.__setattr__")))
    (xeb_BadText : PySem.W.subIn K (.ref C_BadText) (.type "BaseException") = some true)
    (xty_BadText : PySem.W.typeIn K (.ref C_BadText) = some (.type "type"))
    (xkc_BadText : PySem.W.keepIn K (.ref C_BadText) = true)
    (xga_BadText : PySem.W.findIn K (.ref C_BadText) "__getattribute__" = some (some (.builtin "BaseException.__getattribute__")))
    (xgg_BadText : PySem.W.findIn K (.ref C_BadText) "__getattr__" = some none)
    (xhd_BadText : PySem.W.hasDictIn K C_BadText = true)
    (xic_BadText : PySem.W.isClsIn K C_BadText = true)
    (xss_BadText : PySem.W.subIn K (.ref C_BadText) (.ref C_BadText) = some true)
    (xno_BadText : PySem.W.findIn K (.ref C_BadText) "line" = some none)
    (xti_BadText : PySem.W.typeIn K (.ref f_BadText___init__) = some (.type "function"))
    (xha_BadText : PySem.W.findIn K (.ref C_BadText) "__class__" = some (some (.builtin "object.__class__")))
    (xhm_BadText : PySem.W.mroIn K C_BadText (.type "object") = some true)
    (aC_BadWord : PySem.W.nsIn K mainGlobals "BadWord" = some (some (.ref C_BadWord)))
    (xl_BadWord : K.lookup C_BadWord = some (excClassObj xm_BadWord xq_BadWord C_BadWord xN_BadWord xb_BadWord [.ref C_PathError, .type "ValueError", .type "Exception", .type "BaseException", .type "object"] true xs_BadWord xu_BadWord xa_BadWord xc_BadWord xd_BadWord x0_BadWord x1_BadWord x2_BadWord x3_BadWord x5_BadWord "ValueError.__new__"))
    (xsa_BadWord : PySem.W.findIn K (.ref C_BadWord) "__setattr__" = some (some (.builtin "object.__setattr__")))
    (xeb_BadWord : PySem.W.subIn K (.ref C_BadWord) (.type "BaseException") = some true)
    (xty_BadWord : PySem.W.typeIn K (.ref C_BadWord) = some (.type "type"))
    (xkc_BadWord : PySem.W.keepIn K (.ref C_BadWord) = true)
    (xga_BadWord : PySem.W.findIn K (.ref C_BadWord) "__getattribute__" = some (some (.builtin "BaseException.__getattribute__")))
    (xgg_BadWord : PySem.W.findIn K (.ref C_BadWord) "__getattr__" = some none)
    (xhd_BadWord : PySem.W.hasDictIn K C_BadWord = true)
    (xic_BadWord : PySem.W.isClsIn K C_BadWord = true)
    (xss_BadWord : PySem.W.subIn K (.ref C_BadWord) (.ref C_BadWord) = some true)
    (xno_BadWord : PySem.W.findIn K (.ref C_BadWord) "word" = some none)
    (xti_BadWord : PySem.W.typeIn K (.ref f_BadWord___init__) = some (.type "function"))
    (xha_BadWord : PySem.W.findIn K (.ref C_BadWord) "__class__" = some (some (.builtin "object.__class__")))
    (xhm_BadWord : PySem.W.mroIn K C_BadWord (.type "object") = some true)
    (aC_Clash : PySem.W.nsIn K mainGlobals "Clash" = some (some (.ref C_Clash)))
    (xl_Clash : K.lookup C_Clash = some (excClassObj xm_Clash xq_Clash C_Clash xN_Clash xb_Clash [.ref C_PathError, .type "ValueError", .type "Exception", .type "BaseException", .type "object"] true xs_Clash xu_Clash xa_Clash xc_Clash xd_Clash x0_Clash x1_Clash x2_Clash x3_Clash x5_Clash "ValueError.__new__"))
    (xsa_Clash : PySem.W.findIn K (.ref C_Clash) "__setattr__" = some (some (.builtin "object.__setattr__")))
    (xeb_Clash : PySem.W.subIn K (.ref C_Clash) (.type "BaseException") = some true)
    (xty_Clash : PySem.W.typeIn K (.ref C_Clash) = some (.type "type"))
    (xkc_Clash : PySem.W.keepIn K (.ref C_Clash) = true)
    (xga_Clash : PySem.W.findIn K (.ref C_Clash) "__getattribute__" = some (some (.builtin "BaseException.__getattribute__")))
    (xgg_Clash : PySem.W.findIn K (.ref C_Clash) "__getattr__" = some none)
    (xhd_Clash : PySem.W.hasDictIn K C_Clash = true)
    (xic_Clash : PySem.W.isClsIn K C_Clash = true)
    (xss_Clash : PySem.W.subIn K (.ref C_Clash) (.ref C_Clash) = some true)
    (xno_Clash : PySem.W.findIn K (.ref C_Clash) "index" = some none)
    (xti_Clash : PySem.W.typeIn K (.ref f_Clash___init__) = some (.type "function"))
    (xha_Clash : PySem.W.findIn K (.ref C_Clash) "__class__" = some (some (.builtin "object.__class__")))
    (xhm_Clash : PySem.W.mroIn K C_Clash (.type "object") = some true)
    (aC_Held : PySem.W.nsIn K mainGlobals "Held" = some (some (.ref C_Held)))
    (xl_Held : K.lookup C_Held = some (excClassObj xm_Held xq_Held C_Held xN_Held xb_Held [.ref C_PathError, .type "ValueError", .type "Exception", .type "BaseException", .type "object"] true xs_Held xu_Held xa_Held xc_Held xd_Held x0_Held x1_Held x2_Held x3_Held x5_Held "ValueError.__new__"))
    (xsa_Held : PySem.W.findIn K (.ref C_Held) "__setattr__" = some (some (.builtin "object.__setattr__")))
    (xeb_Held : PySem.W.subIn K (.ref C_Held) (.type "BaseException") = some true)
    (xty_Held : PySem.W.typeIn K (.ref C_Held) = some (.type "type"))
    (xkc_Held : PySem.W.keepIn K (.ref C_Held) = true)
    (xga_Held : PySem.W.findIn K (.ref C_Held) "__getattribute__" = some (some (.builtin "BaseException.__getattribute__")))
    (xgg_Held : PySem.W.findIn K (.ref C_Held) "__getattr__" = some none)
    (xhd_Held : PySem.W.hasDictIn K C_Held = true)
    (xic_Held : PySem.W.isClsIn K C_Held = true)
    (xss_Held : PySem.W.subIn K (.ref C_Held) (.ref C_Held) = some true)
    (xno_Held : PySem.W.findIn K (.ref C_Held) "name" = some none)
    (xti_Held : PySem.W.typeIn K (.ref f_Held___init__) = some (.type "function"))
    (xha_Held : PySem.W.findIn K (.ref C_Held) "__class__" = some (some (.builtin "object.__class__")))
    (xhm_Held : PySem.W.mroIn K C_Held (.type "object") = some true)
    (aC_Inside : PySem.W.nsIn K mainGlobals "Inside" = some (some (.ref C_Inside)))
    (xl_Inside : K.lookup C_Inside = some (excClassObj xm_Inside xq_Inside C_Inside xN_Inside xb_Inside [.ref C_PathError, .type "ValueError", .type "Exception", .type "BaseException", .type "object"] true xs_Inside xu_Inside xa_Inside xc_Inside xd_Inside x0_Inside x1_Inside x2_Inside x3_Inside x5_Inside "ValueError.__new__"))
    (xsa_Inside : PySem.W.findIn K (.ref C_Inside) "__setattr__" = some (some (.builtin "object.__setattr__")))
    (xeb_Inside : PySem.W.subIn K (.ref C_Inside) (.type "BaseException") = some true)
    (xty_Inside : PySem.W.typeIn K (.ref C_Inside) = some (.type "type"))
    (xkc_Inside : PySem.W.keepIn K (.ref C_Inside) = true)
    (xga_Inside : PySem.W.findIn K (.ref C_Inside) "__getattribute__" = some (some (.builtin "BaseException.__getattribute__")))
    (xgg_Inside : PySem.W.findIn K (.ref C_Inside) "__getattr__" = some none)
    (xhd_Inside : PySem.W.hasDictIn K C_Inside = true)
    (xic_Inside : PySem.W.isClsIn K C_Inside = true)
    (xss_Inside : PySem.W.subIn K (.ref C_Inside) (.ref C_Inside) = some true)
    (xno_Inside : PySem.W.findIn K (.ref C_Inside) "place" = some none)
    (xti_Inside : PySem.W.typeIn K (.ref f_Inside___init__) = some (.type "function"))
    (xha_Inside : PySem.W.findIn K (.ref C_Inside) "__class__" = some (some (.builtin "object.__class__")))
    (xhm_Inside : PySem.W.mroIn K C_Inside (.type "object") = some true)
    (aC_NoFolder : PySem.W.nsIn K mainGlobals "NoFolder" = some (some (.ref C_NoFolder)))
    (xl_NoFolder : K.lookup C_NoFolder = some (excClassObj xm_NoFolder xq_NoFolder C_NoFolder xN_NoFolder xb_NoFolder [.ref C_PathError, .type "ValueError", .type "Exception", .type "BaseException", .type "object"] true xs_NoFolder xu_NoFolder xa_NoFolder xc_NoFolder xd_NoFolder x0_NoFolder x1_NoFolder x2_NoFolder x3_NoFolder x5_NoFolder "ValueError.__new__"))
    (xsa_NoFolder : PySem.W.findIn K (.ref C_NoFolder) "__setattr__" = some (some (.builtin "object.__setattr__")))
    (xeb_NoFolder : PySem.W.subIn K (.ref C_NoFolder) (.type "BaseException") = some true)
    (xty_NoFolder : PySem.W.typeIn K (.ref C_NoFolder) = some (.type "type"))
    (xkc_NoFolder : PySem.W.keepIn K (.ref C_NoFolder) = true)
    (xga_NoFolder : PySem.W.findIn K (.ref C_NoFolder) "__getattribute__" = some (some (.builtin "BaseException.__getattribute__")))
    (xgg_NoFolder : PySem.W.findIn K (.ref C_NoFolder) "__getattr__" = some none)
    (xhd_NoFolder : PySem.W.hasDictIn K C_NoFolder = true)
    (xic_NoFolder : PySem.W.isClsIn K C_NoFolder = true)
    (xss_NoFolder : PySem.W.subIn K (.ref C_NoFolder) (.ref C_NoFolder) = some true)
    (xno_NoFolder : PySem.W.findIn K (.ref C_NoFolder) "place" = some none)
    (xti_NoFolder : PySem.W.typeIn K (.ref f_NoFolder___init__) = some (.type "function"))
    (xha_NoFolder : PySem.W.findIn K (.ref C_NoFolder) "__class__" = some (some (.builtin "object.__class__")))
    (xhm_NoFolder : PySem.W.mroIn K C_NoFolder (.type "object") = some true)
    (aC_NoRelative : PySem.W.nsIn K mainGlobals "NoRelative" = some (some (.ref C_NoRelative)))
    (xl_NoRelative : K.lookup C_NoRelative = some (excClassObj xm_NoRelative xq_NoRelative C_NoRelative xN_NoRelative xb_NoRelative [.ref C_PathError, .type "ValueError", .type "Exception", .type "BaseException", .type "object"] true xs_NoRelative xu_NoRelative xa_NoRelative xc_NoRelative xd_NoRelative x0_NoRelative x1_NoRelative x2_NoRelative x3_NoRelative x5_NoRelative "ValueError.__new__"))
    (xsa_NoRelative : PySem.W.findIn K (.ref C_NoRelative) "__setattr__" = some (some (.builtin "object.__setattr__")))
    (xeb_NoRelative : PySem.W.subIn K (.ref C_NoRelative) (.type "BaseException") = some true)
    (xty_NoRelative : PySem.W.typeIn K (.ref C_NoRelative) = some (.type "type"))
    (xkc_NoRelative : PySem.W.keepIn K (.ref C_NoRelative) = true)
    (xga_NoRelative : PySem.W.findIn K (.ref C_NoRelative) "__getattribute__" = some (some (.builtin "BaseException.__getattribute__")))
    (xgg_NoRelative : PySem.W.findIn K (.ref C_NoRelative) "__getattr__" = some none)
    (xhd_NoRelative : PySem.W.hasDictIn K C_NoRelative = true)
    (xic_NoRelative : PySem.W.isClsIn K C_NoRelative = true)
    (xss_NoRelative : PySem.W.subIn K (.ref C_NoRelative) (.ref C_NoRelative) = some true)
    (xno_NoRelative : PySem.W.findIn K (.ref C_NoRelative) "path" = some none)
    (xti_NoRelative : PySem.W.typeIn K (.ref f_NoRelative___init__) = some (.type "function"))
    (xha_NoRelative : PySem.W.findIn K (.ref C_NoRelative) "__class__" = some (some (.builtin "object.__class__")))
    (xhm_NoRelative : PySem.W.mroIn K C_NoRelative (.type "object") = some true)
    (aC_NoThing : PySem.W.nsIn K mainGlobals "NoThing" = some (some (.ref C_NoThing)))
    (xl_NoThing : K.lookup C_NoThing = some (excClassObj xm_NoThing xq_NoThing C_NoThing xN_NoThing xb_NoThing [.ref C_PathError, .type "ValueError", .type "Exception", .type "BaseException", .type "object"] true xs_NoThing xu_NoThing xa_NoThing xc_NoThing xd_NoThing x0_NoThing x1_NoThing x2_NoThing x3_NoThing x5_NoThing "ValueError.__new__"))
    (xsa_NoThing : PySem.W.findIn K (.ref C_NoThing) "__setattr__" = some (some (.builtin "object.__setattr__")))
    (xeb_NoThing : PySem.W.subIn K (.ref C_NoThing) (.type "BaseException") = some true)
    (xty_NoThing : PySem.W.typeIn K (.ref C_NoThing) = some (.type "type"))
    (xkc_NoThing : PySem.W.keepIn K (.ref C_NoThing) = true)
    (xga_NoThing : PySem.W.findIn K (.ref C_NoThing) "__getattribute__" = some (some (.builtin "BaseException.__getattribute__")))
    (xgg_NoThing : PySem.W.findIn K (.ref C_NoThing) "__getattr__" = some none)
    (xhd_NoThing : PySem.W.hasDictIn K C_NoThing = true)
    (xic_NoThing : PySem.W.isClsIn K C_NoThing = true)
    (xss_NoThing : PySem.W.subIn K (.ref C_NoThing) (.ref C_NoThing) = some true)
    (xno_NoThing : PySem.W.findIn K (.ref C_NoThing) "place" = some none)
    (xti_NoThing : PySem.W.typeIn K (.ref f_NoThing___init__) = some (.type "function"))
    (xha_NoThing : PySem.W.findIn K (.ref C_NoThing) "__class__" = some (some (.builtin "object.__class__")))
    (xhm_NoThing : PySem.W.mroIn K C_NoThing (.type "object") = some true)
    (aC_NoValue : PySem.W.nsIn K mainGlobals "NoValue" = some (some (.ref C_NoValue)))
    (xl_NoValue : K.lookup C_NoValue = some (excClassObj xm_NoValue xq_NoValue C_NoValue xN_NoValue xb_NoValue [.ref C_PathError, .type "ValueError", .type "Exception", .type "BaseException", .type "object"] true xs_NoValue xu_NoValue xa_NoValue xc_NoValue xd_NoValue x0_NoValue x1_NoValue x2_NoValue x3_NoValue x5_NoValue "ValueError.__new__"))
    (xsa_NoValue : PySem.W.findIn K (.ref C_NoValue) "__setattr__" = some (some (.builtin "object.__setattr__")))
    (xeb_NoValue : PySem.W.subIn K (.ref C_NoValue) (.type "BaseException") = some true)
    (xty_NoValue : PySem.W.typeIn K (.ref C_NoValue) = some (.type "type"))
    (xkc_NoValue : PySem.W.keepIn K (.ref C_NoValue) = true)
    (xga_NoValue : PySem.W.findIn K (.ref C_NoValue) "__getattribute__" = some (some (.builtin "BaseException.__getattribute__")))
    (xgg_NoValue : PySem.W.findIn K (.ref C_NoValue) "__getattr__" = some none)
    (xhd_NoValue : PySem.W.hasDictIn K C_NoValue = true)
    (xic_NoValue : PySem.W.isClsIn K C_NoValue = true)
    (xss_NoValue : PySem.W.subIn K (.ref C_NoValue) (.ref C_NoValue) = some true)
    (xno_NoValue : PySem.W.findIn K (.ref C_NoValue) "letter" = some none)
    (xti_NoValue : PySem.W.typeIn K (.ref f_NoValue___init__) = some (.type "function"))
    (xha_NoValue : PySem.W.findIn K (.ref C_NoValue) "__class__" = some (some (.builtin "object.__class__")))
    (xhm_NoValue : PySem.W.mroIn K C_NoValue (.type "object") = some true)
    (aC_NotBegun : PySem.W.nsIn K mainGlobals "NotBegun" = some (some (.ref C_NotBegun)))
    (xl_NotBegun : K.lookup C_NotBegun = some (excClassObj xm_NotBegun xq_NotBegun C_NotBegun xN_NotBegun xb_NotBegun [.ref C_PathError, .type "ValueError", .type "Exception", .type "BaseException", .type "object"] true xs_NotBegun xu_NotBegun xa_NotBegun xc_NotBegun xd_NotBegun x0_NotBegun x1_NotBegun x2_NotBegun x3_NotBegun x5_NotBegun "ValueError.__new__"))
    (xsa_NotBegun : PySem.W.findIn K (.ref C_NotBegun) "__setattr__" = some (some (.builtin "object.__setattr__")))
    (xeb_NotBegun : PySem.W.subIn K (.ref C_NotBegun) (.type "BaseException") = some true)
    (xty_NotBegun : PySem.W.typeIn K (.ref C_NotBegun) = some (.type "type"))
    (xkc_NotBegun : PySem.W.keepIn K (.ref C_NotBegun) = true)
    (xga_NotBegun : PySem.W.findIn K (.ref C_NotBegun) "__getattribute__" = some (some (.builtin "BaseException.__getattribute__")))
    (xgg_NotBegun : PySem.W.findIn K (.ref C_NotBegun) "__getattr__" = some none)
    (xhd_NotBegun : PySem.W.hasDictIn K C_NotBegun = true)
    (xic_NotBegun : PySem.W.isClsIn K C_NotBegun = true)
    (xss_NotBegun : PySem.W.subIn K (.ref C_NotBegun) (.ref C_NotBegun) = some true)
    (xno_NotBegun : PySem.W.findIn K (.ref C_NotBegun) "other" = some none)
    (xti_NotBegun : PySem.W.typeIn K (.ref f_NotBegun___init__) = some (.type "function"))
    (xha_NotBegun : PySem.W.findIn K (.ref C_NotBegun) "__class__" = some (some (.builtin "object.__class__")))
    (xhm_NotBegun : PySem.W.mroIn K C_NotBegun (.type "object") = some true)
    (aC_NotEmpty : PySem.W.nsIn K mainGlobals "NotEmpty" = some (some (.ref C_NotEmpty)))
    (xl_NotEmpty : K.lookup C_NotEmpty = some (excClassObj xm_NotEmpty xq_NotEmpty C_NotEmpty xN_NotEmpty xb_NotEmpty [.ref C_PathError, .type "ValueError", .type "Exception", .type "BaseException", .type "object"] true xs_NotEmpty xu_NotEmpty xa_NotEmpty xc_NotEmpty xd_NotEmpty x0_NotEmpty x1_NotEmpty x2_NotEmpty x3_NotEmpty x5_NotEmpty "ValueError.__new__"))
    (xsa_NotEmpty : PySem.W.findIn K (.ref C_NotEmpty) "__setattr__" = some (some (.builtin "object.__setattr__")))
    (xeb_NotEmpty : PySem.W.subIn K (.ref C_NotEmpty) (.type "BaseException") = some true)
    (xty_NotEmpty : PySem.W.typeIn K (.ref C_NotEmpty) = some (.type "type"))
    (xkc_NotEmpty : PySem.W.keepIn K (.ref C_NotEmpty) = true)
    (xga_NotEmpty : PySem.W.findIn K (.ref C_NotEmpty) "__getattribute__" = some (some (.builtin "BaseException.__getattribute__")))
    (xgg_NotEmpty : PySem.W.findIn K (.ref C_NotEmpty) "__getattr__" = some none)
    (xhd_NotEmpty : PySem.W.hasDictIn K C_NotEmpty = true)
    (xic_NotEmpty : PySem.W.isClsIn K C_NotEmpty = true)
    (xss_NotEmpty : PySem.W.subIn K (.ref C_NotEmpty) (.ref C_NotEmpty) = some true)
    (xno_NotEmpty : PySem.W.findIn K (.ref C_NotEmpty) "place" = some none)
    (xti_NotEmpty : PySem.W.typeIn K (.ref f_NotEmpty___init__) = some (.type "function"))
    (xha_NotEmpty : PySem.W.findIn K (.ref C_NotEmpty) "__class__" = some (some (.builtin "object.__class__")))
    (xhm_NotEmpty : PySem.W.mroIn K C_NotEmpty (.type "object") = some true)
    (aC_NotHeld : PySem.W.nsIn K mainGlobals "NotHeld" = some (some (.ref C_NotHeld)))
    (xl_NotHeld : K.lookup C_NotHeld = some (excClassObj xm_NotHeld xq_NotHeld C_NotHeld xN_NotHeld xb_NotHeld [.ref C_PathError, .type "ValueError", .type "Exception", .type "BaseException", .type "object"] true xs_NotHeld xu_NotHeld xa_NotHeld xc_NotHeld xd_NotHeld x0_NotHeld x1_NotHeld x2_NotHeld x3_NotHeld x5_NotHeld "ValueError.__new__"))
    (xsa_NotHeld : PySem.W.findIn K (.ref C_NotHeld) "__setattr__" = some (some (.builtin "object.__setattr__")))
    (xeb_NotHeld : PySem.W.subIn K (.ref C_NotHeld) (.type "BaseException") = some true)
    (xty_NotHeld : PySem.W.typeIn K (.ref C_NotHeld) = some (.type "type"))
    (xkc_NotHeld : PySem.W.keepIn K (.ref C_NotHeld) = true)
    (xga_NotHeld : PySem.W.findIn K (.ref C_NotHeld) "__getattribute__" = some (some (.builtin "BaseException.__getattribute__")))
    (xgg_NotHeld : PySem.W.findIn K (.ref C_NotHeld) "__getattr__" = some none)
    (xhd_NotHeld : PySem.W.hasDictIn K C_NotHeld = true)
    (xic_NotHeld : PySem.W.isClsIn K C_NotHeld = true)
    (xss_NotHeld : PySem.W.subIn K (.ref C_NotHeld) (.ref C_NotHeld) = some true)
    (xno_NotHeld : PySem.W.findIn K (.ref C_NotHeld) "name" = some none)
    (xti_NotHeld : PySem.W.typeIn K (.ref f_NotHeld___init__) = some (.type "function"))
    (xha_NotHeld : PySem.W.findIn K (.ref C_NotHeld) "__class__" = some (some (.builtin "object.__class__")))
    (xhm_NotHeld : PySem.W.mroIn K C_NotHeld (.type "object") = some true)
    (aC_NotTold : PySem.W.nsIn K mainGlobals "NotTold" = some (some (.ref C_NotTold)))
    (xl_NotTold : K.lookup C_NotTold = some (excClassObj xm_NotTold xq_NotTold C_NotTold xN_NotTold xb_NotTold [.ref C_PathError, .type "ValueError", .type "Exception", .type "BaseException", .type "object"] true xs_NotTold xu_NotTold xa_NotTold xc_NotTold xd_NotTold x0_NotTold x1_NotTold x2_NotTold x3_NotTold x5_NotTold "ValueError.__new__"))
    (xsa_NotTold : PySem.W.findIn K (.ref C_NotTold) "__setattr__" = some (some (.builtin "object.__setattr__")))
    (xeb_NotTold : PySem.W.subIn K (.ref C_NotTold) (.type "BaseException") = some true)
    (xty_NotTold : PySem.W.typeIn K (.ref C_NotTold) = some (.type "type"))
    (xkc_NotTold : PySem.W.keepIn K (.ref C_NotTold) = true)
    (xga_NotTold : PySem.W.findIn K (.ref C_NotTold) "__getattribute__" = some (some (.builtin "BaseException.__getattribute__")))
    (xgg_NotTold : PySem.W.findIn K (.ref C_NotTold) "__getattr__" = some none)
    (xhd_NotTold : PySem.W.hasDictIn K C_NotTold = true)
    (xic_NotTold : PySem.W.isClsIn K C_NotTold = true)
    (xss_NotTold : PySem.W.subIn K (.ref C_NotTold) (.ref C_NotTold) = some true)
    (xno_NotTold : PySem.W.findIn K (.ref C_NotTold) "place" = some none)
    (xti_NotTold : PySem.W.typeIn K (.ref f_NotTold___init__) = some (.type "function"))
    (xha_NotTold : PySem.W.findIn K (.ref C_NotTold) "__class__" = some (some (.builtin "object.__class__")))
    (xhm_NotTold : PySem.W.mroIn K C_NotTold (.type "object") = some true)
    (aC_StillAsked : PySem.W.nsIn K mainGlobals "StillAsked" = some (some (.ref C_StillAsked)))
    (xl_StillAsked : K.lookup C_StillAsked = some (excClassObj xm_StillAsked xq_StillAsked C_StillAsked xN_StillAsked xb_StillAsked [.ref C_PathError, .type "ValueError", .type "Exception", .type "BaseException", .type "object"] true xs_StillAsked xu_StillAsked xa_StillAsked xc_StillAsked xd_StillAsked x0_StillAsked x1_StillAsked x2_StillAsked x3_StillAsked x5_StillAsked "ValueError.__new__"))
    (xsa_StillAsked : PySem.W.findIn K (.ref C_StillAsked) "__setattr__" = some (some (.builtin "object.__setattr__")))
    (xeb_StillAsked : PySem.W.subIn K (.ref C_StillAsked) (.type "BaseException") = some true)
    (xty_StillAsked : PySem.W.typeIn K (.ref C_StillAsked) = some (.type "type"))
    (xkc_StillAsked : PySem.W.keepIn K (.ref C_StillAsked) = true)
    (xga_StillAsked : PySem.W.findIn K (.ref C_StillAsked) "__getattribute__" = some (some (.builtin "BaseException.__getattribute__")))
    (xgg_StillAsked : PySem.W.findIn K (.ref C_StillAsked) "__getattr__" = some none)
    (xhd_StillAsked : PySem.W.hasDictIn K C_StillAsked = true)
    (xic_StillAsked : PySem.W.isClsIn K C_StillAsked = true)
    (xss_StillAsked : PySem.W.subIn K (.ref C_StillAsked) (.ref C_StillAsked) = some true)
    (xno_StillAsked : PySem.W.findIn K (.ref C_StillAsked) "path" = some none)
    (xti_StillAsked : PySem.W.typeIn K (.ref f_StillAsked___init__) = some (.type "function"))
    (xha_StillAsked : PySem.W.findIn K (.ref C_StillAsked) "__class__" = some (some (.builtin "object.__class__")))
    (xhm_StillAsked : PySem.W.mroIn K C_StillAsked (.type "object") = some true)
    (aC_Taken : PySem.W.nsIn K mainGlobals "Taken" = some (some (.ref C_Taken)))
    (xl_Taken : K.lookup C_Taken = some (excClassObj xm_Taken xq_Taken C_Taken xN_Taken xb_Taken [.ref C_PathError, .type "ValueError", .type "Exception", .type "BaseException", .type "object"] true xs_Taken xu_Taken xa_Taken xc_Taken xd_Taken x0_Taken x1_Taken x2_Taken x3_Taken x5_Taken "ValueError.__new__"))
    (xsa_Taken : PySem.W.findIn K (.ref C_Taken) "__setattr__" = some (some (.builtin "object.__setattr__")))
    (xeb_Taken : PySem.W.subIn K (.ref C_Taken) (.type "BaseException") = some true)
    (xty_Taken : PySem.W.typeIn K (.ref C_Taken) = some (.type "type"))
    (xkc_Taken : PySem.W.keepIn K (.ref C_Taken) = true)
    (xga_Taken : PySem.W.findIn K (.ref C_Taken) "__getattribute__" = some (some (.builtin "BaseException.__getattribute__")))
    (xgg_Taken : PySem.W.findIn K (.ref C_Taken) "__getattr__" = some none)
    (xhd_Taken : PySem.W.hasDictIn K C_Taken = true)
    (xic_Taken : PySem.W.isClsIn K C_Taken = true)
    (xss_Taken : PySem.W.subIn K (.ref C_Taken) (.ref C_Taken) = some true)
    (xno_Taken : PySem.W.findIn K (.ref C_Taken) "place" = some none)
    (xti_Taken : PySem.W.typeIn K (.ref f_Taken___init__) = some (.type "function"))
    (xha_Taken : PySem.W.findIn K (.ref C_Taken) "__class__" = some (some (.builtin "object.__class__")))
    (xhm_Taken : PySem.W.mroIn K C_Taken (.type "object") = some true)
    (xhn : PySem.W.specialIn K (.builtin "object.__class__") "__get__" = some (some (.builtin "getset_descriptor.__get__")))
    (xht : PySem.W.takesIn K (.builtin "object.__class__") = some true)
    (aC_Root : PySem.W.nsIn K mainGlobals "Root" = some (some (.ref C_Root)))
    (xl_Root : K.lookup C_Root = some (excClassObj xm_Root xq_Root C_Root xN_Root xb_Root [.ref C_PathError, .type "ValueError", .type "Exception", .type "BaseException", .type "object"] true xs_Root xu_Root xa_Root xc_Root xd_Root x0_Root x1_Root x2_Root x3_Root x5_Root "ValueError.__new__"))
    (xeb_Root : PySem.W.subIn K (.ref C_Root) (.type "BaseException") = some true)
    (xty_Root : PySem.W.typeIn K (.ref C_Root) = some (.type "type"))
    (xkc_Root : PySem.W.keepIn K (.ref C_Root) = true)
    (xga_Root : PySem.W.findIn K (.ref C_Root) "__getattribute__" = some (some (.builtin "BaseException.__getattribute__")))
    (xgg_Root : PySem.W.findIn K (.ref C_Root) "__getattr__" = some none)
    (xhd_Root : PySem.W.hasDictIn K C_Root = true)
    (xha_Root : PySem.W.findIn K (.ref C_Root) "__class__" = some (some (.builtin "object.__class__")))
    (xhm_Root : PySem.W.mroIn K C_Root (.type "object") = some true)
    (qx_Root : PySem.W.excIn K C_Root [.type "ValueError", .type "Exception", .type "BaseException", .type "object"] "ValueError.__new__" = true)
    (aC_NotAsked : PySem.W.nsIn K mainGlobals "NotAsked" = some (some (.ref C_NotAsked)))
    (xl_NotAsked : K.lookup C_NotAsked = some (excClassObj xm_NotAsked xq_NotAsked C_NotAsked xN_NotAsked xb_NotAsked [.ref C_PathError, .type "ValueError", .type "Exception", .type "BaseException", .type "object"] true xs_NotAsked xu_NotAsked xa_NotAsked xc_NotAsked xd_NotAsked x0_NotAsked x1_NotAsked x2_NotAsked x3_NotAsked x5_NotAsked "ValueError.__new__"))
    (xeb_NotAsked : PySem.W.subIn K (.ref C_NotAsked) (.type "BaseException") = some true)
    (xty_NotAsked : PySem.W.typeIn K (.ref C_NotAsked) = some (.type "type"))
    (xkc_NotAsked : PySem.W.keepIn K (.ref C_NotAsked) = true)
    (xga_NotAsked : PySem.W.findIn K (.ref C_NotAsked) "__getattribute__" = some (some (.builtin "BaseException.__getattribute__")))
    (xgg_NotAsked : PySem.W.findIn K (.ref C_NotAsked) "__getattr__" = some none)
    (xhd_NotAsked : PySem.W.hasDictIn K C_NotAsked = true)
    (xha_NotAsked : PySem.W.findIn K (.ref C_NotAsked) "__class__" = some (some (.builtin "object.__class__")))
    (xhm_NotAsked : PySem.W.mroIn K C_NotAsked (.type "object") = some true)
    (qx_NotAsked : PySem.W.excIn K C_NotAsked [.type "ValueError", .type "Exception", .type "BaseException", .type "object"] "ValueError.__new__" = true)
    (aC_NoDeed : PySem.W.nsIn K mainGlobals "NoDeed" = some (some (.ref C_NoDeed)))
    (xl_NoDeed : K.lookup C_NoDeed = some (excClassObj xm_NoDeed xq_NoDeed C_NoDeed xN_NoDeed xb_NoDeed [.ref C_PathError, .type "ValueError", .type "Exception", .type "BaseException", .type "object"] true xs_NoDeed xu_NoDeed xa_NoDeed xc_NoDeed xd_NoDeed x0_NoDeed x1_NoDeed x2_NoDeed x3_NoDeed x5_NoDeed "ValueError.__new__"))
    (xeb_NoDeed : PySem.W.subIn K (.ref C_NoDeed) (.type "BaseException") = some true)
    (xty_NoDeed : PySem.W.typeIn K (.ref C_NoDeed) = some (.type "type"))
    (xkc_NoDeed : PySem.W.keepIn K (.ref C_NoDeed) = true)
    (xga_NoDeed : PySem.W.findIn K (.ref C_NoDeed) "__getattribute__" = some (some (.builtin "BaseException.__getattribute__")))
    (xgg_NoDeed : PySem.W.findIn K (.ref C_NoDeed) "__getattr__" = some none)
    (xhd_NoDeed : PySem.W.hasDictIn K C_NoDeed = true)
    (xha_NoDeed : PySem.W.findIn K (.ref C_NoDeed) "__class__" = some (some (.builtin "object.__class__")))
    (xhm_NoDeed : PySem.W.mroIn K C_NoDeed (.type "object") = some true)
    (qx_NoDeed : PySem.W.excIn K C_NoDeed [.type "ValueError", .type "Exception", .type "BaseException", .type "object"] "ValueError.__new__" = true)
    (xic_PathError : PySem.W.isClsIn K C_PathError = true)
    (xty_PathError : PySem.W.typeIn K (.ref C_PathError) = some (.type "type"))
    (nd_x : ([C_PathError, C_BadPath, C_NotBegun, C_NoRelative, C_NoFolder, C_Taken, C_NoThing, C_NotEmpty, C_Inside, C_BadFact, C_BadStart, C_Clash, C_BadWord, C_StillAsked, C_NotTold, C_BadShape, C_NoValue, C_BadName, C_Held, C_NotHeld, C_BadDeed, C_BadText, C_Root, C_NotAsked, C_NoDeed] : List Addr).Nodup)
    (op_Path___eq__ : PySem.W.findIn K (.ref C_Path) ("__eq__") = some (some (.ref f_Path___eq__)))
    (op_Path___len__ : PySem.W.findIn K (.ref C_Path) ("__len__") = some (some (.ref f_Path___len__)))
    (z_ValueError : PySem.W.nsIn K mainGlobals "ValueError" = some none)
    (z_all : PySem.W.nsIn K mainGlobals "all" = some none)
    (z_bool : PySem.W.nsIn K mainGlobals "bool" = some none)
    (z_dict : PySem.W.nsIn K mainGlobals "dict" = some none)
    (z_enumerate : PySem.W.nsIn K mainGlobals "enumerate" = some none)
    (z_int : PySem.W.nsIn K mainGlobals "int" = some none)
    (z_isinstance : PySem.W.nsIn K mainGlobals "isinstance" = some none)
    (z_len : PySem.W.nsIn K mainGlobals "len" = some none)
    (z_list : PySem.W.nsIn K mainGlobals "list" = some none)
    (z_range : PySem.W.nsIn K mainGlobals "range" = some none)
    (z_str : PySem.W.nsIn K mainGlobals "str" = some none)
    (z_tuple : PySem.W.nsIn K mainGlobals "tuple" = some none)
    (z_zip : PySem.W.nsIn K mainGlobals "zip" = some none)
    (a_LETTERS : PySem.W.nsIn K mainGlobals "LETTERS" = some (some (.str "abcdefghijklmnopqrstuvwxyz" t_LETTERS)))
    (a_LONGEST : PySem.W.nsIn K mainGlobals "LONGEST" = some (some (.int 8 t_LONGEST))) :
    ∃ fd : FuncData, (∀ (s : Shared) (v : Value), BindsTo s fd ⟨[v], []⟩ [("_law_script", v)]) ∧ ∀ base : Heap, K.In base → base.Ns mainGlobals mg → FnOk l.prog w K mg base (L2.CX l.prog w) 9 fa fd ["_law_script"] (spLaw K) := by
  have e : f_law = fa := Value.ref.inj (Option.some.inj ((PySem.W.mg_of X G a_law).symm.trans hfa))
  subst e
  let T : Txt K mg := { m_BadPath___init__ := ⟨a_BadPath___init__, i_BadPath___init__, k_BadPath___init__⟩, a_BadPath___init__ := f_BadPath___init__, d_BadPath___init__ := PySem.W.fnOf "__init__" "BadPath.__init__" (defArgs s_BadPath___init__) (defBody s_BadPath___init__) (defScope s_BadPath___init__) .none kV_BadPath___init__ dc_BadPath___init__ pm_BadPath___init__ an_BadPath___init__ cd_BadPath___init__ ct_BadPath___init__, kb_BadPath___init___text := kbn_mk (fun_mk (st := s_BadPath___init__) l_BadPath___init__ c_BadPath___init__ k_BadPath___init__) fun _ _ _ _ _ _ us ws h1 h2 => match us, ws, h1, h2 with | [_], [_], _, _ => rfl, F_BadPath___init__ := fun_mk (st := s_BadPath___init__) l_BadPath___init__ c_BadPath___init__ k_BadPath___init__, b_BadPath___init__ := (fun_mk (st := s_BadPath___init__) l_BadPath___init__ c_BadPath___init__ k_BadPath___init__).binds (ps := ["self", "text"]) fun _ _ _ _ _ _ us hl => match us, hl with | [_, _], _ => rfl, m_NotBegun___init__ := ⟨a_NotBegun___init__, i_NotBegun___init__, k_NotBegun___init__⟩, a_NotBegun___init__ := f_NotBegun___init__, d_NotBegun___init__ := PySem.W.fnOf "__init__" "NotBegun.__init__" (defArgs s_NotBegun___init__) (defBody s_NotBegun___init__) (defScope s_NotBegun___init__) .none kV_NotBegun___init__ dc_NotBegun___init__ pm_NotBegun___init__ an_NotBegun___init__ cd_NotBegun___init__ ct_NotBegun___init__, kb_NotBegun___init___other := kbn_mk (fun_mk (st := s_NotBegun___init__) l_NotBegun___init__ c_NotBegun___init__ k_NotBegun___init__) fun _ _ _ _ _ _ us ws h1 h2 => match us, ws, h1, h2 with | [_], [_], _, _ => rfl, F_NotBegun___init__ := fun_mk (st := s_NotBegun___init__) l_NotBegun___init__ c_NotBegun___init__ k_NotBegun___init__, b_NotBegun___init__ := (fun_mk (st := s_NotBegun___init__) l_NotBegun___init__ c_NotBegun___init__ k_NotBegun___init__).binds (ps := ["self", "other"]) fun _ _ _ _ _ _ us hl => match us, hl with | [_, _], _ => rfl, m_NoRelative___init__ := ⟨a_NoRelative___init__, i_NoRelative___init__, k_NoRelative___init__⟩, a_NoRelative___init__ := f_NoRelative___init__, d_NoRelative___init__ := PySem.W.fnOf "__init__" "NoRelative.__init__" (defArgs s_NoRelative___init__) (defBody s_NoRelative___init__) (defScope s_NoRelative___init__) .none kV_NoRelative___init__ dc_NoRelative___init__ pm_NoRelative___init__ an_NoRelative___init__ cd_NoRelative___init__ ct_NoRelative___init__, kb_NoRelative___init___path := kbn_mk (fun_mk (st := s_NoRelative___init__) l_NoRelative___init__ c_NoRelative___init__ k_NoRelative___init__) fun _ _ _ _ _ _ us ws h1 h2 => match us, ws, h1, h2 with | [_], [_], _, _ => rfl, F_NoRelative___init__ := fun_mk (st := s_NoRelative___init__) l_NoRelative___init__ c_NoRelative___init__ k_NoRelative___init__, b_NoRelative___init__ := (fun_mk (st := s_NoRelative___init__) l_NoRelative___init__ c_NoRelative___init__ k_NoRelative___init__).binds (ps := ["self", "path"]) fun _ _ _ _ _ _ us hl => match us, hl with | [_, _], _ => rfl, m_NoFolder___init__ := ⟨a_NoFolder___init__, i_NoFolder___init__, k_NoFolder___init__⟩, a_NoFolder___init__ := f_NoFolder___init__, d_NoFolder___init__ := PySem.W.fnOf "__init__" "NoFolder.__init__" (defArgs s_NoFolder___init__) (defBody s_NoFolder___init__) (defScope s_NoFolder___init__) .none kV_NoFolder___init__ dc_NoFolder___init__ pm_NoFolder___init__ an_NoFolder___init__ cd_NoFolder___init__ ct_NoFolder___init__, kb_NoFolder___init___place := kbn_mk (fun_mk (st := s_NoFolder___init__) l_NoFolder___init__ c_NoFolder___init__ k_NoFolder___init__) fun _ _ _ _ _ _ us ws h1 h2 => match us, ws, h1, h2 with | [_], [_], _, _ => rfl, F_NoFolder___init__ := fun_mk (st := s_NoFolder___init__) l_NoFolder___init__ c_NoFolder___init__ k_NoFolder___init__, b_NoFolder___init__ := (fun_mk (st := s_NoFolder___init__) l_NoFolder___init__ c_NoFolder___init__ k_NoFolder___init__).binds (ps := ["self", "place"]) fun _ _ _ _ _ _ us hl => match us, hl with | [_, _], _ => rfl, m_Taken___init__ := ⟨a_Taken___init__, i_Taken___init__, k_Taken___init__⟩, a_Taken___init__ := f_Taken___init__, d_Taken___init__ := PySem.W.fnOf "__init__" "Taken.__init__" (defArgs s_Taken___init__) (defBody s_Taken___init__) (defScope s_Taken___init__) .none kV_Taken___init__ dc_Taken___init__ pm_Taken___init__ an_Taken___init__ cd_Taken___init__ ct_Taken___init__, kb_Taken___init___place := kbn_mk (fun_mk (st := s_Taken___init__) l_Taken___init__ c_Taken___init__ k_Taken___init__) fun _ _ _ _ _ _ us ws h1 h2 => match us, ws, h1, h2 with | [_], [_], _, _ => rfl, F_Taken___init__ := fun_mk (st := s_Taken___init__) l_Taken___init__ c_Taken___init__ k_Taken___init__, b_Taken___init__ := (fun_mk (st := s_Taken___init__) l_Taken___init__ c_Taken___init__ k_Taken___init__).binds (ps := ["self", "place"]) fun _ _ _ _ _ _ us hl => match us, hl with | [_, _], _ => rfl, m_NoThing___init__ := ⟨a_NoThing___init__, i_NoThing___init__, k_NoThing___init__⟩, a_NoThing___init__ := f_NoThing___init__, d_NoThing___init__ := PySem.W.fnOf "__init__" "NoThing.__init__" (defArgs s_NoThing___init__) (defBody s_NoThing___init__) (defScope s_NoThing___init__) .none kV_NoThing___init__ dc_NoThing___init__ pm_NoThing___init__ an_NoThing___init__ cd_NoThing___init__ ct_NoThing___init__, kb_NoThing___init___place := kbn_mk (fun_mk (st := s_NoThing___init__) l_NoThing___init__ c_NoThing___init__ k_NoThing___init__) fun _ _ _ _ _ _ us ws h1 h2 => match us, ws, h1, h2 with | [_], [_], _, _ => rfl, F_NoThing___init__ := fun_mk (st := s_NoThing___init__) l_NoThing___init__ c_NoThing___init__ k_NoThing___init__, b_NoThing___init__ := (fun_mk (st := s_NoThing___init__) l_NoThing___init__ c_NoThing___init__ k_NoThing___init__).binds (ps := ["self", "place"]) fun _ _ _ _ _ _ us hl => match us, hl with | [_, _], _ => rfl, m_NotEmpty___init__ := ⟨a_NotEmpty___init__, i_NotEmpty___init__, k_NotEmpty___init__⟩, a_NotEmpty___init__ := f_NotEmpty___init__, d_NotEmpty___init__ := PySem.W.fnOf "__init__" "NotEmpty.__init__" (defArgs s_NotEmpty___init__) (defBody s_NotEmpty___init__) (defScope s_NotEmpty___init__) .none kV_NotEmpty___init__ dc_NotEmpty___init__ pm_NotEmpty___init__ an_NotEmpty___init__ cd_NotEmpty___init__ ct_NotEmpty___init__, kb_NotEmpty___init___place := kbn_mk (fun_mk (st := s_NotEmpty___init__) l_NotEmpty___init__ c_NotEmpty___init__ k_NotEmpty___init__) fun _ _ _ _ _ _ us ws h1 h2 => match us, ws, h1, h2 with | [_], [_], _, _ => rfl, F_NotEmpty___init__ := fun_mk (st := s_NotEmpty___init__) l_NotEmpty___init__ c_NotEmpty___init__ k_NotEmpty___init__, b_NotEmpty___init__ := (fun_mk (st := s_NotEmpty___init__) l_NotEmpty___init__ c_NotEmpty___init__ k_NotEmpty___init__).binds (ps := ["self", "place"]) fun _ _ _ _ _ _ us hl => match us, hl with | [_, _], _ => rfl, m_Inside___init__ := ⟨a_Inside___init__, i_Inside___init__, k_Inside___init__⟩, a_Inside___init__ := f_Inside___init__, d_Inside___init__ := PySem.W.fnOf "__init__" "Inside.__init__" (defArgs s_Inside___init__) (defBody s_Inside___init__) (defScope s_Inside___init__) .none kV_Inside___init__ dc_Inside___init__ pm_Inside___init__ an_Inside___init__ cd_Inside___init__ ct_Inside___init__, kb_Inside___init___place := kbn_mk (fun_mk (st := s_Inside___init__) l_Inside___init__ c_Inside___init__ k_Inside___init__) fun _ _ _ _ _ _ us ws h1 h2 => match us, ws, h1, h2 with | [_], [_], _, _ => rfl, F_Inside___init__ := fun_mk (st := s_Inside___init__) l_Inside___init__ c_Inside___init__ k_Inside___init__, b_Inside___init__ := (fun_mk (st := s_Inside___init__) l_Inside___init__ c_Inside___init__ k_Inside___init__).binds (ps := ["self", "place"]) fun _ _ _ _ _ _ us hl => match us, hl with | [_, _], _ => rfl, m_BadFact___init__ := ⟨a_BadFact___init__, i_BadFact___init__, k_BadFact___init__⟩, a_BadFact___init__ := f_BadFact___init__, d_BadFact___init__ := PySem.W.fnOf "__init__" "BadFact.__init__" (defArgs s_BadFact___init__) (defBody s_BadFact___init__) (defScope s_BadFact___init__) .none kV_BadFact___init__ dc_BadFact___init__ pm_BadFact___init__ an_BadFact___init__ cd_BadFact___init__ ct_BadFact___init__, kb_BadFact___init___index := kbn_mk (fun_mk (st := s_BadFact___init__) l_BadFact___init__ c_BadFact___init__ k_BadFact___init__) fun _ _ _ _ _ _ us ws h1 h2 => match us, ws, h1, h2 with | [_], [_], _, _ => rfl, F_BadFact___init__ := fun_mk (st := s_BadFact___init__) l_BadFact___init__ c_BadFact___init__ k_BadFact___init__, b_BadFact___init__ := (fun_mk (st := s_BadFact___init__) l_BadFact___init__ c_BadFact___init__ k_BadFact___init__).binds (ps := ["self", "index"]) fun _ _ _ _ _ _ us hl => match us, hl with | [_, _], _ => rfl, m_BadStart___init__ := ⟨a_BadStart___init__, i_BadStart___init__, k_BadStart___init__⟩, a_BadStart___init__ := f_BadStart___init__, d_BadStart___init__ := PySem.W.fnOf "__init__" "BadStart.__init__" (defArgs s_BadStart___init__) (defBody s_BadStart___init__) (defScope s_BadStart___init__) .none kV_BadStart___init__ dc_BadStart___init__ pm_BadStart___init__ an_BadStart___init__ cd_BadStart___init__ ct_BadStart___init__, kb_BadStart___init___start := kbn_mk (fun_mk (st := s_BadStart___init__) l_BadStart___init__ c_BadStart___init__ k_BadStart___init__) fun _ _ _ _ _ _ us ws h1 h2 => match us, ws, h1, h2 with | [_], [_], _, _ => rfl, F_BadStart___init__ := fun_mk (st := s_BadStart___init__) l_BadStart___init__ c_BadStart___init__ k_BadStart___init__, b_BadStart___init__ := (fun_mk (st := s_BadStart___init__) l_BadStart___init__ c_BadStart___init__ k_BadStart___init__).binds (ps := ["self", "start"]) fun _ _ _ _ _ _ us hl => match us, hl with | [_, _], _ => rfl, m_Clash___init__ := ⟨a_Clash___init__, i_Clash___init__, k_Clash___init__⟩, a_Clash___init__ := f_Clash___init__, d_Clash___init__ := PySem.W.fnOf "__init__" "Clash.__init__" (defArgs s_Clash___init__) (defBody s_Clash___init__) (defScope s_Clash___init__) .none kV_Clash___init__ dc_Clash___init__ pm_Clash___init__ an_Clash___init__ cd_Clash___init__ ct_Clash___init__, kb_Clash___init___index := kbn_mk (fun_mk (st := s_Clash___init__) l_Clash___init__ c_Clash___init__ k_Clash___init__) fun _ _ _ _ _ _ us ws h1 h2 => match us, ws, h1, h2 with | [_], [_], _, _ => rfl, F_Clash___init__ := fun_mk (st := s_Clash___init__) l_Clash___init__ c_Clash___init__ k_Clash___init__, b_Clash___init__ := (fun_mk (st := s_Clash___init__) l_Clash___init__ c_Clash___init__ k_Clash___init__).binds (ps := ["self", "index"]) fun _ _ _ _ _ _ us hl => match us, hl with | [_, _], _ => rfl, m_BadWord___init__ := ⟨a_BadWord___init__, i_BadWord___init__, k_BadWord___init__⟩, a_BadWord___init__ := f_BadWord___init__, d_BadWord___init__ := PySem.W.fnOf "__init__" "BadWord.__init__" (defArgs s_BadWord___init__) (defBody s_BadWord___init__) (defScope s_BadWord___init__) .none kV_BadWord___init__ dc_BadWord___init__ pm_BadWord___init__ an_BadWord___init__ cd_BadWord___init__ ct_BadWord___init__, kb_BadWord___init___word := kbn_mk (fun_mk (st := s_BadWord___init__) l_BadWord___init__ c_BadWord___init__ k_BadWord___init__) fun _ _ _ _ _ _ us ws h1 h2 => match us, ws, h1, h2 with | [_], [_], _, _ => rfl, F_BadWord___init__ := fun_mk (st := s_BadWord___init__) l_BadWord___init__ c_BadWord___init__ k_BadWord___init__, b_BadWord___init__ := (fun_mk (st := s_BadWord___init__) l_BadWord___init__ c_BadWord___init__ k_BadWord___init__).binds (ps := ["self", "word"]) fun _ _ _ _ _ _ us hl => match us, hl with | [_, _], _ => rfl, m_StillAsked___init__ := ⟨a_StillAsked___init__, i_StillAsked___init__, k_StillAsked___init__⟩, a_StillAsked___init__ := f_StillAsked___init__, d_StillAsked___init__ := PySem.W.fnOf "__init__" "StillAsked.__init__" (defArgs s_StillAsked___init__) (defBody s_StillAsked___init__) (defScope s_StillAsked___init__) .none kV_StillAsked___init__ dc_StillAsked___init__ pm_StillAsked___init__ an_StillAsked___init__ cd_StillAsked___init__ ct_StillAsked___init__, kb_StillAsked___init___path := kbn_mk (fun_mk (st := s_StillAsked___init__) l_StillAsked___init__ c_StillAsked___init__ k_StillAsked___init__) fun _ _ _ _ _ _ us ws h1 h2 => match us, ws, h1, h2 with | [_], [_], _, _ => rfl, F_StillAsked___init__ := fun_mk (st := s_StillAsked___init__) l_StillAsked___init__ c_StillAsked___init__ k_StillAsked___init__, b_StillAsked___init__ := (fun_mk (st := s_StillAsked___init__) l_StillAsked___init__ c_StillAsked___init__ k_StillAsked___init__).binds (ps := ["self", "path"]) fun _ _ _ _ _ _ us hl => match us, hl with | [_, _], _ => rfl, m_NotTold___init__ := ⟨a_NotTold___init__, i_NotTold___init__, k_NotTold___init__⟩, a_NotTold___init__ := f_NotTold___init__, d_NotTold___init__ := PySem.W.fnOf "__init__" "NotTold.__init__" (defArgs s_NotTold___init__) (defBody s_NotTold___init__) (defScope s_NotTold___init__) .none kV_NotTold___init__ dc_NotTold___init__ pm_NotTold___init__ an_NotTold___init__ cd_NotTold___init__ ct_NotTold___init__, kb_NotTold___init___place := kbn_mk (fun_mk (st := s_NotTold___init__) l_NotTold___init__ c_NotTold___init__ k_NotTold___init__) fun _ _ _ _ _ _ us ws h1 h2 => match us, ws, h1, h2 with | [_], [_], _, _ => rfl, F_NotTold___init__ := fun_mk (st := s_NotTold___init__) l_NotTold___init__ c_NotTold___init__ k_NotTold___init__, b_NotTold___init__ := (fun_mk (st := s_NotTold___init__) l_NotTold___init__ c_NotTold___init__ k_NotTold___init__).binds (ps := ["self", "place"]) fun _ _ _ _ _ _ us hl => match us, hl with | [_, _], _ => rfl, m_BadShape___init__ := ⟨a_BadShape___init__, i_BadShape___init__, k_BadShape___init__⟩, a_BadShape___init__ := f_BadShape___init__, d_BadShape___init__ := PySem.W.fnOf "__init__" "BadShape.__init__" (defArgs s_BadShape___init__) (defBody s_BadShape___init__) (defScope s_BadShape___init__) .none kV_BadShape___init__ dc_BadShape___init__ pm_BadShape___init__ an_BadShape___init__ cd_BadShape___init__ ct_BadShape___init__, kb_BadShape___init___text := kbn_mk (fun_mk (st := s_BadShape___init__) l_BadShape___init__ c_BadShape___init__ k_BadShape___init__) fun _ _ _ _ _ _ us ws h1 h2 => match us, ws, h1, h2 with | [_], [_], _, _ => rfl, F_BadShape___init__ := fun_mk (st := s_BadShape___init__) l_BadShape___init__ c_BadShape___init__ k_BadShape___init__, b_BadShape___init__ := (fun_mk (st := s_BadShape___init__) l_BadShape___init__ c_BadShape___init__ k_BadShape___init__).binds (ps := ["self", "text"]) fun _ _ _ _ _ _ us hl => match us, hl with | [_, _], _ => rfl, m_NoValue___init__ := ⟨a_NoValue___init__, i_NoValue___init__, k_NoValue___init__⟩, a_NoValue___init__ := f_NoValue___init__, d_NoValue___init__ := PySem.W.fnOf "__init__" "NoValue.__init__" (defArgs s_NoValue___init__) (defBody s_NoValue___init__) (defScope s_NoValue___init__) .none kV_NoValue___init__ dc_NoValue___init__ pm_NoValue___init__ an_NoValue___init__ cd_NoValue___init__ ct_NoValue___init__, kb_NoValue___init___letter := kbn_mk (fun_mk (st := s_NoValue___init__) l_NoValue___init__ c_NoValue___init__ k_NoValue___init__) fun _ _ _ _ _ _ us ws h1 h2 => match us, ws, h1, h2 with | [_], [_], _, _ => rfl, F_NoValue___init__ := fun_mk (st := s_NoValue___init__) l_NoValue___init__ c_NoValue___init__ k_NoValue___init__, b_NoValue___init__ := (fun_mk (st := s_NoValue___init__) l_NoValue___init__ c_NoValue___init__ k_NoValue___init__).binds (ps := ["self", "letter"]) fun _ _ _ _ _ _ us hl => match us, hl with | [_, _], _ => rfl, m_BadName___init__ := ⟨a_BadName___init__, i_BadName___init__, k_BadName___init__⟩, a_BadName___init__ := f_BadName___init__, d_BadName___init__ := PySem.W.fnOf "__init__" "BadName.__init__" (defArgs s_BadName___init__) (defBody s_BadName___init__) (defScope s_BadName___init__) .none kV_BadName___init__ dc_BadName___init__ pm_BadName___init__ an_BadName___init__ cd_BadName___init__ ct_BadName___init__, kb_BadName___init___name := kbn_mk (fun_mk (st := s_BadName___init__) l_BadName___init__ c_BadName___init__ k_BadName___init__) fun _ _ _ _ _ _ us ws h1 h2 => match us, ws, h1, h2 with | [_], [_], _, _ => rfl, F_BadName___init__ := fun_mk (st := s_BadName___init__) l_BadName___init__ c_BadName___init__ k_BadName___init__, b_BadName___init__ := (fun_mk (st := s_BadName___init__) l_BadName___init__ c_BadName___init__ k_BadName___init__).binds (ps := ["self", "name"]) fun _ _ _ _ _ _ us hl => match us, hl with | [_, _], _ => rfl, m_Held___init__ := ⟨a_Held___init__, i_Held___init__, k_Held___init__⟩, a_Held___init__ := f_Held___init__, d_Held___init__ := PySem.W.fnOf "__init__" "Held.__init__" (defArgs s_Held___init__) (defBody s_Held___init__) (defScope s_Held___init__) .none kV_Held___init__ dc_Held___init__ pm_Held___init__ an_Held___init__ cd_Held___init__ ct_Held___init__, kb_Held___init___name := kbn_mk (fun_mk (st := s_Held___init__) l_Held___init__ c_Held___init__ k_Held___init__) fun _ _ _ _ _ _ us ws h1 h2 => match us, ws, h1, h2 with | [_], [_], _, _ => rfl, F_Held___init__ := fun_mk (st := s_Held___init__) l_Held___init__ c_Held___init__ k_Held___init__, b_Held___init__ := (fun_mk (st := s_Held___init__) l_Held___init__ c_Held___init__ k_Held___init__).binds (ps := ["self", "name"]) fun _ _ _ _ _ _ us hl => match us, hl with | [_, _], _ => rfl, m_NotHeld___init__ := ⟨a_NotHeld___init__, i_NotHeld___init__, k_NotHeld___init__⟩, a_NotHeld___init__ := f_NotHeld___init__, d_NotHeld___init__ := PySem.W.fnOf "__init__" "NotHeld.__init__" (defArgs s_NotHeld___init__) (defBody s_NotHeld___init__) (defScope s_NotHeld___init__) .none kV_NotHeld___init__ dc_NotHeld___init__ pm_NotHeld___init__ an_NotHeld___init__ cd_NotHeld___init__ ct_NotHeld___init__, kb_NotHeld___init___name := kbn_mk (fun_mk (st := s_NotHeld___init__) l_NotHeld___init__ c_NotHeld___init__ k_NotHeld___init__) fun _ _ _ _ _ _ us ws h1 h2 => match us, ws, h1, h2 with | [_], [_], _, _ => rfl, F_NotHeld___init__ := fun_mk (st := s_NotHeld___init__) l_NotHeld___init__ c_NotHeld___init__ k_NotHeld___init__, b_NotHeld___init__ := (fun_mk (st := s_NotHeld___init__) l_NotHeld___init__ c_NotHeld___init__ k_NotHeld___init__).binds (ps := ["self", "name"]) fun _ _ _ _ _ _ us hl => match us, hl with | [_, _], _ => rfl, m_BadDeed___init__ := ⟨a_BadDeed___init__, i_BadDeed___init__, k_BadDeed___init__⟩, a_BadDeed___init__ := f_BadDeed___init__, d_BadDeed___init__ := PySem.W.fnOf "__init__" "BadDeed.__init__" (defArgs s_BadDeed___init__) (defBody s_BadDeed___init__) (defScope s_BadDeed___init__) .none kV_BadDeed___init__ dc_BadDeed___init__ pm_BadDeed___init__ an_BadDeed___init__ cd_BadDeed___init__ ct_BadDeed___init__, kb_BadDeed___init___deed := kbn_mk (fun_mk (st := s_BadDeed___init__) l_BadDeed___init__ c_BadDeed___init__ k_BadDeed___init__) fun _ _ _ _ _ _ us ws h1 h2 => match us, ws, h1, h2 with | [_], [_], _, _ => rfl, F_BadDeed___init__ := fun_mk (st := s_BadDeed___init__) l_BadDeed___init__ c_BadDeed___init__ k_BadDeed___init__, b_BadDeed___init__ := (fun_mk (st := s_BadDeed___init__) l_BadDeed___init__ c_BadDeed___init__ k_BadDeed___init__).binds (ps := ["self", "deed"]) fun _ _ _ _ _ _ us hl => match us, hl with | [_, _], _ => rfl, m_BadText___init__ := ⟨a_BadText___init__, i_BadText___init__, k_BadText___init__⟩, a_BadText___init__ := f_BadText___init__, d_BadText___init__ := PySem.W.fnOf "__init__" "BadText.__init__" (defArgs s_BadText___init__) (defBody s_BadText___init__) (defScope s_BadText___init__) .none kV_BadText___init__ dc_BadText___init__ pm_BadText___init__ an_BadText___init__ cd_BadText___init__ ct_BadText___init__, kb_BadText___init___line := kbn_mk (fun_mk (st := s_BadText___init__) l_BadText___init__ c_BadText___init__ k_BadText___init__) fun _ _ _ _ _ _ us ws h1 h2 => match us, ws, h1, h2 with | [_], [_], _, _ => rfl, F_BadText___init__ := fun_mk (st := s_BadText___init__) l_BadText___init__ c_BadText___init__ k_BadText___init__, b_BadText___init__ := (fun_mk (st := s_BadText___init__) l_BadText___init__ c_BadText___init__ k_BadText___init__).binds (ps := ["self", "line"]) fun _ _ _ _ _ _ us hl => match us, hl with | [_, _], _ => rfl, g_is_name := PySem.W.mg_of X G a_is_name, a_is_name := f_is_name, d_is_name := PySem.W.fnOf "is_name" "is_name" (defArgs s_is_name) (defBody s_is_name) (defScope s_is_name) .none kV_is_name dc_is_name pm_is_name an_is_name cd_is_name ct_is_name, F_is_name := fun_mk (st := s_is_name) l_is_name c_is_name k_is_name, b_is_name := (fun_mk (st := s_is_name) l_is_name c_is_name k_is_name).binds (ps := ["thing"]) fun _ _ _ _ _ _ us hl => match us, hl with | [_], _ => rfl, g_is_path_text := PySem.W.mg_of X G a_is_path_text, a_is_path_text := f_is_path_text, d_is_path_text := PySem.W.fnOf "is_path_text" "is_path_text" (defArgs s_is_path_text) (defBody s_is_path_text) (defScope s_is_path_text) .none kV_is_path_text dc_is_path_text pm_is_path_text an_is_path_text cd_is_path_text ct_is_path_text, F_is_path_text := fun_mk (st := s_is_path_text) l_is_path_text c_is_path_text k_is_path_text, b_is_path_text := (fun_mk (st := s_is_path_text) l_is_path_text c_is_path_text k_is_path_text).binds (ps := ["thing"]) fun _ _ _ _ _ _ us hl => match us, hl with | [_], _ => rfl, m_Path___init__ := ⟨a_Path___init__, i_Path___init__, k_Path___init__⟩, a_Path___init__ := f_Path___init__, d_Path___init__ := PySem.W.fnOf "__init__" "Path.__init__" (defArgs s_Path___init__) (defBody s_Path___init__) (defScope s_Path___init__) .none kV_Path___init__ dc_Path___init__ pm_Path___init__ an_Path___init__ cd_Path___init__ ct_Path___init__, F_Path___init__ := fun_mk (st := s_Path___init__) l_Path___init__ c_Path___init__ k_Path___init__, b_Path___init__ := (fun_mk (st := s_Path___init__) l_Path___init__ c_Path___init__ k_Path___init__).binds (ps := ["self", "text"]) fun _ _ _ _ _ _ us hl => match us, hl with | [_, _], _ => rfl, m_Path___eq__ := ⟨a_Path___eq__, i_Path___eq__, k_Path___eq__⟩, a_Path___eq__ := f_Path___eq__, d_Path___eq__ := PySem.W.fnOf "__eq__" "Path.__eq__" (defArgs s_Path___eq__) (defBody s_Path___eq__) (defScope s_Path___eq__) .none kV_Path___eq__ dc_Path___eq__ pm_Path___eq__ an_Path___eq__ cd_Path___eq__ ct_Path___eq__, F_Path___eq__ := fun_mk (st := s_Path___eq__) l_Path___eq__ c_Path___eq__ k_Path___eq__, b_Path___eq__ := (fun_mk (st := s_Path___eq__) l_Path___eq__ c_Path___eq__ k_Path___eq__).binds (ps := ["self", "other"]) fun _ _ _ _ _ _ us hl => match us, hl with | [_, _], _ => rfl, m_Path___len__ := ⟨a_Path___len__, i_Path___len__, k_Path___len__⟩, a_Path___len__ := f_Path___len__, d_Path___len__ := PySem.W.fnOf "__len__" "Path.__len__" (defArgs s_Path___len__) (defBody s_Path___len__) (defScope s_Path___len__) .none kV_Path___len__ dc_Path___len__ pm_Path___len__ an_Path___len__ cd_Path___len__ ct_Path___len__, F_Path___len__ := fun_mk (st := s_Path___len__) l_Path___len__ c_Path___len__ k_Path___len__, b_Path___len__ := (fun_mk (st := s_Path___len__) l_Path___len__ c_Path___len__ k_Path___len__).binds (ps := ["self"]) fun _ _ _ _ _ _ us hl => match us, hl with | [_], _ => rfl, m_Path___floordiv__ := ⟨a_Path___floordiv__, i_Path___floordiv__, k_Path___floordiv__⟩, a_Path___floordiv__ := f_Path___floordiv__, d_Path___floordiv__ := PySem.W.fnOf "__floordiv__" "Path.__floordiv__" (defArgs s_Path___floordiv__) (defBody s_Path___floordiv__) (defScope s_Path___floordiv__) .none kV_Path___floordiv__ dc_Path___floordiv__ pm_Path___floordiv__ an_Path___floordiv__ cd_Path___floordiv__ ct_Path___floordiv__, F_Path___floordiv__ := fun_mk (st := s_Path___floordiv__) l_Path___floordiv__ c_Path___floordiv__ k_Path___floordiv__, b_Path___floordiv__ := (fun_mk (st := s_Path___floordiv__) l_Path___floordiv__ c_Path___floordiv__ k_Path___floordiv__).binds (ps := ["self", "other"]) fun _ _ _ _ _ _ us hl => match us, hl with | [_, _], _ => rfl, m_Path_steps := ⟨a_Path_steps, i_Path_steps, k_Path_steps⟩, a_Path_steps := f_Path_steps, d_Path_steps := PySem.W.fnOf "steps" "Path.steps" (defArgs s_Path_steps) (defBody s_Path_steps) (defScope s_Path_steps) .none kV_Path_steps dc_Path_steps pm_Path_steps an_Path_steps cd_Path_steps ct_Path_steps, F_Path_steps := fun_mk (st := s_Path_steps) l_Path_steps c_Path_steps k_Path_steps, b_Path_steps := (fun_mk (st := s_Path_steps) l_Path_steps c_Path_steps k_Path_steps).binds (ps := ["self"]) fun _ _ _ _ _ _ us hl => match us, hl with | [_], _ => rfl, m_Path_last := ⟨a_Path_last, i_Path_last, k_Path_last⟩, a_Path_last := f_Path_last, d_Path_last := PySem.W.fnOf "last" "Path.last" (defArgs s_Path_last) (defBody s_Path_last) (defScope s_Path_last) .none kV_Path_last dc_Path_last pm_Path_last an_Path_last cd_Path_last ct_Path_last, F_Path_last := fun_mk (st := s_Path_last) l_Path_last c_Path_last k_Path_last, b_Path_last := (fun_mk (st := s_Path_last) l_Path_last c_Path_last k_Path_last).binds (ps := ["self"]) fun _ _ _ _ _ _ us hl => match us, hl with | [_], _ => rfl, m_Path_begin := ⟨a_Path_begin, i_Path_begin, k_Path_begin⟩, a_Path_begin := f_Path_begin, d_Path_begin := PySem.W.fnOf "begin" "Path.begin" (defArgs s_Path_begin) (defBody s_Path_begin) (defScope s_Path_begin) .none kV_Path_begin dc_Path_begin pm_Path_begin an_Path_begin cd_Path_begin ct_Path_begin, F_Path_begin := fun_mk (st := s_Path_begin) l_Path_begin c_Path_begin k_Path_begin, b_Path_begin := (fun_mk (st := s_Path_begin) l_Path_begin c_Path_begin k_Path_begin).binds (ps := ["self"]) fun _ _ _ _ _ _ us hl => match us, hl with | [_], _ => rfl, g__law_start := PySem.W.mg_of X G a__law_start, a__law_start := f__law_start, d__law_start := PySem.W.fnOf "_law_start" "_law_start" (defArgs s__law_start) (defBody s__law_start) (defScope s__law_start) .none kV__law_start dc__law_start pm__law_start an__law_start cd__law_start ct__law_start, F__law_start := fun_mk (st := s__law_start) l__law_start c__law_start k__law_start, b__law_start := (fun_mk (st := s__law_start) l__law_start c__law_start k__law_start).binds (ps := ["_law_script"]) fun _ _ _ _ _ _ us hl => match us, hl with | [_], _ => rfl, g__law_draw := PySem.W.mg_of X G a__law_draw, a__law_draw := f__law_draw, d__law_draw := PySem.W.fnOf "_law_draw" "_law_draw" (defArgs s__law_draw) (defBody s__law_draw) (defScope s__law_draw) .none kV__law_draw dc__law_draw pm__law_draw an__law_draw cd__law_draw ct__law_draw, F__law_draw := fun_mk (st := s__law_draw) l__law_draw c__law_draw k__law_draw, b__law_draw := (fun_mk (st := s__law_draw) l__law_draw c__law_draw k__law_draw).binds (ps := ["_law_stream", "_law_many"]) fun _ _ _ _ _ _ us hl => match us, hl with | [_, _], _ => rfl, g__law_pick := PySem.W.mg_of X G a__law_pick, a__law_pick := f__law_pick, d__law_pick := PySem.W.fnOf "_law_pick" "_law_pick" (defArgs s__law_pick) (defBody s__law_pick) (defScope s__law_pick) .none kV__law_pick dc__law_pick pm__law_pick an__law_pick cd__law_pick ct__law_pick, F__law_pick := fun_mk (st := s__law_pick) l__law_pick c__law_pick k__law_pick, b__law_pick := (fun_mk (st := s__law_pick) l__law_pick c__law_pick k__law_pick).binds (ps := ["_law_stream", "_law_some"]) fun _ _ _ _ _ _ us hl => match us, hl with | [_, _], _ => rfl, g__law_same := PySem.W.mg_of X G a__law_same, a__law_same := f__law_same, d__law_same := PySem.W.fnOf "_law_same" "_law_same" (defArgs s__law_same) (defBody s__law_same) (defScope s__law_same) .none kV__law_same dc__law_same pm__law_same an__law_same cd__law_same ct__law_same, F__law_same := fun_mk (st := s__law_same) l__law_same c__law_same k__law_same, b__law_same := (fun_mk (st := s__law_same) l__law_same c__law_same k__law_same).binds (ps := ["_law_found", "_law_due"]) fun _ _ _ _ _ _ us hl => match us, hl with | [_, _], _ => rfl, g__law_frozen := PySem.W.mg_of X G a__law_frozen, a__law_frozen := f__law_frozen, d__law_frozen := PySem.W.fnOf "_law_frozen" "_law_frozen" (defArgs s__law_frozen) (defBody s__law_frozen) (defScope s__law_frozen) .none kV__law_frozen dc__law_frozen pm__law_frozen an__law_frozen cd__law_frozen ct__law_frozen, F__law_frozen := fun_mk (st := s__law_frozen) l__law_frozen c__law_frozen k__law_frozen, b__law_frozen := (fun_mk (st := s__law_frozen) l__law_frozen c__law_frozen k__law_frozen).binds (ps := ["_law_thing_here"]) fun _ _ _ _ _ _ us hl => match us, hl with | [_], _ => rfl, g__law_thing := PySem.W.mg_of X G a__law_thing, a__law_thing := f__law_thing, d__law_thing := PySem.W.fnOf "_law_thing" "_law_thing" (defArgs s__law_thing) (defBody s__law_thing) (defScope s__law_thing) .none kV__law_thing dc__law_thing pm__law_thing an__law_thing cd__law_thing ct__law_thing, F__law_thing := fun_mk (st := s__law_thing) l__law_thing c__law_thing k__law_thing, b__law_thing := (fun_mk (st := s__law_thing) l__law_thing c__law_thing k__law_thing).binds (ps := ["_law_stream", "_law_deep"]) fun _ _ _ _ _ _ us hl => match us, hl with | [_, _], _ => rfl, g__law_by_place := PySem.W.mg_of X G a__law_by_place, a__law_by_place := f__law_by_place, d__law_by_place := PySem.W.fnOf "_law_by_place" "_law_by_place" (defArgs s__law_by_place) (defBody s__law_by_place) (defScope s__law_by_place) .none kV__law_by_place dc__law_by_place pm__law_by_place an__law_by_place cd__law_by_place ct__law_by_place, F__law_by_place := fun_mk (st := s__law_by_place) l__law_by_place c__law_by_place k__law_by_place, b__law_by_place := (fun_mk (st := s__law_by_place) l__law_by_place c__law_by_place k__law_by_place).binds (ps := ["_law_x"]) fun _ _ _ _ _ _ us hl => match us, hl with | [_], _ => rfl, g__law_by_name := PySem.W.mg_of X G a__law_by_name, a__law_by_name := f__law_by_name, d__law_by_name := PySem.W.fnOf "_law_by_name" "_law_by_name" (defArgs s__law_by_name) (defBody s__law_by_name) (defScope s__law_by_name) .none kV__law_by_name dc__law_by_name pm__law_by_name an__law_by_name cd__law_by_name ct__law_by_name, F__law_by_name := fun_mk (st := s__law_by_name) l__law_by_name c__law_by_name k__law_by_name, b__law_by_name := (fun_mk (st := s__law_by_name) l__law_by_name c__law_by_name k__law_by_name).binds (ps := ["_law_x"]) fun _ _ _ _ _ _ us hl => match us, hl with | [_], _ => rfl, g__law_kept := PySem.W.mg_of X G a__law_kept, a__law_kept := f__law_kept, d__law_kept := PySem.W.fnOf "_law_kept" "_law_kept" (defArgs s__law_kept) (defBody s__law_kept) (defScope s__law_kept) .none kV__law_kept dc__law_kept pm__law_kept an__law_kept cd__law_kept ct__law_kept, F__law_kept := fun_mk (st := s__law_kept) l__law_kept c__law_kept k__law_kept, b__law_kept := (fun_mk (st := s__law_kept) l__law_kept c__law_kept k__law_kept).binds (ps := ["_law_e"]) fun _ _ _ _ _ _ us hl => match us, hl with | [_], _ => rfl, g__law_classes := PySem.W.mg_of X G a__law_classes, a__law_classes := f__law_classes, d__law_classes := PySem.W.fnOf "_law_classes" "_law_classes" (defArgs s__law_classes) (defBody s__law_classes) (defScope s__law_classes) .none kV__law_classes dc__law_classes pm__law_classes an__law_classes cd__law_classes ct__law_classes, F__law_classes := fun_mk (st := s__law_classes) l__law_classes c__law_classes k__law_classes, b__law_classes := (fun_mk (st := s__law_classes) l__law_classes c__law_classes k__law_classes).binds (ps := ["_law_e"]) fun _ _ _ _ _ _ us hl => match us, hl with | [_], _ => rfl, g_law := PySem.W.mg_of X G a_law, a_law := f_law, d_law := PySem.W.fnOf "law" "law" (defArgs s_law) (defBody s_law) (defScope s_law) .none kV_law dc_law pm_law an_law cd_law ct_law, F_law := fun_mk (st := s_law) l_law c_law k_law, b_law := (fun_mk (st := s_law) l_law c_law k_law).binds (ps := ["_law_script"]) fun _ _ _ _ _ _ us hl => match us, hl with | [_], _ => rfl, c_Path := C_Path, g_Path := PySem.W.mg_of X G aC_Path, y_Path := ⟨⟨pg_Path, hd_Path, po_Path, sa_Path⟩, ha_Path, hn_Path, ht_Path, hm_Path⟩, mk_Path := ⟨mi_Path, a_Path___init__, i_Path___init__, kc_Path⟩, n_Path_text := n_Path_text, n_Path_rooted := n_Path_rooted, n_Path_ended := n_Path_ended, kt_Path_Path := kt_Path_Path, kt_Path_dict := kt_Path_dict, kt_Path_list := kt_Path_list, kt_Path_tuple := kt_Path_tuple, kt_Path_int := kt_Path_int, c_PathError := C_PathError, g_PathError := PySem.W.mg_of X G aC_PathError, er_PathError := er_PathError, ea_PathError := ea_PathError, ev_PathError := ev_PathError, c_BadDeed := C_BadDeed, g_BadDeed := PySem.W.mg_of X G aC_BadDeed, oe_BadDeed := ⟨⟨_, _, _, _, _, _, _, _, _, _, _, _, _, _, _, xl_BadDeed, rfl⟩, xsa_BadDeed, xeb_BadDeed, xty_BadDeed, xkc_BadDeed⟩, ex_BadDeed := ⟨xga_BadDeed, xgg_BadDeed, xeb_BadDeed, xhd_BadDeed⟩, ef_BadDeed := xno_BadDeed, ei_BadDeed := a_BadDeed___init__, et_BadDeed := xti_BadDeed, ec_BadDeed := ⟨xga_BadDeed, xgg_BadDeed, xeb_BadDeed, xhd_BadDeed, xha_BadDeed, xhn, xht, xhm_BadDeed⟩, xk_BadDeed := HXv.xkl_mk xl_BadDeed xty_BadDeed, c_BadFact := C_BadFact, g_BadFact := PySem.W.mg_of X G aC_BadFact, oe_BadFact := ⟨⟨_, _, _, _, _, _, _, _, _, _, _, _, _, _, _, xl_BadFact, rfl⟩, xsa_BadFact, xeb_BadFact, xty_BadFact, xkc_BadFact⟩, ex_BadFact := ⟨xga_BadFact, xgg_BadFact, xeb_BadFact, xhd_BadFact⟩, ef_BadFact := xno_BadFact, ei_BadFact := a_BadFact___init__, et_BadFact := xti_BadFact, ec_BadFact := ⟨xga_BadFact, xgg_BadFact, xeb_BadFact, xhd_BadFact, xha_BadFact, xhn, xht, xhm_BadFact⟩, xk_BadFact := HXv.xkl_mk xl_BadFact xty_BadFact, c_BadName := C_BadName, g_BadName := PySem.W.mg_of X G aC_BadName, oe_BadName := ⟨⟨_, _, _, _, _, _, _, _, _, _, _, _, _, _, _, xl_BadName, rfl⟩, xsa_BadName, xeb_BadName, xty_BadName, xkc_BadName⟩, ex_BadName := ⟨xga_BadName, xgg_BadName, xeb_BadName, xhd_BadName⟩, ef_BadName := xno_BadName, ei_BadName := a_BadName___init__, et_BadName := xti_BadName, ec_BadName := ⟨xga_BadName, xgg_BadName, xeb_BadName, xhd_BadName, xha_BadName, xhn, xht, xhm_BadName⟩, xk_BadName := HXv.xkl_mk xl_BadName xty_BadName, c_BadPath := C_BadPath, g_BadPath := PySem.W.mg_of X G aC_BadPath, oe_BadPath := ⟨⟨_, _, _, _, _, _, _, _, _, _, _, _, _, _, _, xl_BadPath, rfl⟩, xsa_BadPath, xeb_BadPath, xty_BadPath, xkc_BadPath⟩, ex_BadPath := ⟨xga_BadPath, xgg_BadPath, xeb_BadPath, xhd_BadPath⟩, ef_BadPath := xno_BadPath, ei_BadPath := a_BadPath___init__, et_BadPath := xti_BadPath, ec_BadPath := ⟨xga_BadPath, xgg_BadPath, xeb_BadPath, xhd_BadPath, xha_BadPath, xhn, xht, xhm_BadPath⟩, xk_BadPath := HXv.xkl_mk xl_BadPath xty_BadPath, c_BadShape := C_BadShape, g_BadShape := PySem.W.mg_of X G aC_BadShape, oe_BadShape := ⟨⟨_, _, _, _, _, _, _, _, _, _, _, _, _, _, _, xl_BadShape, rfl⟩, xsa_BadShape, xeb_BadShape, xty_BadShape, xkc_BadShape⟩, ex_BadShape := ⟨xga_BadShape, xgg_BadShape, xeb_BadShape, xhd_BadShape⟩, ef_BadShape := xno_BadShape, ei_BadShape := a_BadShape___init__, et_BadShape := xti_BadShape, ec_BadShape := ⟨xga_BadShape, xgg_BadShape, xeb_BadShape, xhd_BadShape, xha_BadShape, xhn, xht, xhm_BadShape⟩, xk_BadShape := HXv.xkl_mk xl_BadShape xty_BadShape, c_BadStart := C_BadStart, g_BadStart := PySem.W.mg_of X G aC_BadStart, oe_BadStart := ⟨⟨_, _, _, _, _, _, _, _, _, _, _, _, _, _, _, xl_BadStart, rfl⟩, xsa_BadStart, xeb_BadStart, xty_BadStart, xkc_BadStart⟩, ex_BadStart := ⟨xga_BadStart, xgg_BadStart, xeb_BadStart, xhd_BadStart⟩, ef_BadStart := xno_BadStart, ei_BadStart := a_BadStart___init__, et_BadStart := xti_BadStart, ec_BadStart := ⟨xga_BadStart, xgg_BadStart, xeb_BadStart, xhd_BadStart, xha_BadStart, xhn, xht, xhm_BadStart⟩, xk_BadStart := HXv.xkl_mk xl_BadStart xty_BadStart, c_BadText := C_BadText, g_BadText := PySem.W.mg_of X G aC_BadText, oe_BadText := ⟨⟨_, _, _, _, _, _, _, _, _, _, _, _, _, _, _, xl_BadText, rfl⟩, xsa_BadText, xeb_BadText, xty_BadText, xkc_BadText⟩, ex_BadText := ⟨xga_BadText, xgg_BadText, xeb_BadText, xhd_BadText⟩, ef_BadText := xno_BadText, ei_BadText := a_BadText___init__, et_BadText := xti_BadText, ec_BadText := ⟨xga_BadText, xgg_BadText, xeb_BadText, xhd_BadText, xha_BadText, xhn, xht, xhm_BadText⟩, xk_BadText := HXv.xkl_mk xl_BadText xty_BadText, c_BadWord := C_BadWord, g_BadWord := PySem.W.mg_of X G aC_BadWord, oe_BadWord := ⟨⟨_, _, _, _, _, _, _, _, _, _, _, _, _, _, _, xl_BadWord, rfl⟩, xsa_BadWord, xeb_BadWord, xty_BadWord, xkc_BadWord⟩, ex_BadWord := ⟨xga_BadWord, xgg_BadWord, xeb_BadWord, xhd_BadWord⟩, ef_BadWord := xno_BadWord, ei_BadWord := a_BadWord___init__, et_BadWord := xti_BadWord, ec_BadWord := ⟨xga_BadWord, xgg_BadWord, xeb_BadWord, xhd_BadWord, xha_BadWord, xhn, xht, xhm_BadWord⟩, xk_BadWord := HXv.xkl_mk xl_BadWord xty_BadWord, c_Clash := C_Clash, g_Clash := PySem.W.mg_of X G aC_Clash, oe_Clash := ⟨⟨_, _, _, _, _, _, _, _, _, _, _, _, _, _, _, xl_Clash, rfl⟩, xsa_Clash, xeb_Clash, xty_Clash, xkc_Clash⟩, ex_Clash := ⟨xga_Clash, xgg_Clash, xeb_Clash, xhd_Clash⟩, ef_Clash := xno_Clash, ei_Clash := a_Clash___init__, et_Clash := xti_Clash, ec_Clash := ⟨xga_Clash, xgg_Clash, xeb_Clash, xhd_Clash, xha_Clash, xhn, xht, xhm_Clash⟩, xk_Clash := HXv.xkl_mk xl_Clash xty_Clash, c_Held := C_Held, g_Held := PySem.W.mg_of X G aC_Held, oe_Held := ⟨⟨_, _, _, _, _, _, _, _, _, _, _, _, _, _, _, xl_Held, rfl⟩, xsa_Held, xeb_Held, xty_Held, xkc_Held⟩, ex_Held := ⟨xga_Held, xgg_Held, xeb_Held, xhd_Held⟩, ef_Held := xno_Held, ei_Held := a_Held___init__, et_Held := xti_Held, ec_Held := ⟨xga_Held, xgg_Held, xeb_Held, xhd_Held, xha_Held, xhn, xht, xhm_Held⟩, xk_Held := HXv.xkl_mk xl_Held xty_Held, c_Inside := C_Inside, g_Inside := PySem.W.mg_of X G aC_Inside, oe_Inside := ⟨⟨_, _, _, _, _, _, _, _, _, _, _, _, _, _, _, xl_Inside, rfl⟩, xsa_Inside, xeb_Inside, xty_Inside, xkc_Inside⟩, ex_Inside := ⟨xga_Inside, xgg_Inside, xeb_Inside, xhd_Inside⟩, ef_Inside := xno_Inside, ei_Inside := a_Inside___init__, et_Inside := xti_Inside, ec_Inside := ⟨xga_Inside, xgg_Inside, xeb_Inside, xhd_Inside, xha_Inside, xhn, xht, xhm_Inside⟩, xk_Inside := HXv.xkl_mk xl_Inside xty_Inside, c_NoFolder := C_NoFolder, g_NoFolder := PySem.W.mg_of X G aC_NoFolder, oe_NoFolder := ⟨⟨_, _, _, _, _, _, _, _, _, _, _, _, _, _, _, xl_NoFolder, rfl⟩, xsa_NoFolder, xeb_NoFolder, xty_NoFolder, xkc_NoFolder⟩, ex_NoFolder := ⟨xga_NoFolder, xgg_NoFolder, xeb_NoFolder, xhd_NoFolder⟩, ef_NoFolder := xno_NoFolder, ei_NoFolder := a_NoFolder___init__, et_NoFolder := xti_NoFolder, ec_NoFolder := ⟨xga_NoFolder, xgg_NoFolder, xeb_NoFolder, xhd_NoFolder, xha_NoFolder, xhn, xht, xhm_NoFolder⟩, xk_NoFolder := HXv.xkl_mk xl_NoFolder xty_NoFolder, c_NoRelative := C_NoRelative, g_NoRelative := PySem.W.mg_of X G aC_NoRelative, oe_NoRelative := ⟨⟨_, _, _, _, _, _, _, _, _, _, _, _, _, _, _, xl_NoRelative, rfl⟩, xsa_NoRelative, xeb_NoRelative, xty_NoRelative, xkc_NoRelative⟩, ex_NoRelative := ⟨xga_NoRelative, xgg_NoRelative, xeb_NoRelative, xhd_NoRelative⟩, ef_NoRelative := xno_NoRelative, ei_NoRelative := a_NoRelative___init__, et_NoRelative := xti_NoRelative, ec_NoRelative := ⟨xga_NoRelative, xgg_NoRelative, xeb_NoRelative, xhd_NoRelative, xha_NoRelative, xhn, xht, xhm_NoRelative⟩, xk_NoRelative := HXv.xkl_mk xl_NoRelative xty_NoRelative, c_NoThing := C_NoThing, g_NoThing := PySem.W.mg_of X G aC_NoThing, oe_NoThing := ⟨⟨_, _, _, _, _, _, _, _, _, _, _, _, _, _, _, xl_NoThing, rfl⟩, xsa_NoThing, xeb_NoThing, xty_NoThing, xkc_NoThing⟩, ex_NoThing := ⟨xga_NoThing, xgg_NoThing, xeb_NoThing, xhd_NoThing⟩, ef_NoThing := xno_NoThing, ei_NoThing := a_NoThing___init__, et_NoThing := xti_NoThing, ec_NoThing := ⟨xga_NoThing, xgg_NoThing, xeb_NoThing, xhd_NoThing, xha_NoThing, xhn, xht, xhm_NoThing⟩, xk_NoThing := HXv.xkl_mk xl_NoThing xty_NoThing, c_NoValue := C_NoValue, g_NoValue := PySem.W.mg_of X G aC_NoValue, oe_NoValue := ⟨⟨_, _, _, _, _, _, _, _, _, _, _, _, _, _, _, xl_NoValue, rfl⟩, xsa_NoValue, xeb_NoValue, xty_NoValue, xkc_NoValue⟩, ex_NoValue := ⟨xga_NoValue, xgg_NoValue, xeb_NoValue, xhd_NoValue⟩, ef_NoValue := xno_NoValue, ei_NoValue := a_NoValue___init__, et_NoValue := xti_NoValue, ec_NoValue := ⟨xga_NoValue, xgg_NoValue, xeb_NoValue, xhd_NoValue, xha_NoValue, xhn, xht, xhm_NoValue⟩, xk_NoValue := HXv.xkl_mk xl_NoValue xty_NoValue, c_NotBegun := C_NotBegun, g_NotBegun := PySem.W.mg_of X G aC_NotBegun, oe_NotBegun := ⟨⟨_, _, _, _, _, _, _, _, _, _, _, _, _, _, _, xl_NotBegun, rfl⟩, xsa_NotBegun, xeb_NotBegun, xty_NotBegun, xkc_NotBegun⟩, ex_NotBegun := ⟨xga_NotBegun, xgg_NotBegun, xeb_NotBegun, xhd_NotBegun⟩, ef_NotBegun := xno_NotBegun, ei_NotBegun := a_NotBegun___init__, et_NotBegun := xti_NotBegun, ec_NotBegun := ⟨xga_NotBegun, xgg_NotBegun, xeb_NotBegun, xhd_NotBegun, xha_NotBegun, xhn, xht, xhm_NotBegun⟩, xk_NotBegun := HXv.xkl_mk xl_NotBegun xty_NotBegun, c_NotEmpty := C_NotEmpty, g_NotEmpty := PySem.W.mg_of X G aC_NotEmpty, oe_NotEmpty := ⟨⟨_, _, _, _, _, _, _, _, _, _, _, _, _, _, _, xl_NotEmpty, rfl⟩, xsa_NotEmpty, xeb_NotEmpty, xty_NotEmpty, xkc_NotEmpty⟩, ex_NotEmpty := ⟨xga_NotEmpty, xgg_NotEmpty, xeb_NotEmpty, xhd_NotEmpty⟩, ef_NotEmpty := xno_NotEmpty, ei_NotEmpty := a_NotEmpty___init__, et_NotEmpty := xti_NotEmpty, ec_NotEmpty := ⟨xga_NotEmpty, xgg_NotEmpty, xeb_NotEmpty, xhd_NotEmpty, xha_NotEmpty, xhn, xht, xhm_NotEmpty⟩, xk_NotEmpty := HXv.xkl_mk xl_NotEmpty xty_NotEmpty, c_NotHeld := C_NotHeld, g_NotHeld := PySem.W.mg_of X G aC_NotHeld, oe_NotHeld := ⟨⟨_, _, _, _, _, _, _, _, _, _, _, _, _, _, _, xl_NotHeld, rfl⟩, xsa_NotHeld, xeb_NotHeld, xty_NotHeld, xkc_NotHeld⟩, ex_NotHeld := ⟨xga_NotHeld, xgg_NotHeld, xeb_NotHeld, xhd_NotHeld⟩, ef_NotHeld := xno_NotHeld, ei_NotHeld := a_NotHeld___init__, et_NotHeld := xti_NotHeld, ec_NotHeld := ⟨xga_NotHeld, xgg_NotHeld, xeb_NotHeld, xhd_NotHeld, xha_NotHeld, xhn, xht, xhm_NotHeld⟩, xk_NotHeld := HXv.xkl_mk xl_NotHeld xty_NotHeld, c_NotTold := C_NotTold, g_NotTold := PySem.W.mg_of X G aC_NotTold, oe_NotTold := ⟨⟨_, _, _, _, _, _, _, _, _, _, _, _, _, _, _, xl_NotTold, rfl⟩, xsa_NotTold, xeb_NotTold, xty_NotTold, xkc_NotTold⟩, ex_NotTold := ⟨xga_NotTold, xgg_NotTold, xeb_NotTold, xhd_NotTold⟩, ef_NotTold := xno_NotTold, ei_NotTold := a_NotTold___init__, et_NotTold := xti_NotTold, ec_NotTold := ⟨xga_NotTold, xgg_NotTold, xeb_NotTold, xhd_NotTold, xha_NotTold, xhn, xht, xhm_NotTold⟩, xk_NotTold := HXv.xkl_mk xl_NotTold xty_NotTold, c_StillAsked := C_StillAsked, g_StillAsked := PySem.W.mg_of X G aC_StillAsked, oe_StillAsked := ⟨⟨_, _, _, _, _, _, _, _, _, _, _, _, _, _, _, xl_StillAsked, rfl⟩, xsa_StillAsked, xeb_StillAsked, xty_StillAsked, xkc_StillAsked⟩, ex_StillAsked := ⟨xga_StillAsked, xgg_StillAsked, xeb_StillAsked, xhd_StillAsked⟩, ef_StillAsked := xno_StillAsked, ei_StillAsked := a_StillAsked___init__, et_StillAsked := xti_StillAsked, ec_StillAsked := ⟨xga_StillAsked, xgg_StillAsked, xeb_StillAsked, xhd_StillAsked, xha_StillAsked, xhn, xht, xhm_StillAsked⟩, xk_StillAsked := HXv.xkl_mk xl_StillAsked xty_StillAsked, c_Taken := C_Taken, g_Taken := PySem.W.mg_of X G aC_Taken, oe_Taken := ⟨⟨_, _, _, _, _, _, _, _, _, _, _, _, _, _, _, xl_Taken, rfl⟩, xsa_Taken, xeb_Taken, xty_Taken, xkc_Taken⟩, ex_Taken := ⟨xga_Taken, xgg_Taken, xeb_Taken, xhd_Taken⟩, ef_Taken := xno_Taken, ei_Taken := a_Taken___init__, et_Taken := xti_Taken, ec_Taken := ⟨xga_Taken, xgg_Taken, xeb_Taken, xhd_Taken, xha_Taken, xhn, xht, xhm_Taken⟩, xk_Taken := HXv.xkl_mk xl_Taken xty_Taken, c_Root := C_Root, g_Root := PySem.W.mg_of X G aC_Root, qx_Root := qx_Root, xkc_Root := xkc_Root, ec_Root := ⟨xga_Root, xgg_Root, xeb_Root, xhd_Root, xha_Root, xhn, xht, xhm_Root⟩, xk_Root := HXv.xkl_mk xl_Root xty_Root, c_NotAsked := C_NotAsked, g_NotAsked := PySem.W.mg_of X G aC_NotAsked, qx_NotAsked := qx_NotAsked, xkc_NotAsked := xkc_NotAsked, ec_NotAsked := ⟨xga_NotAsked, xgg_NotAsked, xeb_NotAsked, xhd_NotAsked, xha_NotAsked, xhn, xht, xhm_NotAsked⟩, xk_NotAsked := HXv.xkl_mk xl_NotAsked xty_NotAsked, c_NoDeed := C_NoDeed, g_NoDeed := PySem.W.mg_of X G aC_NoDeed, qx_NoDeed := qx_NoDeed, xkc_NoDeed := xkc_NoDeed, ec_NoDeed := ⟨xga_NoDeed, xgg_NoDeed, xeb_NoDeed, xhd_NoDeed, xha_NoDeed, xhn, xht, xhm_NoDeed⟩, xk_NoDeed := HXv.xkl_mk xl_NoDeed xty_NoDeed, xic_PathError := xic_PathError, xty_PathError := xty_PathError, nd_x := nd_x, op_Path___eq__ := op_Path___eq__, op_Path___len__ := op_Path___len__, z_ValueError := PySem.W.mg_none_of X G z_ValueError, z_all := PySem.W.mg_none_of X G z_all, z_bool := PySem.W.mg_none_of X G z_bool, z_dict := PySem.W.mg_none_of X G z_dict, z_enumerate := PySem.W.mg_none_of X G z_enumerate, z_int := PySem.W.mg_none_of X G z_int, z_isinstance := PySem.W.mg_none_of X G z_isinstance, z_len := PySem.W.mg_none_of X G z_len, z_list := PySem.W.mg_none_of X G z_list, z_range := PySem.W.mg_none_of X G z_range, z_str := PySem.W.mg_none_of X G z_str, z_tuple := PySem.W.mg_none_of X G z_tuple, z_zip := PySem.W.mg_none_of X G z_zip, u_LETTERS := .str "abcdefghijklmnopqrstuvwxyz" t_LETTERS, g_LETTERS := PySem.W.mg_of X G a_LETTERS, r_LETTERS := ⟨_, rfl⟩, u_LONGEST := .int 8 t_LONGEST, g_LONGEST := PySem.W.mg_of X G a_LONGEST, r_LONGEST := ⟨_, rfl⟩ }
  exact ⟨T.d_law, fun s v => .of_eq rfl, fun base _ _ => by
    have G_BadPath___init__ : FnOk l.prog w K mg base (L2.CX l.prog w) 1 T.a_BadPath___init__ T.d_BadPath___init__ ["self", "text"] (HX1.spExc T.c_BadPath "text") := ok_BadPath___init__ T 
    have G_NotBegun___init__ : FnOk l.prog w K mg base (L2.CX l.prog w) 1 T.a_NotBegun___init__ T.d_NotBegun___init__ ["self", "other"] (HX1.spExc T.c_NotBegun "other") := ok_NotBegun___init__ T 
    have G_NoRelative___init__ : FnOk l.prog w K mg base (L2.CX l.prog w) 1 T.a_NoRelative___init__ T.d_NoRelative___init__ ["self", "path"] (HX1.spExc T.c_NoRelative "path") := ok_NoRelative___init__ T 
    have G_NoFolder___init__ : FnOk l.prog w K mg base (L2.CX l.prog w) 1 T.a_NoFolder___init__ T.d_NoFolder___init__ ["self", "place"] (HX1.spExc T.c_NoFolder "place") := ok_NoFolder___init__ T 
    have G_Taken___init__ : FnOk l.prog w K mg base (L2.CX l.prog w) 1 T.a_Taken___init__ T.d_Taken___init__ ["self", "place"] (HX1.spExc T.c_Taken "place") := ok_Taken___init__ T 
    have G_NoThing___init__ : FnOk l.prog w K mg base (L2.CX l.prog w) 1 T.a_NoThing___init__ T.d_NoThing___init__ ["self", "place"] (HX1.spExc T.c_NoThing "place") := ok_NoThing___init__ T 
    have G_NotEmpty___init__ : FnOk l.prog w K mg base (L2.CX l.prog w) 1 T.a_NotEmpty___init__ T.d_NotEmpty___init__ ["self", "place"] (HX1.spExc T.c_NotEmpty "place") := ok_NotEmpty___init__ T 
    have G_Inside___init__ : FnOk l.prog w K mg base (L2.CX l.prog w) 1 T.a_Inside___init__ T.d_Inside___init__ ["self", "place"] (HX1.spExc T.c_Inside "place") := ok_Inside___init__ T 
    have G_BadFact___init__ : FnOk l.prog w K mg base (L2.CX l.prog w) 1 T.a_BadFact___init__ T.d_BadFact___init__ ["self", "index"] (HX1.spExc T.c_BadFact "index") := ok_BadFact___init__ T 
    have G_BadStart___init__ : FnOk l.prog w K mg base (L2.CX l.prog w) 1 T.a_BadStart___init__ T.d_BadStart___init__ ["self", "start"] (HX1.spExc T.c_BadStart "start") := ok_BadStart___init__ T 
    have G_Clash___init__ : FnOk l.prog w K mg base (L2.CX l.prog w) 1 T.a_Clash___init__ T.d_Clash___init__ ["self", "index"] (HX1.spExc T.c_Clash "index") := ok_Clash___init__ T 
    have G_BadWord___init__ : FnOk l.prog w K mg base (L2.CX l.prog w) 1 T.a_BadWord___init__ T.d_BadWord___init__ ["self", "word"] (HX1.spExc T.c_BadWord "word") := ok_BadWord___init__ T 
    have G_StillAsked___init__ : FnOk l.prog w K mg base (L2.CX l.prog w) 1 T.a_StillAsked___init__ T.d_StillAsked___init__ ["self", "path"] (HX1.spExc T.c_StillAsked "path") := ok_StillAsked___init__ T 
    have G_NotTold___init__ : FnOk l.prog w K mg base (L2.CX l.prog w) 1 T.a_NotTold___init__ T.d_NotTold___init__ ["self", "place"] (HX1.spExc T.c_NotTold "place") := ok_NotTold___init__ T 
    have G_BadShape___init__ : FnOk l.prog w K mg base (L2.CX l.prog w) 1 T.a_BadShape___init__ T.d_BadShape___init__ ["self", "text"] (HX1.spExc T.c_BadShape "text") := ok_BadShape___init__ T 
    have G_NoValue___init__ : FnOk l.prog w K mg base (L2.CX l.prog w) 1 T.a_NoValue___init__ T.d_NoValue___init__ ["self", "letter"] (HX1.spExc T.c_NoValue "letter") := ok_NoValue___init__ T 
    have G_BadName___init__ : FnOk l.prog w K mg base (L2.CX l.prog w) 1 T.a_BadName___init__ T.d_BadName___init__ ["self", "name"] (HX1.spExc T.c_BadName "name") := ok_BadName___init__ T 
    have G_Held___init__ : FnOk l.prog w K mg base (L2.CX l.prog w) 1 T.a_Held___init__ T.d_Held___init__ ["self", "name"] (HX1.spExc T.c_Held "name") := ok_Held___init__ T 
    have G_NotHeld___init__ : FnOk l.prog w K mg base (L2.CX l.prog w) 1 T.a_NotHeld___init__ T.d_NotHeld___init__ ["self", "name"] (HX1.spExc T.c_NotHeld "name") := ok_NotHeld___init__ T 
    have G_BadDeed___init__ : FnOk l.prog w K mg base (L2.CX l.prog w) 1 T.a_BadDeed___init__ T.d_BadDeed___init__ ["self", "deed"] (HX1.spExc T.c_BadDeed "deed") := ok_BadDeed___init__ T 
    have G_BadText___init__ : FnOk l.prog w K mg base (L2.CX l.prog w) 1 T.a_BadText___init__ T.d_BadText___init__ ["self", "line"] (HX1.spExc T.c_BadText "line") := ok_BadText___init__ T 
    have G_is_name : FnOk l.prog w K mg base (L2.CX l.prog w) 1 T.a_is_name T.d_is_name ["thing"] (spOf K (φ_is_name T)) := ok_is_name T 
    have G_is_path_text : FnOk l.prog w K mg base (L2.CX l.prog w) 2 T.a_is_path_text T.d_is_path_text ["thing"] (spOf K (φ_is_path_text T)) := ok_is_path_text T G_is_name
    have G_Path___init__ : FnOk l.prog w K mg base (L2.CX l.prog w) 3 T.a_Path___init__ T.d_Path___init__ ["self", "text"] (spOf K (φ_Path___init__ T)) := ok_Path___init__ T G_is_path_text
    have G_Path___eq__ : FnOk l.prog w K mg base (L2.CX l.prog w) 1 T.a_Path___eq__ T.d_Path___eq__ ["self", "other"] (spOf K (φ_Path___eq__ T)) := ok_Path___eq__ T 
    have G_Path_steps : FnOk l.prog w K mg base (L2.CX l.prog w) 1 T.a_Path_steps T.d_Path_steps ["self"] (spOf K (φ_Path_steps T)) := ok_Path_steps T 
    have G_Path___len__ : FnOk l.prog w K mg base (L2.CX l.prog w) 2 T.a_Path___len__ T.d_Path___len__ ["self"] (spOf K (φ_Path___len__ T)) := ok_Path___len__ T G_Path_steps
    have G_Path___floordiv__ : FnOk l.prog w K mg base (L2.CX l.prog w) 5 T.a_Path___floordiv__ T.d_Path___floordiv__ ["self", "other"] (spOf K (φ_Path___floordiv__ T)) := ok_Path___floordiv__ T G_Path___init__
    have G_Path_last : FnOk l.prog w K mg base (L2.CX l.prog w) 2 T.a_Path_last T.d_Path_last ["self"] (spOf K (φ_Path_last T)) := ok_Path_last T G_Path_steps
    have G_Path_begin : FnOk l.prog w K mg base (L2.CX l.prog w) 5 T.a_Path_begin T.d_Path_begin ["self"] (spOf K (φ_Path_begin T)) := ok_Path_begin T G_Path___init__ G_Path___len__ G_Path_last
    have G__law_start : FnOk l.prog w K mg base (L2.CX l.prog w) 1 T.a__law_start T.d__law_start ["_law_script"] (spStart K) := ok__law_start T 
    have G__law_draw : FnOk l.prog w K mg base (L2.CX l.prog w) 1 T.a__law_draw T.d__law_draw ["_law_stream", "_law_many"] (spOf K (φ__law_draw T)) := ok__law_draw T 
    have G__law_pick : FnOk l.prog w K mg base (L2.CX l.prog w) 2 T.a__law_pick T.d__law_pick ["_law_stream", "_law_some"] (spOf K (φ__law_pick T)) := ok__law_pick T G__law_draw
    have G__law_same : FnOk l.prog w K mg base (L2.CX l.prog w) 8 T.a__law_same T.d__law_same ["_law_found", "_law_due"] (spOf K (φ__law_same T 6)) := ok__law_same T G_Path___eq__ 6
    have G__law_frozen : FnOk l.prog w K mg base (L2.CX l.prog w) 8 T.a__law_frozen T.d__law_frozen ["_law_thing_here"] (spOf K (φ__law_frozen T 6)) := ok__law_frozen T  6
    have G__law_thing : FnOk l.prog w K mg base (L2.CX l.prog w) 8 T.a__law_thing T.d__law_thing ["_law_stream", "_law_deep"] (spOf K (φ__law_thing T 2)) := ok__law_thing T G_Path___init__ G__law_draw G__law_pick 2
    have G__law_by_place : FnOk l.prog w K mg base (L2.CX l.prog w) 3 T.a__law_by_place T.d__law_by_place ["_law_x"] (spOf K (φ__law_by_place T)) := ok__law_by_place T G_BadDeed___init__ G_BadFact___init__ G_BadName___init__ G_BadPath___init__ G_BadShape___init__ G_BadStart___init__ G_BadText___init__ G_BadWord___init__ G_Clash___init__ G_Held___init__ G_Inside___init__ G_NoFolder___init__ G_NoRelative___init__ G_NoThing___init__ G_NoValue___init__ G_NotBegun___init__ G_NotEmpty___init__ G_NotHeld___init__ G_NotTold___init__ G_StillAsked___init__ G_Taken___init__
    have G__law_by_name : FnOk l.prog w K mg base (L2.CX l.prog w) 3 T.a__law_by_name T.d__law_by_name ["_law_x"] (spOf K (φ__law_by_name T)) := ok__law_by_name T G_BadDeed___init__ G_BadFact___init__ G_BadName___init__ G_BadPath___init__ G_BadShape___init__ G_BadStart___init__ G_BadText___init__ G_BadWord___init__ G_Clash___init__ G_Held___init__ G_Inside___init__ G_NoFolder___init__ G_NoRelative___init__ G_NoThing___init__ G_NoValue___init__ G_NotBegun___init__ G_NotEmpty___init__ G_NotHeld___init__ G_NotTold___init__ G_StillAsked___init__ G_Taken___init__
    have G__law_kept : FnOk l.prog w K mg base (L2.CX l.prog w) 1 T.a__law_kept T.d__law_kept ["_law_e"] (spOf K (φ__law_kept T)) := ok__law_kept T 
    have G__law_classes : FnOk l.prog w K mg base (L2.CX l.prog w) 1 T.a__law_classes T.d__law_classes ["_law_e"] (spOf K (φ__law_classes T)) := ok__law_classes T 
    have G_law : FnOk l.prog w K mg base (L2.CX l.prog w) 9 T.a_law T.d_law ["_law_script"] (spLaw K) := ok_law T G__law_by_name G__law_by_place G__law_classes G__law_frozen G__law_kept G__law_same G__law_start G__law_thing
    exact G_law⟩
theorem cx_false {P : Program} {w : World} {outer : List PySem.Env} {H : Hp} {s : Shared} {u : Value} {s' : Shared} (h : L2.CX P w outer H s (fun _ _ _ => False) u s') : False := by
  obtain ⟨_, _, _, _, _, _, _, _, _, _, _, _, z⟩ := h
  exact z
theorem walk {l : PySem.W.OpenLaw} {q : Program} {loose : List Str} {XP : (Str → Option Value) → Heap → Prop} {YP : World → Heap → Prop} {d : DefRec} {K : Params → PySem.W.Frag} (hn : l.most = some 63) (hdf : d.params.defaults = [])
    (hY : ∀ (w : World) (h : Heap), YP w h → (K w.params).In h)
    (F : ∀ (w : World) (mg : Str → Option Value) (fa : Addr) (h : Heap), (K w.params).In h → h.Ns mainGlobals mg → mg d.name = some (.ref fa) →
      ∃ fd : FuncData, (∀ (s : Shared) (u : Value), BindsTo s fd ⟨[u], []⟩ [("_law_script", u)]) ∧ ∀ base : Heap, (K w.params).In base → base.Ns mainGlobals mg → FnOk l.prog w (K w.params) mg base (L2.CX l.prog w) 9 fa fd ["_law_script"] (spLaw (K w.params))) :
    PySem.W.WalkO q loose XP YP l.row.toRowW d [] (fun f vs => PySem.call f vs) :=
  L2.walk_of (n := 63) (k := 9) (x := "_law_script") (CX := fun w => L2.CX l.prog w) (sp := fun w => spLaw (K w.params)) hn (by decide) hdf ⟨rfl, by decide, by decide⟩ hY F (fun _ _ a ns hl _ hS => ⟨a, ns, rfl, hS, hl, fun _ => rfl⟩) fun _ _ _ _ _ z => cx_false z
end My
open PySem PySem.W PyProof.Rows in
set_option maxRecDepth 100000 in
set_option maxHeartbeats 0 in
theorem PySem.Challenge.cw_unwalked_k62_errors_made_holds : PySem.Challenge.rw_unwalked_k62_errors_made.Holds := by
  w_on; o_law; k_head; (case hw => w_witness2)
  k_fill
  refine My.walk (l := PySem.Challenge.rw_unwalked_k62_errors_made) rfl rfl (fun w h Y => PySem.W.kIn_of Y) ?F
  case F =>
    intro w mg fa h KX G hmg
    refine' My.all_mk KX G hmg ?a_BadPath___init__ ?i_BadPath___init__ ?l_BadPath___init__ ?c_BadPath___init__ ?k_BadPath___init__ ?a_NotBegun___init__ ?i_NotBegun___init__ ?l_NotBegun___init__ ?c_NotBegun___init__ ?k_NotBegun___init__ ?a_NoRelative___init__ ?i_NoRelative___init__ ?l_NoRelative___init__ ?c_NoRelative___init__ ?k_NoRelative___init__ ?a_NoFolder___init__ ?i_NoFolder___init__ ?l_NoFolder___init__ ?c_NoFolder___init__ ?k_NoFolder___init__ ?a_Taken___init__ ?i_Taken___init__ ?l_Taken___init__ ?c_Taken___init__ ?k_Taken___init__ ?a_NoThing___init__ ?i_NoThing___init__ ?l_NoThing___init__ ?c_NoThing___init__ ?k_NoThing___init__ ?a_NotEmpty___init__ ?i_NotEmpty___init__ ?l_NotEmpty___init__ ?c_NotEmpty___init__ ?k_NotEmpty___init__ ?a_Inside___init__ ?i_Inside___init__ ?l_Inside___init__ ?c_Inside___init__ ?k_Inside___init__ ?a_BadFact___init__ ?i_BadFact___init__ ?l_BadFact___init__ ?c_BadFact___init__ ?k_BadFact___init__ ?a_BadStart___init__ ?i_BadStart___init__ ?l_BadStart___init__ ?c_BadStart___init__ ?k_BadStart___init__ ?a_Clash___init__ ?i_Clash___init__ ?l_Clash___init__ ?c_Clash___init__ ?k_Clash___init__ ?a_BadWord___init__ ?i_BadWord___init__ ?l_BadWord___init__ ?c_BadWord___init__ ?k_BadWord___init__ ?a_StillAsked___init__ ?i_StillAsked___init__ ?l_StillAsked___init__ ?c_StillAsked___init__ ?k_StillAsked___init__ ?a_NotTold___init__ ?i_NotTold___init__ ?l_NotTold___init__ ?c_NotTold___init__ ?k_NotTold___init__ ?a_BadShape___init__ ?i_BadShape___init__ ?l_BadShape___init__ ?c_BadShape___init__ ?k_BadShape___init__ ?a_NoValue___init__ ?i_NoValue___init__ ?l_NoValue___init__ ?c_NoValue___init__ ?k_NoValue___init__ ?a_BadName___init__ ?i_BadName___init__ ?l_BadName___init__ ?c_BadName___init__ ?k_BadName___init__ ?a_Held___init__ ?i_Held___init__ ?l_Held___init__ ?c_Held___init__ ?k_Held___init__ ?a_NotHeld___init__ ?i_NotHeld___init__ ?l_NotHeld___init__ ?c_NotHeld___init__ ?k_NotHeld___init__ ?a_BadDeed___init__ ?i_BadDeed___init__ ?l_BadDeed___init__ ?c_BadDeed___init__ ?k_BadDeed___init__ ?a_BadText___init__ ?i_BadText___init__ ?l_BadText___init__ ?c_BadText___init__ ?k_BadText___init__ ?a_is_name ?l_is_name ?c_is_name ?k_is_name ?a_is_path_text ?l_is_path_text ?c_is_path_text ?k_is_path_text ?a_Path___init__ ?i_Path___init__ ?l_Path___init__ ?c_Path___init__ ?k_Path___init__ ?a_Path___eq__ ?i_Path___eq__ ?l_Path___eq__ ?c_Path___eq__ ?k_Path___eq__ ?a_Path___len__ ?i_Path___len__ ?l_Path___len__ ?c_Path___len__ ?k_Path___len__ ?a_Path___floordiv__ ?i_Path___floordiv__ ?l_Path___floordiv__ ?c_Path___floordiv__ ?k_Path___floordiv__ ?a_Path_steps ?i_Path_steps ?l_Path_steps ?c_Path_steps ?k_Path_steps ?a_Path_last ?i_Path_last ?l_Path_last ?c_Path_last ?k_Path_last ?a_Path_begin ?i_Path_begin ?l_Path_begin ?c_Path_begin ?k_Path_begin ?a__law_start ?l__law_start ?c__law_start ?k__law_start ?a__law_draw ?l__law_draw ?c__law_draw ?k__law_draw ?a__law_pick ?l__law_pick ?c__law_pick ?k__law_pick ?a__law_same ?l__law_same ?c__law_same ?k__law_same ?a__law_frozen ?l__law_frozen ?c__law_frozen ?k__law_frozen ?a__law_thing ?l__law_thing ?c__law_thing ?k__law_thing ?a__law_by_place ?l__law_by_place ?c__law_by_place ?k__law_by_place ?a__law_by_name ?l__law_by_name ?c__law_by_name ?k__law_by_name ?a__law_kept ?l__law_kept ?c__law_kept ?k__law_kept ?a__law_classes ?l__law_classes ?c__law_classes ?k__law_classes ?a_law ?l_law ?c_law ?k_law ?aC_Path ?pg_Path ?hd_Path ?po_Path ?sa_Path ?ha_Path ?hn_Path ?ht_Path ?hm_Path ?mi_Path ?kc_Path ?n_Path_text ?n_Path_rooted ?n_Path_ended ?kt_Path_Path ?kt_Path_dict ?kt_Path_list ?kt_Path_tuple ?kt_Path_int ?aC_PathError ?er_PathError ?ea_PathError ?ev_PathError ?aC_BadDeed ?xl_BadDeed ?xsa_BadDeed ?xeb_BadDeed ?xty_BadDeed ?xkc_BadDeed ?xga_BadDeed ?xgg_BadDeed ?xhd_BadDeed ?xic_BadDeed ?xss_BadDeed ?xno_BadDeed ?xti_BadDeed ?xha_BadDeed ?xhm_BadDeed ?aC_BadFact ?xl_BadFact ?xsa_BadFact ?xeb_BadFact ?xty_BadFact ?xkc_BadFact ?xga_BadFact ?xgg_BadFact ?xhd_BadFact ?xic_BadFact ?xss_BadFact ?xno_BadFact ?xti_BadFact ?xha_BadFact ?xhm_BadFact ?aC_BadName ?xl_BadName ?xsa_BadName ?xeb_BadName ?xty_BadName ?xkc_BadName ?xga_BadName ?xgg_BadName ?xhd_BadName ?xic_BadName ?xss_BadName ?xno_BadName ?xti_BadName ?xha_BadName ?xhm_BadName ?aC_BadPath ?xl_BadPath ?xsa_BadPath ?xeb_BadPath ?xty_BadPath ?xkc_BadPath ?xga_BadPath ?xgg_BadPath ?xhd_BadPath ?xic_BadPath ?xss_BadPath ?xno_BadPath ?xti_BadPath ?xha_BadPath ?xhm_BadPath ?aC_BadShape ?xl_BadShape ?xsa_BadShape ?xeb_BadShape ?xty_BadShape ?xkc_BadShape ?xga_BadShape ?xgg_BadShape ?xhd_BadShape ?xic_BadShape ?xss_BadShape ?xno_BadShape ?xti_BadShape ?xha_BadShape ?xhm_BadShape ?aC_BadStart ?xl_BadStart ?xsa_BadStart ?xeb_BadStart ?xty_BadStart ?xkc_BadStart ?xga_BadStart ?xgg_BadStart ?xhd_BadStart ?xic_BadStart ?xss_BadStart ?xno_BadStart ?xti_BadStart ?xha_BadStart ?xhm_BadStart ?aC_BadText ?xl_BadText ?xsa_BadText ?xeb_BadText ?xty_BadText ?xkc_BadText ?xga_BadText ?xgg_BadText ?xhd_BadText ?xic_BadText ?xss_BadText ?xno_BadText ?xti_BadText ?xha_BadText ?xhm_BadText ?aC_BadWord ?xl_BadWord ?xsa_BadWord ?xeb_BadWord ?xty_BadWord ?xkc_BadWord ?xga_BadWord ?xgg_BadWord ?xhd_BadWord ?xic_BadWord ?xss_BadWord ?xno_BadWord ?xti_BadWord ?xha_BadWord ?xhm_BadWord ?aC_Clash ?xl_Clash ?xsa_Clash ?xeb_Clash ?xty_Clash ?xkc_Clash ?xga_Clash ?xgg_Clash ?xhd_Clash ?xic_Clash ?xss_Clash ?xno_Clash ?xti_Clash ?xha_Clash ?xhm_Clash ?aC_Held ?xl_Held ?xsa_Held ?xeb_Held ?xty_Held ?xkc_Held ?xga_Held ?xgg_Held ?xhd_Held ?xic_Held ?xss_Held ?xno_Held ?xti_Held ?xha_Held ?xhm_Held ?aC_Inside ?xl_Inside ?xsa_Inside ?xeb_Inside ?xty_Inside ?xkc_Inside ?xga_Inside ?xgg_Inside ?xhd_Inside ?xic_Inside ?xss_Inside ?xno_Inside ?xti_Inside ?xha_Inside ?xhm_Inside ?aC_NoFolder ?xl_NoFolder ?xsa_NoFolder ?xeb_NoFolder ?xty_NoFolder ?xkc_NoFolder ?xga_NoFolder ?xgg_NoFolder ?xhd_NoFolder ?xic_NoFolder ?xss_NoFolder ?xno_NoFolder ?xti_NoFolder ?xha_NoFolder ?xhm_NoFolder ?aC_NoRelative ?xl_NoRelative ?xsa_NoRelative ?xeb_NoRelative ?xty_NoRelative ?xkc_NoRelative ?xga_NoRelative ?xgg_NoRelative ?xhd_NoRelative ?xic_NoRelative ?xss_NoRelative ?xno_NoRelative ?xti_NoRelative ?xha_NoRelative ?xhm_NoRelative ?aC_NoThing ?xl_NoThing ?xsa_NoThing ?xeb_NoThing ?xty_NoThing ?xkc_NoThing ?xga_NoThing ?xgg_NoThing ?xhd_NoThing ?xic_NoThing ?xss_NoThing ?xno_NoThing ?xti_NoThing ?xha_NoThing ?xhm_NoThing ?aC_NoValue ?xl_NoValue ?xsa_NoValue ?xeb_NoValue ?xty_NoValue ?xkc_NoValue ?xga_NoValue ?xgg_NoValue ?xhd_NoValue ?xic_NoValue ?xss_NoValue ?xno_NoValue ?xti_NoValue ?xha_NoValue ?xhm_NoValue ?aC_NotBegun ?xl_NotBegun ?xsa_NotBegun ?xeb_NotBegun ?xty_NotBegun ?xkc_NotBegun ?xga_NotBegun ?xgg_NotBegun ?xhd_NotBegun ?xic_NotBegun ?xss_NotBegun ?xno_NotBegun ?xti_NotBegun ?xha_NotBegun ?xhm_NotBegun ?aC_NotEmpty ?xl_NotEmpty ?xsa_NotEmpty ?xeb_NotEmpty ?xty_NotEmpty ?xkc_NotEmpty ?xga_NotEmpty ?xgg_NotEmpty ?xhd_NotEmpty ?xic_NotEmpty ?xss_NotEmpty ?xno_NotEmpty ?xti_NotEmpty ?xha_NotEmpty ?xhm_NotEmpty ?aC_NotHeld ?xl_NotHeld ?xsa_NotHeld ?xeb_NotHeld ?xty_NotHeld ?xkc_NotHeld ?xga_NotHeld ?xgg_NotHeld ?xhd_NotHeld ?xic_NotHeld ?xss_NotHeld ?xno_NotHeld ?xti_NotHeld ?xha_NotHeld ?xhm_NotHeld ?aC_NotTold ?xl_NotTold ?xsa_NotTold ?xeb_NotTold ?xty_NotTold ?xkc_NotTold ?xga_NotTold ?xgg_NotTold ?xhd_NotTold ?xic_NotTold ?xss_NotTold ?xno_NotTold ?xti_NotTold ?xha_NotTold ?xhm_NotTold ?aC_StillAsked ?xl_StillAsked ?xsa_StillAsked ?xeb_StillAsked ?xty_StillAsked ?xkc_StillAsked ?xga_StillAsked ?xgg_StillAsked ?xhd_StillAsked ?xic_StillAsked ?xss_StillAsked ?xno_StillAsked ?xti_StillAsked ?xha_StillAsked ?xhm_StillAsked ?aC_Taken ?xl_Taken ?xsa_Taken ?xeb_Taken ?xty_Taken ?xkc_Taken ?xga_Taken ?xgg_Taken ?xhd_Taken ?xic_Taken ?xss_Taken ?xno_Taken ?xti_Taken ?xha_Taken ?xhm_Taken ?xhn ?xht ?aC_Root ?xl_Root ?xeb_Root ?xty_Root ?xkc_Root ?xga_Root ?xgg_Root ?xhd_Root ?xha_Root ?xhm_Root ?qx_Root ?aC_NotAsked ?xl_NotAsked ?xeb_NotAsked ?xty_NotAsked ?xkc_NotAsked ?xga_NotAsked ?xgg_NotAsked ?xhd_NotAsked ?xha_NotAsked ?xhm_NotAsked ?qx_NotAsked ?aC_NoDeed ?xl_NoDeed ?xeb_NoDeed ?xty_NoDeed ?xkc_NoDeed ?xga_NoDeed ?xgg_NoDeed ?xhd_NoDeed ?xha_NoDeed ?xhm_NoDeed ?qx_NoDeed ?xic_PathError ?xty_PathError ?nd_x ?op_Path___eq__ ?op_Path___len__ ?z_ValueError ?z_all ?z_bool ?z_dict ?z_enumerate ?z_int ?z_isinstance ?z_len ?z_list ?z_range ?z_str ?z_tuple ?z_zip ?a_LETTERS ?a_LONGEST
    (case aC_Path => k_is)
    (case aC_PathError => k_is)
    (case aC_BadDeed => k_is)
    (case aC_BadFact => k_is)
    (case aC_BadName => k_is)
    (case aC_BadPath => k_is)
    (case aC_BadShape => k_is)
    (case aC_BadStart => k_is)
    (case aC_BadText => k_is)
    (case aC_BadWord => k_is)
    (case aC_Clash => k_is)
    (case aC_Held => k_is)
    (case aC_Inside => k_is)
    (case aC_NoFolder => k_is)
    (case aC_NoRelative => k_is)
    (case aC_NoThing => k_is)
    (case aC_NoValue => k_is)
    (case aC_NotBegun => k_is)
    (case aC_NotEmpty => k_is)
    (case aC_NotHeld => k_is)
    (case aC_NotTold => k_is)
    (case aC_StillAsked => k_is)
    (case aC_Taken => k_is)
    (case aC_Root => k_is)
    (case aC_NotAsked => k_is)
    (case aC_NoDeed => k_is)
    (case a_BadPath___init__ => k_is)
    (case i_BadPath___init__ => k_is)
    (case l_BadPath___init__ => k_is)
    (case c_BadPath___init__ => k_is)
    (case k_BadPath___init__ => k_is)
    (case a_NotBegun___init__ => k_is)
    (case i_NotBegun___init__ => k_is)
    (case l_NotBegun___init__ => k_is)
    (case c_NotBegun___init__ => k_is)
    (case k_NotBegun___init__ => k_is)
    (case a_NoRelative___init__ => k_is)
    (case i_NoRelative___init__ => k_is)
    (case l_NoRelative___init__ => k_is)
    (case c_NoRelative___init__ => k_is)
    (case k_NoRelative___init__ => k_is)
    (case a_NoFolder___init__ => k_is)
    (case i_NoFolder___init__ => k_is)
    (case l_NoFolder___init__ => k_is)
    (case c_NoFolder___init__ => k_is)
    (case k_NoFolder___init__ => k_is)
    (case a_Taken___init__ => k_is)
    (case i_Taken___init__ => k_is)
    (case l_Taken___init__ => k_is)
    (case c_Taken___init__ => k_is)
    (case k_Taken___init__ => k_is)
    (case a_NoThing___init__ => k_is)
    (case i_NoThing___init__ => k_is)
    (case l_NoThing___init__ => k_is)
    (case c_NoThing___init__ => k_is)
    (case k_NoThing___init__ => k_is)
    (case a_NotEmpty___init__ => k_is)
    (case i_NotEmpty___init__ => k_is)
    (case l_NotEmpty___init__ => k_is)
    (case c_NotEmpty___init__ => k_is)
    (case k_NotEmpty___init__ => k_is)
    (case a_Inside___init__ => k_is)
    (case i_Inside___init__ => k_is)
    (case l_Inside___init__ => k_is)
    (case c_Inside___init__ => k_is)
    (case k_Inside___init__ => k_is)
    (case a_BadFact___init__ => k_is)
    (case i_BadFact___init__ => k_is)
    (case l_BadFact___init__ => k_is)
    (case c_BadFact___init__ => k_is)
    (case k_BadFact___init__ => k_is)
    (case a_BadStart___init__ => k_is)
    (case i_BadStart___init__ => k_is)
    (case l_BadStart___init__ => k_is)
    (case c_BadStart___init__ => k_is)
    (case k_BadStart___init__ => k_is)
    (case a_Clash___init__ => k_is)
    (case i_Clash___init__ => k_is)
    (case l_Clash___init__ => k_is)
    (case c_Clash___init__ => k_is)
    (case k_Clash___init__ => k_is)
    (case a_BadWord___init__ => k_is)
    (case i_BadWord___init__ => k_is)
    (case l_BadWord___init__ => k_is)
    (case c_BadWord___init__ => k_is)
    (case k_BadWord___init__ => k_is)
    (case a_StillAsked___init__ => k_is)
    (case i_StillAsked___init__ => k_is)
    (case l_StillAsked___init__ => k_is)
    (case c_StillAsked___init__ => k_is)
    (case k_StillAsked___init__ => k_is)
    (case a_NotTold___init__ => k_is)
    (case i_NotTold___init__ => k_is)
    (case l_NotTold___init__ => k_is)
    (case c_NotTold___init__ => k_is)
    (case k_NotTold___init__ => k_is)
    (case a_BadShape___init__ => k_is)
    (case i_BadShape___init__ => k_is)
    (case l_BadShape___init__ => k_is)
    (case c_BadShape___init__ => k_is)
    (case k_BadShape___init__ => k_is)
    (case a_NoValue___init__ => k_is)
    (case i_NoValue___init__ => k_is)
    (case l_NoValue___init__ => k_is)
    (case c_NoValue___init__ => k_is)
    (case k_NoValue___init__ => k_is)
    (case a_BadName___init__ => k_is)
    (case i_BadName___init__ => k_is)
    (case l_BadName___init__ => k_is)
    (case c_BadName___init__ => k_is)
    (case k_BadName___init__ => k_is)
    (case a_Held___init__ => k_is)
    (case i_Held___init__ => k_is)
    (case l_Held___init__ => k_is)
    (case c_Held___init__ => k_is)
    (case k_Held___init__ => k_is)
    (case a_NotHeld___init__ => k_is)
    (case i_NotHeld___init__ => k_is)
    (case l_NotHeld___init__ => k_is)
    (case c_NotHeld___init__ => k_is)
    (case k_NotHeld___init__ => k_is)
    (case a_BadDeed___init__ => k_is)
    (case i_BadDeed___init__ => k_is)
    (case l_BadDeed___init__ => k_is)
    (case c_BadDeed___init__ => k_is)
    (case k_BadDeed___init__ => k_is)
    (case a_BadText___init__ => k_is)
    (case i_BadText___init__ => k_is)
    (case l_BadText___init__ => k_is)
    (case c_BadText___init__ => k_is)
    (case k_BadText___init__ => k_is)
    (case a_is_name => k_is)
    (case l_is_name => k_is)
    (case c_is_name => k_is)
    (case k_is_name => k_is)
    (case a_is_path_text => k_is)
    (case l_is_path_text => k_is)
    (case c_is_path_text => k_is)
    (case k_is_path_text => k_is)
    (case a_Path___init__ => k_is)
    (case i_Path___init__ => k_is)
    (case l_Path___init__ => k_is)
    (case c_Path___init__ => k_is)
    (case k_Path___init__ => k_is)
    (case a_Path___eq__ => k_is)
    (case i_Path___eq__ => k_is)
    (case l_Path___eq__ => k_is)
    (case c_Path___eq__ => k_is)
    (case k_Path___eq__ => k_is)
    (case a_Path___len__ => k_is)
    (case i_Path___len__ => k_is)
    (case l_Path___len__ => k_is)
    (case c_Path___len__ => k_is)
    (case k_Path___len__ => k_is)
    (case a_Path___floordiv__ => k_is)
    (case i_Path___floordiv__ => k_is)
    (case l_Path___floordiv__ => k_is)
    (case c_Path___floordiv__ => k_is)
    (case k_Path___floordiv__ => k_is)
    (case a_Path_steps => k_is)
    (case i_Path_steps => k_is)
    (case l_Path_steps => k_is)
    (case c_Path_steps => k_is)
    (case k_Path_steps => k_is)
    (case a_Path_last => k_is)
    (case i_Path_last => k_is)
    (case l_Path_last => k_is)
    (case c_Path_last => k_is)
    (case k_Path_last => k_is)
    (case a_Path_begin => k_is)
    (case i_Path_begin => k_is)
    (case l_Path_begin => k_is)
    (case c_Path_begin => k_is)
    (case k_Path_begin => k_is)
    (case a__law_start => k_is)
    (case l__law_start => k_is)
    (case c__law_start => k_is)
    (case k__law_start => k_is)
    (case a__law_draw => k_is)
    (case l__law_draw => k_is)
    (case c__law_draw => k_is)
    (case k__law_draw => k_is)
    (case a__law_pick => k_is)
    (case l__law_pick => k_is)
    (case c__law_pick => k_is)
    (case k__law_pick => k_is)
    (case a__law_same => k_is)
    (case l__law_same => k_is)
    (case c__law_same => k_is)
    (case k__law_same => k_is)
    (case a__law_frozen => k_is)
    (case l__law_frozen => k_is)
    (case c__law_frozen => k_is)
    (case k__law_frozen => k_is)
    (case a__law_thing => k_is)
    (case l__law_thing => k_is)
    (case c__law_thing => k_is)
    (case k__law_thing => k_is)
    (case a__law_by_place => k_is)
    (case l__law_by_place => k_is)
    (case c__law_by_place => k_is)
    (case k__law_by_place => k_is)
    (case a__law_by_name => k_is)
    (case l__law_by_name => k_is)
    (case c__law_by_name => k_is)
    (case k__law_by_name => k_is)
    (case a__law_kept => k_is)
    (case l__law_kept => k_is)
    (case c__law_kept => k_is)
    (case k__law_kept => k_is)
    (case a__law_classes => k_is)
    (case l__law_classes => k_is)
    (case c__law_classes => k_is)
    (case k__law_classes => k_is)
    (case a_law => k_is)
    (case l_law => k_is)
    (case c_law => k_is)
    (case k_law => k_is)
    (case pg_Path => k_is)
    (case hd_Path => k_is)
    (case po_Path => k_is)
    (case sa_Path => k_is)
    (case ha_Path => k_is)
    (case hn_Path => k_is)
    (case ht_Path => k_is)
    (case hm_Path => k_is)
    (case mi_Path => k_is)
    (case kc_Path => k_is)
    (case n_Path_text => k_is)
    (case n_Path_rooted => k_is)
    (case n_Path_ended => k_is)
    (case kt_Path_Path => kit_is)
    (case kt_Path_dict => kit_is)
    (case kt_Path_list => kit_is)
    (case kt_Path_tuple => kit_is)
    (case kt_Path_int => kit_is)
    (case er_PathError => k_is)
    (case ea_PathError => k_is)
    (case ev_PathError => k_is)
    (case xl_BadDeed => k_is)
    (case xsa_BadDeed => k_is)
    (case xeb_BadDeed => k_is)
    (case xty_BadDeed => k_is)
    (case xkc_BadDeed => k_is)
    (case xga_BadDeed => k_is)
    (case xgg_BadDeed => k_is)
    (case xhd_BadDeed => k_is)
    (case xic_BadDeed => k_is)
    (case xss_BadDeed => k_is)
    (case xno_BadDeed => k_is)
    (case xti_BadDeed => k_is)
    (case xha_BadDeed => k_is)
    (case xhm_BadDeed => k_is)
    (case xl_BadFact => k_is)
    (case xsa_BadFact => k_is)
    (case xeb_BadFact => k_is)
    (case xty_BadFact => k_is)
    (case xkc_BadFact => k_is)
    (case xga_BadFact => k_is)
    (case xgg_BadFact => k_is)
    (case xhd_BadFact => k_is)
    (case xic_BadFact => k_is)
    (case xss_BadFact => k_is)
    (case xno_BadFact => k_is)
    (case xti_BadFact => k_is)
    (case xha_BadFact => k_is)
    (case xhm_BadFact => k_is)
    (case xl_BadName => k_is)
    (case xsa_BadName => k_is)
    (case xeb_BadName => k_is)
    (case xty_BadName => k_is)
    (case xkc_BadName => k_is)
    (case xga_BadName => k_is)
    (case xgg_BadName => k_is)
    (case xhd_BadName => k_is)
    (case xic_BadName => k_is)
    (case xss_BadName => k_is)
    (case xno_BadName => k_is)
    (case xti_BadName => k_is)
    (case xha_BadName => k_is)
    (case xhm_BadName => k_is)
    (case xl_BadPath => k_is)
    (case xsa_BadPath => k_is)
    (case xeb_BadPath => k_is)
    (case xty_BadPath => k_is)
    (case xkc_BadPath => k_is)
    (case xga_BadPath => k_is)
    (case xgg_BadPath => k_is)
    (case xhd_BadPath => k_is)
    (case xic_BadPath => k_is)
    (case xss_BadPath => k_is)
    (case xno_BadPath => k_is)
    (case xti_BadPath => k_is)
    (case xha_BadPath => k_is)
    (case xhm_BadPath => k_is)
    (case xl_BadShape => k_is)
    (case xsa_BadShape => k_is)
    (case xeb_BadShape => k_is)
    (case xty_BadShape => k_is)
    (case xkc_BadShape => k_is)
    (case xga_BadShape => k_is)
    (case xgg_BadShape => k_is)
    (case xhd_BadShape => k_is)
    (case xic_BadShape => k_is)
    (case xss_BadShape => k_is)
    (case xno_BadShape => k_is)
    (case xti_BadShape => k_is)
    (case xha_BadShape => k_is)
    (case xhm_BadShape => k_is)
    (case xl_BadStart => k_is)
    (case xsa_BadStart => k_is)
    (case xeb_BadStart => k_is)
    (case xty_BadStart => k_is)
    (case xkc_BadStart => k_is)
    (case xga_BadStart => k_is)
    (case xgg_BadStart => k_is)
    (case xhd_BadStart => k_is)
    (case xic_BadStart => k_is)
    (case xss_BadStart => k_is)
    (case xno_BadStart => k_is)
    (case xti_BadStart => k_is)
    (case xha_BadStart => k_is)
    (case xhm_BadStart => k_is)
    (case xl_BadText => k_is)
    (case xsa_BadText => k_is)
    (case xeb_BadText => k_is)
    (case xty_BadText => k_is)
    (case xkc_BadText => k_is)
    (case xga_BadText => k_is)
    (case xgg_BadText => k_is)
    (case xhd_BadText => k_is)
    (case xic_BadText => k_is)
    (case xss_BadText => k_is)
    (case xno_BadText => k_is)
    (case xti_BadText => k_is)
    (case xha_BadText => k_is)
    (case xhm_BadText => k_is)
    (case xl_BadWord => k_is)
    (case xsa_BadWord => k_is)
    (case xeb_BadWord => k_is)
    (case xty_BadWord => k_is)
    (case xkc_BadWord => k_is)
    (case xga_BadWord => k_is)
    (case xgg_BadWord => k_is)
    (case xhd_BadWord => k_is)
    (case xic_BadWord => k_is)
    (case xss_BadWord => k_is)
    (case xno_BadWord => k_is)
    (case xti_BadWord => k_is)
    (case xha_BadWord => k_is)
    (case xhm_BadWord => k_is)
    (case xl_Clash => k_is)
    (case xsa_Clash => k_is)
    (case xeb_Clash => k_is)
    (case xty_Clash => k_is)
    (case xkc_Clash => k_is)
    (case xga_Clash => k_is)
    (case xgg_Clash => k_is)
    (case xhd_Clash => k_is)
    (case xic_Clash => k_is)
    (case xss_Clash => k_is)
    (case xno_Clash => k_is)
    (case xti_Clash => k_is)
    (case xha_Clash => k_is)
    (case xhm_Clash => k_is)
    (case xl_Held => k_is)
    (case xsa_Held => k_is)
    (case xeb_Held => k_is)
    (case xty_Held => k_is)
    (case xkc_Held => k_is)
    (case xga_Held => k_is)
    (case xgg_Held => k_is)
    (case xhd_Held => k_is)
    (case xic_Held => k_is)
    (case xss_Held => k_is)
    (case xno_Held => k_is)
    (case xti_Held => k_is)
    (case xha_Held => k_is)
    (case xhm_Held => k_is)
    (case xl_Inside => k_is)
    (case xsa_Inside => k_is)
    (case xeb_Inside => k_is)
    (case xty_Inside => k_is)
    (case xkc_Inside => k_is)
    (case xga_Inside => k_is)
    (case xgg_Inside => k_is)
    (case xhd_Inside => k_is)
    (case xic_Inside => k_is)
    (case xss_Inside => k_is)
    (case xno_Inside => k_is)
    (case xti_Inside => k_is)
    (case xha_Inside => k_is)
    (case xhm_Inside => k_is)
    (case xl_NoFolder => k_is)
    (case xsa_NoFolder => k_is)
    (case xeb_NoFolder => k_is)
    (case xty_NoFolder => k_is)
    (case xkc_NoFolder => k_is)
    (case xga_NoFolder => k_is)
    (case xgg_NoFolder => k_is)
    (case xhd_NoFolder => k_is)
    (case xic_NoFolder => k_is)
    (case xss_NoFolder => k_is)
    (case xno_NoFolder => k_is)
    (case xti_NoFolder => k_is)
    (case xha_NoFolder => k_is)
    (case xhm_NoFolder => k_is)
    (case xl_NoRelative => k_is)
    (case xsa_NoRelative => k_is)
    (case xeb_NoRelative => k_is)
    (case xty_NoRelative => k_is)
    (case xkc_NoRelative => k_is)
    (case xga_NoRelative => k_is)
    (case xgg_NoRelative => k_is)
    (case xhd_NoRelative => k_is)
    (case xic_NoRelative => k_is)
    (case xss_NoRelative => k_is)
    (case xno_NoRelative => k_is)
    (case xti_NoRelative => k_is)
    (case xha_NoRelative => k_is)
    (case xhm_NoRelative => k_is)
    (case xl_NoThing => k_is)
    (case xsa_NoThing => k_is)
    (case xeb_NoThing => k_is)
    (case xty_NoThing => k_is)
    (case xkc_NoThing => k_is)
    (case xga_NoThing => k_is)
    (case xgg_NoThing => k_is)
    (case xhd_NoThing => k_is)
    (case xic_NoThing => k_is)
    (case xss_NoThing => k_is)
    (case xno_NoThing => k_is)
    (case xti_NoThing => k_is)
    (case xha_NoThing => k_is)
    (case xhm_NoThing => k_is)
    (case xl_NoValue => k_is)
    (case xsa_NoValue => k_is)
    (case xeb_NoValue => k_is)
    (case xty_NoValue => k_is)
    (case xkc_NoValue => k_is)
    (case xga_NoValue => k_is)
    (case xgg_NoValue => k_is)
    (case xhd_NoValue => k_is)
    (case xic_NoValue => k_is)
    (case xss_NoValue => k_is)
    (case xno_NoValue => k_is)
    (case xti_NoValue => k_is)
    (case xha_NoValue => k_is)
    (case xhm_NoValue => k_is)
    (case xl_NotBegun => k_is)
    (case xsa_NotBegun => k_is)
    (case xeb_NotBegun => k_is)
    (case xty_NotBegun => k_is)
    (case xkc_NotBegun => k_is)
    (case xga_NotBegun => k_is)
    (case xgg_NotBegun => k_is)
    (case xhd_NotBegun => k_is)
    (case xic_NotBegun => k_is)
    (case xss_NotBegun => k_is)
    (case xno_NotBegun => k_is)
    (case xti_NotBegun => k_is)
    (case xha_NotBegun => k_is)
    (case xhm_NotBegun => k_is)
    (case xl_NotEmpty => k_is)
    (case xsa_NotEmpty => k_is)
    (case xeb_NotEmpty => k_is)
    (case xty_NotEmpty => k_is)
    (case xkc_NotEmpty => k_is)
    (case xga_NotEmpty => k_is)
    (case xgg_NotEmpty => k_is)
    (case xhd_NotEmpty => k_is)
    (case xic_NotEmpty => k_is)
    (case xss_NotEmpty => k_is)
    (case xno_NotEmpty => k_is)
    (case xti_NotEmpty => k_is)
    (case xha_NotEmpty => k_is)
    (case xhm_NotEmpty => k_is)
    (case xl_NotHeld => k_is)
    (case xsa_NotHeld => k_is)
    (case xeb_NotHeld => k_is)
    (case xty_NotHeld => k_is)
    (case xkc_NotHeld => k_is)
    (case xga_NotHeld => k_is)
    (case xgg_NotHeld => k_is)
    (case xhd_NotHeld => k_is)
    (case xic_NotHeld => k_is)
    (case xss_NotHeld => k_is)
    (case xno_NotHeld => k_is)
    (case xti_NotHeld => k_is)
    (case xha_NotHeld => k_is)
    (case xhm_NotHeld => k_is)
    (case xl_NotTold => k_is)
    (case xsa_NotTold => k_is)
    (case xeb_NotTold => k_is)
    (case xty_NotTold => k_is)
    (case xkc_NotTold => k_is)
    (case xga_NotTold => k_is)
    (case xgg_NotTold => k_is)
    (case xhd_NotTold => k_is)
    (case xic_NotTold => k_is)
    (case xss_NotTold => k_is)
    (case xno_NotTold => k_is)
    (case xti_NotTold => k_is)
    (case xha_NotTold => k_is)
    (case xhm_NotTold => k_is)
    (case xl_StillAsked => k_is)
    (case xsa_StillAsked => k_is)
    (case xeb_StillAsked => k_is)
    (case xty_StillAsked => k_is)
    (case xkc_StillAsked => k_is)
    (case xga_StillAsked => k_is)
    (case xgg_StillAsked => k_is)
    (case xhd_StillAsked => k_is)
    (case xic_StillAsked => k_is)
    (case xss_StillAsked => k_is)
    (case xno_StillAsked => k_is)
    (case xti_StillAsked => k_is)
    (case xha_StillAsked => k_is)
    (case xhm_StillAsked => k_is)
    (case xl_Taken => k_is)
    (case xsa_Taken => k_is)
    (case xeb_Taken => k_is)
    (case xty_Taken => k_is)
    (case xkc_Taken => k_is)
    (case xga_Taken => k_is)
    (case xgg_Taken => k_is)
    (case xhd_Taken => k_is)
    (case xic_Taken => k_is)
    (case xss_Taken => k_is)
    (case xno_Taken => k_is)
    (case xti_Taken => k_is)
    (case xha_Taken => k_is)
    (case xhm_Taken => k_is)
    (case xhn => k_is)
    (case xht => k_is)
    (case xl_Root => k_is)
    (case xeb_Root => k_is)
    (case xty_Root => k_is)
    (case xkc_Root => k_is)
    (case xga_Root => k_is)
    (case xgg_Root => k_is)
    (case xhd_Root => k_is)
    (case xha_Root => k_is)
    (case xhm_Root => k_is)
    (case qx_Root => k_exc)
    (case xl_NotAsked => k_is)
    (case xeb_NotAsked => k_is)
    (case xty_NotAsked => k_is)
    (case xkc_NotAsked => k_is)
    (case xga_NotAsked => k_is)
    (case xgg_NotAsked => k_is)
    (case xhd_NotAsked => k_is)
    (case xha_NotAsked => k_is)
    (case xhm_NotAsked => k_is)
    (case qx_NotAsked => k_exc)
    (case xl_NoDeed => k_is)
    (case xeb_NoDeed => k_is)
    (case xty_NoDeed => k_is)
    (case xkc_NoDeed => k_is)
    (case xga_NoDeed => k_is)
    (case xgg_NoDeed => k_is)
    (case xhd_NoDeed => k_is)
    (case xha_NoDeed => k_is)
    (case xhm_NoDeed => k_is)
    (case qx_NoDeed => k_exc)
    (case xic_PathError => k_is)
    (case xty_PathError => k_is)
    (case op_Path___eq__ => k_is)
    (case op_Path___len__ => k_is)
    (case z_ValueError => k_is)
    (case z_all => k_is)
    (case z_bool => k_is)
    (case z_dict => k_is)
    (case z_enumerate => k_is)
    (case z_int => k_is)
    (case z_isinstance => k_is)
    (case z_len => k_is)
    (case z_list => k_is)
    (case z_range => k_is)
    (case z_str => k_is)
    (case z_tuple => k_is)
    (case z_zip => k_is)
    (case a_LETTERS => k_is)
    (case a_LONGEST => k_is)
    (case nd_x => decide +kernel)
#print axioms PySem.Challenge.cw_unwalked_k62_errors_made_holds
