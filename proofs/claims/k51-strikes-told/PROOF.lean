import PyProof.Rows.All
import Wide.All
import OpenK.AllK
import Wide.FinOn
import HandS.ForMost
import HandS.Exc
import HandS.WordsExc
import HandS.IsInst
import HandS.StrMore
import HandS.Style
import HandS.Zip
import Wide.Txt
import HandS.Defaults
import HandS.ExcInit
import HandS.ExcField
import PyProof.EqKinds
import PyProof.FactsAll.dict_1
import HandS.Replace
import HandS.ReplaceLit
import HandS.ReplaceList
import HandS.HotCalls
import HandS.ExcInitHot
import PySem.Challenge.RW_unwalked_k51_strikes_told
set_option Elab.async false
set_option linter.all false
set_option maxRecDepth 100000
set_option maxHeartbeats 4000000
/-! DCore: data without addresses, and what a reading of the hand layer gives over such data. -/
namespace DD
open PySem L2

/-! ### 1. data -/
inductive D where
  | s (v : V)
  | lst (xs : List D)
  | tup (xs : List D)
  | dic (ks : List Key) (ds : List D)
  | ins (C : Addr) (ns : List Str) (ds : List D)

mutual
/-- the value v stands for the datum d in the heap H -/
def Rp (K : PySem.W.Frag) (H : Hp) : D → V → Prop
  | .s w, v => v = w
  | .lst xs, v => ∃ p vs, v = .ref p ∧ H p = some (.lst vs) ∧ RpL K H xs vs
  | .tup xs, v => ∃ p vs, v = .ref p ∧ SqT K H p vs ∧ RpL K H xs vs
  | .dic ks xs, v => ∃ p o vs, v = .ref p ∧ H p = some (.frz o (.dK (ks.zip vs))) ∧ RpL K H xs vs ∧ ks.length = xs.length
  | .ins C ns xs, v => ∃ p dx vs, v = .ref p ∧ H p = some (.ins C dx (ns.zip vs)) ∧ RpL K H xs vs ∧ ns.length = xs.length
def RpL (K : PySem.W.Frag) (H : Hp) : List D → List V → Prop
  | [], vs => vs = []
  | d :: ds, vs => ∃ v r, vs = v :: r ∧ Rp K H d v ∧ RpL K H ds r
end

theorem sameT {K : PySem.W.Frag} {H H' : Hp} {a : Addr} {xs : List V} (e : Same H H') (h : SqT K H a xs) : SqT K H' a xs := by
  rcases h with (h | ⟨o, h⟩) | h
  · exact .inl (.inl (e _ _ h))
  · exact .inl (.inr ⟨o, e _ _ h⟩)
  · exact .inr h
theorem Same.new {H : Hp} {p : Addr} {o : HO} (h : H p = none) : Same H (upd H p o) := fun a u e => by
  rw [upd_ne (ne_of_none e h)]
  exact e

mutual
theorem Rp.mono {K : PySem.W.Frag} {H H' : Hp} (e : Same H H') : ∀ (d : D) (v : V), Rp K H d v → Rp K H' d v
  | .s w, v, h => by
    unfold Rp at h ⊢
    exact h
  | .lst xs, v, h => by
    unfold Rp at h ⊢
    obtain ⟨p, vs, h1, h2, h3⟩ := h
    exact ⟨p, vs, h1, e _ _ h2, RpL.mono e xs vs h3⟩
  | .tup xs, v, h => by
    unfold Rp at h ⊢
    obtain ⟨p, vs, h1, h2, h3⟩ := h
    exact ⟨p, vs, h1, sameT e h2, RpL.mono e xs vs h3⟩
  | .dic ks xs, v, h => by
    unfold Rp at h ⊢
    obtain ⟨p, o, vs, h1, h2, h3, h4⟩ := h
    exact ⟨p, o, vs, h1, e _ _ h2, RpL.mono e xs vs h3, h4⟩
  | .ins C ns xs, v, h => by
    unfold Rp at h ⊢
    obtain ⟨p, dx, vs, h1, h2, h3, h4⟩ := h
    exact ⟨p, dx, vs, h1, e _ _ h2, RpL.mono e xs vs h3, h4⟩
theorem RpL.mono {K : PySem.W.Frag} {H H' : Hp} (e : Same H H') : ∀ (ds : List D) (vs : List V), RpL K H ds vs → RpL K H' ds vs
  | [], vs, h => by
    unfold RpL at h ⊢
    exact h
  | d :: ds, vs, h => by
    unfold RpL at h ⊢
    obtain ⟨v, r, h1, h2, h3⟩ := h
    exact ⟨v, r, h1, Rp.mono e d v h2, RpL.mono e ds r h3⟩
end
section
variable {K : PySem.W.Frag} {H H' : Hp}
theorem RpL.length : ∀ {ds : List D} {vs : List V}, RpL K H ds vs → vs.length = ds.length
  | [], vs, h => by
    unfold RpL at h
    rw [h]
    rfl
  | d :: ds, vs, h => by
    unfold RpL at h
    obtain ⟨v, r, rfl, h2, h3⟩ := h
    simp [RpL.length h3]
theorem RpL.get : ∀ {ds : List D} {vs : List V} {i : Nat} {d : D}, RpL K H ds vs → ds[i]? = some d → ∃ v, vs[i]? = some v ∧ Rp K H d v
  | [], _, _, _, _, e => by simp at e
  | d :: ds, vs, 0, d', h, e => by
    unfold RpL at h
    obtain ⟨v, r, rfl, h2, h3⟩ := h
    simp at e
    subst e
    exact ⟨v, rfl, h2⟩
  | d :: ds, vs, i + 1, d', h, e => by
    unfold RpL at h
    obtain ⟨v, r, rfl, h2, h3⟩ := h
    obtain ⟨u, q1, q2⟩ := RpL.get (i := i) h3 (by simpa using e)
    exact ⟨u, by simpa using q1, q2⟩
theorem RpL.get' : ∀ {ds : List D} {vs : List V} {i : Nat} {v : V}, RpL K H ds vs → vs[i]? = some v → ∃ d, ds[i]? = some d ∧ Rp K H d v
  | [], vs, i, v, h, e => by
    unfold RpL at h
    subst h
    simp at e
  | d :: ds, vs, 0, v, h, e => by
    unfold RpL at h
    obtain ⟨v', r, rfl, h2, h3⟩ := h
    simp at e
    subst e
    exact ⟨d, rfl, h2⟩
  | d :: ds, vs, i + 1, v, h, e => by
    unfold RpL at h
    obtain ⟨v', r, rfl, h2, h3⟩ := h
    obtain ⟨u, q1, q2⟩ := RpL.get' (i := i) h3 (by simpa using e)
    exact ⟨u, by simpa using q1, q2⟩
theorem RpL.nil : RpL K H [] [] := by
  unfold RpL
  rfl
theorem RpL.cons {d : D} {v : V} {ds : List D} {vs : List V} (h : Rp K H d v) (hs : RpL K H ds vs) : RpL K H (d :: ds) (v :: vs) := by
  unfold RpL
  exact ⟨v, vs, rfl, h, hs⟩
theorem RpL.app : ∀ {ds es : List D} {vs us : List V}, RpL K H ds vs → RpL K H es us → RpL K H (ds ++ es) (vs ++ us)
  | [], es, vs, us, h, h' => by
    unfold RpL at h
    subst h
    exact h'
  | d :: ds, es, vs, us, h, h' => by
    unfold RpL at h
    obtain ⟨v, r, rfl, h2, h3⟩ := h
    exact RpL.cons h2 (RpL.app h3 h')
theorem RpL.take : ∀ {ds : List D} {vs : List V} (n : Nat), RpL K H ds vs → RpL K H (ds.take n) (vs.take n)
  | _, _, 0, _ => by
    simp
    exact RpL.nil
  | [], vs, n + 1, h => by
    unfold RpL at h
    subst h
    exact RpL.nil
  | d :: ds, vs, n + 1, h => by
    unfold RpL at h
    obtain ⟨v, r, rfl, h2, h3⟩ := h
    exact RpL.cons h2 (RpL.take n h3)
theorem RpL.drop : ∀ {ds : List D} {vs : List V} (n : Nat), RpL K H ds vs → RpL K H (ds.drop n) (vs.drop n)
  | _, _, 0, h => h
  | [], vs, n + 1, h => by
    unfold RpL at h
    subst h
    exact RpL.nil
  | d :: ds, vs, n + 1, h => by
    unfold RpL at h
    obtain ⟨v, r, rfl, h2, h3⟩ := h
    exact RpL.drop n h3
theorem RpL.ofScal : ∀ (vs : List V), RpL K H (vs.map D.s) vs
  | [] => RpL.nil
  | v :: vs => RpL.cons (by unfold Rp; rfl) (RpL.ofScal vs)
theorem RpL.scal : ∀ {vs us : List V}, RpL K H (vs.map D.s) us → us = vs
  | [], us, h => by
    unfold RpL at h
    exact h
  | v :: vs, us, h => by
    unfold RpL at h
    obtain ⟨u, r, rfl, h2, h3⟩ := h
    unfold Rp at h2
    rw [h2, RpL.scal h3]
theorem RpL.set : ∀ {ds : List D} {vs : List V} {d : D} {v : V} (i : Nat), RpL K H ds vs → Rp K H d v → RpL K H (ds.set i d) (vs.set i v)
  | [], vs, d, v, i, h, h' => by
    unfold RpL at h
    subst h
    exact RpL.nil
  | e :: ds, vs, d, v, 0, h, h' => by
    unfold RpL at h
    obtain ⟨u, r, rfl, h2, h3⟩ := h
    exact RpL.cons h' h3
  | e :: ds, vs, d, v, i + 1, h, h' => by
    unfold RpL at h
    obtain ⟨u, r, rfl, h2, h3⟩ := h
    exact RpL.cons h2 (RpL.set i h3 h')
end

/-! ### 2. what stands beside the data: owned objects, the number of draws -/
inductive MO where
  | lst (ds : List D)
  | ins (C : Addr) (ns : List Str) (ds : List D)
  | dK (ks : List Key) (ds : List D)
  | dT (ks : List (List Key)) (ds : List D)
  | stm (c : Addr)
  | cel
structure Mem where
  cnt : Nat
  own : Addr → Option MO
def putM (m : Addr → Option MO) (a : Addr) (o : MO) : Addr → Option MO := fun b => if b = a then some o else m b
def dropM (m : Addr → Option MO) (a : Addr) : Addr → Option MO := fun b => if b = a then none else m b
theorem putM_same {m : Addr → Option MO} {a : Addr} {o : MO} : putM m a o a = some o := if_pos rfl
theorem putM_ne {m : Addr → Option MO} {a b : Addr} {o : MO} (h : b ≠ a) : putM m a o b = m b := if_neg h
theorem putM_put {m : Addr → Option MO} {a : Addr} {o u : MO} : putM (putM m a o) a u = putM m a u := by
  funext b
  unfold putM
  split <;> rfl
theorem dropM_same {m : Addr → Option MO} {a : Addr} : dropM m a a = none := if_pos rfl
theorem dropM_ne {m : Addr → Option MO} {a b : Addr} (h : b ≠ a) : dropM m a b = m b := if_neg h
theorem dropM_put {m : Addr → Option MO} {a : Addr} {o : MO} (h : m a = none) : dropM (putM m a o) a = m := by
  funext b
  unfold dropM putM
  split
  · rename_i e
    rw [e, h]
  · rfl
def StOk (s1 s2 s3 : Int) (cnt : Nat) : Prop := 0 ≤ s1 ∧ (0 ≤ s2 ∧ s2 ≤ cnt) ∧ 0 ≤ s3 ∧ s3 < 2147483647
def CelOk (ns : List Int) : Prop := ns.length ≤ 63
def RepM (K : PySem.W.Frag) (Hb H : Hp) (cnt : Nat) (a : Addr) : MO → Prop
  | .lst ds => ∃ vs, H a = some (.lst vs) ∧ RpL K Hb ds vs
  | .ins C ns ds => ∃ dx vs, H a = some (.ins C dx (ns.zip vs)) ∧ RpL K Hb ds vs ∧ ns.length = ds.length
  | .dK ks ds => ∃ vs, H a = some (.dK (ks.zip vs)) ∧ RpL K Hb ds vs ∧ ks.length = ds.length
  | .dT ks ds => ∃ vs, H a = some (.dT (ks.zip vs)) ∧ RpL K Hb ds vs ∧ ks.length = ds.length
  | .stm c => ∃ s1 s2 s3, H a = some (.lst [.ref c, .int s1, .int s2, .int s3]) ∧ StOk s1 s2 s3 cnt
  | .cel => ∃ ns : List Int, H a = some (.lst (ns.map V.int)) ∧ CelOk ns
structure Rel (K : PySem.W.Frag) (F Hb H : Hp) (m : Mem) : Prop where
  sub : Same Hb H
  fr : ∀ a o, F a = some o → H a = some o ∧ Hb a = none ∧ m.own a = none
  own : ∀ a mo, m.own a = some mo → Hb a = none ∧ RepM K Hb H m.cnt a mo
section
variable {K : PySem.W.Frag} {F Hb Hb' H H' : Hp} {m : Mem} {a p : Addr}
theorem RepM.some {cnt : Nat} {mo : MO} (h : RepM K Hb H cnt a mo) : ∃ o, H a = some o := by
  cases mo with
  | lst ds => obtain ⟨vs, e, _⟩ := h; exact ⟨_, e⟩
  | ins C ns ds => obtain ⟨dx, vs, e, _⟩ := h; exact ⟨_, e⟩
  | dK ks ds => obtain ⟨vs, e, _⟩ := h; exact ⟨_, e⟩
  | dT ks ds => obtain ⟨vs, e, _⟩ := h; exact ⟨_, e⟩
  | stm c => obtain ⟨s1, s2, s3, e, _⟩ := h; exact ⟨_, e⟩
  | cel => obtain ⟨ns, e, _⟩ := h; exact ⟨_, e⟩
theorem RepM.mono {cnt cnt' : Nat} {mo : MO} (h : RepM K Hb H cnt a mo) (e : Same Hb Hb') (ea : H' a = H a) (hc : cnt ≤ cnt') : RepM K Hb' H' cnt' a mo := by
  cases mo with
  | lst ds => obtain ⟨vs, q, r⟩ := h; exact ⟨vs, ea.trans q, r.mono e⟩
  | ins C ns ds => obtain ⟨dx, vs, q, r, l⟩ := h; exact ⟨dx, vs, ea.trans q, r.mono e, l⟩
  | dK ks ds => obtain ⟨vs, q, r, l⟩ := h; exact ⟨vs, ea.trans q, r.mono e, l⟩
  | dT ks ds => obtain ⟨vs, q, r, l⟩ := h; exact ⟨vs, ea.trans q, r.mono e, l⟩
  | stm c => obtain ⟨s1, s2, s3, q, r1, r2, r3⟩ := h; exact ⟨s1, s2, s3, ea.trans q, r1, ⟨r2.1, by omega⟩, r3⟩
  | cel => obtain ⟨ns, q, r⟩ := h; exact ⟨ns, ea.trans q, r⟩
theorem Rel.fresh (r : Rel K F Hb H m) (h : H p = none) : Hb p = none := r.sub.free h
theorem Rel.free (r : Rel K F Hb H m) (h : H p = none) : m.own p = none := by
  cases e : m.own p with
  | none => rfl
  | some mo =>
    obtain ⟨o, q⟩ := (r.own p mo e).2.some
    rw [h] at q
    cases q
theorem Rel.nofr (r : Rel K F Hb H m) (h : H p = none) : F p = none := by
  cases e : F p with
  | none => rfl
  | some o =>
    rw [(r.fr p o e).1] at h
    cases h
theorem ne_fr {b : Addr} {o : HO} (h : F b = some o) (h' : F p = none) : b ≠ p := fun z => by
  rw [z, h'] at h
  cases h
/-- a new object that is data from now on -/
theorem Rel.data {o : HO} (r : Rel K F Hb H m) (h : H p = none) : Rel K F (upd Hb p o) (upd H p o) m := by
  refine ⟨fun b u e => ?_, fun b u e => ?_, fun b mo e => ?_⟩
  · by_cases hb : b = p
    · subst hb
      rw [upd_same] at e ⊢
      exact e
    · rw [upd_ne hb] at e ⊢
      exact r.sub b u e
  · have hb := ne_fr e (r.nofr h)
    rw [upd_ne hb, upd_ne hb]
    exact r.fr b u e
  · obtain ⟨q1, q2⟩ := r.own b mo e
    have hb : b ≠ p := fun z => by
      rw [z, r.free h] at e
      cases e
    exact ⟨by rw [upd_ne hb]; exact q1, q2.mono (Same.new (r.fresh h)) (upd_ne hb) (Nat.le_refl _)⟩
/-- a new object that is owned -/
theorem Rel.owned {o : HO} {mo : MO} (r : Rel K F Hb H m) (h : H p = none) (new : RepM K Hb (upd H p o) m.cnt p mo) : Rel K F Hb (upd H p o) { m with own := putM m.own p mo } := by
  refine ⟨fun b u e => ?_, fun b u e => ?_, fun b mo' e => ?_⟩
  · rw [upd_ne (ne_of_none (r.sub b u e) h)]
    exact r.sub b u e
  · have hb := ne_fr e (r.nofr h)
    rw [upd_ne hb]
    exact ⟨(r.fr b u e).1, (r.fr b u e).2.1, (putM_ne hb).trans (r.fr b u e).2.2⟩
  · by_cases hb : b = p
    · subst hb
      rw [show ({ m with own := putM m.own b mo } : Mem).own b = some mo from putM_same] at e
      cases e
      exact ⟨r.fresh h, new⟩
    · have e' : m.own b = some mo' := by
        rw [← e]
        exact (putM_ne hb).symm
      obtain ⟨q1, q2⟩ := r.own b mo' e'
      exact ⟨q1, q2.mono (Same.refl _) (upd_ne hb) (Nat.le_refl _)⟩
theorem Rel.ownF {mo : MO} (r : Rel K F Hb H m) (h : m.own p = some mo) : F p = none := by
  cases e : F p with
  | none => rfl
  | some o =>
    rw [(r.fr p o e).2.2] at h
    cases h
/-- an owned object changes -/
theorem Rel.change {o : HO} {mo mo' : MO} (r : Rel K F Hb H m) (h : m.own p = some mo) (new : RepM K Hb (upd H p o) m.cnt p mo') : Rel K F Hb (upd H p o) { m with own := putM m.own p mo' } := by
  have hn := (r.own p mo h).1
  refine ⟨fun b u e => ?_, fun b u e => ?_, fun b mo1 e => ?_⟩
  · rw [upd_ne (ne_of_none e hn)]
    exact r.sub b u e
  · have hb := ne_fr e (r.ownF h)
    rw [upd_ne hb]
    exact ⟨(r.fr b u e).1, (r.fr b u e).2.1, (putM_ne hb).trans (r.fr b u e).2.2⟩
  · by_cases hb : b = p
    · subst hb
      rw [show ({ m with own := putM m.own b mo' } : Mem).own b = some mo' from putM_same] at e
      cases e
      exact ⟨hn, new⟩
    · have e' : m.own b = some mo1 := by
        rw [← e]
        exact (putM_ne hb).symm
      obtain ⟨q1, q2⟩ := r.own b mo1 e'
      exact ⟨q1, q2.mono (Same.refl _) (upd_ne hb) (Nat.le_refl _)⟩
/-- an owned object becomes data -/
theorem Rel.freeze {o : HO} {mo : MO} (r : Rel K F Hb H m) (h : m.own p = some mo) (hp : H p = some o) : Rel K F (upd Hb p o) H { m with own := dropM m.own p } := by
  have hn := (r.own p mo h).1
  refine ⟨fun b u e => ?_, fun b u e => ?_, fun b mo1 e => ?_⟩
  · by_cases hb : b = p
    · subst hb
      rw [upd_same] at e
      rw [hp]
      exact e
    · rw [upd_ne hb] at e
      exact r.sub b u e
  · have hb := ne_fr e (r.ownF h)
    rw [upd_ne hb]
    exact ⟨(r.fr b u e).1, (r.fr b u e).2.1, (dropM_ne hb).trans (r.fr b u e).2.2⟩
  · by_cases hb : b = p
    · subst hb
      have q : (none : Option MO) = some mo1 := by
        rw [← e]
        exact dropM_same.symm
      cases q
    · have e' : m.own b = some mo1 := by
        rw [← e]
        exact (dropM_ne hb).symm
      obtain ⟨q1, q2⟩ := r.own b mo1 e'
      exact ⟨by rw [upd_ne hb]; exact q1, q2.mono (Same.new hn) rfl (Nat.le_refl _)⟩
/-- a new object that stands aside -/
theorem Rel.aside {o : HO} (r : Rel K F Hb H m) (h : H p = none) : Rel K (upd F p o) Hb (upd H p o) m := by
  refine ⟨fun b u e => ?_, fun b u e => ?_, fun b mo e => ?_⟩
  · rw [upd_ne (ne_of_none (r.sub b u e) h)]
    exact r.sub b u e
  · by_cases hb : b = p
    · subst hb
      rw [upd_same] at e ⊢
      exact ⟨e, r.fresh h, r.free h⟩
    · rw [upd_ne hb] at e ⊢
      exact r.fr b u e
  · obtain ⟨q1, q2⟩ := r.own b mo e
    have hb : b ≠ p := fun z => by
      rw [z, r.free h] at e
      cases e
    exact ⟨q1, q2.mono (Same.refl _) (upd_ne hb) (Nat.le_refl _)⟩
theorem upd_back {F : Hp} {p : Addr} {o u : HO} (h : F p = none) {b : Addr} {x : HO} (e : F b = some x) : upd F p o b = some x := by
  rw [upd_ne (ne_of_none e h)]
  exact e
/-- what stands aside changes -/
theorem Rel.turnA {o u : HO} (r : Rel K (upd F p o) Hb H m) : Rel K (upd F p u) Hb (upd H p u) m := by
  obtain ⟨h1, h2, h3⟩ := r.fr p o upd_same
  refine ⟨fun b x e => ?_, fun b x e => ?_, fun b mo e => ?_⟩
  · rw [upd_ne (ne_of_none e h2)]
    exact r.sub b x e
  · by_cases hb : b = p
    · subst hb
      rw [upd_same] at e ⊢
      exact ⟨e, h2, h3⟩
    · rw [upd_ne hb] at e ⊢
      exact r.fr b x (by rw [upd_ne hb]; exact e)
  · obtain ⟨q1, q2⟩ := r.own b mo e
    have hb : b ≠ p := fun z => by
      rw [z, h3] at e
      cases e
    exact ⟨q1, q2.mono (Same.refl _) (upd_ne hb) (Nat.le_refl _)⟩
/-- what stood aside becomes data -/
theorem Rel.settle {o : HO} (r : Rel K (upd F p o) Hb H m) (hF : F p = none) : Rel K F (upd Hb p o) H m := by
  obtain ⟨h1, h2, h3⟩ := r.fr p o upd_same
  refine ⟨fun b x e => ?_, fun b x e => ?_, fun b mo e => ?_⟩
  · by_cases hb : b = p
    · subst hb
      rw [upd_same] at e
      rw [h1]
      exact e
    · rw [upd_ne hb] at e
      exact r.sub b x e
  · have hb := ne_fr e hF
    rw [upd_ne hb]
    exact r.fr b x (by rw [upd_ne hb]; exact e)
  · obtain ⟨q1, q2⟩ := r.own b mo e
    have hb : b ≠ p := fun z => by
      rw [z, h3] at e
      cases e
    exact ⟨by rw [upd_ne hb]; exact q1, q2.mono (Same.new h2) rfl (Nat.le_refl _)⟩
/-- .. an owned object -/
theorem Rel.take {o : HO} {mo : MO} (r : Rel K (upd F p o) Hb H m) (hF : F p = none) (new : RepM K Hb H m.cnt p mo) : Rel K F Hb H { m with own := putM m.own p mo } := by
  obtain ⟨h1, h2, h3⟩ := r.fr p o upd_same
  refine ⟨r.sub, fun b x e => ?_, fun b mo' e => ?_⟩
  · have hb := ne_fr e hF
    obtain ⟨z1, z2, z3⟩ := r.fr b x (by rw [upd_ne hb]; exact e)
    exact ⟨z1, z2, (putM_ne hb).trans z3⟩
  · by_cases hb : b = p
    · subst hb
      rw [show ({ m with own := putM m.own b mo } : Mem).own b = some mo from putM_same] at e
      cases e
      exact ⟨h2, new⟩
    · exact r.own b mo' (by rw [← e]; exact (putM_ne hb).symm)
theorem Rel.count {n : Nat} (r : Rel K F Hb H m) (h : m.cnt ≤ n) : Rel K F Hb H { m with cnt := n } :=
  ⟨r.sub, r.fr, fun b mo e => ⟨(r.own b mo e).1, (r.own b mo e).2.mono (Same.refl _) rfl h⟩⟩
/-- an owned object is let go -/
theorem Rel.leave (r : Rel K F Hb H m) (a : Addr) : Rel K F Hb H { m with own := dropM m.own a } := by
  refine ⟨r.sub, fun b u e => ⟨(r.fr b u e).1, (r.fr b u e).2.1, ?_⟩, fun b mo e => ?_⟩
  · show dropM m.own a b = none
    unfold dropM
    split
    · rfl
    · exact (r.fr b u e).2.2
  by_cases hb : b = a
  · subst hb
    have q : (none : Option MO) = some mo := by
      rw [← e]
      exact dropM_same.symm
    cases q
  · exact r.own b mo (by rw [← e]; exact (dropM_ne hb).symm)
end

/-! ### 3. slots -/
abbrev Env := List (Option D)
def RpS (K : PySem.W.Frag) (H : Hp) (ρ : Env) (σ : L2.St) : Prop := ρ.length = σ.length ∧ ∀ (i : Nat) d, ρ[i]? = some (some d) → ∃ v, σ[i]? = some (some v) ∧ Rp K H d v
section
variable {K : PySem.W.Frag} {H H' : Hp} {ρ : Env} {σ : L2.St}
theorem RpS.mono (e : Same H H') (h : RpS K H ρ σ) : RpS K H' ρ σ := ⟨h.1, fun i d q => by
  obtain ⟨v, h1, h2⟩ := h.2 i d q
  exact ⟨v, h1, h2.mono e⟩⟩
theorem RpS.set {i : Nat} {d : D} {v : V} (h : RpS K H ρ σ) (hv : Rp K H d v) : RpS K H (ρ.set i (some d)) (σ.set i (some v)) := by
  refine ⟨by simp [h.1], fun j d' q => ?_⟩
  by_cases hij : i = j
  · subst hij
    by_cases hl : i < ρ.length
    · rw [List.getElem?_set_self hl] at q
      cases q
      exact ⟨v, by rw [List.getElem?_set_self (by rw [← h.1]; exact hl)], hv⟩
    · rw [List.getElem?_eq_none (by simpa using hl)] at q
      cases q
  · rw [List.getElem?_set_ne hij] at q ⊢
    exact h.2 j d' q
theorem RpS.unset {i : Nat} {x : Option V} (h : RpS K H ρ σ) : RpS K H (ρ.set i none) (σ.set i x) := by
  refine ⟨by simp [h.1], fun j d' q => ?_⟩
  by_cases hij : i = j
  · subst hij
    by_cases hl : i < ρ.length
    · rw [List.getElem?_set_self hl] at q
      cases q
    · rw [List.getElem?_eq_none (by simpa using hl)] at q
      cases q
  · rw [List.getElem?_set_ne hij] at q ⊢
    exact h.2 j d' q
def wipeD (ρ : Env) : List Nat → Env
  | [] => ρ
  | v :: vs => (wipeD ρ vs).set v none
theorem RpS.wipe (h : RpS K H ρ σ) : ∀ vs : List Nat, RpS K H (wipeD ρ vs) (L2.wipe σ vs)
  | [] => h
  | v :: vs => by
    unfold wipeD L2.wipe
    exact (RpS.wipe h vs).unset
/-- the slots at a def's entry -/
def startD (N : List Str) (ds : List D) : Env := ds.map some ++ List.replicate (N.length - ds.length) none
theorem RpS.start {N : List Str} {ds : List D} {vs : List V} (h : RpL K H ds vs) : RpS K H (startD N ds) (L2.start N vs) := by
  have hl := h.length
  refine ⟨by simp [startD, L2.start, hl], fun i d q => ?_⟩
  unfold startD at q
  by_cases hi : i < ds.length
  · rw [List.getElem?_append_left (by simpa using hi), List.getElem?_map] at q
    cases e : ds[i]? with
    | none =>
      rw [e] at q
      cases q
    | some d' =>
      rw [e] at q
      cases q
      obtain ⟨v, h1, h2⟩ := h.get e
      refine ⟨v, ?_, h2⟩
      unfold L2.start
      rw [List.getElem?_append_left (by simp [hl]; exact hi), List.getElem?_map, h1]
      rfl
  · rw [List.getElem?_append_right (by simpa using hi), List.getElem?_replicate] at q
    split at q
    · cases q
    · cases q
/-- less may be known of the slots -/
def Sub1 (ρ ρ' : Env) : Prop := ρ.length = ρ'.length ∧ ∀ (i : Nat) d, ρ'[i]? = some (some d) → ρ[i]? = some (some d)
theorem RpS.sub {ρ' : Env} (h : RpS K H ρ σ) (s : Sub1 ρ ρ') : RpS K H ρ' σ := ⟨s.1.symm.trans h.1, fun i d q => h.2 i d (s.2 i d q)⟩
theorem Sub1.nil : Sub1 [] [] := ⟨rfl, fun i d q => by simp at q⟩
theorem Sub1.same {x : Option D} {ρ ρ' : Env} (h : Sub1 ρ ρ') : Sub1 (x :: ρ) (x :: ρ') := by
  refine ⟨by simp [h.1], fun i d q => ?_⟩
  cases i with
  | zero => simpa using q
  | succ i => simpa using h.2 i d (by simpa using q)
theorem Sub1.lose {x : Option D} {ρ ρ' : Env} (h : Sub1 ρ ρ') : Sub1 (x :: ρ) (none :: ρ') := by
  refine ⟨by simp [h.1], fun i d q => ?_⟩
  cases i with
  | zero => simp at q
  | succ i => simpa using h.2 i d (by simpa using q)
theorem Sub1.refl : ∀ ρ : Env, Sub1 ρ ρ
  | [] => Sub1.nil
  | x :: ρ => Sub1.same (Sub1.refl ρ)
end

/-! ### 4. what a reading gives -/
abbrev QD := D → Mem → Prop
structure DE where
  nx : Env → Mem → Prop
  rt : QD
  bk : Env → Mem → Prop := fun _ _ => False
  ct : Env → Mem → Prop := fun _ _ => False
/-- from the heap of data Hb on: what v, H' have to be -/
def OkV (K : PySem.W.Frag) (F Hb : Hp) (Q : QD) (R : VK) : Prop := ∀ v H' Hb' d m', Same Hb Hb' → Rel K F Hb' H' m' → Rp K Hb' d v → Q d m' → R v H'
def OkB (K : PySem.W.Frag) (F Hb : Hp) (Q : Bool → Mem → Prop) (R : Bool → Hp → Prop) : Prop := ∀ b H' Hb' m', Same Hb Hb' → Rel K F Hb' H' m' → Q b m' → R b H'
def OkA (K : PySem.W.Frag) (F Hb : Hp) (Q : List D → Mem → Prop) (R : List V → Hp → Prop) : Prop := ∀ vs H' Hb' ds m', Same Hb Hb' → Rel K F Hb' H' m' → RpL K Hb' ds vs → Q ds m' → R vs H'
def OkN (K : PySem.W.Frag) (F Hb : Hp) (Q : Env → Mem → Prop) (R : L2.St → Hp → Prop) : Prop := ∀ σ H' Hb' ρ m', Same Hb Hb' → Rel K F Hb' H' m' → RpS K Hb' ρ σ → Q ρ m' → R σ H'
structure OkE (K : PySem.W.Frag) (F Hb : Hp) (E : DE) (R : Ends) : Prop where
  nx : OkN K F Hb E.nx R.nx
  rt : OkV K F Hb E.rt R.rt
  bk : OkN K F Hb E.bk R.bk
  ct : OkN K F Hb E.ct R.ct
def WE (K : PySem.W.Frag) (F B : Hp) (te : TE) (ρ : Env) (m : Mem) (Q : QD) : Prop := ∀ Hb H σ R, Same B Hb → Rel K F Hb H m → RpS K Hb ρ σ → OkV K F Hb Q R → te σ H R
def WT (K : PySem.W.Frag) (F B : Hp) (tt : TT) (ρ : Env) (m : Mem) (Q : Bool → Mem → Prop) : Prop := ∀ Hb H σ R, Same B Hb → Rel K F Hb H m → RpS K Hb ρ σ → OkB K F Hb Q R → tt σ H R
def WA (K : PySem.W.Frag) (F B : Hp) (ta : TA) (ρ : Env) (m : Mem) (Q : List D → Mem → Prop) : Prop := ∀ Hb H σ R, Same B Hb → Rel K F Hb H m → RpS K Hb ρ σ → OkA K F Hb Q R → ta σ H R
def WO (K : PySem.W.Frag) (F B : Hp) (r : R2) (x y : D) (m : Mem) (Q : QD) : Prop := ∀ Hb H vx vy R, Same B Hb → Rel K F Hb H m → Rp K Hb x vx → Rp K Hb y vy → OkV K F Hb Q R → r vx vy H R
def WU (K : PySem.W.Frag) (F B : Hp) (r : V → Hp → VK → Prop) (x : D) (m : Mem) (Q : QD) : Prop := ∀ Hb H vx R, Same B Hb → Rel K F Hb H m → Rp K Hb x vx → OkV K F Hb Q R → r vx H R
def WC (K : PySem.W.Frag) (F B : Hp) (r : List V → Hp → VK → Prop) (xs : List D) (m : Mem) (Q : QD) : Prop := ∀ Hb H vs R, Same B Hb → Rel K F Hb H m → RpL K Hb xs vs → OkV K F Hb Q R → r vs H R
def WS (K : PySem.W.Frag) (F B : Hp) (t : TS) (ρ : Env) (m : Mem) (E : DE) : Prop := ∀ Hb H σ R, Same B Hb → Rel K F Hb H m → RpS K Hb ρ σ → OkE K F Hb E R → t R σ H
section
variable {K : PySem.W.Frag} {B F Hb Hb' H H' : Hp} {m : Mem} {ρ : Env}
theorem OkV.mono {Q : QD} {R : VK} (h : OkV K F Hb Q R) (e : Same Hb Hb') : OkV K F Hb' Q R := fun v H' H2 d m' e2 => h v H' H2 d m' (e.trans e2)
theorem OkB.mono {Q : Bool → Mem → Prop} {R : Bool → Hp → Prop} (h : OkB K F Hb Q R) (e : Same Hb Hb') : OkB K F Hb' Q R := fun v H' H2 m' e2 => h v H' H2 m' (e.trans e2)
theorem OkA.mono {Q : List D → Mem → Prop} {R : List V → Hp → Prop} (h : OkA K F Hb Q R) (e : Same Hb Hb') : OkA K F Hb' Q R := fun v H' H2 d m' e2 => h v H' H2 d m' (e.trans e2)
theorem OkN.mono {Q : Env → Mem → Prop} {R : L2.St → Hp → Prop} (h : OkN K F Hb Q R) (e : Same Hb Hb') : OkN K F Hb' Q R := fun v H' H2 d m' e2 => h v H' H2 d m' (e.trans e2)
theorem OkE.mono {E : DE} {R : Ends} (h : OkE K F Hb E R) (e : Same Hb Hb') : OkE K F Hb' E R := ⟨h.nx.mono e, h.rt.mono e, h.bk.mono e, h.ct.mono e⟩
theorem OkV.here {Q : QD} {R : VK} {v : V} {d : D} (h : OkV K F Hb Q R) (r : Rel K F Hb H m) (hd : Rp K Hb d v) (q : Q d m) : R v H := h v H Hb d m (Same.refl _) r hd q
theorem OkN.here {Q : Env → Mem → Prop} {R : L2.St → Hp → Prop} {σ : L2.St} (h : OkN K F Hb Q R) (r : Rel K F Hb H m) (hs : RpS K Hb ρ σ) (q : Q ρ m) : R σ H := h σ H Hb ρ m (Same.refl _) r hs q
theorem rp_s {v : V} : Rp K H (.s v) v := by unfold Rp; rfl

/-! ### 5. expressions -/
theorem we_imp {te : TE} {Q Q' : QD} (h : WE K F B te ρ m Q) (hq : ∀ d m', Q d m' → Q' d m') : WE K F B te ρ m Q' := fun Hb H σ R hB r hs k => h Hb H σ R hB r hs fun v H' Hb' d m' e r' hd q => k v H' Hb' d m' e r' hd (hq d m' q)
theorem wt_imp {tt : TT} {Q Q' : Bool → Mem → Prop} (h : WT K F B tt ρ m Q) (hq : ∀ d m', Q d m' → Q' d m') : WT K F B tt ρ m Q' := fun Hb H σ R hB r hs k => h Hb H σ R hB r hs fun v H' Hb' m' e r' q => k v H' Hb' m' e r' (hq v m' q)
theorem we_or1 {t u : TE} {Q : QD} (h : WE K F B t ρ m Q) : WE K F B (fun σ H R => t σ H R ∨ u σ H R) ρ m Q := fun Hb H σ R hB r hs k => .inl (h Hb H σ R hB r hs k)
theorem we_or2 {t u : TE} {Q : QD} (h : WE K F B u ρ m Q) : WE K F B (fun σ H R => t σ H R ∨ u σ H R) ρ m Q := fun Hb H σ R hB r hs k => .inr (h Hb H σ R hB r hs k)
theorem we_var {i : Nat} {d : D} {Q : QD} (h : ρ[i]? = some (some d)) (q : Q d m) : WE K F B (tVar i) ρ m Q := fun Hb H σ R hB r hs k => by
  obtain ⟨v, h1, h2⟩ := hs.2 i d h
  exact ⟨v, h1, k.here r h2 q⟩
theorem we_c {v : V} {Q : QD} (q : Q (.s v) m) : WE K F B (tC v) ρ m Q := fun Hb H σ R hB r hs k => k.here r rp_s q
theorem we_op {r2 : R2} {ta tb : TE} {Q : QD} (h : WE K F B ta ρ m fun x m1 => WE K F B tb ρ m1 fun y m2 => WO K F B r2 x y m2 Q) : WE K F B (tOp r2 ta tb) ρ m Q := fun Hb H σ R hB r hs k =>
  h Hb H σ _ hB r hs fun v H1 Hb1 x m1 e1 r1 hx q1 => q1 Hb1 H1 σ _ (hB.trans e1) r1 (hs.mono e1) fun u H2 Hb2 y m2 e2 r2 hy q2 =>
    q2 Hb2 H2 v u R ((hB.trans e1).trans e2) r2 (hx.mono e2) hy (k.mono (e1.trans e2))
theorem we_un {r1 : V → Hp → VK → Prop} {ta : TE} {Q : QD} (h : WE K F B ta ρ m fun x m1 => WU K F B r1 x m1 Q) : WE K F B (tUn r1 ta) ρ m Q := fun Hb H σ R hB r hs k =>
  h Hb H σ _ hB r hs fun v H1 Hb1 x m1 e1 r1 hx q1 => q1 Hb1 H1 v R (hB.trans e1) r1 hx (k.mono e1)
theorem we_if {t : TT} {ta tb : TE} {Q : QD} (h : WT K F B t ρ m fun b m1 => (b = true → WE K F B ta ρ m1 Q) ∧ (b = false → WE K F B tb ρ m1 Q)) : WE K F B (tIf t ta tb) ρ m Q := fun Hb H σ R hB r hs k =>
  h Hb H σ _ hB r hs fun b H1 Hb1 m1 e1 r1 q1 => by
    cases b with
    | true => exact q1.1 rfl Hb1 H1 σ R (hB.trans e1) r1 (hs.mono e1) (k.mono e1)
    | false => exact q1.2 rfl Hb1 H1 σ R (hB.trans e1) r1 (hs.mono e1) (k.mono e1)
theorem we_andV {ta tb : TE} {Q : QD} (h : WE K F B ta ρ m fun x m1 => ∃ b, x = .s (.bl b) ∧ (b = true → WE K F B tb ρ m1 Q) ∧ (b = false → Q (.s (.bl false)) m1)) : WE K F B (tAndV ta tb) ρ m Q := fun Hb H σ R hB r hs k =>
  h Hb H σ _ hB r hs fun v H1 Hb1 x m1 e1 r1 hx q1 => by
    obtain ⟨b, rfl, qt, qf⟩ := q1
    unfold Rp at hx
    refine ⟨b, hx, ?_⟩
    cases b with
    | true => exact iteT (qt rfl Hb1 H1 σ R (hB.trans e1) r1 (hs.mono e1) (k.mono e1))
    | false => exact iteF (k _ _ _ _ _ e1 r1 rp_s (qf rfl))
theorem we_orV {ta tb : TE} {Q : QD} (h : WE K F B ta ρ m fun x m1 => ∃ b, x = .s (.bl b) ∧ (b = false → WE K F B tb ρ m1 Q) ∧ (b = true → Q (.s (.bl true)) m1)) : WE K F B (tOrV ta tb) ρ m Q := fun Hb H σ R hB r hs k =>
  h Hb H σ _ hB r hs fun v H1 Hb1 x m1 e1 r1 hx q1 => by
    obtain ⟨b, rfl, qf, qt⟩ := q1
    unfold Rp at hx
    refine ⟨b, hx, ?_⟩
    cases b with
    | false => exact iteF (qf rfl Hb1 H1 σ R (hB.trans e1) r1 (hs.mono e1) (k.mono e1))
    | true => exact iteT (k _ _ _ _ _ e1 r1 rp_s (qt rfl))
theorem we_notV {ta : TE} {Q : QD} (h : WE K F B ta ρ m fun x m1 => ∃ b, x = .s (.bl b) ∧ Q (.s (.bl (!b))) m1) : WE K F B (tNotV ta) ρ m Q := fun Hb H σ R hB r hs k =>
  h Hb H σ _ hB r hs fun v H1 Hb1 x m1 e1 r1 hx q1 => by
    obtain ⟨b, rfl, q⟩ := q1
    unfold Rp at hx
    exact ⟨b, hx, k _ _ _ _ _ e1 r1 rp_s q⟩

/-! ### 6. tests -/
theorem wt_B {te : TE} {Q : Bool → Mem → Prop} (h : WE K F B te ρ m fun x m1 => ∃ b, x = .s (.bl b) ∧ Q b m1) : WT K F B (tB te) ρ m Q := fun Hb H σ R hB r hs k =>
  h Hb H σ _ hB r hs fun v H1 Hb1 x m1 e1 r1 hx q1 => by
    obtain ⟨b, rfl, q⟩ := q1
    unfold Rp at hx
    exact ⟨b, hx, k _ _ _ _ e1 r1 q⟩
theorem wt_test {te : TE} {Q : Bool → Mem → Prop} (h : WE K F B te ρ m fun x m1 => ∃ b, x = .s (.bl b) ∧ Q b m1) : WT K F B (tTest te) ρ m Q := wt_B h
theorem wt_and {t u : TT} {Q : Bool → Mem → Prop} (h : WT K F B t ρ m fun b m1 => (b = true → WT K F B u ρ m1 Q) ∧ (b = false → Q false m1)) : WT K F B (tAnd t u) ρ m Q := fun Hb H σ R hB r hs k =>
  h Hb H σ _ hB r hs fun b H1 Hb1 m1 e1 r1 q1 => by
    cases b with
    | true => exact iteT (q1.1 rfl Hb1 H1 σ R (hB.trans e1) r1 (hs.mono e1) (k.mono e1))
    | false => exact iteF (k _ _ _ _ e1 r1 (q1.2 rfl))
theorem wt_or {t u : TT} {Q : Bool → Mem → Prop} (h : WT K F B t ρ m fun b m1 => (b = false → WT K F B u ρ m1 Q) ∧ (b = true → Q true m1)) : WT K F B (tOr t u) ρ m Q := fun Hb H σ R hB r hs k =>
  h Hb H σ _ hB r hs fun b H1 Hb1 m1 e1 r1 q1 => by
    cases b with
    | false => exact iteF (q1.1 rfl Hb1 H1 σ R (hB.trans e1) r1 (hs.mono e1) (k.mono e1))
    | true => exact iteT (k _ _ _ _ e1 r1 (q1.2 rfl))
theorem wt_not {t : TT} {Q : Bool → Mem → Prop} (h : WT K F B t ρ m fun b m1 => Q (!b) m1) : WT K F B (tNot t) ρ m Q := fun Hb H σ R hB r hs k =>
  h Hb H σ _ hB r hs fun b H1 Hb1 m1 e1 r1 q1 => k _ _ _ _ e1 r1 q1
theorem wt_yes {Q : Bool → Mem → Prop} (q : Q true m) : WT K F B tYes ρ m Q := fun Hb H σ R hB r hs k => k _ _ _ _ (Same.refl _) r q

/-! ### 7. arguments, displays -/
theorem wa_nil {Q : List D → Mem → Prop} (q : Q [] m) : WA K F B tNil ρ m Q := fun Hb H σ R hB r hs k => k _ _ _ _ _ (Same.refl _) r RpL.nil q
theorem wa_cons {te : TE} {ta : TA} {Q : List D → Mem → Prop} (h : WE K F B te ρ m fun x m1 => WA K F B ta ρ m1 fun xs m2 => Q (x :: xs) m2) : WA K F B (tCons te ta) ρ m Q := fun Hb H σ R hB r hs k =>
  h Hb H σ _ hB r hs fun v H1 Hb1 x m1 e1 r1 hx q1 => q1 Hb1 H1 σ _ (hB.trans e1) r1 (hs.mono e1) fun vs H2 Hb2 xs m2 e2 r2 hxs q2 =>
    k _ _ _ _ _ (e1.trans e2) r2 (RpL.cons (hx.mono e2) hxs) q2
theorem we_tup {ta : TA} {Q : QD} (h : WA K F B ta ρ m fun xs m1 => xs.length ≤ sizeLine ∧ Q (.tup xs) m1) : WE K F B (tTup ta) ρ m Q := fun Hb H σ R hB r hs k =>
  h Hb H σ _ hB r hs fun vs H1 Hb1 xs m1 e1 r1 hx q1 => ⟨by rw [hx.length]; exact q1.1, fun p hp =>
    k _ _ _ (.tup xs) _ (e1.trans (Same.new (r1.fresh hp))) (r1.data hp) (by
      unfold Rp
      exact ⟨p, vs, rfl, SqT.of upd_same, hx.mono (Same.new (r1.fresh hp))⟩) q1.2⟩
theorem we_lst {ta : TA} {Q : QD} (h : WA K F B ta ρ m fun xs m1 => xs.length ≤ sizeLine ∧ Q (.lst xs) m1) : WE K F B (tLst ta) ρ m Q := fun Hb H σ R hB r hs k =>
  h Hb H σ _ hB r hs fun vs H1 Hb1 xs m1 e1 r1 hx q1 => ⟨by rw [hx.length]; exact q1.1, fun p hp =>
    k _ _ _ (.lst xs) _ (e1.trans (Same.new (r1.fresh hp))) (r1.data hp) (by
      unfold Rp
      exact ⟨p, vs, rfl, upd_same, hx.mono (Same.new (r1.fresh hp))⟩) q1.2⟩
/-- a list that is owned from now on -/
theorem we_lstO {ta : TA} {Q : QD} (h : WA K F B ta ρ m fun xs m1 => xs.length ≤ sizeLine ∧ ∀ a, m1.own a = none → Q (.s (.ref a)) { m1 with own := putM m1.own a (.lst xs) }) : WE K F B (tLst ta) ρ m Q := fun Hb H σ R hB r hs k =>
  h Hb H σ _ hB r hs fun vs H1 Hb1 xs m1 e1 r1 hx q1 => ⟨by rw [hx.length]; exact q1.1, fun p hp =>
    k _ _ _ _ _ e1 (r1.owned (mo := .lst xs) hp ⟨vs, upd_same, hx⟩) rp_s (q1.2 p (r1.free hp))⟩
theorem we_cb {r1 : List V → Hp → VK → Prop} {ta : TA} {Q : QD} (h : WA K F B ta ρ m fun xs m1 => WC K F B r1 xs m1 Q) : WE K F B (tCB r1 ta) ρ m Q := fun Hb H σ R hB r hs k =>
  h Hb H σ _ hB r hs fun vs H1 Hb1 xs m1 e1 r1 hx q1 => q1 Hb1 H1 vs R (hB.trans e1) r1 hx (k.mono e1)

/-! ### 8. statements -/
theorem ws_imp {t : TS} {E E' : DE} (h : WS K F B t ρ m E) (h1 : ∀ ρ m, E.nx ρ m → E'.nx ρ m) (h2 : ∀ d m, E.rt d m → E'.rt d m) (h3 : ∀ ρ m, E.bk ρ m → E'.bk ρ m) (h4 : ∀ ρ m, E.ct ρ m → E'.ct ρ m) : WS K F B t ρ m E' := fun Hb H σ R hB r hs k =>
  h Hb H σ R hB r hs ⟨fun _ _ _ _ _ e r q z => k.nx _ _ _ _ _ e r q (h1 _ _ z), fun _ _ _ _ _ e r q z => k.rt _ _ _ _ _ e r q (h2 _ _ z), fun _ _ _ _ _ e r q z => k.bk _ _ _ _ _ e r q (h3 _ _ z), fun _ _ _ _ _ e r q z => k.ct _ _ _ _ _ e r q (h4 _ _ z)⟩
theorem ws_next {E : DE} (q : E.nx ρ m) : WS K F B tNext ρ m E := fun Hb H σ R hB r hs k => k.nx.here r hs q
theorem ws_seq {t u : TS} {E : DE} (h : WS K F B t ρ m { E with nx := fun ρ1 m1 => WS K F B u ρ1 m1 E }) : WS K F B (tSeq t u) ρ m E := fun Hb H σ R hB r hs k =>
  h Hb H σ _ hB r hs ⟨fun σ1 H1 Hb1 ρ1 m1 e1 r1 hs1 q1 => q1 Hb1 H1 σ1 R (hB.trans e1) r1 hs1 (k.mono e1), k.rt, k.bk, k.ct⟩
theorem ws_brk {E : DE} (q : E.bk ρ m) : WS K F B tBreak ρ m E := fun Hb H σ R hB r hs k => k.bk.here r hs q
theorem ws_cont {E : DE} (q : E.ct ρ m) : WS K F B tCont ρ m E := fun Hb H σ R hB r hs k => k.ct.here r hs q
theorem ws_drop {te : TE} {E : DE} (h : WE K F B te ρ m fun _ m1 => E.nx ρ m1) : WS K F B (tDrop te) ρ m E := fun Hb H σ R hB r hs k =>
  h Hb H σ _ hB r hs fun v H1 Hb1 x m1 e1 r1 hx q1 => k.nx _ _ _ _ _ e1 r1 (hs.mono e1) q1
theorem ws_ret {te : TE} {E : DE} (h : WE K F B te ρ m E.rt) : WS K F B (tRet te) ρ m E := fun Hb H σ R hB r hs k => h Hb H σ _ hB r hs k.rt
theorem ws_retN {E : DE} (h : E.rt (.s .non) m) : WS K F B tRetN ρ m E := fun Hb H σ R hB r hs k => k.rt.here r rp_s h
theorem ws_if {t : TT} {tu tw : TS} {E : DE} (h : WT K F B t ρ m fun b m1 => (b = true → WS K F B tu ρ m1 E) ∧ (b = false → WS K F B tw ρ m1 E)) : WS K F B (tIfS t tu tw) ρ m E := fun Hb H σ R hB r hs k =>
  h Hb H σ _ hB r hs fun b H1 Hb1 m1 e1 r1 q1 => by
    cases b with
    | true => exact iteT (q1.1 rfl Hb1 H1 σ R (hB.trans e1) r1 (hs.mono e1) (k.mono e1))
    | false => exact iteF (q1.2 rfl Hb1 H1 σ R (hB.trans e1) r1 (hs.mono e1) (k.mono e1))
theorem ws_asg {te : TE} {i : Nat} {E : DE} (h : WE K F B te ρ m fun x m1 => E.nx (ρ.set i (some x)) m1) : WS K F B (tAsg te (gName i)) ρ m E := fun Hb H σ R hB r hs k =>
  h Hb H σ _ hB r hs fun v H1 Hb1 x m1 e1 r1 hx q1 => k.nx _ _ _ _ _ e1 r1 ((hs.mono e1).set hx) q1
theorem ws_never (E : DE) (h : False) {t : TS} : WS K F B t ρ m E := h.elim

/-! ### 9. targets -/
def WG (K : PySem.W.Frag) (F B : Hp) (g : TG) (x : D) (ρ : Env) (m : Mem) (Q : Env → Mem → Prop) : Prop := ∀ Hb H σ v (R : L2.St → Hp → Prop), Same B Hb → Rel K F Hb H m → RpS K Hb ρ σ → Rp K Hb x v → OkN K F Hb Q R → g v σ H R
def WGs (K : PySem.W.Frag) (F B : Hp) (g : TGs) (xs : List D) (ρ : Env) (m : Mem) (Q : Env → Mem → Prop) : Prop := ∀ Hb H σ vs (R : L2.St → Hp → Prop), Same B Hb → Rel K F Hb H m → RpS K Hb ρ σ → RpL K Hb xs vs → OkN K F Hb Q R → g vs σ H R
theorem wg_name {i : Nat} {x : D} {Q : Env → Mem → Prop} (q : Q (ρ.set i (some x)) m) : WG K F B (gName i) x ρ m Q := fun Hb H σ v R hB r hs hx k => k.here r (hs.set hx) q
theorem wgs_nil {Q : Env → Mem → Prop} (q : Q ρ m) : WGs K F B gNil [] ρ m Q := fun Hb H σ v R hB r hs hx k => by
  unfold RpL at hx
  exact ⟨hx, k.here r hs q⟩
theorem wgs_cons {g : TG} {gs : TGs} {x : D} {xs : List D} {Q : Env → Mem → Prop} (h : WG K F B g x ρ m fun ρ1 m1 => WGs K F B gs xs ρ1 m1 Q) : WGs K F B (gCons g gs) (x :: xs) ρ m Q := fun Hb H σ vs R hB r hs hx k => by
  unfold RpL at hx
  obtain ⟨v, us, rfl, h1, h2⟩ := hx
  exact ⟨v, us, rfl, h Hb H σ v _ hB r hs h1 fun σ1 H1 Hb1 ρ1 m1 e1 r1 hs1 q1 => q1 Hb1 H1 σ1 us R (hB.trans e1) r1 hs1 (h2.mono e1) (k.mono e1)⟩
theorem wg_tup {n : Nat} {gs : TGs} {xs : List D} {Q : Env → Mem → Prop} (hn : xs.length = n) (h : WGs K F B gs xs ρ m Q) : WG K F B (gTup K n gs) (.tup xs) ρ m Q := fun Hb H σ v R hB r hs hx k => by
  unfold Rp at hx
  obtain ⟨p, vs, rfl, h1, h2⟩ := hx
  exact ⟨p, vs, rfl, sameT r.sub h1, by rw [h2.length, hn], h Hb H σ vs R hB r hs h2 k⟩
theorem ws_asgG {te : TE} {g : TG} {E : DE} (h : WE K F B te ρ m fun x m1 => WG K F B g x ρ m1 E.nx) : WS K F B (tAsg te g) ρ m E := fun Hb H σ R hB r hs k =>
  h Hb H σ _ hB r hs fun v H1 Hb1 x m1 e1 r1 hx q1 => q1 Hb1 H1 σ v _ (hB.trans e1) r1 (hs.mono e1) hx (k.nx.mono e1)
theorem ws_par {i j : Nat} {ta : TA} {E : DE} (h : WA K F B ta ρ m fun xs m1 => ∃ x y, xs = [x, y] ∧ E.nx ((ρ.set i (some x)).set j (some y)) m1) : WS K F B (tPar i j ta) ρ m E := fun Hb H σ R hB r hs k =>
  h Hb H σ _ hB r hs fun vs H1 Hb1 xs m1 e1 r1 hx q1 => by
    obtain ⟨x, y, rfl, q⟩ := q1
    unfold RpL at hx
    obtain ⟨v, us, rfl, h1, h2⟩ := hx
    unfold RpL at h2
    obtain ⟨u, us', rfl, h3, h4⟩ := h2
    unfold RpL at h4
    subst h4
    exact ⟨v, u, rfl, k.nx _ _ _ _ _ e1 r1 (((hs.mono e1).set h1).set h3) q⟩
/-- less may be known behind -/
theorem ws_less {t : TS} {ρ' : Env} {E : DE} (h : WS K F B t ρ' m E) (s : Sub1 ρ ρ') : WS K F B t ρ m E := fun Hb H σ R hB r hs k => h Hb H σ R hB r (hs.sub s) k
theorem ws_count {t : TS} {n : Nat} {E : DE} (h : WS K F B t ρ { m with cnt := n } E) (hn : m.cnt ≤ n) : WS K F B t ρ m E := fun Hb H σ R hB r hs k => h Hb H σ R hB (r.count hn) hs k
end
end DD

/-! DFun: promises over data, calls, classes of one's own. -/
namespace DD
open PySem L2
open PySem.Spec PyProof.Rows

/-! ### promises -/
/-- what is wanted of an exception: its class, its attributes -/
abbrev XD := Addr → List Str → List D → Mem → Prop
abbrev Phi := List D → Mem → QD → XD → Prop
/-- the state beneath an exception with the dict d -/
def RelX (K : PySem.W.Frag) (F Hb H : Hp) (m : Mem) (d : Option Addr) (ns : List Str) (vs : List V) : Prop := match d with
  | none => ns = [] ∧ vs = [] ∧ Rel K F Hb H m
  | some dd => F dd = none ∧ Rel K (upd F dd (.xd (ns.zip vs))) Hb H m
def OkX (K : PySem.W.Frag) (F Hb : Hp) (X : XD) (E : XK) : Prop := ∀ C d H' Hb' ns ds vs m', Same Hb Hb' → RelX K F Hb' H' m' d ns vs → RpL K Hb' ds vs → ns.length = ds.length → X C ns ds m' → E (.ref C) d H'
def X0 : XD := fun _ _ _ _ => False
theorem okx0 {K : PySem.W.Frag} {F Hb : Hp} {E : XK} : OkX K F Hb X0 E := fun _ _ _ _ _ _ _ _ _ _ _ _ z => z.elim
theorem OkX.mono {K : PySem.W.Frag} {F Hb Hb' : Hp} {X : XD} {E : XK} (h : OkX K F Hb X E) (e : Same Hb Hb') : OkX K F Hb' X E := fun C d H' H2 ns ds vs m' e2 => h C d H' H2 ns ds vs m' (e.trans e2)
def spOf (K : PySem.W.Frag) (φ : Phi) : Sp := fun vs H Q E => ∃ ds m F Hb nx X, RpL K Hb ds vs ∧ Rel K F Hb H m ∧ φ ds m nx X ∧ OkV K F Hb nx Q ∧ OkX K F Hb X E
section
variable {P : Program} {w : World} {K : PySem.W.Frag} {mg : Str → Option Value} {base : Heap} {B F Hb H : Hp} {m : Mem} {ρ : Env}
theorem spOf_len {φ : Phi} {n : Nat} (h : ∀ ds m nx X, φ ds m nx X → ds.length = n) : ∀ vs H Q E, spOf K φ vs H Q E → vs.length = n := fun vs H Q E q => by
  obtain ⟨ds, m, F', Hb, nx, X, h1, _, h3, _⟩ := q
  rw [h1.length, h ds m nx X h3]
/-- what a def's body has to show -/
def BodyOk (K : PySem.W.Frag) (φ : Phi) (N : List Str) (E : XK) (t : TS) : Prop := ∀ ds m nx X F B, φ ds m nx X → OkX K F B X E → WS K F B t (startD N ds) m { nx := fun _ m' => nx (.s .non) m', rt := nx }
theorem okC {CX : CXT} {x qual : Str} {st : Stmt} {f : Addr} {fd : FuncData} {N ps : List Str} {k : Nat} {sp : Sp} (F : Fun K x qual st f fd) (S : FnScope N ps (defScope st)) (len : ∀ vs H Q E, sp vs H Q E → vs.length = ps.length)
    (hbody : ∀ (cdv : Value) (A : Around) (outer : List PySem.Env) (s : Shared) (H : Hp) (vs : List V) (Q : VK) (E : XK), Room k (A.deeper (envOfC qual (defScope st) s.heap.objs.size f cdv)) → sp vs H Q E →
      ∃ t, PSs (cxOf CX P w K mg base N qual (defScope st) f cdv A outer s H E) (defBody st) t ∧ t { nx := fun _ H' => Q .non H', rt := Q } (L2.start N vs) H) : FnOk P w K mg base CX (k + 1) f fd ps sp := by
  obtain ⟨oc, od, kV, doc, pm, an, cdv, ct, osl, rfl, lk, hcd⟩ := F.ex
  exact fn_of lk hcd S len fun A outer s H vs Q E hr hsp => hbody cdv A outer s H vs Q E hr hsp
theorem ok_D {CX : CXT} {x qual : Str} {st : Stmt} {f : Addr} {fd : FuncData} {N ps : List Str} {k : Nat} {φ : Phi} (F : Fun K x qual st f fd) (S : FnScope N ps (defScope st)) (hl : ∀ ds m nx X, φ ds m nx X → ds.length = ps.length)
    (hbody : ∀ (cdv : Value) (A : Around) (outer : List PySem.Env) (s : Shared) (H : Hp) (E : XK), Room k (A.deeper (envOfC qual (defScope st) s.heap.objs.size f cdv)) →
      ∃ t, PSs (cxOf CX P w K mg base N qual (defScope st) f cdv A outer s H E) (defBody st) t ∧ BodyOk K φ N E t) : FnOk P w K mg base CX (k + 1) f fd ps (spOf K φ) := by
  refine okC F S (spOf_len hl) fun cdv A outer s H vs Q E hr h => ?_
  obtain ⟨ds, m, F', Hb, nx, X, h1, h2, h3, h4, h5⟩ := h
  obtain ⟨t, ht, hw⟩ := hbody cdv A outer s H E hr
  exact ⟨t, ht, hw ds m nx X F' Hb h3 h5 Hb H _ _ (Same.refl _) h2 (RpS.start h1) ⟨fun σ H' Hb' ρ m' e r hs q => h4 _ _ _ _ _ e r rp_s q, h4, fun _ _ _ _ _ _ _ _ z => z.elim, fun _ _ _ _ _ _ _ _ z => z.elim⟩⟩

/-! ### calls -/
theorem we_callD {φ : Phi} {E : XK} {ta : TA} {dvs : List V} {dds : List D} {X : XD} {Q : QD} (hE : OkX K F B X E) (hd : RpL K B dds dvs) (h : WA K F B ta ρ m fun ds m1 => φ (ds ++ dds) m1 Q X) : WE K F B (tCall (spOf K φ) dvs E ta) ρ m Q := fun Hb H σ R hB r hs k =>
  h Hb H σ _ hB r hs fun vs H1 Hb1 ds m1 e1 r1 hx q1 => ⟨_, m1, F, Hb1, Q, X, hx.app (hd.mono (hB.trans e1)), r1, q1, k.mono e1, hE.mono (hB.trans e1)⟩
theorem we_call {φ : Phi} {E : XK} {ta : TA} {X : XD} {Q : QD} (hE : OkX K F B X E) (h : WA K F B ta ρ m fun ds m1 => φ ds m1 Q X) : WE K F B (tCall (spOf K φ) [] E ta) ρ m Q := fun Hb H σ R hB r hs k =>
  h Hb H σ _ hB r hs fun vs H1 Hb1 ds m1 e1 r1 hx q1 => ⟨_, m1, F, Hb1, Q, X, by rw [List.append_nil]; exact hx, r1, q1, k.mono e1, hE.mono (hB.trans e1)⟩
/-- an object as the receiver: data, or owned; nothing hides the method m -/
def Recv (m : Mem) (C : Addr) (f : Str) : D → Prop
  | .ins C' ns _ => C' = C ∧ f ∉ ns
  | .s (.ref a) => ∃ ns ds, m.own a = some (.ins C ns ds) ∧ f ∉ ns
  | _ => False
theorem zip_none {β : Type} {f : Str} : ∀ {ns : List Str} {vs : List β}, f ∉ ns → (ns.zip vs).lookup f = none
  | [], _, _ => rfl
  | _ :: _, [], _ => rfl
  | n :: ns, v :: vs, h => by
    have h1 : (f == n) = false := by
      simp only [List.mem_cons, not_or] at h
      simpa using h.1
    have h2 : f ∉ ns := fun z => h (List.mem_cons_of_mem _ z)
    show List.lookup f ((n, v) :: ns.zip vs) = none
    rw [List.lookup_cons, h1]
    exact zip_none h2
theorem Recv.at {x : D} {C : Addr} {f : Str} {v : V} (q : Recv m C f x) (r : Rel K F Hb H m) (hx : Rp K Hb x v) : ∃ a dx fs, v = .ref a ∧ H a = some (.ins C dx fs) ∧ fs.lookup f = none := by
  cases x with
  | ins C' ns ds =>
    obtain ⟨rfl, hn⟩ := q
    unfold Rp at hx
    obtain ⟨p, dx, vs, rfl, h1, h2, h3⟩ := hx
    exact ⟨p, dx, _, rfl, r.sub _ _ h1, zip_none hn⟩
  | s v' =>
    cases v' with
    | ref a =>
      obtain ⟨ns, ds, ho, hn⟩ := q
      unfold Rp at hx
      subst hx
      obtain ⟨_, dx, vs, h1, h2, h3⟩ := r.own _ _ ho
      exact ⟨a, dx, _, rfl, h1, zip_none hn⟩
    | _ => exact q.elim
  | _ => exact q.elim
theorem we_methD {C : Addr} {f : Str} {φ : Phi} {E : XK} {te : TE} {ta : TA} {dvs : List V} {dds : List D} {X : XD} {Q : QD} (hE : OkX K F B X E) (hd : RpL K B dds dvs)
    (h : WE K F B te ρ m fun x m1 => Recv m1 C f x ∧ WA K F B ta ρ m1 fun ds m2 => φ (x :: (ds ++ dds)) m2 Q X) : WE K F B (tMeth C f (spOf K φ) dvs E te ta) ρ m Q := fun Hb H σ R hB r hs k =>
  h Hb H σ _ hB r hs fun v H1 Hb1 x m1 e1 r1 hx q1 => by
    obtain ⟨a, dx, fs, rfl, h1, h2⟩ := q1.1.at r1 hx
    exact ⟨a, dx, fs, rfl, h1, h2, q1.2 Hb1 H1 σ _ (hB.trans e1) r1 (hs.mono e1) fun vs H2 Hb2 ds m2 e2 r2 hxs q2 =>
      ⟨_, m2, F, Hb2, Q, X, RpL.cons (hx.mono e2) (hxs.app (hd.mono ((hB.trans e1).trans e2))), r2, q2, k.mono (e1.trans e2), hE.mono ((hB.trans e1).trans e2)⟩⟩
theorem we_meth {C : Addr} {f : Str} {φ : Phi} {E : XK} {te : TE} {ta : TA} {X : XD} {Q : QD} (hE : OkX K F B X E)
    (h : WE K F B te ρ m fun x m1 => Recv m1 C f x ∧ WA K F B ta ρ m1 fun ds m2 => φ (x :: ds) m2 Q X) : WE K F B (tMeth C f (spOf K φ) [] E te ta) ρ m Q :=
  we_methD (dds := []) hE RpL.nil (we_imp h fun x m1 q => ⟨q.1, fun Hb H σ R hB r hs k => q.2 Hb H σ R hB r hs fun vs H1 Hb1 ds m2 e1 r1 hx q1 => k vs H1 Hb1 ds m2 e1 r1 hx (by show φ (x :: (ds ++ [])) m2 Q X; rw [List.append_nil]; exact q1)⟩)
/-- a new instance whose making is kept as data -/
theorem we_make {C : Addr} {φ : Phi} {E : XK} {ta : TA} {dvs : List V} {dds : List D} {X : XD} {Q : QD} (hE : OkX K F B X E) (hd : RpL K B dds dvs)
    (h : WA K F B ta ρ m fun ds m1 => ∀ x, m1.own x = none → φ (.s (.ref x) :: (ds ++ dds)) { m1 with own := putM m1.own x (.ins C [] []) }
      (fun d m2 => d = .s .non ∧ ∃ ns es, m2.own x = some (.ins C ns es) ∧ Q (.ins C ns es) { m2 with own := dropM m2.own x }) X) : WE K F B (tMake C (spOf K φ) dvs E ta) ρ m Q := fun Hb H σ R hB r hs k =>
  h Hb H σ _ hB r hs fun vs H1 Hb1 ds m1 e1 r1 hx q1 => fun x dx hxn hdn hne => by
    have r2 : Rel K F (upd Hb1 dx (.own x)) (upd H1 dx (.own x)) m1 := r1.data hdn
    have hx2 : upd H1 dx (.own x) x = none := by rw [upd_ne (Ne.symm hne)]; exact hxn
    have r3 : Rel K F (upd Hb1 dx (.own x)) (upd (upd H1 dx (.own x)) x (.ins C dx [])) { m1 with own := putM m1.own x (.ins C [] []) } :=
      r2.owned (mo := .ins C [] []) hx2 ⟨dx, [], upd_same, RpL.nil, rfl⟩
    have e2 : Same Hb1 (upd Hb1 dx (.own x)) := Same.new (r1.fresh hdn)
    refine ⟨_, _, F, _, _, X, RpL.cons rp_s ((hx.mono e2).app (hd.mono ((hB.trans e1).trans e2))), r3, q1 x (r1.free hxn), fun v H' Hb' d m' e3 r4 hd' q2 => ?_, hE.mono ((hB.trans e1).trans e2)⟩
    obtain ⟨rfl, ns, es, ho, q3⟩ := q2
    unfold Rp at hd'
    obtain ⟨hn, dx', vs', h1, h2, h3⟩ := r4.own _ _ ho
    have e4 : Same Hb' (upd Hb' x (.ins C dx' (ns.zip vs'))) := Same.new hn
    refine ⟨hd', k _ _ _ (.ins C ns es) _ ((e1.trans e2).trans (e3.trans e4)) (r4.freeze ho h1) ?_ q3⟩
    unfold Rp
    exact ⟨x, dx', vs', rfl, upd_same, h2.mono e4, h3⟩
/-- .. kept as an owned object -/
theorem we_makeO {C : Addr} {φ : Phi} {E : XK} {ta : TA} {dvs : List V} {dds : List D} {X : XD} {Q : QD} (hE : OkX K F B X E) (hd : RpL K B dds dvs)
    (h : WA K F B ta ρ m fun ds m1 => ∀ x, m1.own x = none → φ (.s (.ref x) :: (ds ++ dds)) { m1 with own := putM m1.own x (.ins C [] []) } (fun d m2 => d = .s .non ∧ Q (.s (.ref x)) m2) X) : WE K F B (tMake C (spOf K φ) dvs E ta) ρ m Q := fun Hb H σ R hB r hs k =>
  h Hb H σ _ hB r hs fun vs H1 Hb1 ds m1 e1 r1 hx q1 => fun x dx hxn hdn hne => by
    have r2 : Rel K F (upd Hb1 dx (.own x)) (upd H1 dx (.own x)) m1 := r1.data hdn
    have hx2 : upd H1 dx (.own x) x = none := by rw [upd_ne (Ne.symm hne)]; exact hxn
    have r3 : Rel K F (upd Hb1 dx (.own x)) (upd (upd H1 dx (.own x)) x (.ins C dx [])) { m1 with own := putM m1.own x (.ins C [] []) } :=
      r2.owned (mo := .ins C [] []) hx2 ⟨dx, [], upd_same, RpL.nil, rfl⟩
    have e2 : Same Hb1 (upd Hb1 dx (.own x)) := Same.new (r1.fresh hdn)
    refine ⟨_, _, F, _, _, X, RpL.cons rp_s ((hx.mono e2).app (hd.mono ((hB.trans e1).trans e2))), r3, q1 x (r1.free hxn), fun v H' Hb' d m' e3 r4 hd' q2 => ?_, hE.mono ((hB.trans e1).trans e2)⟩
    obtain ⟨rfl, q3⟩ := q2
    unfold Rp at hd'
    exact ⟨hd', k _ _ _ _ _ ((e1.trans e2).trans e3) r4 rp_s q3⟩

/-! ### attributes -/
theorem zip_get {f : Str} : ∀ {ns : List Str} {ds : List D} {vs : List V} {d : D}, RpL K H ds vs → (ns.zip ds).lookup f = some d → ∃ v, (ns.zip vs).lookup f = some v ∧ Rp K H d v
  | [], _, _, _, _, e => by cases e
  | _ :: _, [], _, _, _, e => by cases e
  | n :: ns, d0 :: ds, vs, d, h, e => by
    unfold RpL at h
    obtain ⟨v, r, rfl, h1, h2⟩ := h
    have e' : List.lookup f ((n, d0) :: ns.zip ds) = some d := e
    show ∃ u, List.lookup f ((n, v) :: ns.zip r) = some u ∧ _
    rw [List.lookup_cons] at e' ⊢
    cases hc : f == n with
    | true =>
      rw [hc] at e'
      cases e'
      exact ⟨v, rfl, h1⟩
    | false =>
      rw [hc] at e'
      exact zip_get h2 e'
/-- the attribute f of an object, data or owned -/
def FldD (m : Mem) (f : Str) (d : D) : D → Addr → Prop
  | .ins C ns ds, C' => C' = C ∧ (ns.zip ds).lookup f = some d
  | .s (.ref a), C => ∃ ns ds, m.own a = some (.ins C ns ds) ∧ (ns.zip ds).lookup f = some d
  | _, _ => False
theorem we_fld {te : TE} {f : Str} {Q : QD} (h : WE K F B te ρ m fun x m1 => ∃ C d, Cls K C ∧ NoAttr K C f ∧ FldD m1 f d x C ∧ Q d m1) : WE K F B (tFld K te f) ρ m Q := fun Hb H σ R hB r hs k =>
  h Hb H σ _ hB r hs fun v H1 Hb1 x m1 e1 r1 hx q1 => by
    obtain ⟨C, d, c, n, hf, q⟩ := q1
    cases x with
    | ins C' ns ds =>
      obtain ⟨rfl, hl⟩ := hf
      unfold Rp at hx
      obtain ⟨p, dx, vs, rfl, h1, h2, h3⟩ := hx
      obtain ⟨u, hu, ru⟩ := zip_get h2 hl
      exact ⟨p, C, dx, _, u, rfl, r1.sub _ _ h1, c, n, hu, k _ _ _ _ _ e1 r1 ru q⟩
    | s v' =>
      cases v' with
      | ref a =>
        obtain ⟨ns, ds, ho, hl⟩ := hf
        unfold Rp at hx
        subst hx
        obtain ⟨_, dx, vs, h1, h2, h3⟩ := r1.own _ _ ho
        obtain ⟨u, hu, ru⟩ := zip_get h2 hl
        exact ⟨a, C, dx, _, u, rfl, h1, c, n, hu, k _ _ _ _ _ e1 r1 ru q⟩
      | _ => exact hf.elim
    | _ => exact hf.elim
def putN (f : Str) : List Str → List Str
  | [] => [f]
  | n :: ns => if n = f then n :: ns else n :: putN f ns
def putE {α : Type} (f : Str) (x : α) : List Str → List α → List α
  | n :: ns, y :: ys => if n = f then x :: ys else y :: putE f x ns ys
  | _, ys => ys ++ [x]
theorem putF_zip (f : Str) (v : V) : ∀ (ns : List Str) (vs : List V), ns.length = vs.length → putF f v (ns.zip vs) = (putN f ns).zip (putE f v ns vs)
  | [], [], _ => rfl
  | n :: ns, u :: vs, h => by
    show putF f v ((n, u) :: ns.zip vs) = _
    unfold putF putN putE
    by_cases hn : n = f
    · rw [if_pos hn, if_pos hn, if_pos hn]
      rfl
    · rw [if_neg hn, if_neg hn, if_neg hn, putF_zip f v ns vs (by simpa using h)]
      rfl
theorem RpL.put {f : Str} {d : D} {v : V} : ∀ {ns : List Str} {ds : List D} {vs : List V}, RpL K H ds vs → Rp K H d v → ns.length = ds.length → RpL K H (putE f d ns ds) (putE f v ns vs)
  | [], ds, vs, h, hd, e => by
    have e1 : ds = [] := List.eq_nil_of_length_eq_zero e.symm
    subst e1
    unfold RpL at h
    subst h
    exact RpL.cons hd RpL.nil
  | n :: ns, [], vs, h, hd, e => by cases e
  | n :: ns, x :: ds, vs, h, hd, e => by
    unfold RpL at h
    obtain ⟨u, r, rfl, h1, h2⟩ := h
    unfold putE
    by_cases hn : n = f
    · rw [if_pos hn, if_pos hn]
      exact RpL.cons hd h2
    · rw [if_neg hn, if_neg hn]
      exact RpL.cons h1 (RpL.put h2 hd (by simpa using e))
theorem put_len {f : Str} {d : D} : ∀ {ns : List Str} {ds : List D}, ns.length = ds.length → (putN f ns).length = (putE f d ns ds).length
  | [], [], _ => rfl
  | n :: ns, x :: ds, e => by
    unfold putN putE
    by_cases hn : n = f
    · rw [if_pos hn, if_pos hn]
      exact e
    · rw [if_neg hn, if_neg hn]
      simp only [List.length_cons, put_len (f := f) (d := d) (show ns.length = ds.length by simpa using e)]
/-- o.f = e, o an owned object -/
theorem ws_fld {to te : TE} {f : Str} {E : DE} (h : WE K F B te ρ m fun y m1 => WE K F B to ρ m1 fun x m2 => ∃ a C ns ds, x = .s (.ref a) ∧ Cls K C ∧ NoAttr K C f ∧ m2.own a = some (.ins C ns ds) ∧ ns.length < 900 ∧
    E.nx ρ { m2 with own := putM m2.own a (.ins C (putN f ns) (putE f y ns ds)) }) : WS K F B (sFld K to te f) ρ m E := fun Hb H σ R hB r hs k =>
  h Hb H σ _ hB r hs fun u H1 Hb1 y m1 e1 r1 hy q1 => q1 Hb1 H1 σ _ (hB.trans e1) r1 (hs.mono e1) fun v H2 Hb2 x m2 e2 r2 hx q2 => by
    obtain ⟨a, C, ns, ds, rfl, c, n, ho, hl, q⟩ := q2
    unfold Rp at hx
    obtain ⟨_, dx, vs, h1, h2, h3⟩ := r2.own _ _ ho
    have h2l := h2.length
    refine ⟨a, C, dx, _, hx, h1, c, n, by rw [List.length_zip]; omega, k.nx _ _ _ _ _ (e1.trans e2) (r2.change (mo' := .ins C (putN f ns) (putE f y ns ds)) ho ?_) (hs.mono (e1.trans e2)) q⟩
    refine ⟨dx, putE f u ns vs, ?_, RpL.put h2 (hy.mono e2) h3, put_len h3⟩
    rw [upd_same, putF_zip f u ns vs (by omega)]
end
end DD

/-! DIter: loops and comprehensions over data. -/
namespace DD
open PySem L2
open PySem.Spec PyProof.Rows

/-- J goes through the data xs -/
def Iters (K : PySem.W.Frag) (Hb0 : Hp) (J : It) (xs : List D) : Prop := ∀ i F Hb H m, Same Hb0 Hb → Rel K F Hb H m → (xs.length ≤ i → J.stop i H) ∧ ∀ d, xs[i]? = some d → J.go i H ∧ ∀ x H', J.yld i H x H' → ∃ Hb', Same Hb Hb' ∧ Rel K F Hb' H' m ∧ Rp K Hb' d x
def WI (K : PySem.W.Frag) (F B : Hp) (wi : TI) (ρ : Env) (m : Mem) (Q : List D → Mem → Prop) : Prop := ∀ Hb H σ R, Same B Hb → Rel K F Hb H m → RpS K Hb ρ σ →
  (∀ J H' Hb' xs m', Same Hb Hb' → Rel K F Hb' H' m' → Iters K Hb' J xs → Q xs m' → R J H') → wi σ H R
section
variable {K : PySem.W.Frag} {B F Hb Hb' H H' : Hp} {m : Mem} {ρ : Env}
theorem Iters.mono {J : It} {xs : List D} (h : Iters K Hb J xs) (e : Same Hb Hb') : Iters K Hb' J xs := fun i F H2 H m e2 r => h i F H2 H m (e.trans e2) r
theorem wi_or1 {t u : TI} {Q : List D → Mem → Prop} (h : WI K F B t ρ m Q) : WI K F B (fun σ H R => t σ H R ∨ u σ H R) ρ m Q := fun Hb H σ R hB r hs k => .inl (h Hb H σ R hB r hs k)
theorem wi_or2 {t u : TI} {Q : List D → Mem → Prop} (h : WI K F B u ρ m Q) : WI K F B (fun σ H R => t σ H R ∨ u σ H R) ρ m Q := fun Hb H σ R hB r hs k => .inr (h Hb H σ R hB r hs k)
theorem it_seq {P : Hp → List V → Prop} {a : Addr} {ds : List D} {vs : List V} (mono : ∀ H H', Same H H' → P H vs → P H' vs) (h : P Hb vs) (hv : RpL K Hb ds vs) (J : It) (hs : ∀ i H, P H vs → vs.length ≤ i → J.stop i H) (hg : ∀ i H x, P H vs → vs[i]? = some x → J.go i H)
    (hy : ∀ i H x H', P H vs → J.yld i H x H' → H' = H ∧ vs[i]? = some x) : Iters K Hb J ds := by
  intro i F Hb1 H m e r
  have h1 : P H vs := mono _ _ r.sub (mono _ _ e h)
  have hl := hv.length
  refine ⟨fun hi => hs i H h1 (by omega), fun d hd => ?_⟩
  obtain ⟨v, hv1, hv2⟩ := hv.get hd
  refine ⟨hg i H v h1 hv1, fun x H' y => ?_⟩
  obtain ⟨rfl, hx⟩ := hy i H x H' h1 y
  rw [hv1] at hx
  cases hx
  exact ⟨Hb1, Same.refl _, r, hv2.mono e⟩
theorem it_list {a : Addr} {ds : List D} {vs : List V} (h : SqL K Hb a vs) (hv : RpL K Hb ds vs) : Iters K Hb (Itl K a) ds :=
  it_seq (P := fun H xs => SqL K H a xs) (a := a) (fun _ _ e q => e.seq q) h hv _ (fun i H q hi => ⟨vs, q, hi⟩) (fun i H x q hx => ⟨vs, x, q, hx⟩) fun i H x H' q y => ⟨y.1, y.2 vs q⟩
theorem it_tup {a : Addr} {ds : List D} {vs : List V} (h : SqT K Hb a vs) (hv : RpL K Hb ds vs) : Iters K Hb (Itt K a) ds :=
  it_seq (P := fun H xs => SqT K H a xs) (a := a) (fun _ _ e q => sameT e q) h hv _ (fun i H q hi => ⟨vs, q, hi⟩) (fun i H x q hx => ⟨vs, x, q, hx⟩) fun i H x H' q y => ⟨y.1, y.2 vs q⟩
theorem wi_list {tl : TE} {Q : List D → Mem → Prop} (h : WE K F B tl ρ m fun x m1 => ∃ xs, x = .lst xs ∧ Q xs m1) : WI K F B (iList K tl) ρ m Q := fun Hb H σ R hB r hs k =>
  h Hb H σ _ hB r hs fun v H1 Hb1 x m1 e1 r1 hx q1 => by
    obtain ⟨xs, rfl, q⟩ := q1
    unfold Rp at hx
    obtain ⟨p, vs, rfl, h1, h2⟩ := hx
    exact ⟨p, rfl, ⟨vs, SqL.of (r1.sub _ _ h1)⟩, k _ _ _ _ _ e1 r1 (it_list (SqL.of h1) h2) q⟩
theorem wi_tup {tl : TE} {Q : List D → Mem → Prop} (h : WE K F B tl ρ m fun x m1 => ∃ xs, x = .tup xs ∧ Q xs m1) : WI K F B (iTup K tl) ρ m Q := fun Hb H σ R hB r hs k =>
  h Hb H σ _ hB r hs fun v H1 Hb1 x m1 e1 r1 hx q1 => by
    obtain ⟨xs, rfl, q⟩ := q1
    unfold Rp at hx
    obtain ⟨p, vs, rfl, h1, h2⟩ := hx
    exact ⟨p, rfl, ⟨vs, sameT r1.sub h1⟩, k _ _ _ _ _ e1 r1 (it_tup h1 h2) q⟩
def chrs (x : Str) : List D := x.cps.toList.map fun c => .s (.str ⟨#[c]⟩)
theorem chrs_length (t : Str) : (chrs t).length = t.length := by
  unfold chrs
  rw [List.length_map]
  rfl
theorem wi_str {tl : TE} {Q : List D → Mem → Prop} (h : WE K F B tl ρ m fun x m1 => ∃ t, x = .s (.str t) ∧ Q (chrs t) m1) : WI K F B (iStr tl) ρ m Q := fun Hb H σ R hB r hs k =>
  h Hb H σ _ hB r hs fun v H1 Hb1 x m1 e1 r1 hx q1 => by
    obtain ⟨t, rfl, q⟩ := q1
    unfold Rp at hx
    refine ⟨t, hx, k _ _ _ _ _ e1 r1 (fun i F Hb2 H2 m2 e2 r2 => ⟨fun hi => ?_, fun d hd => ?_⟩) q⟩
    · show t.cps.size ≤ i
      simpa [chrs] using hi
    · unfold chrs at hd
      rw [List.getElem?_map] at hd
      cases hc : t.cps.toList[i]? with
      | none =>
        rw [hc] at hd
        cases hd
      | some c =>
        rw [hc] at hd
        cases hd
        have hc' : t.cps[i]? = some c := by simpa using hc
        refine ⟨?_, fun x H' y => ?_⟩
        · show i < t.cps.size
          exact (Array.getElem?_eq_some_iff.mp hc').1
        · obtain ⟨rfl, c', h1, rfl⟩ := y
          rw [hc'] at h1
          cases h1
          exact ⟨Hb2, Same.refl _, r2, rp_s⟩
def rngD (lo : Int) (n : Nat) : List D := (List.range n).map fun (i : Nat) => .s (.int (lo + (i : Int)))
theorem rngD_length {lo : Int} {n : Nat} : (rngD lo n).length = n := by simp [rngD]
theorem rngD_get {lo : Int} {n i : Nat} {d : D} (h : (rngD lo n)[i]? = some d) : i < n ∧ d = .s (.int (lo + (i : Int))) := by
  unfold rngD at h
  rw [List.getElem?_map] at h
  by_cases hi : i < n
  · rw [List.getElem?_range hi] at h
    cases h
    exact ⟨hi, rfl⟩
  · rw [List.getElem?_eq_none (by simpa using hi)] at h
    cases h
theorem it_rng {lo : Int} {n : Nat} : Iters K Hb (Itr lo n) (rngD lo n) := fun i F Hb2 H2 m2 e2 r2 => by
  refine ⟨fun hi => ?_, fun d hd => ?_⟩
  · show n ≤ i
    simpa [rngD] using hi
  · obtain ⟨hi, rfl⟩ := rngD_get hd
    refine ⟨hi, fun x H' y => ?_⟩
    obtain ⟨rfl, rfl⟩ := y
    exact ⟨Hb2, Same.refl _, r2, rp_s⟩
theorem wi_rng1 {ta : TA} {Q : List D → Mem → Prop} (h : WA K F B ta ρ m fun xs m1 => ∃ j : Int, xs = [.s (.int j)] ∧ -(2 ^ 62) ≤ j ∧ j < 2 ^ 62 ∧ Q (rngD 0 j.toNat) m1) : WI K F B (iRng1 ta) ρ m Q := fun Hb H σ R hB r hs k =>
  h Hb H σ _ hB r hs fun vs H1 Hb1 xs m1 e1 r1 hx q1 => by
    obtain ⟨j, rfl, h1, h2, q⟩ := q1
    have e : vs = [.int j] := RpL.scal (vs := [.int j]) hx
    subst e
    exact ⟨j, rfl, h1, h2, k _ _ _ _ _ e1 r1 it_rng q⟩
theorem wi_rng2 {ta : TA} {Q : List D → Mem → Prop} (h : WA K F B ta ρ m fun xs m1 => ∃ i j : Int, xs = [.s (.int i), .s (.int j)] ∧ (-(2 ^ 62) ≤ i ∧ i < 2 ^ 62 ∧ -(2 ^ 62) ≤ j ∧ j < 2 ^ 62) ∧ Q (rngD i (j - i).toNat) m1) : WI K F B (iRng2 ta) ρ m Q := fun Hb H σ R hB r hs k =>
  h Hb H σ _ hB r hs fun vs H1 Hb1 xs m1 e1 r1 hx q1 => by
    obtain ⟨i, j, rfl, h1, q⟩ := q1
    have e : vs = [.int i, .int j] := RpL.scal (vs := [.int i, .int j]) hx
    subst e
    exact ⟨i, j, rfl, h1, k _ _ _ _ _ e1 r1 it_rng q⟩
theorem new_pair {F Hb H : Hp} {m : Mem} {T : Addr} {x y : V} {d e : D} (r : Rel K F Hb H m) (hT : H T = none) (hx : Rp K Hb d x) (hy : Rp K Hb e y) :
    ∃ Hb', Same Hb Hb' ∧ Rel K F Hb' (upd H T (.tup [x, y])) m ∧ Rp K Hb' (.tup [d, e]) (.ref T) := by
  have e1 : Same Hb (upd Hb T (.tup [x, y])) := Same.new (r.fresh hT)
  refine ⟨_, e1, r.data hT, ?_⟩
  unfold Rp
  exact ⟨T, _, rfl, SqT.of upd_same, RpL.cons (hx.mono e1) (RpL.cons (hy.mono e1) RpL.nil)⟩
def enumD : Nat → List D → List D
  | _, [] => []
  | n, x :: xs => .tup [.s (.int (n : Int)), x] :: enumD (n + 1) xs
theorem enumD_length : ∀ (n : Nat) (xs : List D), (enumD n xs).length = xs.length
  | _, [] => rfl
  | n, x :: xs => by simp [enumD, enumD_length]
theorem enumD_get : ∀ {n : Nat} {xs : List D} {i : Nat} {d : D}, (enumD n xs)[i]? = some d → ∃ x, xs[i]? = some x ∧ d = .tup [.s (.int ((n + i : Nat) : Int)), x]
  | _, [], _, _, h => by simp [enumD] at h
  | n, x :: xs, 0, d, h => by
    simp [enumD] at h
    exact ⟨x, rfl, h.symm⟩
  | n, x :: xs, i + 1, d, h => by
    obtain ⟨y, h1, h2⟩ := enumD_get (n := n + 1) (xs := xs) (i := i) (by simpa [enumD] using h)
    exact ⟨y, by simpa using h1, by rw [h2, show n + 1 + i = n + (i + 1) by omega]⟩
theorem wi_enum {ta : TA} {Q : List D → Mem → Prop} (h : WA K F B ta ρ m fun xs m1 => ∃ ds, xs = [.lst ds] ∧ Q (enumD 0 ds) m1) : WI K F B (iEnum K ta) ρ m Q := fun Hb H σ R hB r hs k =>
  h Hb H σ _ hB r hs fun vs H1 Hb1 xs m1 e1 r1 hx q1 => by
    obtain ⟨ds, rfl, q⟩ := q1
    unfold RpL at hx
    obtain ⟨v, us, rfl, hv, hu⟩ := hx
    unfold RpL at hu
    subst hu
    unfold Rp at hv
    obtain ⟨p, vs, rfl, h1, h2⟩ := hv
    refine ⟨p, vs, rfl, SqL.of (r1.sub _ _ h1), k _ _ _ _ _ e1 r1 (fun i F Hb2 H2 m2 e2 r2 => ⟨fun hi => ?_, fun d hd => ?_⟩) q⟩
    · exact ⟨vs, SqL.of (r2.sub _ _ (e2 _ _ h1)), by rw [enumD_length] at hi; rw [h2.length]; exact hi⟩
    · obtain ⟨x, hx1, rfl⟩ := enumD_get hd
      obtain ⟨u, hu1, hu2⟩ := h2.get hx1
      have hq : SqL K H2 p vs := SqL.of (r2.sub _ _ (e2 _ _ h1))
      refine ⟨⟨vs, u, hq, hu1⟩, fun y H' hy => ?_⟩
      obtain ⟨T, z, rfl, hT, rfl, hz⟩ := hy
      have hz' := hz vs hq
      rw [hu1] at hz'
      cases hz'
      rw [show (0 + i : Nat) = i by omega]
      exact new_pair r2 hT rp_s (hu2.mono e2)
theorem wi_zip {ta : TA} {Q : List D → Mem → Prop} (h : WA K F B ta ρ m fun xs m1 => ∃ ds es, xs = [.lst ds, .lst es] ∧ Q ((ds.zip es).map fun p => .tup [p.1, p.2]) m1) : WI K F B (iZip K ta) ρ m Q := fun Hb H σ R hB r hs k =>
  h Hb H σ _ hB r hs fun vs H1 Hb1 xs m1 e1 r1 hx q1 => by
    obtain ⟨ds, es, rfl, q⟩ := q1
    unfold RpL at hx
    obtain ⟨v, us, rfl, hv, hu⟩ := hx
    unfold RpL at hu
    obtain ⟨v', us', rfl, hv', hu'⟩ := hu
    unfold RpL at hu'
    subst hu'
    unfold Rp at hv hv'
    obtain ⟨p, vs, rfl, h1, h2⟩ := hv
    obtain ⟨p', vs', rfl, h1', h2'⟩ := hv'
    have hl := h2.length
    have hl' := h2'.length
    refine ⟨p, p', vs, vs', rfl, SqL.of (r1.sub _ _ h1), SqL.of (r1.sub _ _ h1'), k _ _ _ _ _ e1 r1 (fun i F Hb2 H2 m2 e2 r2 => ?_) q⟩
    have hq : SqL K H2 p vs := SqL.of (r2.sub _ _ (e2 _ _ h1))
    have hq' : SqL K H2 p' vs' := SqL.of (r2.sub _ _ (e2 _ _ h1'))
    refine ⟨fun hi => ⟨vs, vs', hq, hq', by simp at hi; omega⟩, fun d hd => ?_⟩
    rw [List.getElem?_map] at hd
    cases hz : (ds.zip es)[i]? with
    | none =>
      rw [hz] at hd
      cases hd
    | some pr =>
      rw [hz] at hd
      cases hd
      obtain ⟨z1, z2⟩ := List.getElem?_zip_eq_some.mp hz
      obtain ⟨u, hu1, hu2⟩ := h2.get z1
      obtain ⟨u', hu1', hu2'⟩ := h2'.get z2
      refine ⟨⟨vs, vs', u, u', hq, hq', hu1, hu1'⟩, fun y H' hy => ?_⟩
      obtain ⟨T, z, z', rfl, hT, rfl, hz, hz'⟩ := hy
      have q1 := hz vs hq
      have q2 := hz' vs' hq'
      rw [hu1] at q1
      rw [hu1'] at q2
      cases q1
      cases q2
      exact new_pair r2 hT (hu2.mono e2) (hu2'.mono e2)

/-! ### a list, a tuple or a text, as it comes -/
def iAny (K : PySem.W.Frag) (te : TE) : TI := fun σ H R => te σ H fun v H1 => (∃ a, v = .ref a ∧ (∃ vs, SqL K H1 a vs) ∧ R (Itl K a) H1) ∨ (∃ a, v = .ref a ∧ (∃ vs, SqT K H1 a vs) ∧ R (Itt K a) H1) ∨ ∃ z, v = .str z ∧ R (Its z) H1
theorem pi_any {X : Cx} {tg e : Expr} {te : TE} (he : PE X e te) : PI X tg e (iAny X.K te) := by
  refine ⟨fun pins s σ H R I h => thn (he.run pins s σ H _ I h) fun v s1 ⟨y, H1, I1, r1, q⟩ => ?_⟩
  rcases q with ⟨a, rfl, ⟨vs, hq⟩, q⟩ | ⟨a, rfl, ⟨vs, hq⟩, q⟩ | ⟨z, rfl, q⟩
  · cases r1
    obtain ⟨its, _, p, _⟩ := I1.list hq
    exact wpAny_pyIter_list p.isList (pi_one (tk := s1.toks) I1 _ (turn_list a _) ⟨_, Heap.get?_push_size _ rfl, rfl, rfl⟩ q)
  · cases r1
    obtain ⟨its, _, p, _⟩ := I1.tuple hq
    exact wpAny_pyIter_tuple (show s1.heap.IsTuple a its.toArray from p) (pi_one (tk := s1.toks) I1 _ (turn_tuple a _) ⟨_, Heap.get?_push_size _ rfl, rfl, rfl⟩ q)
  · obtain ⟨t, rfl⟩ := r1
    cases ha : z.cps.all (· < 128) with
    | false => exact wpAny_pyIter_wide ha (pi_one (tk := s1.toks) I1 _ (turn_str _ z t "str_iterator" (.inr rfl)) ⟨_, Heap.get?_push_size _ rfl, rfl, rfl⟩ q)
    | true => exact wpAny_pyIter_ascii ha (pi_one (tk := s1.toks) I1 _ (turn_str _ z t "str_ascii_iterator" (.inl rfl)) ⟨_, Heap.get?_push_size _ rfl, rfl, rfl⟩ q)
theorem it_str {t : Str} : Iters K Hb (Its t) (chrs t) := fun i F Hb2 H2 m2 e2 r2 => ⟨fun hi => by
    show t.cps.size ≤ i
    simpa [chrs] using hi, fun d hd => by
    unfold chrs at hd
    rw [List.getElem?_map] at hd
    cases hc : t.cps.toList[i]? with
    | none =>
      rw [hc] at hd
      cases hd
    | some c =>
      rw [hc] at hd
      cases hd
      have hc' : t.cps[i]? = some c := by simpa using hc
      refine ⟨?_, fun x H' y => ?_⟩
      · show i < t.cps.size
        exact (Array.getElem?_eq_some_iff.mp hc').1
      · obtain ⟨rfl, c', h1, rfl⟩ := y
        rw [hc'] at h1
        cases h1
        exact ⟨Hb2, Same.refl _, r2, rp_s⟩⟩
def seqD : D → Option (List D)
  | .lst xs => some xs
  | .tup xs => some xs
  | .s (.str t) => some (chrs t)
  | _ => none
theorem wi_any {te : TE} {Q : List D → Mem → Prop} (h : WE K F B te ρ m fun x m1 => ∃ xs, seqD x = some xs ∧ Q xs m1) : WI K F B (iAny K te) ρ m Q := fun Hb H σ R hB r hs k =>
  h Hb H σ _ hB r hs fun v H1 Hb1 x m1 e1 r1 hx q1 => by
    obtain ⟨xs, hs', q⟩ := q1
    cases x with
    | lst ys =>
      cases hs'
      unfold Rp at hx
      obtain ⟨p, vs, rfl, h1, h2⟩ := hx
      exact .inl ⟨p, rfl, ⟨vs, SqL.of (r1.sub _ _ h1)⟩, k _ _ _ _ _ e1 r1 (it_list (SqL.of h1) h2) q⟩
    | tup ys =>
      cases hs'
      unfold Rp at hx
      obtain ⟨p, vs, rfl, h1, h2⟩ := hx
      exact .inr (.inl ⟨p, rfl, ⟨vs, sameT r1.sub h1⟩, k _ _ _ _ _ e1 r1 (it_tup h1 h2) q⟩)
    | s w =>
      cases w with
      | str t =>
        cases hs'
        unfold Rp at hx
        exact .inr (.inr ⟨t, hx, k _ _ _ _ _ e1 r1 it_str q⟩)
      | _ => cases hs'
    | _ => cases hs'

/-! ### for -/
theorem ws_for {wi : TI} {g : TG} {tb : TS} {E : DE} (h : WI K F B wi ρ m fun xs m1 => ∃ I : Nat → Env → Mem → Prop, I 0 ρ m1 ∧
      (∀ i d ρ' m', xs[i]? = some d → I i ρ' m' → WG K F B g d ρ' m' fun ρ2 m2 => WS K F B tb ρ2 m2 { nx := I (i + 1), ct := I (i + 1), bk := E.nx, rt := E.rt }) ∧ (∀ ρ' m', I xs.length ρ' m' → E.nx ρ' m')) :
    WS K F B (tFor wi g tb) ρ m E := fun Hb H σ R hB r hs k =>
  h Hb H σ _ hB r hs fun J H1 Hb1 xs m1 e1 r1 hj q1 => by
    obtain ⟨I, h0, ht, hd⟩ := q1
    refine ⟨fun i n σ' H' => n = xs.length - i ∧ i ≤ xs.length ∧ ∃ Hb' ρ' m', Same Hb1 Hb' ∧ Rel K F Hb' H' m' ∧ RpS K Hb' ρ' σ' ∧ I i ρ' m', ⟨xs.length, by simp, Nat.zero_le _, Hb1, ρ, m1, Same.refl _, r1, hs.mono e1, h0⟩, ?_⟩
    rintro i n σ' H' ⟨rfl, hi, Hb', ρ', m', e', r', hs', hI⟩
    by_cases hlt : i < xs.length
    · obtain ⟨hgo, hy⟩ := (hj i F Hb' H' m' e' r').2 xs[i] (by simp [hlt])
      refine .inr ⟨hgo, fun σ2 H2 => ∃ Hb2 ρ2 m2, Same Hb1 Hb2 ∧ Rel K F Hb2 H2 m2 ∧ RpS K Hb2 ρ2 σ2 ∧ I (i + 1) ρ2 m2, fun σ2 H2 q2 => ⟨xs.length - (i + 1), by omega, rfl, hlt, q2⟩, fun x H2 y => ?_⟩
      obtain ⟨Hb2, e2, r2, hx⟩ := hy x H2 y
      have eB : Same B Hb2 := (hB.trans e1).trans (e'.trans e2)
      refine ht i xs[i] ρ' m' (by simp [hlt]) hI Hb2 H2 σ' x _ eB r2 (hs'.mono e2) hx fun σ3 H3 Hb3 ρ3 m3 e3 r3 hs3 q3 => ?_
      have e13 : Same Hb1 Hb3 := (e'.trans e2).trans e3
      exact q3 Hb3 H3 σ3 _ (eB.trans e3) r3 hs3 ⟨fun σ4 H4 Hb4 ρ4 m4 e4 r4 hs4 q4 => ⟨Hb4, ρ4, m4, e13.trans e4, r4, hs4, q4⟩, k.rt.mono (e1.trans e13), k.nx.mono (e1.trans e13), fun σ4 H4 Hb4 ρ4 m4 e4 r4 hs4 q4 => ⟨Hb4, ρ4, m4, e13.trans e4, r4, hs4, q4⟩⟩
    · have e : i = xs.length := by omega
      subst e
      exact .inl ⟨(hj _ F Hb' H' m' e' r').1 (Nat.le_refl _), k.nx _ _ _ _ _ (e1.trans e') r' hs' (hd _ _ hI)⟩

/-! ### while -/
theorem ws_while {c : TT} {tb : TS} {E : DE} (I : Nat → Env → Mem → Prop) {n : Nat} (h0 : I n ρ m)
    (ht : ∀ n ρ' m', I n ρ' m' → WT K F B c ρ' m' fun b m1 => (b = true → WS K F B tb ρ' m1 { nx := fun ρ2 m2 => ∃ n', n' < n ∧ I n' ρ2 m2, ct := fun ρ2 m2 => ∃ n', n' < n ∧ I n' ρ2 m2, bk := E.nx, rt := E.rt }) ∧ (b = false → E.nx ρ' m1)) :
    WS K F B (tWhile c tb) ρ m E := fun Hb H σ R hB r hs k => by
  refine ⟨fun n σ' H' => ∃ Hb' ρ' m', Same Hb Hb' ∧ Rel K F Hb' H' m' ∧ RpS K Hb' ρ' σ' ∧ I n ρ' m', ⟨n, Hb, ρ, m, Same.refl _, r, hs, h0⟩, ?_⟩
  rintro n σ' H' ⟨Hb', ρ', m', e', r', hs', hI⟩
  refine ht n ρ' m' hI Hb' H' σ' _ (hB.trans e') r' hs' fun b H1 Hb1 m1 e1 r1 q1 => ?_
  have e01 : Same Hb Hb1 := e'.trans e1
  cases b with
  | true =>
    refine iteT ⟨fun σ2 H2 => ∃ n', n' < n ∧ ∃ Hb2 ρ2 m2, Same Hb Hb2 ∧ Rel K F Hb2 H2 m2 ∧ RpS K Hb2 ρ2 σ2 ∧ I n' ρ2 m2, fun σ2 H2 q => q, ?_⟩
    exact q1.1 rfl Hb1 H1 σ' _ (hB.trans e01) r1 (hs'.mono e1) ⟨fun σ4 H4 Hb4 ρ4 m4 e4 r4 hs4 ⟨n', hn, q4⟩ => ⟨n', hn, Hb4, ρ4, m4, e01.trans e4, r4, hs4, q4⟩, k.rt.mono e01, k.nx.mono e01, fun σ4 H4 Hb4 ρ4 m4 e4 r4 hs4 ⟨n', hn, q4⟩ => ⟨n', hn, Hb4, ρ4, m4, e01.trans e4, r4, hs4, q4⟩⟩
  | false => exact iteF (k.nx _ _ _ _ _ e01 r1 (hs'.mono e1) (q1.2 rfl))

/-! ### comprehensions -/
/-- a target within a comprehension: its own slots vs alone are stored -/
def WGw (K : PySem.W.Frag) (F B : Hp) (g : TG) (vs : List Nat) (x : D) (ρ : Env) (m : Mem) (Q : Env → Mem → Prop) : Prop := ∀ Hb H σ v (R : L2.St → Hp → Prop), Same B Hb → Rel K F Hb H m → RpS K Hb ρ σ → Rp K Hb x v → OkN K F Hb Q R → g v (L2.wipe σ vs) H fun σ2 H2 => L2.wipe σ2 vs = L2.wipe σ vs ∧ R σ2 H2
theorem wipe_set {σ : L2.St} {i : Nat} {x : Option V} : ∀ {vs : List Nat}, i ∈ vs → L2.wipe (σ.set i x) vs = L2.wipe σ vs
  | v :: vs, h => by
    unfold L2.wipe
    by_cases hv : i ∈ vs
    · rw [wipe_set hv]
    · have e : i = v := by
        rcases List.mem_cons.mp h with z | z
        · exact z
        · exact absurd z hv
      subst e
      have comm : ∀ {us : List Nat} {σ : L2.St}, i ∉ us → L2.wipe (σ.set i x) us = (L2.wipe σ us).set i x := fun {us} => by
        induction us with
        | nil =>
          intro σ _
          rfl
        | cons u us ih =>
          intro σ hu
          simp only [List.mem_cons, not_or] at hu
          unfold L2.wipe
          rw [ih hu.2, List.set_comm _ _ hu.1]
      rw [comm hv, List.set_set]
theorem wipe_wipe {σ : L2.St} : ∀ {vs : List Nat}, (∀ us : List Nat, (∀ u ∈ us, u ∈ vs) → L2.wipe (L2.wipe σ us) vs = L2.wipe σ vs) := fun {vs} us => by
  induction us with
  | nil =>
    intro _
    rfl
  | cons u us ih =>
    intro h
    show L2.wipe ((L2.wipe σ us).set u none) vs = L2.wipe σ vs
    rw [wipe_set (h u List.mem_cons_self)]
    exact ih fun z hz => h z (List.mem_cons_of_mem _ hz)
theorem wgw_name {i : Nat} {vs : List Nat} {x : D} {Q : Env → Mem → Prop} (hi : i ∈ vs) (q : Q ((wipeD ρ vs).set i (some x)) m) : WGw K F B (gName i) vs x ρ m Q := fun Hb H σ v R hB r hs hx k => by
  show L2.wipe ((L2.wipe σ vs).set i (some v)) vs = L2.wipe σ vs ∧ R ((L2.wipe σ vs).set i (some v)) H
  exact ⟨by rw [wipe_set hi, wipe_wipe vs fun _ z => z], k.here r ((hs.wipe vs).set hx) q⟩
theorem wgw_pair {i j : Nat} {vs : List Nat} {x y : D} {Q : Env → Mem → Prop} (hi : i ∈ vs) (hj : j ∈ vs) (q : Q (((wipeD ρ vs).set i (some x)).set j (some y)) m) :
    WGw K F B (gTup K 2 (gCons (gName i) (gCons (gName j) gNil))) vs (.tup [x, y]) ρ m Q := fun Hb H σ v R hB r hs hx k => by
  unfold Rp at hx
  obtain ⟨p, us, rfl, h1, h2⟩ := hx
  unfold RpL at h2
  obtain ⟨v1, us, rfl, hv1, h2⟩ := h2
  unfold RpL at h2
  obtain ⟨v2, us, rfl, hv2, h2⟩ := h2
  unfold RpL at h2
  subst h2
  refine ⟨p, [v1, v2], rfl, sameT r.sub h1, rfl, v1, [v2], rfl, v2, [], rfl, rfl, ?_⟩
  exact ⟨by rw [wipe_set hj, wipe_set hi, wipe_wipe vs fun _ z => z], k.here r (((hs.wipe vs).set hv1).set hv2) q⟩
theorem we_lc {wi : TI} {g : TG} {tt : TT} {te : TE} {vs : List Nat} {Q : QD} (h : WI K F B wi ρ m fun xs m1 => ∃ I : Nat → List D → Mem → Prop, I 0 [] m1 ∧
      (∀ F' i d acc m', xs[i]? = some d → I i acc m' → WGw K F' B g vs d ρ m' fun ρ2 m2 => WT K F' B tt ρ2 m2 fun b m3 =>
        (b = true → WE K F' B te ρ2 m3 fun y m4 => acc.length < sizeLine ∧ I (i + 1) (acc ++ [y]) m4) ∧ (b = false → I (i + 1) acc m3)) ∧ (∀ acc m', I xs.length acc m' → Q (.lst acc) m')) :
    WE K F B (tLc wi g tt te vs) ρ m Q := fun Hb H σ R hB r hs k =>
  h Hb H σ _ hB r hs fun J H1 Hb1 xs m1 e1 r1 hj q1 => by
    obtain ⟨I, h0, ht, hd⟩ := q1
    intro A hA
    have hF : F A = none := r1.nofr hA
    refine ⟨fun i n H' => n = xs.length - i ∧ i ≤ xs.length ∧ ∃ Hb' acc us m', Same Hb1 Hb' ∧ Rel K (upd F A (.lst us)) Hb' H' m' ∧ RpL K Hb' acc us ∧ I i acc m', ⟨xs.length, by simp, Nat.zero_le _, Hb1, [], [], m1, Same.refl _, r1.aside hA, RpL.nil, h0⟩, ?_⟩
    rintro i n H' ⟨rfl, hi, Hb', acc, us, m', e', r', ha, hI⟩
    by_cases hlt : i < xs.length
    · obtain ⟨hgo, hy⟩ := (hj i _ Hb' H' m' e' r').2 xs[i] (by simp [hlt])
      refine .inr ⟨hgo, fun H2 => ∃ Hb2 acc2 us2 m2, Same Hb1 Hb2 ∧ Rel K (upd F A (.lst us2)) Hb2 H2 m2 ∧ RpL K Hb2 acc2 us2 ∧ I (i + 1) acc2 m2, fun H2 q2 => ⟨xs.length - (i + 1), by omega, rfl, hlt, q2⟩, fun x H2 y => ?_⟩
      obtain ⟨Hb2, e2, r2, hx⟩ := hy x H2 y
      have eB : Same B Hb2 := (hB.trans e1).trans (e'.trans e2)
      refine ht (upd F A (.lst us)) i xs[i] acc m' (by simp [hlt]) hI Hb2 H2 σ x _ eB r2 (hs.mono ((e1.trans e').trans e2)) hx fun σ3 H3 Hb3 ρ3 m3 e3 r3 hs3 q3 => ?_
      refine q3 Hb3 H3 σ3 _ (eB.trans e3) r3 hs3 fun b H4 Hb4 m4 e4 r4 q4 => ?_
      have e14 : Same Hb1 Hb4 := ((e'.trans e2).trans e3).trans e4
      cases b with
      | true =>
        refine iteT (q4.1 rfl Hb4 H4 σ3 _ ((eB.trans e3).trans e4) r4 (hs3.mono e4) fun v H5 Hb5 y5 m5 e5 r5 hy5 q5 => ?_)
        have hD := (r5.fr A _ upd_same).1
        have ha5 : RpL K Hb5 acc us := ha.mono (((e2.trans e3).trans e4).trans e5)
        refine ⟨us, hD, by rw [ha5.length]; exact q5.1, Hb5, acc ++ [y5], us ++ [v], m5, e14.trans e5, r5.turnA, ha5.app (RpL.cons hy5 RpL.nil), q5.2⟩
      | false => exact iteF ⟨Hb4, acc, us, m4, e14, r4, ha.mono ((e2.trans e3).trans e4), q4.2 rfl⟩
    · have e : i = xs.length := by omega
      subst e
      have e4 : Same Hb' (upd Hb' A (.lst us)) := Same.new (r'.fr A _ upd_same).2.1
      refine .inl ⟨(hj _ _ Hb' H' m' e' r').1 (Nat.le_refl _), k _ _ _ (.lst acc) _ ((e1.trans e').trans e4) (r'.settle hF) ?_ (hd _ _ hI)⟩
      unfold Rp
      exact ⟨A, us, rfl, upd_same, ha.mono e4⟩
/-- a comprehension that changes nothing: what is made is f of the items -/
theorem we_lcMap {wi : TI} {g : TG} {te : TE} {vs : List Nat} {Q : QD} (h : WI K F B wi ρ m fun xs m1 => ∃ f : D → D, xs.length ≤ sizeLine ∧
      (∀ F' d, d ∈ xs → WGw K F' B g vs d ρ m1 fun ρ2 m2 => m2 = m1 ∧ WE K F' B te ρ2 m1 fun y m4 => y = f d ∧ m4 = m1) ∧ Q (.lst (xs.map f)) m1) : WE K F B (tLc wi g tYes te vs) ρ m Q :=
  we_lc fun Hb H σ R hB r hs k => h Hb H σ R hB r hs fun J H' Hb' xs m1 e1 r1 hj ⟨f, hl, hf, q⟩ => k J H' Hb' xs m1 e1 r1 hj ⟨fun i acc m' => acc = (xs.take i).map f ∧ m' = m1, ⟨by simp, rfl⟩, fun F' i d acc m' hd ⟨ha, hm⟩ => by
    subst hm
    have hi : i < xs.length := (List.getElem?_eq_some_iff.mp hd).1
    intro Hb2 H2 σ2 v R2 hB2 r2 hs2 hx2 k2
    refine hf F' d (List.mem_of_getElem? hd) Hb2 H2 σ2 v R2 hB2 r2 hs2 hx2 fun σ3 H3 Hb3 ρ3 m3 e3 r3 hs3 ⟨em, q3⟩ => k2 σ3 H3 Hb3 ρ3 m3 e3 r3 hs3 ?_
    subst em
    refine wt_yes ⟨fun _ => we_imp q3 fun y m4 ⟨ey, em⟩ => ?_, fun z => by cases z⟩
    subst ey em ha
    refine ⟨by simp; omega, ?_, rfl⟩
    rw [List.take_add_one, hd]
    simp, fun acc m' ⟨ha, hm⟩ => by
    subst ha hm
    rw [List.take_length]
    exact q⟩
/-- .. with a test: the items that p lets, f of them -/
theorem we_lcFilter {wi : TI} {g : TG} {tt : TT} {te : TE} {vs : List Nat} {Q : QD} (h : WI K F B wi ρ m fun xs m1 => ∃ (p : D → Bool) (f : D → D), xs.length ≤ sizeLine ∧
      (∀ F' d, d ∈ xs → WGw K F' B g vs d ρ m1 fun ρ2 m2 => m2 = m1 ∧ WT K F' B tt ρ2 m1 fun b m3 => b = p d ∧ m3 = m1 ∧ (b = true → WE K F' B te ρ2 m1 fun y m4 => y = f d ∧ m4 = m1)) ∧ Q (.lst ((xs.filter p).map f)) m1) : WE K F B (tLc wi g tt te vs) ρ m Q :=
  we_lc fun Hb H σ R hB r hs k => h Hb H σ R hB r hs fun J H' Hb' xs m1 e1 r1 hj ⟨p, f, hl, hf, q⟩ => k J H' Hb' xs m1 e1 r1 hj ⟨fun i acc m' => acc = ((xs.take i).filter p).map f ∧ m' = m1, ⟨by simp, rfl⟩, fun F' i d acc m' hd ⟨ha, hm⟩ => by
    subst hm
    have hi : i < xs.length := (List.getElem?_eq_some_iff.mp hd).1
    intro Hb2 H2 σ2 v R2 hB2 r2 hs2 hx2 k2
    refine hf F' d (List.mem_of_getElem? hd) Hb2 H2 σ2 v R2 hB2 r2 hs2 hx2 fun σ3 H3 Hb3 ρ3 m3 e3 r3 hs3 ⟨em, q3⟩ => k2 σ3 H3 Hb3 ρ3 m3 e3 r3 hs3 ?_
    subst em
    have hz : acc.length < sizeLine := by
      rw [ha, List.length_map]
      have z := List.length_filter_le p (xs.take i)
      rw [List.length_take] at z
      omega
    refine wt_imp q3 fun b m4 ⟨eb, em, q4⟩ => ⟨fun z => ?_, fun z => ?_⟩
    · subst em
      refine we_imp (q4 z) fun y m5 ⟨ey, em⟩ => ⟨hz, ?_, em⟩
      subst ey ha
      rw [List.take_add_one, hd, List.filter_append, List.map_append]
      simp [← eb, z]
    · subst ha
      refine ⟨?_, em⟩
      rw [List.take_add_one, hd, List.filter_append, List.map_append]
      simp [← eb, z], fun acc m' ⟨ha, hm⟩ => by
    subst ha hm
    rw [List.take_length]
    exact q⟩
end
end DD

/-! HOwn: operators and len by defs of the program's own classes. -/
namespace HO1
open PySem L2
open PySem.Spec PyProof.Rows

section
variable {X : Cx} {CX : CXT} {k : Nat} {f C : Addr} {fd : FuncData} {ps : List Str} {sp : Sp} {E : XK} {pins : List (Addr × Obj)} {σ : L2.St} {H : Hp} {s : Shared}
theorem vals_rr {a b : Addr} : Vals [V.ref a, V.ref b] [Value.ref a, Value.ref b] := .cons (show RelV (V.ref a) (Value.ref a) from rfl) (.cons (show RelV (V.ref b) (Value.ref b) from rfl) .nil)
theorem vals_rx {a : Addr} {x : V} {u : Value} (r : RelV x u) : Vals [V.ref a, x] [Value.ref a, u] := .cons (show RelV (V.ref a) (Value.ref a) from rfl) (.cons r .nil)
/-- a def of the text called below the running body -/
theorem run_in {A : Around} (F : FnOk X.prog X.w X.K X.mg X.base CX k f fd ps sp) (hr : Room k A) (hfr : A.frames = X.A.frames) (hb : Binds X.K fd ps []) (hx : Passes CX X E)
    (I : Inv X pins σ H s) {us : List Value} {vs : List V} (r : Vals vs us) {Q : VK} (h : sp vs H Q E) : wpAny (model X.prog X.w) A (call (.ref f) us) (EP X pins σ Q) X.xe s := by
  have e0 : Env0 X.prog X.w X.K X.mg X.base A X.stack s H := by
    have e := I.env0
    exact ⟨by rw [hfr]; exact e.frames, e.mod, e.bs, e.bsz, e.funs, e.frf, e.hok, e.bare⟩
  have hl := F.len _ _ _ _ h
  have hu : (us ++ []).length = ps.length := by
    rw [List.append_nil, ← r.length]
    exact hl
  have bb : BindsTo s fd ⟨us, []⟩ (ps.zip us) := by
    have q := hb s us I.kIn hu
    rw [List.append_nil] at q
    exact q
  refine wpAny_call (codeAny_mono (F.run A X.stack s H ⟨us, []⟩ us vs Q E hr e0 bb r h) fun r' s' hq => ?_)
  cases r' with
  | error e => exact hx pins σ H s e s' I hq
  | ok fl =>
    cases fl with
    | ret w => exact I.after hq
    | next => exact False.elim hq
    | brk => exact False.elim hq
    | cont => exact False.elim hq
theorem inst_at {a dx : Addr} {fs : List (Str × V)} (I : Inv X pins σ H s) (h : H a = some (.ins C dx fs)) : ∃ ox od, PySem.W.InstAt s.heap a ox C (some od) := by
  obtain ⟨mA, J, _⟩ := ins_get I.hok h
  obtain ⟨od, J, _⟩ := J.look
  exact ⟨_, od, J⟩
/-- what comes back is no stand-in -/
theorem back_of {Q : VK} {v : Value} {s' : Shared} (h : EP X pins σ Q v s') : PySem.W.CmpBack (EP X pins σ Q) v s' := by
  obtain ⟨z, H', I', r, q⟩ := h
  have h2 : EP X pins σ Q v s' := ⟨z, H', I', r, q⟩
  cases z with
  | non => cases r; exact h2
  | bl _ => cases r; exact h2
  | int _ => obtain ⟨t, rfl⟩ := r; exact h2
  | str _ => obtain ⟨t, rfl⟩ := r; exact h2
  | byt _ => obtain ⟨t, rfl⟩ := r; exact h2
  | flt _ => obtain ⟨t, rfl⟩ := r; exact h2
  | ref _ => cases r; exact h2
  | ty _ => cases r; exact h2

/-! ### len -/
def rLenO (C : Addr) (sp : Sp) (E : XK) : List V → Hp → VK → Prop := fun xs H Q => ∃ a dx fs, xs = [.ref a] ∧ H a = some (.ins C dx fs) ∧ sp [.ref a] H (fun z H' => ∃ n : Int, z = .int n ∧ 0 ≤ n ∧ n < 2 ^ 63 ∧ Q (.int n) H') E
theorem call_lenO (F : FnOk X.prog X.w X.K X.mg X.base CX k f fd ps sp) (hr : Room (k + 1) X.A) (hb : Binds X.K fd ps []) (hx : Passes CX X E)
    (hs : PySem.W.findIn X.K (.ref C) "__len__" = some (some (.ref f))) (hf : PySem.W.isFn X.K (.ref f) = true) : CallR X (.builtin "len") (rLenO C sp E) := by
  intro pins s σ H xs us Q I r h
  obtain ⟨a, dx, fs, rfl, ha, q⟩ := h
  have eu := Vals.ref1 r
  subst eu
  obtain ⟨ox, od, J⟩ := inst_at I ha
  obtain ⟨m, fr⟩ := I.fr
  refine PySem.W.len_K fr I.ok.mod.kin J hs hf (thn (run_in (A := X.A.in1) F hr.in1 rfl hb hx I r q) fun v s' z => ?_)
  obtain ⟨z', H', I', rz, n, en, h0, h1, qz⟩ := z
  subst en
  obtain ⟨t, rfl⟩ := rz
  exact ⟨⟨h0, h1⟩, .int n, H', I'.tok _, ⟨_, rfl⟩, qz⟩

/-! ### operators -/
def rBinO (C : Addr) (sp : Sp) (E : XK) : R2 := fun x y H Q => ∃ a b dx dy fs gs, x = .ref a ∧ y = .ref b ∧ H a = some (.ins C dx fs) ∧ H b = some (.ins C dy gs) ∧ sp [x, y] H Q E
theorem op_binO {op : Operator} (F : FnOk X.prog X.w X.K X.mg X.base CX k f fd ps sp) (hr : Room k X.A) (hb : Binds X.K fd ps []) (hx : Passes CX X E) (hc : PySem.W.selfFirst X.K C = true)
    (hs : PySem.W.findIn X.K (.ref C) (PySem.dunder op.info.2) = some (some (.ref f))) (hf : PySem.W.isFn X.K (.ref f) = true) : OpR X (binaryOp op) (rBinO C sp E) := by
  intro pins s σ H x y v u Q I rx ry h
  obtain ⟨a, b, dx, dy, fs, gs, rfl, rfl, ha, hb', q⟩ := h
  cases rx
  cases ry
  obtain ⟨ox, od, J⟩ := inst_at I ha
  obtain ⟨oy, oe, J'⟩ := inst_at I hb'
  obtain ⟨m, fr⟩ := I.fr
  exact PySem.W.binop_K fr I.ok.mod.kin J J'.type hc hs hf (thn (run_in F hr rfl hb hx I vals_rr q) fun v s' z => back_of z)

/-! ### in -/
def rInO (C : Addr) (sp : Sp) (E : XK) (neg : Bool) : R2 := fun x y H Q => ∃ a dx fs, y = .ref a ∧ H a = some (.ins C dx fs) ∧ sp [y, x] H (fun z H' => ∃ b, z = .bl b ∧ Q (.bl (if neg then !b else b)) H') E
theorem truthy_bl {M : Model} {A : Around} {E : Value → Shared → Prop} {s : Shared} {b : Bool} {Q : Bool → Shared → Prop} (h : Q b s) : wpAny M A (truthy (.bool b)) Q E s := by
  have e : truthy (.bool b) = pure b := by first | rfl | kernel_rfl
  rw [e]
  exact wpAny_pure h
theorem op_inO (F : FnOk X.prog X.w X.K X.mg X.base CX k f fd ps sp) (hr : Room k X.A) (hb : Binds X.K fd ps []) (hx : Passes CX X E)
    (hs : PySem.W.findIn X.K (.ref C) "__contains__" = some (some (.ref f))) (hf : PySem.W.isFn X.K (.ref f) = true) : OpR X (compareOp .In) (rInO C sp E false) := by
  intro pins s σ H x y v u Q I rx ry h
  obtain ⟨a, dx, fs, rfl, ha, q⟩ := h
  cases ry
  obtain ⟨ox, od, J⟩ := inst_at I ha
  obtain ⟨m, fr⟩ := I.fr
  refine PySem.W.in_K fr I.ok.mod.kin J hs hf (thn (run_in F hr rfl hb hx I (vals_rx rx) q) fun v s' z => ?_)
  obtain ⟨z', H', I', rz, b, eb, qz⟩ := z
  subst eb
  cases rz
  exact truthy_bl ⟨.bl b, H', I', rfl, qz⟩
theorem op_notInO (F : FnOk X.prog X.w X.K X.mg X.base CX k f fd ps sp) (hr : Room k X.A) (hb : Binds X.K fd ps []) (hx : Passes CX X E)
    (hs : PySem.W.findIn X.K (.ref C) "__contains__" = some (some (.ref f))) (hf : PySem.W.isFn X.K (.ref f) = true) : OpR X (compareOp .NotIn) (rInO C sp E true) := by
  intro pins s σ H x y v u Q I rx ry h
  obtain ⟨a, dx, fs, rfl, ha, q⟩ := h
  cases ry
  obtain ⟨ox, od, J⟩ := inst_at I ha
  obtain ⟨m, fr⟩ := I.fr
  refine PySem.W.notIn_K fr I.ok.mod.kin J hs hf (thn (run_in F hr rfl hb hx I (vals_rx rx) q) fun v s' z => ?_)
  obtain ⟨z', H', I', rz, b, eb, qz⟩ := z
  subst eb
  cases rz
  exact truthy_bl ⟨.bl (!b), H', I', rfl, qz⟩

/-! ### ==, <= .. and != -/
/-- the type of the other value, and that its class is not one below C -/
def Apart (K : PySem.W.Frag) (C : Addr) (y : V) (H : Hp) : Prop := ∃ t, TyX K H y t ∧ PySem.W.notFirst K C t = true
theorem tyx_type {x : V} {u t : Value} (I : Inv X pins σ H s) (rx : RelV x u) (ty : TyX X.K H x t) {M : Model} : PySem.W.Looks M s.heap (typeOf u) t := by
  cases ty with
  | base b =>
    cases b with
    | non => cases (show u = Value.none from rx); exact PySem.W.Looks.of_pure (by first | rfl | kernel_rfl)
    | bl y => cases (show u = Value.bool y from rx); exact PySem.W.Looks.of_pure (by first | rfl | kernel_rfl)
    | int i => obtain ⟨t, q⟩ := (show ∃ t, u = Value.int i t from rx); cases q; exact PySem.W.Looks.of_pure (by first | rfl | kernel_rfl)
    | str y => obtain ⟨t, q⟩ := (show ∃ t, u = Value.str y t from rx); cases q; exact PySem.W.Looks.of_pure (by first | rfl | kernel_rfl)
    | flt y => obtain ⟨t, q⟩ := (show ∃ t, u = Value.float y t from rx); cases q; exact PySem.W.Looks.of_pure (by first | rfl | kernel_rfl)
    | @lst a xs ea =>
      cases (show u = Value.ref a from rx)
      obtain ⟨_, _, n, _, h1⟩ := (show ObjOk X.prog X.w H s.heap a (.lst xs) from I.hok a _ ea)
      exact (PySem.W.Looks.ld h1).andThen .now
    | @frz a ob xs ea =>
      cases (show u = Value.ref a from rx)
      obtain ⟨_, _, _, n, _, h1⟩ := (show ObjOk X.prog X.w H s.heap a (.frz ob (.lst xs)) from I.hok a _ ea)
      exact (PySem.W.Looks.ld h1).andThen .now
    | @tup a xs ea =>
      cases (show u = Value.ref a from rx)
      obtain ⟨_, _, _, o, h1, h2, _⟩ := (show ObjOk X.prog X.w H s.heap a (.tup xs) from I.hok a _ ea)
      exact h2 ▸ (PySem.W.Looks.ld h1).andThen .now
    | @dK a kvs ea =>
      cases (show u = Value.ref a from rx)
      obtain ⟨_, _, vs, _, o, es, ep, h1, h2, _⟩ := (show ObjOk X.prog X.w H s.heap a (.dK kvs) from I.hok a _ ea)
      exact h2.1 ▸ (PySem.W.Looks.ld h1).andThen .now
    | @dT a kvs ea =>
      cases (show u = Value.ref a from rx)
      obtain ⟨_, _, xs, _, o, es, ep, h1, h2, _⟩ := (show ObjOk X.prog X.w H s.heap a (.dT kvs) from I.hok a _ ea)
      exact h2.1 ▸ (PySem.W.Looks.ld h1).andThen .now
    | @ins a C dx fs ea cl ha hn htk hm =>
      cases (show u = Value.ref a from rx)
      obtain ⟨ox, od, J⟩ := inst_at I ea
      exact J.type
  | byt y => obtain ⟨t, q⟩ := (show ∃ t, u = Value.bytes y t from rx); cases q; exact PySem.W.Looks.of_pure (by first | rfl | kernel_rfl)
  | @set a S n ea =>
    cases (show u = Value.ref a from rx)
    obtain ⟨o, _, _, _, e, ex, _⟩ := I.hok a _ ea
    exact ex.1 ▸ (PySem.W.Looks.ld e).andThen .now
  | @kList a o e c =>
    cases (show u = Value.ref a from rx)
    exact c ▸ (PySem.W.Looks.ld (I.kIn a o e)).andThen .now
  | @kTuple a o e c =>
    cases (show u = Value.ref a from rx)
    exact c ▸ (PySem.W.Looks.ld (I.kIn a o e)).andThen .now
  | @kDict a o e c =>
    cases (show u = Value.ref a from rx)
    exact c ▸ (PySem.W.Looks.ld (I.kIn a o e)).andThen .now
  | @fTuple a ob xs ea =>
    cases (show u = Value.ref a from rx)
    obtain ⟨_, _, _, _, o, h1, h2, _⟩ := (show ObjOk X.prog X.w H s.heap a (.frz ob (.tup xs)) from I.hok a _ ea)
    exact h2 ▸ (PySem.W.Looks.ld h1).andThen .now
  | @fDict a ob kvs ea =>
    cases (show u = Value.ref a from rx)
    obtain ⟨_, _, _, vs, _, o, es, ep, h1, h2, _⟩ := (show ObjOk X.prog X.w H s.heap a (.frz ob (.dK kvs)) from I.hok a _ ea)
    exact h2.1 ▸ (PySem.W.Looks.ld h1).andThen .now
def rCmpO (K : PySem.W.Frag) (C : Addr) (sp : Sp) (E : XK) : R2 := fun x y H Q => ∃ a dx fs, x = .ref a ∧ H a = some (.ins C dx fs) ∧ Apart K C y H ∧ sp [x, y] H Q E
theorem op_cmpO {op : CmpOp} (hop : ∀ a b, compareOp op a b = richCompare op a b) (F : FnOk X.prog X.w X.K X.mg X.base CX k f fd ps sp) (hr : Room k X.A) (hb : Binds X.K fd ps []) (hx : Passes CX X E)
    (hs : PySem.W.findIn X.K (.ref C) (cmpInfo op).2.1 = some (some (.ref f))) (hf : PySem.W.isFn X.K (.ref f) = true) : OpR X (compareOp op) (rCmpO X.K C sp E) := by
  intro pins s σ H x y v u Q I rx ry h
  obtain ⟨a, dx, fs, rfl, ha, ⟨t, ht, hn⟩, q⟩ := h
  cases rx
  obtain ⟨ox, od, J⟩ := inst_at I ha
  obtain ⟨m, fr⟩ := I.fr
  rw [hop]
  exact PySem.W.cmp_K hr.units0 fr I.ok.mod.kin J (tyx_type I ry ht) hn hs hf (thn (run_in F hr rfl hb hx I (vals_rx ry) q) fun v s' z => back_of z)
end

/-! ### != by an own == -/
section
variable {X : Cx} {CX : CXT} {k : Nat} {f C : Addr} {fd : FuncData} {ps : List Str} {sp : Sp} {E : XK}
theorem obj_ne {A : Around} {E : Value → Shared → Prop} {s : Shared} {K : PySem.W.Frag} {x C f : Addr} {ox : Obj} {od : Option Obj} {prog : Program} {w : World} {b : Value} {Q : Fin → Shared → Prop} (hu : A.units < cLine) (KX : K.In s.heap) (J : PySem.W.InstAt s.heap x ox C od)
    (hs : PySem.W.findIn K (.ref C) "__eq__" = some (some (.ref f))) (hf : PySem.W.isFn K (.ref f) = true)
    (h : wpAny (model prog w) A (call (.ref f) [.ref x, b]) (fun v s' => ∃ r, v = .bool r ∧ Q (.done (.ret (.bool (!r)))) s') E s) :
    wpAny (model prog w) A (Builtin.«object.__ne__» ⟨[.ref x, b], []⟩) Q E s := by
  unfold Builtin.«object.__ne__»
  refine wpAny_bind (m := slotArgs "__ne__" 1 ⟨[.ref x, b], []⟩) (wpAny_pure ?_)
  refine wpAny_bind (wpAny_cRoomFor hu ?_)
  refine wpAny_bind (PySem.W.ifBound_K KX J hs hf (wpAny_mono h (fun v s' z => ?_) fun _ _ z => z))
  obtain ⟨r, rfl, q⟩ := z
  exact wpAny_bind (truthy_bl (wpAny_pure q))
theorem ne_own {A : Around} {E : Value → Shared → Prop} {s : Shared} {K : PySem.W.Frag} {x C f : Addr} {ox : Obj} {od : Option Obj} {prog : Program} {w : World} {b : Value} {Q : Value → Shared → Prop} (hu : A.units + 1 < cLine) (KX : K.In s.heap) (J : PySem.W.InstAt s.heap x ox C od)
    (hb : PySem.W.Looks (model prog w) s.heap (typeOf b) tb) (hn : PySem.W.notFirst K C tb = true)
    (he : PySem.W.findIn K (.ref C) "__eq__" = some (some (.ref f))) (hf : PySem.W.isFn K (.ref f) = true) (hne : PySem.W.findIn K (.ref C) "__ne__" = some (some (.builtin "object.__ne__"))) (ho : PySem.W.subIn K (.ref C) (.type "object") = some true)
    (h : wpAny (model prog w) A.in1 (call (.ref f) [.ref x, b]) (fun v s' => ∃ r, v = .bool r ∧ Q (.bool (!r)) s') E s) :
    wpAny (model prog w) A (richCompare .NotEq (.ref x) b) Q E s := by
  have one : wpAny (model prog w) A (tryCompare (.ref x) "__ne__" b) (fun r s' => ∃ v, r = some v ∧ Q v s') E s := by
    unfold tryCompare
    refine wpAny_bind ?_
    simp only [callSpecialIfBound?, bindSpecialIfBound?]
    refine wpAny_holding (wpAny_bind (wpAny_bind (wpAny_bind (J.type.here ((PySem.W.looks_findIn KX hne).here ?_)))))
    simp only [PySem.F.slot_tuple_iterator_ne.bind]
    refine wpAny_bind (wpAny_askSetting (wpAny_ite ?_))
    have go : wpAny (model prog w) A (call (.builtin "object.__ne__") [.ref x, b]) (fun v s' => wpAny (model prog w) A (pure (some v)) (fun a s₁ => wpAny (model prog w) A (match a with | some Value.notImplemented | none => pure none | some v => pure (some v)) (fun r s' => ∃ v, r = some v ∧ Q v s') E s₁) E s') E s := by
      refine wpAny_call (codeAny_call_builtin PySem.F.slot_tuple_iterator_ne.plain PySem.F.cmpEntry_ne (PySem.W.check_slot PySem.F.cmpKind_ne PySem.F.cmpSplit_ne (J.type.andThen (PySem.W.looks_subIn KX ho)) (PySem.F.cmpArgs_ne _ _) ?_))
      refine obj_ne (A := A.in1) hu KX J he hf (wpAny_mono h (fun v s' z => ?_) fun _ _ z => z)
      obtain ⟨r, rfl, q⟩ := z
      exact ⟨r, rfl, wpAny_pure (wpAny_pure ⟨_, rfl, q⟩)⟩
    split
    · exact wpAny_bind (wpAny_pure (wpAny_pure (wpAny_bind go)))
    · exact wpAny_tryCatch (wpAny_bind (wpAny_pure (wpAny_pure (wpAny_bind go))))
  unfold richCompare
  simp only [oneThing_ref]
  refine wpAny_holding (wpAny_bind (wpAny_cRoomFor (by omega) ?_))
  refine wpAny_bind (J.type.here (wpAny_bind (hb.here ?_)))
  have fin : ∀ {T : Option Value → Sem Value}, (∀ v, T (some v) = pure v) → wpAny (model prog w) A (tryCompare (.ref x) "__ne__" b >>= T) Q E s := fun {T} hT => by
    refine wpAny_bind (wpAny_mono one (fun r s' z => ?_) fun _ _ e => e)
    obtain ⟨v, rfl, hq⟩ := z
    rw [hT]
    exact wpAny_pure hq
  split
  · rename_i q
    have e : PySem.W.subIn K tb (.ref C) = some false := by
      rcases Bool.or_eq_true_iff.mp hn with e | e
      · rw [beq_iff_eq.mp e] at q; simp at q
      · exact beq_iff_eq.mp e
    refine wpAny_bind ((PySem.W.looks_subIn KX e).here ?_)
    simp only [Bool.false_eq_true, if_false]
    exact fin fun v => rfl
  · refine wpAny_bind (wpAny_pure ?_)
    simp only [Bool.false_eq_true, if_false]
    exact fin fun v => rfl
def rNeO (K : PySem.W.Frag) (C : Addr) (sp : Sp) (E : XK) : R2 := fun x y H Q => ∃ a dx fs, x = .ref a ∧ H a = some (.ins C dx fs) ∧ Apart K C y H ∧ sp [x, y] H (fun z H' => ∃ b, z = .bl b ∧ Q (.bl (!b)) H') E
theorem op_neO (F : FnOk X.prog X.w X.K X.mg X.base CX k f fd ps sp) (hr : Room (k + 1) X.A) (hb : Binds X.K fd ps []) (hx : Passes CX X E)
    (hs : PySem.W.findIn X.K (.ref C) "__eq__" = some (some (.ref f))) (hf : PySem.W.isFn X.K (.ref f) = true) (hne : PySem.W.findIn X.K (.ref C) "__ne__" = some (some (.builtin "object.__ne__"))) (ho : PySem.W.subIn X.K (.ref C) (.type "object") = some true) : OpR X (compareOp .NotEq) (rNeO X.K C sp E) := by
  intro pins s σ H x y v u Q I rx ry h
  obtain ⟨a, dx, fs, rfl, ha, ⟨t, ht, hn⟩, q⟩ := h
  cases rx
  obtain ⟨ox, od, J⟩ := inst_at I ha
  show wpAny _ _ (richCompare .NotEq _ _) _ _ _
  refine ne_own (by have := hr.un; omega) I.kIn J (tyx_type I ry ht) hn hs hf hne ho (thn (run_in (A := X.A.in1) F hr.in1 rfl hb hx I (vals_rx ry) q) fun v s' z => ?_)
  obtain ⟨z', H', I', rz, b, eb, qz⟩ := z
  subst eb
  cases rz
  exact ⟨b, rfl, .bl (!b), H', I', rfl, qz⟩
end
end HO1

/-! DOps: operators, built-ins and methods over data. -/
namespace DD
open PySem L2
open PySem.Spec PyProof.Rows

/-! ### more rules of the hand layer -/
def rAddS : R2 := fun x y H Q => ∃ i j, x = .str i ∧ y = .str j ∧ i.length + j.length ≤ sizeLine ∧ Q (.str (i ++ j)) H
def rAddI : R2 := rI0 fun i j => .int (i + j)
def rAddA (K : PySem.W.Frag) : R2 := fun x y H Q => rAddI x y H Q ∨ rAddS x y H Q ∨ rCat x y H Q ∨ rCatT K x y H Q
theorem op_addA {X : Cx} : OpR X (binaryOp .Add) (rAddA X.K) := OpR.or op_add (OpR.or op_add_str (OpR.or op_cat op_catT))
def rSubI : R2 := rI0 fun i j => .int (i - j)
def rDivI : R2 := rI CDiv fun i j => .int (i / j)
def rModI : R2 := rI (fun _ j => 0 < j) fun i j => .int (i % j)
def rPowI : R2 := rI CPow fun i j => .int (i ^ j.toNat)
def rLtI : R2 := rI0 fun i j => .bl (decide (i < j))
def rLeI : R2 := rI0 fun i j => .bl (decide (i ≤ j))
def rGtI : R2 := rI0 fun i j => .bl (decide (j < i))
def rGeI : R2 := rI0 fun i j => .bl (decide (j ≤ i))
def rNeg : V → Hp → VK → Prop := rU fun i => .int (-i)
def rIsN : R2 := fun x y H Q => y = .non ∧ Q (.bl (decide (x = .non))) H
def rNotN : R2 := fun x y H Q => y = .non ∧ Q (.bl (!decide (x = .non))) H
theorem op_isN1 {X : Cx} : OpR X (compareOp .Is) rIsN := op_isN
theorem op_notN1 {X : Cx} : OpR X (compareOp .IsNot) rNotN := op_notN
theorem RelV_ref (a : Addr) : RelV (.ref a) (.ref a) := rfl
def repS (x : Str) (n : Nat) : Str := ⟨(List.replicate n x.cps.toList).flatten.toArray⟩
theorem repS_eq (x : Str) (n : Nat) : (⟨(List.replicate n x.cps).foldl (· ++ ·) #[]⟩ : Str) = repS x n := by
  have gen : ∀ (n : Nat) (acc : Array Nat), (List.replicate n x.cps).foldl (· ++ ·) acc = acc ++ (List.replicate n x.cps.toList).flatten.toArray := fun n => by
    induction n with
    | zero =>
      intro acc
      simp
    | succ n ih =>
      intro acc
      rw [List.replicate_succ, List.foldl_cons, ih, List.replicate_succ, List.flatten_cons]
      apply Array.toList_inj.mp
      simp
  unfold repS
  rw [gen]
  simp
def rRepS : R2 := fun x y H Q => ∃ (z : Str) (k : Int), x = .str z ∧ y = .int k ∧ -(2 ^ 63) ≤ k ∧ k < 1000000 ∧ z.length ≤ 1 ∧ Q (.str (repS z k.toNat)) H
theorem op_repS {X : Cx} : OpR X (binaryOp .Mult) rRepS := by
  intro pins s σ H x y v u Q I rx ry h
  obtain ⟨z, k, rfl, rfl, h1, h2, hz, q⟩ := h
  obtain ⟨t, rfl⟩ := rx
  obtain ⟨t', rfl⟩ := ry
  refine P.mul_str ?_ (fun a b => ?_) (fun a b => ?_) ?_
  · have a1 : ¬ k < -(2 ^ 63) := by omega
    have a2 : ¬ k ≥ 2 ^ 63 := by omega
    rw [decide_eq_false a1, decide_eq_false a2]
    rfl
  · have a3 : (z.length : Int) ≤ 1 := by omega
    have a4 : (1 : Int) ≤ (2 ^ 63 - 1) / k := by
      rw [Int.le_ediv_iff_mul_le (by omega)]
      omega
    omega
  · have a5 : z.length * k.toNat ≤ 1 * 1000000 := Nat.mul_le_mul hz (by omega)
    unfold Builtin.Str.tooLong
    have a6 : ¬ z.length * k.toNat > sizeLine := by
      rw [sizeLine_eq]
      omega
    simp [a6]
  · by_cases a : k < 1
    · rw [if_pos a]
      have e : repS z k.toNat = Str.empty := by
        have e2 : k.toNat = 0 := by omega
        rw [e2]
        rfl
      rw [e] at q
      exact ⟨by decide, .str Str.empty, H, I.tok _, ⟨_, rfl⟩, q⟩
    · rw [if_neg a]
      by_cases b : (k == 1 || z.length == 0) = true
      · rw [if_pos b]
        have e : repS z k.toNat = z := by
          rcases Bool.or_eq_true_iff.mp b with b | b
          · have e2 : k.toNat = 1 := by
              have := beq_iff_eq.mp b
              omega
            rw [e2]
            apply Str.ext'
            apply Array.toList_inj.mp
            simp [repS]
          · have e2 : z.cps.toList = [] := by
              have := beq_iff_eq.mp b
              apply List.eq_nil_of_length_eq_zero
              simpa [Str.length] using this
            apply Str.ext'
            apply Array.toList_inj.mp
            simp [repS, e2]
        rw [e] at q
        exact ⟨.str z, H, I, ⟨t, rfl⟩, q⟩
      · rw [if_neg b, repS_eq]
        refine ⟨?_, .str _, H, I.tok _, ⟨_, rfl⟩, q⟩
        have a5 : z.length * k.toNat ≤ 1 * 1000000 := Nat.mul_le_mul hz (by omega)
        have e3 : (repS z k.toNat).length = k.toNat * z.length := by
          simp [repS, Str.length]
        rw [e3, sizeLine_eq]
        rw [Nat.mul_comm] at a5
        omega
def rMulI : R2 := rI CMul fun i j => .int (i * j)
def rMulA : R2 := fun x y H Q => rMulI x y H Q ∨ rRepS x y H Q ∨ rRep x y H Q
theorem op_mulA {X : Cx} : OpR X (binaryOp .Mult) rMulA := OpR.or op_mul (OpR.or op_repS op_rep)
def rEqA (K : PySem.W.Frag) : R2 := fun x y H Q => rEq x y H Q ∨ rEqD K x y H Q
theorem op_eqA {X : Cx} (hu : X.A.units + 64 < cLine) : OpR X (compareOp .Eq) (rEqA X.K) := OpR.or op_eq (op_eqD hu)
def rNeA (K : PySem.W.Frag) : R2 := fun x y H Q => rNe x y H Q ∨ rNeD K x y H Q
theorem op_neA {X : Cx} (hu : X.A.units + 64 < cLine) : OpR X (compareOp .NotEq) (rNeA X.K) := OpR.or op_ne (op_neD hu)
def rInSgn : R2 := fun x y H Q => ∃ (c : Nat) (z : Str), x = .str ⟨#[c]⟩ ∧ y = .str z ∧ Q (.bl (decide (c ∈ z.cps.toList))) H
def rNInSgn : R2 := fun x y H Q => ∃ (c : Nat) (z : Str), x = .str ⟨#[c]⟩ ∧ y = .str z ∧ Q (.bl (!decide (c ∈ z.cps.toList))) H
def rInA (K : PySem.W.Frag) : R2 := fun x y H Q => rIn K false x y H Q ∨ rInSgn x y H Q
def rNInA (K : PySem.W.Frag) : R2 := fun x y H Q => rIn K true x y H Q ∨ rNInSgn x y H Q
theorem op_inA {X : Cx} : OpR X (compareOp .In) (rInA X.K) := OpR.or op_in_seq op_in_sign
theorem op_ninA {X : Cx} : OpR X (compareOp .NotIn) (rNInA X.K) := OpR.or op_notIn_seq op_notIn_sign
def rLenA (K : PySem.W.Frag) : List V → Hp → VK → Prop := fun xs H Q => ∃ x n, xs = [x] ∧ LenV K x H n ∧ Q (.int n) H
theorem call_lenA {X : Cx} : CallR X (.builtin "len") (rLenA X.K) := call_len
/-- isinstance(x, (c1, c2, ..)), whatever tuple it is -/
def rIsiS (K : PySem.W.Frag) : List V → Hp → VK → Prop := fun xs H Q => ∃ (x : V) (tp : Addr) (cs : List V) (t : Value) (us : List Value) (b : Bool), xs = [x, .ref tp] ∧ SqT K H tp cs ∧ Paired ClsV cs us ∧ TyX K H x t ∧ PySem.W.kitAny K t us = some b ∧ Q (.bl b) H
theorem call_isiS {X : Cx} : CallR X (.builtin "isinstance") (rIsiS X.K) := by
  intro pins s σ H xs us Q I r h
  obtain ⟨x, tp, cs, t, ws, b, rfl, hT, k, ty, e, q⟩ := h
  obtain ⟨u1, u2, rfl, r1, r2⟩ := vals2 r
  cases (show u2 = Value.ref tp from r2)
  obtain ⟨P, Z, p, hx⟩ := kit_of I r1 ty
  obtain ⟨its, rv, ⟨o, h1, h2, n, h3⟩, _⟩ := I.tuple hT
  have e3 := ClsV.all k rv
  subst e3
  obtain ⟨oc, od, dt, sl⟩ := o
  simp only at h2 h3
  subst h2 h3
  exact PySem.W.kia_tup Z I.kIn p h1 e hx fun tk => ⟨.bl b, H, I.tok tk, rfl, q⟩
def rIsiA (K : PySem.W.Frag) : List V → Hp → VK → Prop := fun xs H Q => rIsi K xs H Q ∨ rIsiS K xs H Q
theorem call_isiA {X : Cx} : CallR X (.builtin "isinstance") (rIsiA X.K) := CallR.or call_isi call_isiS
def rListA (K : PySem.W.Frag) : List V → Hp → VK → Prop := fun xs H Q => ∃ p ys, xs = [.ref p] ∧ (SqL K H p ys ∨ SqT K H p ys) ∧ ∀ l, H l = none → Q (.ref l) (upd H l (.lst ys))
theorem call_listA {X : Cx} : CallR X (.type "list") (rListA X.K) := call_list_of
def rTupA (K : PySem.W.Frag) : List V → Hp → VK → Prop := fun xs H Q => ∃ p ys, xs = [.ref p] ∧ ((SqL K H p ys ∧ ∀ l, H l = none → Q (.ref l) (upd H l (.tup ys))) ∨ (SqT K H p ys ∧ Q (.ref p) H))
theorem call_tupA {X : Cx} : CallR X (.type "tuple") (rTupA X.K) := call_tuple_of
def rInt1 : List V → Hp → VK → Prop := fun xs H Q => (∃ i, xs = [.int i] ∧ Q (.int i) H) ∨ ∃ k, xs = [.bl k] ∧ Q (.int (if k then 1 else 0)) H
theorem call_intA {X : Cx} : CallR X (.type "int") rInt1 := call_int1
def rSlA (K : PySem.W.Frag) : V → Option Int → Option Int → Hp → VK → Prop := fun x lo hi H Q => rSlS x lo hi H Q ∨ rSlL K x lo hi H Q ∨ rSlT K x lo hi H Q
theorem sl_A {X : Cx} : SlR X (rSlA X.K) := SlR.or sl_str (SlR.or sl_list sl_tup)
/-! methods of texts -/
def rSplit : V → List V → Hp → VK → Prop := fun x xs H Q => ∃ a b, x = .str a ∧ xs = [.str b] ∧ (b.length == 0) = false ∧ a.length + 2 ≤ sizeLine ∧ rNewStrs (Txt.split a b) H Q
theorem mt_splitA {X : Cx} : MtR X "str.split" rSplit := mt_split
def rJoin (K : PySem.W.Frag) : V → List V → Hp → VK → Prop := fun x xs H Q => ∃ a p, ∃ ys : List Str, x = .str a ∧ xs = [.ref p] ∧ (SqL K H p (ys.map V.str) ∨ SqT K H p (ys.map V.str)) ∧
      (ys.map (·.length)).sum + ys.length * a.length ≤ 16777216 ∧ Q (.str (Txt.join a ys)) H
theorem mt_joinA {X : Cx} : MtR X "str.join" (rJoin X.K) := mt_join
/-- a method of a text that gives a text -/
def rTxt (g : Str → Str → Str) : V → List V → Hp → VK → Prop := fun x xs H Q => ∃ a b, x = .str a ∧ xs = [.str b] ∧ a.length ≤ sizeLine ∧ Q (.str (g a b)) H
theorem mt_rstripA {X : Cx} : MtR X "str.rstrip" (rTxt Txt.rstripChars) := mt_rstripChars
theorem mt_lstripA {X : Cx} : MtR X "str.lstrip" (rTxt Txt.lstripChars) := mt_lstripChars
theorem mt_rmsufA {X : Cx} : MtR X "str.removesuffix" (rTxt Txt.removesuffix) := mt_removesuffix
theorem mt_rmpreA {X : Cx} : MtR X "str.removeprefix" (rTxt Txt.removeprefix) := mt_removeprefix
def rStarts : V → List V → Hp → VK → Prop := fun x xs H Q => ∃ a b, x = .str a ∧ xs = [.str b] ∧ Q (.bl (Txt.startswith a b)) H
theorem mt_startsA {X : Cx} : MtR X "str.startswith" rStarts := mt_startswith
/-- .append and .pop as their readings are -/
def rExtA : V → List V → Hp → VK → Prop := rExtend

/-! ### what D says of types -/
/-- what the written part says of a class for isinstance -/
structure InsTy (K : PySem.W.Frag) (C : Addr) : Prop where
  cl : Cls K C
  ha : PySem.W.findIn K (.ref C) "__class__" = some (some (.builtin "object.__class__"))
  hn : PySem.W.specialIn K (.builtin "object.__class__") "__get__" = some (some (.builtin "getset_descriptor.__get__"))
  htk : PySem.W.takesIn K (.builtin "object.__class__") = some true
  hm : PySem.W.mroIn K C (.type "object") = some true
inductive TyD (K : PySem.W.Frag) (m : Mem) : D → Value → Prop
  | non : TyD K m (.s .non) (.type "NoneType")
  | bl (b : Bool) : TyD K m (.s (.bl b)) (.type "bool")
  | int (i : Int) : TyD K m (.s (.int i)) (.type "int")
  | str (x : Str) : TyD K m (.s (.str x)) (.type "str")
  | lst (xs : List D) : TyD K m (.lst xs) (.type "list")
  | tup (xs : List D) : TyD K m (.tup xs) (.type "tuple")
  | dic (ks : List Key) (xs : List D) : TyD K m (.dic ks xs) (.type "dict")
  | ins {C : Addr} (h : InsTy K C) (ns : List Str) (xs : List D) : TyD K m (.ins C ns xs) (.ref C)
  | ownL {a : Addr} {xs : List D} (h : m.own a = some (.lst xs)) : TyD K m (.s (.ref a)) (.type "list")
  | ownD {a : Addr} {ks : List Key} {xs : List D} (h : m.own a = some (.dK ks xs)) : TyD K m (.s (.ref a)) (.type "dict")
  | ownI {a C : Addr} {ns : List Str} {xs : List D} (hc : InsTy K C) (h : m.own a = some (.ins C ns xs)) : TyD K m (.s (.ref a)) (.ref C)
section
variable {K : PySem.W.Frag} {B F Hb Hb' H H' : Hp} {m : Mem} {ρ : Env}
theorem TyD.at {x : D} {t : Value} {v : V} (h : TyD K m x t) (r : Rel K F Hb H m) (hx : Rp K Hb x v) : TyX K H v t := by
  cases h with
  | non => unfold Rp at hx; subst hx; exact .base .non
  | bl b => unfold Rp at hx; subst hx; exact .base (.bl b)
  | int i => unfold Rp at hx; subst hx; exact .base (.int i)
  | str x => unfold Rp at hx; subst hx; exact .base (.str x)
  | lst xs =>
    unfold Rp at hx
    obtain ⟨p, vs, rfl, h1, _⟩ := hx
    exact .base (.lst (r.sub _ _ h1))
  | tup xs =>
    unfold Rp at hx
    obtain ⟨p, vs, rfl, h1, _⟩ := hx
    rcases h1 with (h1 | ⟨o, h1⟩) | ⟨o, its, n, hk, hc, _⟩
    · exact .base (.tup (r.sub _ _ h1))
    · exact .fTuple (r.sub _ _ h1)
    · exact .kTuple hk hc
  | dic ks xs =>
    unfold Rp at hx
    obtain ⟨p, o, vs, rfl, h1, _⟩ := hx
    exact .fDict (r.sub _ _ h1)
  | ins h ns xs =>
    unfold Rp at hx
    obtain ⟨p, dx, vs, rfl, h1, _⟩ := hx
    exact .base (.ins (r.sub _ _ h1) h.cl h.ha h.hn h.htk h.hm)
  | ownL h =>
    unfold Rp at hx
    subst hx
    obtain ⟨_, vs, h1, _⟩ := r.own _ _ h
    exact .base (.lst h1)
  | ownD h =>
    unfold Rp at hx
    subst hx
    obtain ⟨_, vs, h1, _⟩ := r.own _ _ h
    exact .base (.dK h1)
  | ownI hc h =>
    unfold Rp at hx
    subst hx
    obtain ⟨_, dx, vs, h1, _⟩ := r.own _ _ h
    exact .base (.ins h1 hc.cl hc.ha hc.hn hc.htk hc.hm)

/-! ### plain data (for ==) -/
mutual
def pyD : D → Option PyData
  | .s .non => some .none
  | .s (.bl b) => some (.bool b)
  | .s (.int i) => some (.int i)
  | .s (.str x) => some (.str x)
  | .lst xs => (pyL xs).map .list
  | .tup xs => (pyL xs).map .tuple
  | _ => none
def pyL : List D → Option (List PyData)
  | [] => some []
  | d :: ds => (pyD d).bind fun a => (pyL ds).map (a :: ·)
end
mutual
theorem pyD_dp : ∀ (d : D) (v : V) (p : PyData), pyD d = some p → Rp K Hb d v → Same Hb H → Dp K H v p
  | .s .non, v, p, h, hx, e => by
    unfold pyD at h
    unfold Rp at hx
    cases h
    subst hx
    exact .non
  | .s (.bl b), v, p, h, hx, e => by
    unfold pyD at h
    unfold Rp at hx
    cases h
    subst hx
    exact .bl b
  | .s (.int i), v, p, h, hx, e => by
    unfold pyD at h
    unfold Rp at hx
    cases h
    subst hx
    exact .int i
  | .s (.str x), v, p, h, hx, e => by
    unfold pyD at h
    unfold Rp at hx
    cases h
    subst hx
    exact .str x
  | .s (.byt x), v, p, h, hx, e => by
    unfold pyD at h
    cases h
  | .s (.flt x), v, p, h, hx, e => by
    unfold pyD at h
    cases h
  | .s (.ref x), v, p, h, hx, e => by
    unfold pyD at h
    cases h
  | .s (.ty x), v, p, h, hx, e => by
    unfold pyD at h
    cases h
  | .lst xs, v, p, h, hx, e => by
    unfold pyD at h
    unfold Rp at hx
    cases hq : pyL xs with
    | none =>
      rw [hq] at h
      cases h
    | some ps =>
      rw [hq] at h
      cases h
      obtain ⟨a, vs, rfl, h1, h2⟩ := hx
      exact .lst (SqL.of (e _ _ h1)) (pyL_dp xs vs ps hq h2 e)
  | .tup xs, v, p, h, hx, e => by
    unfold pyD at h
    unfold Rp at hx
    cases hq : pyL xs with
    | none =>
      rw [hq] at h
      cases h
    | some ps =>
      rw [hq] at h
      cases h
      obtain ⟨a, vs, rfl, h1, h2⟩ := hx
      exact .tup (sameT e h1) (pyL_dp xs vs ps hq h2 e)
  | .dic ks xs, v, p, h, hx, e => by
    unfold pyD at h
    cases h
  | .ins C ns xs, v, p, h, hx, e => by
    unfold pyD at h
    cases h
theorem pyL_dp : ∀ (ds : List D) (vs : List V) (ps : List PyData), pyL ds = some ps → RpL K Hb ds vs → Same Hb H → DpAll K H vs ps
  | [], vs, ps, h, hx, e => by
    unfold pyL at h
    unfold RpL at hx
    cases h
    subst hx
    exact .nil
  | d :: ds, vs, ps, h, hx, e => by
    unfold pyL at h
    unfold RpL at hx
    obtain ⟨v, r, rfl, h1, h2⟩ := hx
    cases hq : pyD d with
    | none =>
      rw [hq] at h
      cases h
    | some a =>
      cases hq2 : pyL ds with
      | none =>
        rw [hq, hq2] at h
        cases h
      | some as =>
        rw [hq, hq2] at h
        cases h
        exact .cons (pyD_dp d v a hq h1 e) (pyL_dp ds r as hq2 h2 e)
end

/-! ### operators over data -/
theorem wo_addI {i j : Int} {Q : QD} (q : Q (.s (.int (i + j))) m) : WO K F B (rAddA K) (.s (.int i)) (.s (.int j)) m Q := fun Hb H vx vy R hB r hx hy k => by
  unfold Rp at hx hy
  exact .inl ⟨i, j, hx, hy, k.here r rp_s q⟩
theorem wo_addS {i j : Str} {Q : QD} (hl : i.length + j.length ≤ sizeLine) (q : Q (.s (.str (i ++ j))) m) : WO K F B (rAddA K) (.s (.str i)) (.s (.str j)) m Q := fun Hb H vx vy R hB r hx hy k => by
  unfold Rp at hx hy
  exact .inr (.inl ⟨i, j, hx, hy, hl, k.here r rp_s q⟩)
theorem wo_addL {xs ys : List D} {Q : QD} (hl : xs.length + ys.length ≤ sizeLine) (q : Q (.lst (xs ++ ys)) m) : WO K F B (rAddA K) (.lst xs) (.lst ys) m Q := fun Hb H vx vy R hB r hx hy k => by
  unfold Rp at hx hy
  obtain ⟨p, vs, rfl, h1, h2⟩ := hx
  obtain ⟨p', vs', rfl, h1', h2'⟩ := hy
  refine .inr (.inr (.inl ⟨p, p', vs, vs', rfl, rfl, r.sub _ _ h1, r.sub _ _ h1', by rw [h2.length, h2'.length]; exact hl, fun a ha => ?_⟩))
  have e := Same.new (o := .lst (vs ++ vs')) (r.fresh ha)
  refine k _ _ _ (.lst (xs ++ ys)) _ e (r.data ha) ?_ q
  unfold Rp
  exact ⟨a, _, rfl, upd_same, (h2.app h2').mono e⟩
theorem wo_addT {xs ys : List D} {Q : QD} (hx0 : xs ≠ []) (hl : xs.length + ys.length ≤ sizeLine) (q : Q (.tup (xs ++ ys)) m) : WO K F B (rAddA K) (.tup xs) (.tup ys) m Q := fun Hb H vx vy R hB r hx hy k => by
  unfold Rp at hx hy
  obtain ⟨p, vs, rfl, h1, h2⟩ := hx
  obtain ⟨p', vs', rfl, h1', h2'⟩ := hy
  have hl1 := h2.length
  have hl2 := h2'.length
  have hv : vs ≠ [] := fun z => by
    rw [z] at hl1
    exact hx0 (List.eq_nil_of_length_eq_zero hl1.symm)
  refine .inr (.inr (.inr ⟨p, p', vs, vs', rfl, rfl, sameT r.sub h1, sameT r.sub h1', hv, by rw [hl1, hl2]; exact hl, fun hn => ?_, fun _ a ha => ?_⟩))
  · have e : ys = [] := by
      apply List.eq_nil_of_length_eq_zero
      rw [← hl2, hn]
      rfl
    subst e
    rw [List.append_nil] at q
    refine k.here (d := .tup xs) r ?_ q
    unfold Rp
    exact ⟨p, vs, rfl, h1, h2⟩
  · have e := Same.new (o := .tup (vs ++ vs')) (r.fresh ha)
    refine k _ _ _ (.tup (xs ++ ys)) _ e (r.data ha) ?_ q
    unfold Rp
    exact ⟨a, _, rfl, SqT.of upd_same, (h2.app h2').mono e⟩
theorem wo_I0 {g : Int → Int → V} {i j : Int} {Q : QD} (q : Q (.s (g i j)) m) : WO K F B (rI0 g) (.s (.int i)) (.s (.int j)) m Q := fun Hb H vx vy R hB r hx hy k => by
  unfold Rp at hx hy
  exact ⟨i, j, hx, hy, k.here r rp_s q⟩
theorem wo_I {C : Int → Int → Prop} {g : Int → Int → V} {i j : Int} {Q : QD} (hc : C i j) (q : Q (.s (g i j)) m) : WO K F B (rI C g) (.s (.int i)) (.s (.int j)) m Q := fun Hb H vx vy R hB r hx hy k => by
  unfold Rp at hx hy
  exact ⟨i, j, hx, hy, hc, k.here r rp_s q⟩
theorem wo_mulI {i j : Int} {Q : QD} (hc : CMul i j) (q : Q (.s (.int (i * j))) m) : WO K F B rMulA (.s (.int i)) (.s (.int j)) m Q := fun Hb H vx vy R hB r hx hy k => by
  unfold Rp at hx hy
  exact .inl ⟨i, j, hx, hy, hc, k.here r rp_s q⟩
theorem wo_repS {z : Str} {n : Int} {Q : QD} (h1 : -(2 ^ 63) ≤ n) (h2 : n < 1000000) (hz : z.length ≤ 1) (q : Q (.s (.str (repS z n.toNat))) m) : WO K F B rMulA (.s (.str z)) (.s (.int n)) m Q := fun Hb H vx vy R hB r hx hy k => by
  unfold Rp at hx hy
  exact .inr (.inl ⟨z, n, hx, hy, h1, h2, hz, k.here r rp_s q⟩)
theorem rpL_rep {xs : List D} {vs : List V} (h : RpL K H xs vs) : ∀ n : Nat, RpL K H (List.replicate n xs).flatten (List.replicate n vs).flatten
  | 0 => RpL.nil
  | n + 1 => by
    rw [List.replicate_succ, List.replicate_succ, List.flatten_cons, List.flatten_cons]
    exact h.app (rpL_rep h n)
theorem wo_repL {xs : List D} {n : Int} {Q : QD} (h1 : -(2 ^ 63) ≤ n) (h2 : n < 2 ^ 63) (hz : xs.length * n.toNat ≤ sizeLine) (q : Q (.lst (List.replicate n.toNat xs).flatten) m) : WO K F B rMulA (.lst xs) (.s (.int n)) m Q := fun Hb H vx vy R hB r hx hy k => by
  unfold Rp at hx hy
  obtain ⟨p, vs, rfl, h3, h4⟩ := hx
  refine .inr (.inr ⟨p, n, vs, rfl, hy, r.sub _ _ h3, h1, h2, by rw [h4.length]; exact hz, fun a ha => ?_⟩)
  have e := Same.new (o := .lst (List.replicate n.toNat vs).flatten) (r.fresh ha)
  refine k _ _ _ (.lst (List.replicate n.toNat xs).flatten) _ e (r.data ha) ?_ q
  unfold Rp
  exact ⟨a, _, rfl, upd_same, (rpL_rep h4 _).mono e⟩
theorem wo_eqS {x y : V} {Q : QD} (h : scal x y = true) (q : Q (.s (.bl (decide (x = y)))) m) : WO K F B (rEqA K) (.s x) (.s y) m Q := fun Hb H vx vy R hB r hx hy k => by
  unfold Rp at hx hy
  subst hx hy
  exact .inl ⟨h, k.here r rp_s q⟩
theorem wo_neS {x y : V} {Q : QD} (h : scal x y = true) (q : Q (.s (.bl (!decide (x = y)))) m) : WO K F B (rNeA K) (.s x) (.s y) m Q := fun Hb H vx vy R hB r hx hy k => by
  unfold Rp at hx hy
  subst hx hy
  exact .inl ⟨h, k.here r rp_s q⟩
theorem wo_eqD {x y : D} {a b : PyData} {Q : QD} (ha : pyD x = some a) (hb : pyD y = some b) (sa : SeqAt.shaped a = true) (sb : SeqAt.shaped b = true) (q : Q (.s (.bl (PyData.eqv a b))) m) : WO K F B (rEqA K) x y m Q := fun Hb H vx vy R hB r hx hy k =>
  .inr ⟨a, b, pyD_dp x vx a ha hx r.sub, pyD_dp y vy b hb hy r.sub, sa, sb, k.here r rp_s q⟩
theorem wo_neD {x y : D} {a b : PyData} {Q : QD} (ha : pyD x = some a) (hb : pyD y = some b) (sa : SeqAt.shaped a = true) (sb : SeqAt.shaped b = true) (q : Q (.s (.bl (!PyData.eqv a b))) m) : WO K F B (rNeA K) x y m Q := fun Hb H vx vy R hB r hx hy k =>
  .inr ⟨a, b, pyD_dp x vx a ha hx r.sub, pyD_dp y vy b hb hy r.sub, sa, sb, k.here r rp_s q⟩
/-- x in xs, both flat -/
theorem wo_inL {x : V} {xs : List V} {Q : QD} (hx0 : flatV x = true) (hf : xs.all flatV = true) (q : Q (.s (.bl (inV x xs))) m) : WO K F B (rInA K) (.s x) (.lst (xs.map D.s)) m Q := fun Hb H vx vy R hB r hx hy k => by
  unfold Rp at hx hy
  subst hx
  obtain ⟨p, vs, rfl, h1, h2⟩ := hy
  have e := h2.scal
  subst e
  exact .inl ⟨p, _, rfl, .inl (SqL.of (r.sub _ _ h1)), hx0, hf, k.here r rp_s q⟩
theorem wo_inT {x : V} {xs : List V} {Q : QD} (hx0 : flatV x = true) (hf : xs.all flatV = true) (q : Q (.s (.bl (inV x xs))) m) : WO K F B (rInA K) (.s x) (.tup (xs.map D.s)) m Q := fun Hb H vx vy R hB r hx hy k => by
  unfold Rp at hx hy
  subst hx
  obtain ⟨p, vs, rfl, h1, h2⟩ := hy
  have e := h2.scal
  subst e
  exact .inl ⟨p, _, rfl, .inr (sameT r.sub h1), hx0, hf, k.here r rp_s q⟩
theorem wo_ninL {x : V} {xs : List V} {Q : QD} (hx0 : flatV x = true) (hf : xs.all flatV = true) (q : Q (.s (.bl (!inV x xs))) m) : WO K F B (rNInA K) (.s x) (.lst (xs.map D.s)) m Q := fun Hb H vx vy R hB r hx hy k => by
  unfold Rp at hx hy
  subst hx
  obtain ⟨p, vs, rfl, h1, h2⟩ := hy
  have e := h2.scal
  subst e
  exact .inl ⟨p, _, rfl, .inl (SqL.of (r.sub _ _ h1)), hx0, hf, k.here r rp_s q⟩
theorem wo_ninT {x : V} {xs : List V} {Q : QD} (hx0 : flatV x = true) (hf : xs.all flatV = true) (q : Q (.s (.bl (!inV x xs))) m) : WO K F B (rNInA K) (.s x) (.tup (xs.map D.s)) m Q := fun Hb H vx vy R hB r hx hy k => by
  unfold Rp at hx hy
  subst hx
  obtain ⟨p, vs, rfl, h1, h2⟩ := hy
  have e := h2.scal
  subst e
  exact .inl ⟨p, _, rfl, .inr (sameT r.sub h1), hx0, hf, k.here r rp_s q⟩
theorem wo_inC {c : Nat} {z : Str} {Q : QD} (q : Q (.s (.bl (decide (c ∈ z.cps.toList)))) m) : WO K F B (rInA K) (.s (.str ⟨#[c]⟩)) (.s (.str z)) m Q := fun Hb H vx vy R hB r hx hy k => by
  unfold Rp at hx hy
  exact .inr ⟨c, z, hx, hy, k.here r rp_s q⟩
theorem wo_ninO {x : V} {a : Addr} {xs : List V} {Q : QD} (ho : m.own a = some (.lst (xs.map D.s))) (hx0 : flatV x = true) (hf : xs.all flatV = true) (q : Q (.s (.bl (!inV x xs))) m) : WO K F B (rNInA K) (.s x) (.s (.ref a)) m Q := fun Hb H vx vy R hB r hx hy k => by
  unfold Rp at hx hy
  subst hx hy
  obtain ⟨_, vs, h1, h2⟩ := r.own _ _ ho
  have e := h2.scal
  subst e
  exact .inl ⟨a, _, rfl, .inl (SqL.of h1), hx0, hf, k.here r rp_s q⟩
theorem wo_isN {x : V} {Q : QD} (q : Q (.s (.bl (decide (x = .non)))) m) : WO K F B rIsN (.s x) (.s .non) m Q := fun Hb H vx vy R hB r hx hy k => by
  unfold Rp at hx hy
  subst hx hy
  exact ⟨rfl, k.here r rp_s q⟩
theorem wo_notN {x : V} {Q : QD} (q : Q (.s (.bl (!decide (x = .non)))) m) : WO K F B rNotN (.s x) (.s .non) m Q := fun Hb H vx vy R hB r hx hy k => by
  unfold Rp at hx hy
  subst hx hy
  exact ⟨rfl, k.here r rp_s q⟩
theorem wo_isB {a b : Bool} {Q : QD} (q : Q (.s (.bl (decide (a = b)))) m) : WO K F B rIsB (.s (.bl a)) (.s (.bl b)) m Q := fun Hb H vx vy R hB r hx hy k => by
  unfold Rp at hx hy
  exact ⟨a, b, hx, hy, k.here r rp_s q⟩
theorem wu_neg {i : Int} {Q : QD} (q : Q (.s (.int (-i))) m) : WU K F B rNeg (.s (.int i)) m Q := fun Hb H vx R hB r hx k => by
  unfold Rp at hx
  exact ⟨i, hx, k.here r rp_s q⟩
theorem we_chain {r1 r2 : R2} {ta tb tc : TE} {Q : QD} (h : WE K F B ta ρ m fun x m1 => WE K F B tb ρ m1 fun y m2 => WO K F B r1 x y m2 fun z m3 => ∃ b, z = .s (.bl b) ∧ (b = true → WE K F B tc ρ m3 fun u m4 => WO K F B r2 y u m4 Q) ∧ (b = false → Q (.s (.bl false)) m3)) :
    WE K F B (tChain r1 r2 ta tb tc) ρ m Q := fun Hb H σ R hB r hs k =>
  h Hb H σ _ hB r hs fun v H1 Hb1 x m1 e1 r1' hx q1 => q1 Hb1 H1 σ _ (hB.trans e1) r1' (hs.mono e1) fun u H2 Hb2 y m2 e2 r2' hy q2 =>
    q2 Hb2 H2 v u _ ((hB.trans e1).trans e2) r2' (hx.mono e2) hy fun z H3 Hb3 d m3 e3 r3' hz q3 => by
      obtain ⟨b, rfl, qt, qf⟩ := q3
      unfold Rp at hz
      refine ⟨b, hz, ?_⟩
      have e123 := (e1.trans e2).trans e3
      cases b with
      | true => exact iteT (qt rfl Hb3 H3 σ _ (hB.trans e123) r3' (hs.mono e123) fun w H4 Hb4 d4 m4 e4 r4' hw q4 => q4 Hb4 H4 u w R ((hB.trans e123).trans e4) r4' (hy.mono (e3.trans e4)) hw (k.mono (e123.trans e4)))
      | false => exact iteF (k _ _ _ _ _ e123 r3' rp_s (qf rfl))
/-- an item of an owned list, of a list, a tuple, a text -/
theorem wo_ixL {xs : List D} {i : Int} {d : D} {Q : QD} (h : atI xs i = some d) (q : Q d m) : WO K F B (rIx K) (.lst xs) (.s (.int i)) m Q := fun Hb H vx vy R hB r hx hy k => by
  unfold Rp at hx hy
  obtain ⟨p, vs, rfl, h1, h2⟩ := hx
  unfold atI at h
  cases hj : ixN xs.length i with
  | none =>
    rw [hj] at h
    cases h
  | some j =>
    rw [hj] at h
    obtain ⟨u, hu, ru⟩ := h2.get h
    refine .inl ⟨p, vs, i, u, rfl, hy, SqL.of (r.sub _ _ h1), ?_, k.here r ru q⟩
    unfold atI
    rw [h2.length, hj]
    exact hu
theorem wo_ixT {xs : List D} {i : Int} {d : D} {Q : QD} (h : atI xs i = some d) (q : Q d m) : WO K F B (rIx K) (.tup xs) (.s (.int i)) m Q := fun Hb H vx vy R hB r hx hy k => by
  unfold Rp at hx hy
  obtain ⟨p, vs, rfl, h1, h2⟩ := hx
  unfold atI at h
  cases hj : ixN xs.length i with
  | none =>
    rw [hj] at h
    cases h
  | some j =>
    rw [hj] at h
    obtain ⟨u, hu, ru⟩ := h2.get h
    refine .inr (.inl ⟨p, vs, i, u, rfl, hy, sameT r.sub h1, ?_, k.here r ru q⟩)
    unfold atI
    rw [h2.length, hj]
    exact hu
theorem wo_ixS {z : Str} {i : Int} {c : Nat} {Q : QD} (hz : z.length ≤ sizeLine) (h : atI z.cps.toList i = some c) (q : Q (.s (.str ⟨#[c]⟩)) m) : WO K F B (rIx K) (.s (.str z)) (.s (.int i)) m Q := fun Hb H vx vy R hB r hx hy k => by
  unfold Rp at hx hy
  exact .inr (.inr ⟨z, i, c, hx, hy, hz, h, k.here r rp_s q⟩)
theorem wo_ixO {a : Addr} {xs : List D} {i : Int} {d : D} {Q : QD} (ho : m.own a = some (.lst xs)) (h : atI xs i = some d) (q : Q d m) : WO K F B (rIx K) (.s (.ref a)) (.s (.int i)) m Q := fun Hb H vx vy R hB r hx hy k => by
  unfold Rp at hx hy
  subst hx
  obtain ⟨_, vs, h1, h2⟩ := r.own _ _ ho
  unfold atI at h
  cases hj : ixN xs.length i with
  | none =>
    rw [hj] at h
    cases h
  | some j =>
    rw [hj] at h
    obtain ⟨u, hu, ru⟩ := h2.get h
    refine .inl ⟨a, vs, i, u, rfl, hy, SqL.of h1, ?_, k.here r ru q⟩
    unfold atI
    rw [h2.length, hj]
    exact hu
/-! slices -/
def WSl (K : PySem.W.Frag) (F B : Hp) (r : V → Option Int → Option Int → Hp → VK → Prop) (x : D) (lo hi : Option Int) (m : Mem) (Q : QD) : Prop := ∀ Hb H vx R, Same B Hb → Rel K F Hb H m → Rp K Hb x vx → OkV K F Hb Q R → r vx lo hi H R
def WPt (K : PySem.W.Frag) (F B : Hp) (t : TO) (ρ : Env) (m : Mem) (Q : Option Int → Mem → Prop) : Prop := ∀ Hb H σ (R : Option Int → Hp → Prop), Same B Hb → Rel K F Hb H m → RpS K Hb ρ σ → (∀ o H' Hb' m', Same Hb Hb' → Rel K F Hb' H' m' → Q o m' → R o H') → t σ H R
theorem wpt_no {Q : Option Int → Mem → Prop} (q : Q none m) : WPt K F B tNoPart ρ m Q := fun Hb H σ R hB r hs k => k _ _ _ _ (Same.refl _) r q
theorem wpt_some {te : TE} {Q : Option Int → Mem → Prop} (h : WE K F B te ρ m fun x m1 => ∃ i, x = .s (.int i) ∧ Q (some i) m1) : WPt K F B (tPart te) ρ m Q := fun Hb H σ R hB r hs k =>
  h Hb H σ _ hB r hs fun v H1 Hb1 x m1 e1 r1 hx q1 => by
    obtain ⟨i, rfl, q⟩ := q1
    unfold Rp at hx
    exact ⟨i, hx, k _ _ _ _ e1 r1 q⟩
theorem we_sl {r : V → Option Int → Option Int → Hp → VK → Prop} {te : TE} {tl th : TO} {Q : QD} (h : WE K F B te ρ m fun x m1 => WPt K F B tl ρ m1 fun lo m2 => WPt K F B th ρ m2 fun hi m3 => WSl K F B r x lo hi m3 Q) : WE K F B (tSl r te tl th) ρ m Q := fun Hb H σ R hB r hs k =>
  h Hb H σ _ hB r hs fun v H1 Hb1 x m1 e1 r1 hx q1 => q1 Hb1 H1 σ _ (hB.trans e1) r1 (hs.mono e1) fun lo H2 Hb2 m2 e2 r2 q2 => q2 Hb2 H2 σ _ ((hB.trans e1).trans e2) r2 (hs.mono (e1.trans e2)) fun hi H3 Hb3 m3 e3 r3 q3 =>
    q3 Hb3 H3 v R (((hB.trans e1).trans e2).trans e3) r3 (hx.mono (e2.trans e3)) (k.mono ((e1.trans e2).trans e3))
def cutD (xs : List D) (lo hi : Option Int) : List D := (xs.drop (HT.sIx xs.length 0 lo)).take (HT.sIx xs.length xs.length hi - HT.sIx xs.length 0 lo)
theorem wsl_L {xs : List D} {lo hi : Option Int} {Q : QD} (q : Q (.lst (cutD xs lo hi)) m) : WSl K F B (rSlA K) (.lst xs) lo hi m Q := fun Hb H vx R hB r hx k => by
  unfold Rp at hx
  obtain ⟨p, vs, rfl, h1, h2⟩ := hx
  refine .inr (.inl ⟨p, vs, rfl, SqL.of (r.sub _ _ h1), fun a ha => ?_⟩)
  have e := Same.new (o := .lst (cutV vs lo hi)) (r.fresh ha)
  refine k _ _ _ (.lst (cutD xs lo hi)) _ e (r.data ha) ?_ q
  have z : RpL K Hb (cutD xs lo hi) (cutV vs lo hi) := by
    unfold cutV cutD
    rw [h2.length]
    exact (h2.drop _).take _
  unfold Rp
  exact ⟨a, _, rfl, upd_same, z.mono e⟩
theorem wsl_S {z : Str} {lo hi : Option Int} {Q : QD} (hz : z.length ≤ sizeLine) (q : Q (.s (.str (cutS z lo hi))) m) : WSl K F B (rSlA K) (.s (.str z)) lo hi m Q := fun Hb H vx R hB r hx k => by
  unfold Rp at hx
  exact .inl ⟨z, hx, hz, k.here r rp_s q⟩

/-! ### built-ins over data -/
def lenD (m : Mem) : D → Nat → Prop
  | .s (.str z), n => z.length ≤ sizeLine ∧ n = z.length
  | .lst xs, n => n = xs.length
  | .tup xs, n => n = xs.length
  | .s (.ref a), n => ∃ xs, m.own a = some (.lst xs) ∧ n = xs.length
  | _, _ => False
theorem wc_len {x : D} {n : Nat} {Q : QD} (h : lenD m x n) (q : Q (.s (.int (n : Int))) m) : WC K F B (rLenA K) [x] m Q := fun Hb H vs R hB r hx k => by
  unfold RpL at hx
  obtain ⟨v, us, rfl, hv, hu⟩ := hx
  unfold RpL at hu
  subst hu
  refine ⟨v, n, rfl, ?_, k.here r rp_s q⟩
  cases x with
  | s w =>
    unfold Rp at hv
    subst hv
    cases v with
    | str z => exact ⟨h.1, h.2⟩
    | ref a =>
      obtain ⟨xs, ho, rfl⟩ := h
      obtain ⟨_, vs, h1, h2⟩ := r.own _ _ ho
      exact .inl ⟨vs, SqL.of h1, h2.length.symm⟩
    | _ => exact h.elim
  | lst xs =>
    unfold Rp at hv
    obtain ⟨p, vs, rfl, h1, h2⟩ := hv
    have e : n = xs.length := h
    subst e
    exact .inl ⟨vs, SqL.of (r.sub _ _ h1), h2.length.symm⟩
  | tup xs =>
    unfold Rp at hv
    obtain ⟨p, vs, rfl, h1, h2⟩ := hv
    have e : n = xs.length := h
    subst e
    exact .inr ⟨vs, sameT r.sub h1, h2.length.symm⟩
  | dic ks xs => exact h.elim
  | ins C ns xs => exact h.elim
theorem wc_int {i : Int} {Q : QD} (q : Q (.s (.int i)) m) : WC K F B rInt1 [.s (.int i)] m Q := fun Hb H vs R hB r hx k => by
  have e : vs = [.int i] := RpL.scal (vs := [.int i]) hx
  subst e
  exact .inl ⟨i, rfl, k.here r rp_s q⟩
theorem rpL1 {x : D} {vs : List V} (h : RpL K H [x] vs) : ∃ v, vs = [v] ∧ Rp K H x v := by
  unfold RpL at h
  obtain ⟨v, us, rfl, hv, hu⟩ := h
  unfold RpL at hu
  subst hu
  exact ⟨v, rfl, hv⟩
theorem rpL2 {x y : D} {vs : List V} (h : RpL K H [x, y] vs) : ∃ v u, vs = [v, u] ∧ Rp K H x v ∧ Rp K H y u := by
  unfold RpL at h
  obtain ⟨v, us, rfl, hv, hu⟩ := h
  obtain ⟨u, rfl, h2⟩ := rpL1 hu
  exact ⟨v, u, rfl, hv, h2⟩
theorem wc_all {bs : List Bool} {Q : QD} (q : Q (.s (.bl (bs.all id))) m) : WC K F B (rAll K) [.lst (bs.map fun b => .s (.bl b))] m Q := fun Hb H vs R hB r hx k => by
  obtain ⟨v, rfl, hv⟩ := rpL1 hx
  unfold Rp at hv
  obtain ⟨p, vs, rfl, h1, h2⟩ := hv
  have e : vs = bs.map V.bl := RpL.scal (vs := bs.map V.bl) (by rw [List.map_map]; exact h2)
  subst e
  exact ⟨p, bs, rfl, SqL.of (r.sub _ _ h1), k.here r rp_s q⟩
theorem wc_any {bs : List Bool} {Q : QD} (q : Q (.s (.bl (bs.any id))) m) : WC K F B (rAny K) [.lst (bs.map fun b => .s (.bl b))] m Q := fun Hb H vs R hB r hx k => by
  obtain ⟨v, rfl, hv⟩ := rpL1 hx
  unfold Rp at hv
  obtain ⟨p, vs, rfl, h1, h2⟩ := hv
  have e : vs = bs.map V.bl := RpL.scal (vs := bs.map V.bl) (by rw [List.map_map]; exact h2)
  subst e
  exact ⟨p, bs, rfl, SqL.of (r.sub _ _ h1), k.here r rp_s q⟩
/-- the class of a class name's value -/
def clsD : D → Option Value
  | .s (.ty n) => some (.type n)
  | .s (.ref C) => some (.ref C)
  | _ => none
theorem clsD_of {c : D} {u : Value} {v : V} (h : clsD c = some u) (hv : Rp K H c v) : ClsV v u := by
  cases c with
  | s w =>
    unfold Rp at hv
    subst hv
    cases v with
    | ty n =>
      cases h
      exact .ty n
    | ref C =>
      cases h
      exact .own C
    | _ => cases h
  | _ => cases h
theorem wc_isi {x c : D} {t u : Value} {b : Bool} {Q : QD} (ht : TyD K m x t) (hc : clsD c = some u) (hk : PySem.W.kitOne K t u = some b) (q : Q (.s (.bl b)) m) : WC K F B (rIsiA K) [x, c] m Q := fun Hb H vs R hB r hx k => by
  obtain ⟨v, w, rfl, hv, hw⟩ := rpL2 hx
  exact .inl ⟨v, w, t, u, b, rfl, clsD_of hc hw, ht.at r hv, hk, k.here r rp_s q⟩
theorem clsL_of : ∀ {cs : List D} {us : List Value} {vs : List V}, cs.map clsD = us.map some → RpL K H cs vs → Paired ClsV vs us
  | [], us, vs, h, hx => by
    unfold RpL at hx
    subst hx
    cases us with
    | nil => exact .nil
    | cons u us => cases h
  | c :: cs, us, vs, h, hx => by
    unfold RpL at hx
    obtain ⟨v, r, rfl, h1, h2⟩ := hx
    cases us with
    | nil => cases h
    | cons u us =>
      rw [List.map_cons, List.map_cons] at h
      injection h with a b
      exact .cons (clsD_of a h1) (clsL_of b h2)
theorem wc_isiT {x : D} {cs : List D} {t : Value} {us : List Value} {b : Bool} {Q : QD} (ht : TyD K m x t) (hc : cs.map clsD = us.map some) (hk : PySem.W.kitAny K t us = some b) (q : Q (.s (.bl b)) m) : WC K F B (rIsiA K) [x, .tup cs] m Q := fun Hb H vs R hB r hx k => by
  obtain ⟨v, w, rfl, hv, hw⟩ := rpL2 hx
  unfold Rp at hw
  obtain ⟨p, ws, rfl, h1, h2⟩ := hw
  exact .inr ⟨v, p, ws, t, us, b, rfl, sameT r.sub h1, clsL_of hc h2, ht.at r hv, hk, k.here r rp_s q⟩
theorem wc_listL {xs : List D} {Q : QD} (q : Q (.lst xs) m) : WC K F B (rListA K) [.lst xs] m Q := fun Hb H vs R hB r hx k => by
  obtain ⟨v, rfl, hv⟩ := rpL1 hx
  unfold Rp at hv
  obtain ⟨p, vs, rfl, h1, h2⟩ := hv
  refine ⟨p, vs, rfl, .inl (SqL.of (r.sub _ _ h1)), fun a ha => ?_⟩
  have e := Same.new (o := .lst vs) (r.fresh ha)
  refine k _ _ _ (.lst xs) _ e (r.data ha) ?_ q
  unfold Rp
  exact ⟨a, _, rfl, upd_same, h2.mono e⟩
theorem wc_listT {xs : List D} {Q : QD} (q : Q (.lst xs) m) : WC K F B (rListA K) [.tup xs] m Q := fun Hb H vs R hB r hx k => by
  obtain ⟨v, rfl, hv⟩ := rpL1 hx
  unfold Rp at hv
  obtain ⟨p, vs, rfl, h1, h2⟩ := hv
  refine ⟨p, vs, rfl, .inr (sameT r.sub h1), fun a ha => ?_⟩
  have e := Same.new (o := .lst vs) (r.fresh ha)
  refine k _ _ _ (.lst xs) _ e (r.data ha) ?_ q
  unfold Rp
  exact ⟨a, _, rfl, upd_same, h2.mono e⟩
/-- .. a list that is owned -/
theorem wc_listO {xs : List D} {Q : QD} (q : ∀ a, m.own a = none → Q (.s (.ref a)) { m with own := putM m.own a (.lst xs) }) : WC K F B (rListA K) [.lst xs] m Q := fun Hb H vs R hB r hx k => by
  obtain ⟨v, rfl, hv⟩ := rpL1 hx
  unfold Rp at hv
  obtain ⟨p, vs, rfl, h1, h2⟩ := hv
  refine ⟨p, vs, rfl, .inl (SqL.of (r.sub _ _ h1)), fun a ha => ?_⟩
  exact k _ _ _ _ _ (Same.refl _) (r.owned (mo := .lst xs) ha ⟨vs, upd_same, h2⟩) rp_s (q a (r.free ha))
theorem wc_tupL {xs : List D} {Q : QD} (q : Q (.tup xs) m) : WC K F B (rTupA K) [.lst xs] m Q := fun Hb H vs R hB r hx k => by
  obtain ⟨v, rfl, hv⟩ := rpL1 hx
  unfold Rp at hv
  obtain ⟨p, vs, rfl, h1, h2⟩ := hv
  refine ⟨p, vs, rfl, .inl ⟨SqL.of (r.sub _ _ h1), fun a ha => ?_⟩⟩
  have e := Same.new (o := .tup vs) (r.fresh ha)
  refine k _ _ _ (.tup xs) _ e (r.data ha) ?_ q
  unfold Rp
  exact ⟨a, _, rfl, SqT.of upd_same, h2.mono e⟩
theorem wc_tupT {xs : List D} {Q : QD} (q : Q (.tup xs) m) : WC K F B (rTupA K) [.tup xs] m Q := fun Hb H vs R hB r hx k => by
  obtain ⟨v, rfl, hv⟩ := rpL1 hx
  have hv' := hv
  unfold Rp at hv'
  obtain ⟨p, vs, rfl, h1, h2⟩ := hv'
  exact ⟨p, vs, rfl, .inr ⟨sameT r.sub h1, k.here r hv q⟩⟩

/-! ### methods over data -/
def WM (K : PySem.W.Frag) (F B : Hp) (r : V → List V → Hp → VK → Prop) (x : D) (xs : List D) (m : Mem) (Q : QD) : Prop := ∀ Hb H vx vs R, Same B Hb → Rel K F Hb H m → Rp K Hb x vx → RpL K Hb xs vs → OkV K F Hb Q R → r vx vs H R
theorem we_m1 {r : V → List V → Hp → VK → Prop} {to te : TE} {Q : QD} (h : WE K F B to ρ m fun x m1 => (∃ z, x = .s (.str z)) ∧ WE K F B te ρ m1 fun y m2 => WM K F B r x [y] m2 Q) : WE K F B (tM1 r to te) ρ m Q := fun Hb H σ R hB r hs k =>
  h Hb H σ _ hB r hs fun v H1 Hb1 x m1 e1 r1 hx q1 => by
    obtain ⟨⟨z, rfl⟩, q⟩ := q1
    have hx' := hx
    unfold Rp at hx'
    exact ⟨⟨z, hx'⟩, q Hb1 H1 σ _ (hB.trans e1) r1 (hs.mono e1) fun u H2 Hb2 y m2 e2 r2 hy q2 => q2 Hb2 H2 v [u] R ((hB.trans e1).trans e2) r2 (hx.mono e2) (RpL.cons hy RpL.nil) (k.mono (e1.trans e2))⟩
theorem rp_strs {p : Addr} {ys : List Str} (h : H p = some (.lst (ys.map V.str))) : Rp K H (.lst (ys.map fun y => .s (.str y))) (.ref p) := by
  unfold Rp
  refine ⟨p, _, rfl, h, ?_⟩
  have e := RpL.ofScal (K := K) (H := H) (ys.map V.str)
  rw [List.map_map] at e
  exact e
theorem strs_rp {v : V} {ys : List Str} (h : Rp K H (.lst (ys.map fun y => .s (.str y))) v) : ∃ p, v = .ref p ∧ H p = some (.lst (ys.map V.str)) := by
  unfold Rp at h
  obtain ⟨p, vs, rfl, h1, h2⟩ := h
  have e : vs = ys.map V.str := RpL.scal (vs := ys.map V.str) (by rw [List.map_map]; exact h2)
  subst e
  exact ⟨p, rfl, h1⟩
theorem wm_split {a b : Str} {Q : QD} (hb : (b.length == 0) = false) (ha : a.length + 2 ≤ sizeLine) (q : Q (.lst ((Txt.split a b).map fun y => .s (.str y))) m) : WM K F B rSplit (.s (.str a)) [.s (.str b)] m Q := fun Hb H vx vs R hB r hx hxs k => by
  obtain ⟨v, rfl, hv⟩ := rpL1 hxs
  unfold Rp at hx hv
  subst hx hv
  refine ⟨a, b, rfl, rfl, hb, ha, fun p hp => ?_⟩
  exact k _ _ _ _ _ (Same.new (r.fresh hp)) (r.data hp) (rp_strs upd_same) q
theorem wm_join {a : Str} {ys : List Str} {Q : QD} (hl : (ys.map (·.length)).sum + ys.length * a.length ≤ 16777216) (q : Q (.s (.str (Txt.join a ys))) m) : WM K F B (rJoin K) (.s (.str a)) [.lst (ys.map fun y => .s (.str y))] m Q := fun Hb H vx vs R hB r hx hxs k => by
  obtain ⟨v, rfl, hv⟩ := rpL1 hxs
  unfold Rp at hx
  subst hx
  obtain ⟨p, rfl, h1⟩ := strs_rp hv
  exact ⟨a, p, ys, rfl, rfl, .inl (SqL.of (r.sub _ _ h1)), hl, k.here r rp_s q⟩
theorem wm_txt {g : Str → Str → Str} {a b : Str} {Q : QD} (ha : a.length ≤ sizeLine) (q : Q (.s (.str (g a b))) m) : WM K F B (rTxt g) (.s (.str a)) [.s (.str b)] m Q := fun Hb H vx vs R hB r hx hxs k => by
  obtain ⟨v, rfl, hv⟩ := rpL1 hxs
  unfold Rp at hx hv
  subst hx hv
  exact ⟨a, b, rfl, rfl, ha, k.here r rp_s q⟩
/-- xs.append(e), xs an owned list -/
theorem we_append {to te : TE} {Q : QD} (h : WE K F B to ρ m fun x m1 => ∃ a, x = .s (.ref a) ∧ (∃ xs, m1.own a = some (.lst xs)) ∧ WE K F B te ρ m1 fun y m2 => ∃ xs, m2.own a = some (.lst xs) ∧ xs.length < sizeLine ∧ Q (.s .non) { m2 with own := putM m2.own a (.lst (xs ++ [y])) }) :
    WE K F B (tBM K "list" rAppend to (tCons te tNil)) ρ m Q := fun Hb H σ R hB r hs k =>
  h Hb H σ _ hB r hs fun v H1 Hb1 x m1 e1 r1 hx q1 => by
    obtain ⟨a, rfl, ⟨xs0, ho0⟩, q⟩ := q1
    unfold Rp at hx
    subst hx
    obtain ⟨_, vs0, h0, _⟩ := r1.own _ _ ho0
    refine ⟨.inl ⟨rfl, _, SqL.of h0⟩, q Hb1 H1 σ _ (hB.trans e1) r1 (hs.mono e1) fun u H2 Hb2 y m2 e2 r2 hy q2 => ?_⟩
    obtain ⟨xs, ho, hl, q3⟩ := q2
    obtain ⟨_, vs, h1, h2⟩ := r2.own _ _ ho
    exact ⟨a, vs, u, rfl, rfl, h1, by rw [h2.length]; exact hl, k _ _ _ _ _ (e1.trans e2) (r2.change (mo' := .lst (xs ++ [y])) ho ⟨_, upd_same, h2.app (RpL.cons hy RpL.nil)⟩) rp_s q3⟩
/-- an owned list becomes data -/
theorem we_freeze {te : TE} {Q : QD} (h : WE K F B te ρ m fun x m1 => ∃ a xs, x = .s (.ref a) ∧ m1.own a = some (.lst xs) ∧ Q (.lst xs) { m1 with own := dropM m1.own a }) : WE K F B te ρ m Q := fun Hb H σ R hB r hs k =>
  h Hb H σ _ hB r hs fun v H1 Hb1 x m1 e1 r1 hx q1 => by
    obtain ⟨a, xs, rfl, ho, q⟩ := q1
    unfold Rp at hx
    subst hx
    obtain ⟨hn, vs, h1, h2⟩ := r1.own _ _ ho
    have e4 : Same Hb1 (upd Hb1 a (.lst vs)) := Same.new hn
    refine k _ _ _ (.lst xs) _ (e1.trans e4) (r1.freeze ho h1) ?_ q
    unfold Rp
    exact ⟨a, vs, rfl, upd_same, h2.mono e4⟩
end
end DD

/-! DText: texts of paths as lists of codes. -/
namespace DT
open PySem L2
open TL

/-- the pieces between bars -/
def pcs : List Nat → List (List Nat)
  | [] => [[]]
  | c :: r => if c = 47 then [] :: pcs r else (c :: (pcs r).headD []) :: (pcs r).tail
theorem pcs_bar (r : List Nat) : pcs (47 :: r) = [] :: pcs r := if_pos rfl
theorem pcs_cons {c : Nat} (r : List Nat) (h : c ≠ 47) : pcs (c :: r) = (c :: (pcs r).headD []) :: (pcs r).tail := if_neg h
theorem pcs_ne : ∀ l : List Nat, pcs l ≠ []
  | [] => by simp [pcs]
  | c :: r => by
    unfold pcs
    split <;> simp
theorem pcs_head (l : List Nat) : (pcs l).headD [] :: (pcs l).tail = pcs l := by
  cases h : pcs l with
  | nil => exact absurd h (pcs_ne l)
  | cons a b => rfl
theorem spl_pcs : ∀ (l acc : List Nat), spl [47] 0 acc l = (acc ++ (pcs l).headD []) :: (pcs l).tail
  | [], acc => by
    rw [spl_nil]
    simp [pcs]
  | c :: r, acc => by
    by_cases hc : c = 47
    · subst hc
      have hp : pre [47] (47 :: r) = true := by simp [pre]
      rw [spl_hit hp]
      unfold pcs
      rw [if_pos rfl]
      simp only [List.headD_cons, List.tail_cons, List.append_nil]
      have e := spl_pcs r []
      rw [List.nil_append, pcs_head] at e
      exact congrArg (acc :: ·) e
    · have hp : pre [47] (c :: r) = false := pre_of_head [] r hc
      rw [spl_miss hp, spl_pcs r, pcs_cons r hc]
      simp only [List.headD_cons, List.tail_cons, List.append_assoc, List.singleton_append]
def mk (l : List Nat) : Str := ⟨l.toArray⟩
theorem mk_inj {a b : List Nat} (h : mk a = mk b) : a = b := by
  have := congrArg (fun s : Str => s.cps.toList) h
  simpa [mk] using this
theorem tl_mk' (l : List Nat) : tl (mk l) = l := rfl
theorem mk_tl' (x : Str) : mk (tl x) = x := mk_tl x
def pieces (t : Str) : List Str := (pcs (tl t)).map mk
theorem split_eq (t : Str) : Txt.split t "/" = pieces t := by
  have h := split_spl t "/" (by decide +kernel) (kind_ok (by decide +kernel))
  have e : tl ("/" : Str) = [47] := by decide +kernel
  rw [e, spl_pcs, List.nil_append, pcs_head] at h
  apply map_tl_inj
  rw [h]
  unfold pieces
  rw [List.map_map]
  exact (List.map_id (pcs (tl t))).symm.trans (List.map_congr_left fun a _ => rfl)
theorem pcs_noslash : ∀ {l p : List Nat}, p ∈ pcs l → 47 ∉ p
  | [], p, h => by
    simp [pcs] at h
    subst h
    simp
  | c :: r, p, h => by
    unfold pcs at h
    split at h
    · rcases List.mem_cons.mp h with z | z
      · subst z
        simp
      · exact pcs_noslash z
    · rename_i hc
      rcases List.mem_cons.mp h with z | z
      · subst z
        intro q
        rcases List.mem_cons.mp q with z | z
        · exact hc z.symm
        · have hm : (pcs r).headD [] ∈ pcs r := by
            have e := pcs_head r
            rw [← e]
            exact List.mem_cons_self
          exact pcs_noslash hm z
      · have hm : p ∈ pcs r := by
          have e := pcs_head r
          rw [← e]
          exact List.mem_cons_of_mem _ z
        exact pcs_noslash hm
/-- bars between -/
def jn : List (List Nat) → List Nat
  | [] => []
  | [p] => p
  | p :: q :: r => p ++ 47 :: jn (q :: r)
theorem jn_pcs : ∀ l : List Nat, jn (pcs l) = l
  | [] => rfl
  | c :: r => by
    have ih := jn_pcs r
    have hd := pcs_head r
    unfold pcs
    split
    · rename_i hc
      subst hc
      cases h : pcs r with
      | nil => exact absurd h (pcs_ne r)
      | cons a b =>
        rw [h] at ih
        show [] ++ 47 :: jn (a :: b) = _
        rw [ih]
        rfl
    · cases h : pcs r with
      | nil => exact absurd h (pcs_ne r)
      | cons a b =>
        rw [h] at ih
        cases b with
        | nil =>
          show c :: a = c :: r
          rw [show a = r from ih]
        | cons b bs =>
          show (c :: a) ++ 47 :: jn (b :: bs) = c :: r
          rw [List.cons_append]
          exact congrArg (c :: ·) ih
theorem pcs_app : ∀ (a b : List Nat), 47 ∉ a → pcs (a ++ 47 :: b) = a :: pcs b
  | [], b, _ => by simp [pcs]
  | c :: a, b, h => by
    have hc : c ≠ 47 := fun z => h (z ▸ List.mem_cons_self)
    have ha : 47 ∉ a := fun z => h (List.mem_cons_of_mem _ z)
    rw [List.cons_append, pcs_cons _ hc, pcs_app a b ha]
    rfl
theorem pcs_one : ∀ (a : List Nat), 47 ∉ a → pcs a = [a]
  | [], _ => rfl
  | c :: a, h => by
    have hc : c ≠ 47 := fun z => h (z ▸ List.mem_cons_self)
    have ha : 47 ∉ a := fun z => h (List.mem_cons_of_mem _ z)
    rw [pcs_cons _ hc, pcs_one a ha]
    rfl
theorem pcs_cat : ∀ (a b : List Nat), pcs (a ++ 47 :: b) = pcs a ++ pcs b
  | [], b => by simp [pcs]
  | c :: a, b => by
    have ih := pcs_cat a b
    have hne := pcs_ne a
    show (if c = 47 then [] :: pcs (a ++ 47 :: b) else (c :: (pcs (a ++ 47 :: b)).headD []) :: (pcs (a ++ 47 :: b)).tail) = (if c = 47 then [] :: pcs a else (c :: (pcs a).headD []) :: (pcs a).tail) ++ pcs b
    rw [ih]
    split
    · rfl
    · cases h : pcs a with
      | nil => exact absurd h hne
      | cons x y => rfl
theorem pcs_jn : ∀ ps : List (List Nat), ps ≠ [] → (∀ p ∈ ps, 47 ∉ p) → pcs (jn ps) = ps
  | [], h, _ => absurd rfl h
  | [p], _, h => pcs_one p (h p List.mem_cons_self)
  | p :: q :: r, _, h => by
    show pcs (p ++ 47 :: jn (q :: r)) = _
    rw [pcs_app _ _ (h p List.mem_cons_self), pcs_jn (q :: r) (by simp) fun x hx => h x (List.mem_cons_of_mem _ hx)]

/-! ### names and paths -/
def letters : List Nat := tl ("abcdefghijklmnopqrstuvwxyz" : Str)
def isName (z : Str) : Bool := decide (1 ≤ z.length) && (decide (z.length ≤ 8) && (tl z).all fun c => decide (c ∈ letters))
def dotty (p : Str) : Bool := inV (.str p) [.str "", .str ".", .str ".."]
def isPath (z : Str) : Bool := !decide (z = "") && (pieces z).all fun p => dotty p || isName p
def steps (z : Str) : List Str := (pieces z).filter fun p => !decide (p = "")
def rooted (z : Str) : Bool := decide ((tl z).head? = some 47)
def lastP (z : Str) : Str := mk ((pcs (tl z)).getLastD [])
def ended (z : Str) : Bool := dotty (lastP z)
theorem pieces_ne (z : Str) : pieces z ≠ [] := by
  unfold pieces
  intro h
  exact pcs_ne _ (List.map_eq_nil_iff.mp h)
theorem dotty_iff (p : Str) : dotty p = (decide (p = "") || (decide (p = ".") || decide (p = ".."))) := by
  unfold dotty inV eqV
  simp only [List.any_cons, List.any_nil, Bool.or_false]
  have e : ∀ a b : Str, (a == b) = decide (b = a) := fun a b => by
    by_cases h : a = b
    · subst h
      simp
    · have h2 : ¬ b = a := fun z => h z.symm
      rw [decide_eq_false h2]
      exact beq_eq_false_iff_ne.mpr h
  rw [e, e, e]

/-! ### the last bars, the beginning -/
def tlLast (z : Str) : Option Nat := (tl z).getLast?
/-- without the empty ones at the end -/
def dropE (ps : List (List Nat)) : List (List Nat) := (ps.reverse.dropWhile fun p => p.isEmpty).reverse
def beginL (l : List Nat) : List Nat := jn (dropE (dropE (pcs l)).dropLast)
def begin (z : Str) : Str := if steps z = [] then z else if beginL (tl z) = [] then (if rooted z = true then ("/" : Str) else ("." : Str)) else mk (beginL (tl z))
end DT

/-! DLaw: what the laws' own defs share. -/
namespace DD
open PySem L2
open PySem.Spec PyProof.Rows

theorem le_line {n : Nat} (h : n ≤ 1000000) : n ≤ sizeLine := by
  rw [sizeLine_eq]
  omega
theorem lt_line {n : Nat} (h : n ≤ 1000000) : n < sizeLine := by
  rw [sizeLine_eq]
  omega
/-! ### the law and its stream -/
def spLaw (K : PySem.W.Frag) : Sp := fun vs H Q _ => ∃ (a : Addr) (ns : List Int), vs = [.ref a] ∧ SqL K H a (ns.map V.int) ∧ ns.length ≤ 63 ∧ ∀ H', Q (.bl true) H'
def spStart (K : PySem.W.Frag) : Sp := fun vs H Q _ => ∃ (a : Addr) (ns : List Int), vs = [.ref a] ∧ SqL K H a (ns.map V.int) ∧ ns.length ≤ 63 ∧
  ∀ c p, H c = none → upd H c (.lst (ns.map V.int)) p = none → Q (.ref p) (upd (upd H c (.lst (ns.map V.int))) p (.lst [.ref c, .int 0, .int 0, .int 11]))
section
variable {P : Program} {w : World} {K : PySem.W.Frag} {mg : Str → Option Value} {base : Heap} {B F Hb H : Hp} {m : Mem} {ρ : Env}
theorem we_start {E : XK} {ta : TA} {Q : QD} (h : WA K F B ta ρ m fun ds m1 => ∃ (a : Addr) (ns : List Int), ds = [.s (.ref a)] ∧ SqL K B a (ns.map V.int) ∧ ns.length ≤ 63 ∧
      ∀ c p : Addr, p ≠ c → m1.own c = none → m1.own p = none → Q (.s (.ref p)) { m1 with own := putM (putM m1.own c .cel) p (.stm c) }) : WE K F B (tCall (spStart K) [] E ta) ρ m Q := fun Hb H σ R hB r hs k =>
  h Hb H σ _ hB r hs fun vs H1 Hb1 ds m1 e1 r1 hx q1 => by
    obtain ⟨a, ns, rfl, hS, hl, q⟩ := q1
    have e : vs = [.ref a] := RpL.scal (vs := [.ref a]) hx
    subst e
    refine ⟨a, ns, rfl, (hB.trans (e1.trans r1.sub)).seq hS, hl, fun c p hc hp => ?_⟩
    have hpc : p ≠ c := fun z => by
      rw [z, upd_same] at hp
      cases hp
    have r2 : Rel K F Hb1 (upd H1 c (.lst (ns.map V.int))) { m1 with own := putM m1.own c .cel } := r1.owned (mo := .cel) hc ⟨ns, upd_same, hl⟩
    have r3 : Rel K F Hb1 (upd (upd H1 c (.lst (ns.map V.int))) p (.lst [.ref c, .int 0, .int 0, .int 11])) { m1 with own := putM (putM m1.own c .cel) p (.stm c) } :=
      r2.owned (mo := .stm c) hp ⟨0, 0, 11, upd_same, by decide, ⟨by decide, Int.natCast_nonneg _⟩, by decide, by decide⟩
    have hp1 : H1 p = none := by
      rw [upd_ne hpc] at hp
      exact hp
    exact k _ _ _ _ _ e1 r3 rp_s (q c p hpc (r1.free hc) (r1.free hp1))
/-- the law -/
theorem ok_lawD {CX : CXT} {x qual : Str} {st : Stmt} {f : Addr} {fd : FuncData} {N : List Str} {y : Str} {k : Nat} (F : Fun K x qual st f fd) (S : FnScope N [y] (defScope st))
    (hbody : ∀ (cdv : Value) (A : Around) (outer : List PySem.Env) (s : Shared) (H : Hp) (E : XK), Room k (A.deeper (envOfC qual (defScope st) s.heap.objs.size f cdv)) →
      ∃ t, PSs (cxOf CX P w K mg base N qual (defScope st) f cdv A outer s H E) (defBody st) t ∧ ∀ (a : Addr) (ns : List Int) (B : Hp), SqL K B a (ns.map V.int) → ns.length ≤ 63 →
        WS K (fun _ => none) B t (startD N [.s (.ref a)]) ⟨0, fun _ => none⟩ { nx := fun _ _ => False, rt := fun d _ => d = .s (.bl true) }) : FnOk P w K mg base CX (k + 1) f fd [y] (spLaw K) := by
  refine okC F S (fun vs H Q E h => by obtain ⟨a, ns, rfl, _⟩ := h; rfl) fun cdv A outer s H vs Q E hr h => ?_
  obtain ⟨a, ns, rfl, hS, hl, q⟩ := h
  obtain ⟨t, ht, hw⟩ := hbody cdv A outer s H E hr
  refine ⟨t, ht, hw a ns H hS hl H H _ _ (Same.refl _) ⟨Same.refl _, (fun _ _ z => nomatch z), (fun _ _ z => nomatch z)⟩ (RpS.start (RpL.cons rp_s RpL.nil)) ⟨fun _ _ _ _ _ _ _ _ z => z.elim, fun v H' Hb' d m' e r hd z => ?_, fun _ _ _ _ _ _ _ _ z => z.elim, fun _ _ _ _ _ _ _ _ z => z.elim⟩⟩
  subst z
  unfold Rp at hd
  subst hd
  exact q _
/-- the stream has turned -/
theorem Rel.stream {p c : Addr} {s1 s2 s3 : Int} {ns : List Int} {H' : Hp} (r : Rel K F Hb H m) (hp : m.own p = some (.stm c)) (hc : m.own c = some .cel) (hpc : p ≠ c) (h1 : H' p = some (.lst [.ref c, .int s1, .int s2, .int s3])) (h2 : H' c = some (.lst (ns.map V.int)))
    (hk : ∀ b, b ≠ p → b ≠ c → H' b = H b) (ho : StOk s1 s2 s3 (m.cnt + 1)) (hn : CelOk ns) : Rel K F Hb H' { m with cnt := m.cnt + 1 } := by
  have np : ∀ b o, Hb b = some o → b ≠ p := fun b o e z => by
    rw [z, (r.own p _ hp).1] at e
    cases e
  have nc : ∀ b o, Hb b = some o → b ≠ c := fun b o e z => by
    rw [z, (r.own c _ hc).1] at e
    cases e
  refine ⟨fun b o e => ?_, fun b o e => ?_, fun b mo e => ?_⟩
  · rw [hk b (np b o e) (nc b o e)]
    exact r.sub b o e
  · have z1 := ne_fr e (r.ownF hp)
    have z2 := ne_fr e (r.ownF hc)
    rw [hk b z1 z2]
    exact r.fr b o e
  · have e' : m.own b = some mo := e
    obtain ⟨q1, q2⟩ := r.own b mo e'
    refine ⟨q1, ?_⟩
    by_cases z1 : b = p
    · subst z1
      rw [hp] at e'
      cases e'
      exact ⟨s1, s2, s3, h1, ho⟩
    · by_cases z2 : b = c
      · subst z2
        rw [hc] at e'
        cases e'
        exact ⟨ns, h2, hn⟩
      · exact q2.mono (Same.refl _) (hk b z1 z2) (Nat.le_succ _)

/-! ### isinstance of built-in types, by several -/
def kitAnyB (a : String) : List String → Option Bool
  | [] => some false
  | b :: r => match kitB a b with
    | some true => some true
    | some false => kitAnyB a r
    | none => none
theorem kit_any {a : String} : ∀ {bs : List String} {r : Bool}, kitAnyB a bs = some r → PySem.W.kitAny K (.type a) (bs.map Value.type) = some r
  | [], r, h => h
  | b :: bs, r, h => by
    unfold kitAnyB at h
    rw [List.map_cons]
    unfold PySem.W.kitAny
    cases hq : kitB a b with
    | none =>
      rw [hq] at h
      cases h
    | some q =>
      rw [hq] at h
      rw [kit_ty hq]
      cases q with
      | true => exact h
      | false => exact kit_any h

/-! ### plain data -/
def SameOk : Nat → D → Prop
  | _, .s .non => True
  | _, .s (.bl _) => True
  | _, .s (.int _) => True
  | _, .s (.str _) => True
  | n + 1, .lst xs => xs.length ≤ 1000000 ∧ ∀ x ∈ xs, SameOk n x
  | n + 1, .tup xs => xs.length ≤ 1000000 ∧ ∀ x ∈ xs, SameOk n x
  | _, _ => False

/-! ### zip of lists or of tuples -/
theorem wi_zipL {ta : TA} {Q : List D → Mem → Prop} (h : WA K F B ta ρ m fun xs m1 => ∃ ds es, ((xs = [.lst ds, .lst es]) ∨ xs = [.tup ds, .tup es]) ∧ Q ((ds.zip es).map fun p => .tup [p.1, p.2]) m1) : WI K F B (RZ.iZipA K ta) ρ m Q := fun Hb H σ R hB r hs k =>
  h Hb H σ _ hB r hs fun vs H1 Hb1 xs m1 e1 r1 hx q1 => by
    obtain ⟨ds, es, hd, q⟩ := q1
    rcases hd with rfl | rfl
    · obtain ⟨v, v', rfl, hv, hv'⟩ := rpL2 hx
      unfold Rp at hv hv'
      obtain ⟨p, vs, rfl, h1, h2⟩ := hv
      obtain ⟨p', vs', rfl, h1', h2'⟩ := hv'
      have hl := h2.length
      have hl' := h2'.length
      refine ⟨p, p', vs, vs', rfl, .inl ⟨SqL.of (r1.sub _ _ h1), SqL.of (r1.sub _ _ h1'), k _ _ _ _ _ e1 r1 (fun i F Hb2 H2 m2 e2 r2 => ?_) q⟩⟩
      have hq : SqL K H2 p vs := SqL.of (r2.sub _ _ (e2 _ _ h1))
      have hq' : SqL K H2 p' vs' := SqL.of (r2.sub _ _ (e2 _ _ h1'))
      refine ⟨fun hi => ⟨vs, vs', hq, hq', by simp at hi; omega⟩, fun d hd => ?_⟩
      rw [List.getElem?_map] at hd
      cases hz : (ds.zip es)[i]? with
      | none =>
        rw [hz] at hd
        cases hd
      | some pr =>
        rw [hz] at hd
        cases hd
        obtain ⟨z1, z2⟩ := List.getElem?_zip_eq_some.mp hz
        obtain ⟨u, hu1, hu2⟩ := h2.get z1
        obtain ⟨u', hu1', hu2'⟩ := h2'.get z2
        refine ⟨⟨vs, vs', u, u', hq, hq', hu1, hu1'⟩, fun y H' hy => ?_⟩
        obtain ⟨T, z, z', rfl, hT, rfl, hz, hz'⟩ := hy
        have q1 := hz vs hq
        have q2 := hz' vs' hq'
        rw [hu1] at q1
        rw [hu1'] at q2
        cases q1
        cases q2
        exact new_pair r2 hT (hu2.mono e2) (hu2'.mono e2)
    · obtain ⟨v, v', rfl, hv, hv'⟩ := rpL2 hx
      unfold Rp at hv hv'
      obtain ⟨p, vs, rfl, h1, h2⟩ := hv
      obtain ⟨p', vs', rfl, h1', h2'⟩ := hv'
      have hl := h2.length
      have hl' := h2'.length
      refine ⟨p, p', vs, vs', rfl, .inr ⟨sameT r1.sub h1, sameT r1.sub h1', k _ _ _ _ _ e1 r1 (fun i F Hb2 H2 m2 e2 r2 => ?_) q⟩⟩
      have hq : SqT K H2 p vs := sameT r2.sub (sameT e2 h1)
      have hq' : SqT K H2 p' vs' := sameT r2.sub (sameT e2 h1')
      refine ⟨fun hi => ⟨vs, vs', hq, hq', by simp at hi; omega⟩, fun d hd => ?_⟩
      rw [List.getElem?_map] at hd
      cases hz : (ds.zip es)[i]? with
      | none =>
        rw [hz] at hd
        cases hd
      | some pr =>
        rw [hz] at hd
        cases hd
        obtain ⟨z1, z2⟩ := List.getElem?_zip_eq_some.mp hz
        obtain ⟨u, hu1, hu2⟩ := h2.get z1
        obtain ⟨u', hu1', hu2'⟩ := h2'.get z2
        refine ⟨⟨vs, vs', u, u', hq, hq', hu1, hu1'⟩, fun y H' hy => ?_⟩
        obtain ⟨T, z, z', rfl, hT, rfl, hz, hz'⟩ := hy
        have q1 := hz vs hq
        have q2 := hz' vs' hq'
        rw [hu1] at q1
        rw [hu1'] at q2
        cases q1
        cases q2
        exact new_pair r2 hT (hu2.mono e2) (hu2'.mono e2)
end
end DD

/-! DPath: bars at the end, the beginning of a path. -/
namespace DT
open PySem L2
open TL PySem.Builtin PySem.Builtin.Str

/-- without the bars at the end -/
def rst (l : List Nat) : List Nat := (l.reverse.dropWhile fun c => decide (c = 47)).reverse
theorem rst_nil : rst [] = [] := rfl
theorem rst_bar (l : List Nat) : rst (l ++ [47]) = rst l := by
  unfold rst
  rw [List.reverse_append]
  rfl
theorem rst_not {l : List Nat} {c : Nat} (h : c ≠ 47) : rst (l ++ [c]) = l ++ [c] := by
  unfold rst
  rw [List.reverse_append]
  show (List.dropWhile (fun c => decide (c = 47)) (c :: l.reverse)).reverse = _
  rw [List.dropWhile_cons_of_neg (by simpa using h)]
  simp
theorem dropE_nil : dropE [] = [] := rfl
theorem dropE_e (ps : List (List Nat)) : dropE (ps ++ [[]]) = dropE ps := by
  unfold dropE
  rw [List.reverse_append]
  rfl
theorem dropE_ne {ps : List (List Nat)} {p : List Nat} (h : p ≠ []) : dropE (ps ++ [p]) = ps ++ [p] := by
  unfold dropE
  rw [List.reverse_append]
  show (List.dropWhile (fun p => p.isEmpty) (p :: ps.reverse)).reverse = _
  rw [List.dropWhile_cons_of_neg (by simpa using h)]
  simp
theorem snocInd {α : Type} {P : List α → Prop} (h0 : P []) (h1 : ∀ l a, P l → P (l ++ [a])) : ∀ l, P l := fun l => by
  have key : ∀ n (l : List α), l.length = n → P l := fun n => by
    induction n with
    | zero =>
      intro l h
      rw [List.eq_nil_of_length_eq_zero h]
      exact h0
    | succ n ih =>
      intro l h
      have hne : l ≠ [] := fun z => by
        rw [z] at h
        cases h
      rw [← List.dropLast_concat_getLast hne]
      exact h1 _ _ (ih _ (by rw [List.length_dropLast]; omega))
  exact key l.length l rfl
theorem pcs_snoc {c : Nat} (hc : c ≠ 47) : ∀ l : List Nat, ∃ qs q, pcs (l ++ [c]) = qs ++ [q ++ [c]] ∧ pcs l = qs ++ [q]
  | [] => ⟨[], [], by simp [pcs, hc], rfl⟩
  | d :: l => by
    obtain ⟨qs, q, h1, h2⟩ := pcs_snoc hc l
    by_cases hd : d = 47
    · subst hd
      exact ⟨[] :: qs, q, by rw [List.cons_append, pcs_bar, h1]; rfl, by rw [pcs_bar, h2]; rfl⟩
    · rw [List.cons_append, pcs_cons _ hd, pcs_cons _ hd, h1, h2]
      cases qs with
      | nil => exact ⟨[], d :: q, rfl, rfl⟩
      | cons a as => exact ⟨(d :: a) :: as, q, rfl, rfl⟩
theorem jn_dropE (l : List Nat) : jn (dropE (pcs l)) = rst l := by
  refine snocInd (P := fun l => jn (dropE (pcs l)) = rst l) rfl (fun l c ih => ?_) l
  by_cases hc : c = 47
  · subst hc
    rw [pcs_cat l []]
    show jn (dropE (pcs l ++ [[]])) = _
    rw [dropE_e, rst_bar, ih]
  · obtain ⟨qs, q, h1, h2⟩ := pcs_snoc hc l
    rw [h1, dropE_ne (by simp), ← h1, jn_pcs, rst_not hc]
theorem rst_jn {ps : List (List Nat)} (h : ∀ p ∈ ps, 47 ∉ p) : rst (jn ps) = jn (dropE ps) := by
  by_cases h0 : ps = []
  · subst h0
    rfl
  · have e := jn_dropE (jn ps)
    rw [pcs_jn ps h0 h] at e
    exact e.symm
theorem jn_snoc {qs : List (List Nat)} {p : List Nat} : jn (qs ++ [p]) = if qs = [] then p else jn qs ++ 47 :: p := by
  induction qs with
  | nil => rfl
  | cons a as ih =>
    rw [if_neg (by simp)]
    cases as with
    | nil => rfl
    | cons b bs =>
      rw [if_neg (by simp)] at ih
      show a ++ 47 :: jn (b :: bs ++ [p]) = (a ++ 47 :: jn (b :: bs)) ++ 47 :: p
      rw [ih]
      simp
/-- the empty ones at the end -/
theorem dropE_cut (ps : List (List Nat)) : (dropE ps = [] ∧ ∀ p ∈ ps, p = []) ∨ ∃ qs p k, p ≠ [] ∧ ps = qs ++ p :: List.replicate k [] ∧ dropE ps = qs ++ [p] := by
  refine snocInd (P := fun ps => (dropE ps = [] ∧ ∀ p ∈ ps, p = []) ∨ ∃ qs p k, p ≠ [] ∧ ps = qs ++ p :: List.replicate k [] ∧ dropE ps = qs ++ [p]) (.inl ⟨rfl, by simp⟩) (fun ps p ih => ?_) ps
  by_cases hp : p = []
  · subst hp
    rcases ih with ⟨h1, h2⟩ | ⟨qs, q, k, h1, h2, h3⟩
    · refine .inl ⟨by rw [dropE_e, h1], fun p hp => ?_⟩
      rcases List.mem_append.mp hp with z | z
      · exact h2 p z
      · simpa using z
    · refine .inr ⟨qs, q, k + 1, h1, ?_, by rw [dropE_e, h3]⟩
      rw [List.replicate_succ', h2]
      simp
  · exact .inr ⟨ps, p, 0, hp, rfl, dropE_ne hp⟩
theorem mem_dropE {ps : List (List Nat)} {p : List Nat} (h : p ∈ dropE ps) : p ∈ ps := by
  rcases dropE_cut ps with ⟨h1, h2⟩ | ⟨qs, q, k, h1, h2, h3⟩
  · rw [h1] at h
    cases h
  · rw [h3] at h
    rw [h2]
    rcases List.mem_append.mp h with z | z
    · exact List.mem_append_left _ z
    · have e : p = q := by simpa using z
      subst e
      simp

/-! ### texts -/
theorem tl_strip {z : Str} : tl (Txt.rstripChars z "/") = rst (tl z) := by
  have e : ("/" : Str).cps = #[47] := by decide +kernel
  unfold Txt.rstripChars
  rw [PySem.W.stripBy_eq]
  show tl (strSub z 0 (z.length - (((tl z).drop 0).reverse.takeWhile ("/" : Str).cps.contains).length)) = _
  rw [tl_strSub, List.drop_zero, e, len_tl]
  have e2 : (fun c => (#[47] : Array Nat).contains c) = fun c => decide (c = 47) := by
    funext c
    simp
  show ((tl z).drop 0).take ((tl z).length - ((tl z).reverse.takeWhile (fun c => (#[47] : Array Nat).contains c)).length - 0) = _
  rw [e2]
  unfold rst
  generalize tl z = l
  generalize (fun c => decide (c = 47)) = f
  have h1 : l.reverse = l.reverse.takeWhile f ++ l.reverse.dropWhile f := (List.takeWhile_append_dropWhile).symm
  have h2 : l = (l.reverse.dropWhile f).reverse ++ (l.reverse.takeWhile f).reverse := by
    rw [← List.reverse_append, ← h1, List.reverse_reverse]
  have h3 : l.length = (l.reverse.dropWhile f).length + (l.reverse.takeWhile f).length := by
    have := congrArg List.length h2
    simpa using this
  rw [List.drop_zero]
  have h4 : l.length - (l.reverse.takeWhile f).length - 0 = (l.reverse.dropWhile f).reverse.length := by
    rw [List.length_reverse]
    omega
  rw [h4]
  have h5 : List.take (l.reverse.dropWhile f).reverse.length ((l.reverse.dropWhile f).reverse ++ (l.reverse.takeWhile f).reverse) = (l.reverse.dropWhile f).reverse := List.take_left
  rw [← h2] at h5
  exact h5
theorem tl_rmsuf {z y : Str} {a : List Nat} (h : tl z = a ++ tl y) (hy : tl y ≠ []) : tl (Txt.removesuffix z y) = a := by
  have hl : z.length = a.length + y.length := by
    rw [len_tl, len_tl y, h, List.length_append]
  have hy1 : 1 ≤ y.length := len1 hy
  have hs : subAt z y (z.length - y.length) = true := by
    rw [PySem.StrLaws.subAt_eq]
    rw [show z.length - y.length = a.length by omega]
    have e : z.cps.toList = a ++ tl y := h
    rw [e, List.drop_left, len_tl y, List.take_length]
    simp [tl]
  unfold Txt.removesuffix
  rw [hs, Bool.and_true, if_pos (decide_eq_true (show y.length ≤ z.length by omega))]
  show tl (if (z.length - y.length - 0 == z.length) = true then z else strSub z 0 (z.length - y.length)) = a
  rw [if_neg (by simp; omega)]
  rw [tl_strSub, h, List.drop_zero]
  rw [show z.length - y.length - 0 = a.length by omega]
  exact List.take_left
theorem tl_ext {x : Str} {l : List Nat} (h : tl x = l) : x = mk l := by
  rw [← h]
  exact (mk_tl x).symm
theorem steps_tl (z : Str) : (steps z) = ((pcs (tl z)).filter fun p => !p.isEmpty).map mk := by
  unfold steps pieces
  rw [List.filter_map]
  congr 1
  refine List.filter_congr fun p _ => ?_
  show (!decide (mk p = "")) = !p.isEmpty
  congr 1
  cases p with
  | nil => exact decide_eq_true (by decide +kernel)
  | cons a b =>
    refine decide_eq_false fun z => ?_
    have e : tl (mk (a :: b)) = tl ("" : Str) := congrArg tl z
    have e2 : tl ("" : Str) = [] := by decide +kernel
    rw [e2] at e
    cases e
theorem mk_nil : mk [] = ("" : Str) := by decide +kernel
theorem mk_eq_nil {l : List Nat} : mk l = ("" : Str) ↔ l = [] := by
  constructor
  · intro h
    rw [← mk_nil] at h
    exact mk_inj h
  · rintro rfl
    exact mk_nil
/-- a path that has steps: all ahead of the last, the last -/
theorem steps_cut (z : Str) : (steps z = []) ∨ ∃ qs p k, p ≠ [] ∧ pcs (tl z) = qs ++ p :: List.replicate k [] ∧ dropE (pcs (tl z)) = qs ++ [p] ∧ (steps z).getLast? = some (mk p) ∧ steps z ≠ [] := by
  rcases dropE_cut (pcs (tl z)) with ⟨h1, h2⟩ | ⟨qs, p, k, h1, h2, h3⟩
  · left
    rw [steps_tl]
    have e : (pcs (tl z)).filter (fun p => !p.isEmpty) = [] := by
      rw [List.filter_eq_nil_iff]
      intro p hp
      rw [h2 p hp]
      simp
    rw [e]
    rfl
  · right
    have e : steps z = ((qs.filter fun p => !p.isEmpty) ++ [p]).map mk := by
      rw [steps_tl, h2, List.filter_append]
      have e2 : (p :: List.replicate k []).filter (fun p => !p.isEmpty) = [p] := by
        rw [List.filter_cons_of_pos (by simpa using h1)]
        congr 1
        rw [List.filter_eq_nil_iff]
        intro q hq
        rw [(List.mem_replicate.mp hq).2]
        simp
      rw [e2]
    refine ⟨qs, p, k, h1, h2, h3, ?_, ?_⟩
    · rw [e, List.map_append]
      exact List.getLast?_concat
    · rw [e]
      simp
theorem pcs_suf {z : Str} {qs : List (List Nat)} {p : List Nat} (h : dropE (pcs (tl z)) = qs ++ [p]) : beginL (tl z) = jn (dropE qs) := by
  unfold beginL
  rw [h, List.dropLast_concat]
/-- what the program's head is -/
theorem head_eq {z : Str} {qs : List (List Nat)} {p : List Nat} (hp : p ≠ []) (h : dropE (pcs (tl z)) = qs ++ [p]) : Txt.rstripChars (Txt.removesuffix (Txt.rstripChars z "/") (mk p)) "/" = mk (beginL (tl z)) := by
  apply ext_tl
  have hm : ∀ q ∈ qs, 47 ∉ q := fun q hq => pcs_noslash (l := tl z) (mem_dropE (by rw [h]; exact List.mem_append_left _ hq))
  have e1 : tl (Txt.rstripChars z "/") = jn (qs ++ [p]) := by rw [tl_strip, ← jn_dropE, h]
  rw [tl_strip, pcs_suf h]
  rw [jn_snoc] at e1
  by_cases h0 : qs = []
  · subst h0
    rw [if_pos rfl] at e1
    rw [tl_rmsuf (a := []) e1 hp]
    rfl
  · rw [if_neg h0] at e1
    have e2 : jn qs ++ 47 :: p = (jn qs ++ [47]) ++ tl (mk p) := by
      show _ = (jn qs ++ [47]) ++ p
      simp
    rw [e2] at e1
    rw [tl_rmsuf e1 hp, rst_bar, rst_jn hm]
    rfl
/-- all pieces are allowed -/
def Good (l : List Nat) : Prop := ∀ p ∈ pcs l, (dotty (mk p) || isName (mk p)) = true
theorem isPath_iff {z : Str} : isPath z = true ↔ z ≠ "" ∧ Good (tl z) := by
  unfold isPath Good pieces
  rw [Bool.and_eq_true, List.all_map, List.all_eq_true]
  simp
theorem dotty_nil : dotty (mk []) = true := by decide +kernel
theorem good_cat {a b : List Nat} (ha : Good a) (hb : Good b) : Good (a ++ 47 :: b) := fun p hp => by
  rw [pcs_cat] at hp
  rcases List.mem_append.mp hp with z | z
  · exact ha p z
  · exact hb p z
theorem good_nil : Good [] := fun p hp => by
  have e : p = [] := by simpa [pcs] using hp
  subst e
  decide +kernel
theorem good_cut {a b : List Nat} (h : Good (a ++ 47 :: b)) : Good a ∧ Good b := by
  unfold Good at h ⊢
  rw [pcs_cat] at h
  exact ⟨fun p hp => h p (List.mem_append_left _ hp), fun p hp => h p (List.mem_append_right _ hp)⟩
theorem good_bars {a b : List Nat} (ha : Good a) (hb : Good b) : ∀ n : Nat, Good (a ++ List.replicate (n + 1) 47 ++ b)
  | 0 => by
    have := good_cat ha hb
    simpa using this
  | n + 1 => by
    have e : a ++ List.replicate (n + 1 + 1) 47 ++ b = a ++ List.replicate (n + 1) 47 ++ (47 :: b) := by
      rw [List.replicate_succ' (n := n + 1)]
      simp
    rw [e]
    exact good_bars ha (good_cat good_nil hb) n
theorem begin_path {z : Str} (h : isPath z = true) : isPath (begin z) = true := by
  unfold begin
  by_cases h1 : steps z = []
  · rw [if_pos h1]
    exact h
  · rw [if_neg h1]
    by_cases h2 : beginL (tl z) = []
    · rw [if_pos h2]
      split <;> decide +kernel
    · rw [if_neg h2]
      rcases steps_cut z with z1 | ⟨qs, p, k, q1, q2, q3, q4, q5⟩
      · exact absurd z1 h1
      · have hb := pcs_suf q3
        rw [hb] at h2 ⊢
        have hm : ∀ q ∈ dropE qs, q ∈ pcs (tl z) := fun q hq => by
          rw [q2]
          exact List.mem_append_left _ (mem_dropE hq)
        refine isPath_iff.mpr ⟨fun z => h2 (mk_eq_nil.mp z), fun q hq => ?_⟩
        rw [tl_mk', pcs_jn _ (fun z => h2 (by rw [z]; rfl)) fun q hq => pcs_noslash (hm q hq)] at hq
        exact (isPath_iff.mp h).2 q (hm q hq)
theorem jn_len : ∀ {ps : List (List Nat)}, (jn ps).length + 1 = (ps.map fun p => p.length + 1).sum ∨ ps = []
  | [] => .inr rfl
  | [p] => .inl (by simp [jn])
  | p :: q :: r => .inl (by
    rcases jn_len (ps := q :: r) with h | h
    · show (p ++ 47 :: jn (q :: r)).length + 1 = _
      rw [List.map_cons, List.sum_cons, ← h]
      simp
      omega
    · cases h)
theorem rst_len (l : List Nat) : (rst l).length ≤ l.length := by
  unfold rst
  rw [List.length_reverse]
  have z := (List.dropWhile_sublist (fun c => decide (c = 47)) (l := l.reverse)).length_le
  rw [List.length_reverse] at z
  exact z
end DT

/-! DDraw: the stream opened; lists compared with lists. -/
namespace DD
open PySem L2
open PySem.Spec PyProof.Rows

/-- what m describes m' describes too -/
def Conv (m m' : Mem) : Prop := ∀ (K : PySem.W.Frag) (F Hb H : Hp), Rel K F Hb H m → Rel K F Hb H m'
section
variable {K : PySem.W.Frag} {B F Hb H : Hp} {m : Mem} {ρ : Env}
theorem Conv.refl : Conv m m := fun _ _ _ _ r => r
theorem we_conv {te : TE} {Q Q' : QD} (h : WE K F B te ρ m Q) (hq : ∀ d m', Q d m' → ∃ m2, Conv m' m2 ∧ Q' d m2) : WE K F B te ρ m Q' := fun Hb H σ R hB r hs k =>
  h Hb H σ R hB r hs fun v H1 Hb1 d m1 e1 r1 hd q1 => by
    obtain ⟨m2, c, q⟩ := hq d m1 q1
    exact k v H1 Hb1 d m2 e1 (c _ _ _ _ r1) hd q
theorem we_pre {te : TE} {m2 : Mem} {Q : QD} (c : Conv m m2) (h : WE K F B te ρ m2 Q) : WE K F B te ρ m Q := fun Hb H σ R hB r hs k => h Hb H σ R hB (c _ _ _ _ r) hs k
theorem ws_pre {t : TS} {m2 : Mem} {E : DE} (c : Conv m m2) (h : WS K F B t ρ m2 E) : WS K F B t ρ m E := fun Hb H σ R hB r hs k => h Hb H σ R hB (c _ _ _ _ r) hs k
theorem wt_pre {t : TT} {m2 : Mem} {Q : Bool → Mem → Prop} (c : Conv m m2) (h : WT K F B t ρ m2 Q) : WT K F B t ρ m Q := fun Hb H σ R hB r hs k => h Hb H σ R hB (c _ _ _ _ r) hs k
theorem Conv.count {n : Nat} (h : m.cnt ≤ n) : Conv m { m with cnt := n } := fun _ _ _ _ r => r.count h
def opened (own : Addr → Option MO) (p c : Addr) (s1 s2 s3 : Int) (ns : List Int) : Addr → Option MO :=
  putM (putM own c (.lst ((ns.map V.int).map D.s))) p (.lst [.s (.ref c), .s (.int s1), .s (.int s2), .s (.int s3)])
theorem opened_p {own : Addr → Option MO} {p c : Addr} {s1 s2 s3 : Int} {ns : List Int} : opened own p c s1 s2 s3 ns p = some (.lst [.s (.ref c), .s (.int s1), .s (.int s2), .s (.int s3)]) := putM_same
theorem opened_c {own : Addr → Option MO} {p c : Addr} {s1 s2 s3 : Int} {ns : List Int} (h : p ≠ c) : opened own p c s1 s2 s3 ns c = some (.lst ((ns.map V.int).map D.s)) := by
  unfold opened
  rw [putM_ne (Ne.symm h)]
  exact putM_same
theorem put4 {own : Addr → Option MO} {p c : Addr} {s1 s2 s3 t1 t2 t3 : Int} {ns : List Int} : putM (opened own p c s1 s2 s3 ns) p (.lst [.s (.ref c), .s (.int t1), .s (.int t2), .s (.int t3)]) = opened own p c t1 t2 t3 ns := putM_put
theorem putc {own : Addr → Option MO} {p c : Addr} {s1 s2 s3 : Int} {ns ns' : List Int} (h : p ≠ c) : putM (opened own p c s1 s2 s3 ns) c (.lst ((ns'.map V.int).map D.s)) = opened own p c s1 s2 s3 ns' := by
  funext b
  unfold opened putM
  by_cases h1 : b = c
  · have h2 : ¬ b = p := fun z => h (z.symm.trans h1)
    rw [if_pos h1, if_neg h2, if_pos h1]
  · rw [if_neg h1, if_neg h1, if_neg h1]
/-- the stream is opened -/
theorem ws_open {t : TS} {E : DE} {p c : Addr} (hp : m.own p = some (.stm c)) (hc : m.own c = some .cel) (hpc : p ≠ c)
    (h : ∀ s1 s2 s3 ns, StOk s1 s2 s3 m.cnt → ns.length ≤ 63 → WS K F B t ρ { m with own := opened m.own p c s1 s2 s3 ns } E) : WS K F B t ρ m E := fun Hb H σ R hB r hs k => by
  obtain ⟨np, s1, s2, s3, h1, h2⟩ := r.own _ _ hp
  obtain ⟨nc, ns, h3, h4⟩ := r.own _ _ hc
  refine h s1 s2 s3 ns h2 h4 Hb H σ R hB ⟨r.sub, fun b o e => ⟨(r.fr b o e).1, (r.fr b o e).2.1, ?_⟩, fun b mo e => ?_⟩ hs k
  · have z1 := ne_fr e (r.ownF hp)
    have z2 := ne_fr e (r.ownF hc)
    show opened m.own p c s1 s2 s3 ns b = none
    unfold opened
    rw [putM_ne z1, putM_ne z2]
    exact (r.fr b o e).2.2
  · have e' : opened m.own p c s1 s2 s3 ns b = some mo := e
    by_cases z1 : b = p
    · subst z1
      rw [opened_p] at e'
      cases e'
      exact ⟨np, _, h1, RpL.ofScal [.ref c, .int s1, .int s2, .int s3]⟩
    · by_cases z2 : b = c
      · subst z2
        rw [opened_c (Ne.symm z1)] at e'
        cases e'
        exact ⟨nc, _, h3, RpL.ofScal _⟩
      · unfold opened at e'
        rw [putM_ne z1, putM_ne z2] at e'
        exact r.own b mo e'
/-- .. and closed -/
theorem Conv.close {own : Addr → Option MO} {n n' : Nat} {p c : Addr} {s1 s2 s3 : Int} {ns : List Int} (hp : own p = some (.stm c)) (hc : own c = some .cel) (hpc : p ≠ c) (hn : n ≤ n') (hs : StOk s1 s2 s3 n') (hl : ns.length ≤ 63) :
    Conv ⟨n, opened own p c s1 s2 s3 ns⟩ ⟨n', own⟩ := fun K F Hb H r => by
  obtain ⟨np, vs, h1, h2⟩ := r.own p _ opened_p
  obtain ⟨nc, us, h3, h4⟩ := r.own c _ (opened_c hpc)
  have e1 : vs = [.ref c, .int s1, .int s2, .int s3] := RpL.scal (vs := [.ref c, .int s1, .int s2, .int s3]) h2
  have e2 := RpL.scal h4
  subst e1 e2
  refine ⟨r.sub, fun b o e => ⟨(r.fr b o e).1, (r.fr b o e).2.1, ?_⟩, fun b mo e => ?_⟩
  · have z1 := ne_fr e (r.ownF opened_p)
    have z2 := ne_fr e (r.ownF (opened_c hpc))
    have z3 := (r.fr b o e).2.2
    have z4 : opened own p c s1 s2 s3 ns b = none := z3
    unfold opened at z4
    rw [putM_ne z1, putM_ne z2] at z4
    exact z4
  · have e' : own b = some mo := e
    by_cases z1 : b = p
    · subst z1
      rw [hp] at e'
      cases e'
      exact ⟨np, s1, s2, s3, h1, hs⟩
    · by_cases z2 : b = c
      · subst z2
        rw [hc] at e'
        cases e'
        exact ⟨nc, ns, h3, hl⟩
      · obtain ⟨q1, q2⟩ := r.own b mo (by show opened own p c s1 s2 s3 ns b = some mo; unfold opened; rw [putM_ne z1, putM_ne z2]; exact e')
        exact ⟨q1, q2.mono (Same.refl _) rfl hn⟩
/-- o[i] = e, o an owned list -/
theorem ws_setO {te to ti : TE} {E : DE} (h : WE K F B te ρ m fun y m1 => WE K F B to ρ m1 fun x m2 => WE K F B ti ρ m2 fun z m3 => ∃ a xs i j, x = .s (.ref a) ∧ z = .s (.int i) ∧ m3.own a = some (.lst xs) ∧ ixN xs.length i = some j ∧
      E.nx ρ { m3 with own := putM m3.own a (.lst (xs.set j y)) }) : WS K F B (tAsg te (gSub to ti rSetL)) ρ m E := fun Hb H σ R hB r hs k =>
  h Hb H σ _ hB r hs fun u H1 Hb1 y m1 e1 r1 hy q1 => q1 Hb1 H1 σ _ (hB.trans e1) r1 (hs.mono e1) fun o H2 Hb2 x m2 e2 r2 hx q2 =>
    q2 Hb2 H2 σ _ ((hB.trans e1).trans e2) r2 (hs.mono (e1.trans e2)) fun w H3 Hb3 z m3 e3 r3 hz q3 => by
      obtain ⟨a, xs, i, j, rfl, rfl, ho, hj, q⟩ := q3
      unfold Rp at hx hz
      obtain ⟨_, vs, h1, h2⟩ := r3.own _ _ ho
      refine ⟨a, vs, i, j, hx, hz, h1, by rw [h2.length]; exact hj, k.nx _ _ _ _ _ ((e1.trans e2).trans e3) (r3.change (mo' := .lst (xs.set j y)) ho ⟨_, upd_same, ?_⟩) (hs.mono ((e1.trans e2).trans e3)) q⟩
      exact h2.set j (hy.mono (e2.trans e3))
/-- xs.pop(0), xs an owned list -/
theorem we_pop0 {to ti : TE} {Q : QD} (h : WE K F B to ρ m fun x m1 => ∃ a, x = .s (.ref a) ∧ (∃ xs, m1.own a = some (.lst xs)) ∧ WE K F B ti ρ m1 fun z m2 => z = .s (.int 0) ∧ ∃ y ys, m2.own a = some (.lst (y :: ys)) ∧ Q y { m2 with own := putM m2.own a (.lst ys) }) :
    WE K F B (tBM K "list" rPopAt to (tCons ti tNil)) ρ m Q := fun Hb H σ R hB r hs k =>
  h Hb H σ _ hB r hs fun v H1 Hb1 x m1 e1 r1 hx q1 => by
    obtain ⟨a, rfl, ⟨xs0, ho0⟩, q⟩ := q1
    unfold Rp at hx
    subst hx
    obtain ⟨_, vs0, h0, _⟩ := r1.own _ _ ho0
    refine ⟨.inl ⟨rfl, _, SqL.of h0⟩, q Hb1 H1 σ _ (hB.trans e1) r1 (hs.mono e1) fun u H2 Hb2 z m2 e2 r2 hz q2 => ?_⟩
    obtain ⟨rfl, y, ys, ho, q3⟩ := q2
    unfold Rp at hz
    subst hz
    obtain ⟨_, vs, h1, h2⟩ := r2.own _ _ ho
    unfold RpL at h2
    obtain ⟨v0, vr, rfl, h3, h4⟩ := h2
    have hk : seqIndex? 0 (v0 :: vr).length = some 0 := by
      unfold seqIndex?
      simp
    refine ⟨a, v0 :: vr, 0, 0, v0, rfl, rfl, h1, by decide, by decide, hk, rfl, ?_⟩
    exact k _ _ _ _ _ (e1.trans e2) (r2.change (mo' := .lst ys) ho ⟨vr, upd_same, h4⟩) (h3) q3
/-- an owned list against a list -/
theorem wo_neO {a : Addr} {xs : List D} {y : D} {ps : List PyData} {b : PyData} {Q : QD} (ho : m.own a = some (.lst xs)) (ha : pyL xs = some ps) (hb : pyD y = some b) (sa : SeqAt.shaped (.list ps) = true) (sb : SeqAt.shaped b = true) (q : Q (.s (.bl (!PyData.eqv (.list ps) b))) m) : WO K F B (rNeA K) (.s (.ref a)) y m Q := fun Hb H vx vy R hB r hx hy k => by
  unfold Rp at hx
  subst hx
  obtain ⟨_, vs, h1, h2⟩ := r.own _ _ ho
  exact .inr ⟨_, b, .lst (SqL.of h1) (pyL_dp xs vs ps ha h2 r.sub), pyD_dp y vy b hb hy r.sub, sa, sb, k.here r rp_s q⟩
theorem pyL_ints : ∀ ns : List Int, pyL ((ns.map V.int).map D.s) = some (ns.map PyData.int)
  | [] => by simp [pyL]
  | n :: ns => by
    have ih := pyL_ints ns
    rw [List.map_cons, List.map_cons]
    unfold pyL
    rw [ih]
    rfl
theorem pyL_strs : ∀ zs : List Str, pyL (zs.map fun z => D.s (.str z)) = some (zs.map PyData.str)
  | [] => by simp [pyL]
  | z :: zs => by
    have ih := pyL_strs zs
    rw [List.map_cons]
    unfold pyL
    rw [ih]
    rfl
theorem shp_ints : ∀ ns : List Int, PyData.canLayAll0 (ns.map PyData.int) = true ∧ PyData.depthAll (ns.map PyData.int) = 0
  | [] => ⟨rfl, rfl⟩
  | n :: ns => by
    obtain ⟨h1, h2⟩ := shp_ints ns
    exact ⟨by rw [List.map_cons]; unfold PyData.canLayAll0; rw [h1]; rfl, by rw [List.map_cons]; unfold PyData.depthAll; rw [h2]; rfl⟩
theorem shp_strs : ∀ {zs : List Str}, (∀ z ∈ zs, PyData.strOk z = true) → PyData.canLayAll0 (zs.map PyData.str) = true ∧ PyData.depthAll (zs.map PyData.str) = 0
  | [], _ => ⟨rfl, rfl⟩
  | z :: zs, h => by
    obtain ⟨h1, h2⟩ := shp_strs (zs := zs) fun y hy => h y (List.mem_cons_of_mem _ hy)
    exact ⟨by rw [List.map_cons]; unfold PyData.canLayAll0; rw [h1]; unfold PyData.canLay0; rw [h z List.mem_cons_self]; rfl, by rw [List.map_cons]; unfold PyData.depthAll; rw [h2]; rfl⟩
theorem shaped_ints (ns : List Int) : SeqAt.shaped (.list (ns.map PyData.int)) = true := by
  obtain ⟨h1, h2⟩ := shp_ints ns
  unfold SeqAt.shaped PyData.canLay0 PyData.depth
  rw [h1, h2]
  rfl
theorem shaped_strs {zs : List Str} (h : ∀ z ∈ zs, PyData.strOk z = true) : SeqAt.shaped (.list (zs.map PyData.str)) = true := by
  obtain ⟨h1, h2⟩ := shp_strs h
  unfold SeqAt.shaped PyData.canLay0 PyData.depth
  rw [h1, h2]
  rfl
theorem eqv_nil (ps : List PyData) : PyData.eqv (.list ps) (.list []) = ps.isEmpty := by
  cases ps <;> rfl
/-- a list of numbers, of texts, and the empty list -/
theorem wo_neNilS {zs : List Str} {Q : QD} (h : ∀ z ∈ zs, PyData.strOk z = true) (q : Q (.s (.bl (!decide (zs = [])))) m) : WO K F B (rNeA K) (.lst (zs.map fun z => .s (.str z))) (.lst []) m Q := by
  refine wo_neD (a := .list (zs.map PyData.str)) (b := .list []) (by unfold pyD; rw [pyL_strs]; rfl) (by simp [pyD, pyL]) (shaped_strs h) (by decide) ?_
  rw [eqv_nil]
  cases zs with
  | nil => exact q
  | cons a b => exact q
theorem wo_eqNilI {ns : List Int} {Q : QD} (q : Q (.s (.bl (decide (ns = [])))) m) : WO K F B (rEqA K) (.lst ((ns.map V.int).map D.s)) (.lst []) m Q := by
  refine wo_eqD (a := .list (ns.map PyData.int)) (b := .list []) (by unfold pyD; rw [pyL_ints]; rfl) (by simp [pyD, pyL]) (shaped_ints ns) (by decide) ?_
  rw [eqv_nil]
  cases ns with
  | nil => exact q
  | cons a b => exact q
theorem wo_neNilO {a : Addr} {ns : List Int} {Q : QD} (ho : m.own a = some (.lst ((ns.map V.int).map D.s))) (q : Q (.s (.bl (!decide (ns = [])))) m) : WO K F B (rNeA K) (.s (.ref a)) (.lst []) m Q := by
  refine wo_neO ho (pyL_ints ns) (b := .list []) (by simp [pyD, pyL]) (shaped_ints ns) (by decide) ?_
  rw [eqv_nil]
  cases ns with
  | nil => exact q
  | cons a b => exact q
theorem eqvAll_strs : ∀ (xs ys : List Str), PyData.eqvAll (xs.map PyData.str) (ys.map PyData.str) = decide (xs = ys)
  | [], [] => rfl
  | [], _ :: _ => rfl
  | _ :: _, [] => rfl
  | x :: xs, y :: ys => by
    rw [List.map_cons, List.map_cons]
    unfold PyData.eqvAll
    rw [eqvAll_strs xs ys]
    unfold PyData.eqv
    rw [Bool.eq_iff_iff]
    simp
theorem wo_neStrs {xs ys : List Str} {Q : QD} (h : ∀ z ∈ xs, PyData.strOk z = true) (h' : ∀ z ∈ ys, PyData.strOk z = true) (q : Q (.s (.bl (!decide (xs = ys)))) m) : WO K F B (rNeA K) (.lst (xs.map fun z => .s (.str z))) (.lst (ys.map fun z => .s (.str z))) m Q := by
  refine wo_neD (a := .list (xs.map PyData.str)) (b := .list (ys.map PyData.str)) (by unfold pyD; rw [pyL_strs]; rfl) (by unfold pyD; rw [pyL_strs]; rfl) (shaped_strs h) (shaped_strs h') ?_
  unfold PyData.eqv
  rw [eqvAll_strs]
  exact q
theorem wo_eqStrs {xs ys : List Str} {Q : QD} (h : ∀ z ∈ xs, PyData.strOk z = true) (h' : ∀ z ∈ ys, PyData.strOk z = true) (q : Q (.s (.bl (decide (xs = ys)))) m) : WO K F B (rEqA K) (.lst (xs.map fun z => .s (.str z))) (.lst (ys.map fun z => .s (.str z))) m Q := by
  refine wo_eqD (a := .list (xs.map PyData.str)) (b := .list (ys.map PyData.str)) (by unfold pyD; rw [pyL_strs]; rfl) (by unfold pyD; rw [pyL_strs]; rfl) (shaped_strs h) (shaped_strs h') ?_
  unfold PyData.eqv
  rw [eqvAll_strs]
  exact q
end
end DD
namespace DT
open PySem L2 TL
theorem strOk_of {z : Str} (h : ∀ c ∈ tl z, c < 128) : PyData.strOk z = true := by
  unfold PyData.strOk
  simp only [Array.all_eq_true', decide_eq_true_eq]
  intro c hc
  have := h c (by simpa [tl] using hc)
  show c < 1114112
  omega
theorem letters_lt : letters.all (fun c => decide (97 ≤ c ∧ c < 123)) = true := by decide +kernel
theorem name_lt {z : Str} (h : isName z = true) : ∀ c ∈ tl z, 97 ≤ c ∧ c < 123 := fun c hc => by
  unfold isName at h
  simp only [Bool.and_eq_true, List.all_eq_true, decide_eq_true_eq] at h
  exact of_decide_eq_true (List.all_eq_true.mp letters_lt c (h.2.2 c hc))
theorem dotty_lt {z : Str} (h : dotty z = true) : ∀ c ∈ tl z, c = 46 := by
  rw [dotty_iff] at h
  simp only [Bool.or_eq_true, decide_eq_true_eq] at h
  rcases h with rfl | rfl | rfl
  · have e : tl ("" : Str) = [] := by decide +kernel
    intro c hc
    rw [e] at hc
    cases hc
  · have e : tl ("." : Str) = [46] := by decide +kernel
    intro c hc
    rw [e] at hc
    simpa using hc
  · have e : tl (".." : Str) = [46, 46] := by decide +kernel
    intro c hc
    rw [e] at hc
    simpa using hc
theorem mem_pcs : ∀ {l : List Nat} {c : Nat}, c ∈ l → c = 47 ∨ ∃ p ∈ pcs l, c ∈ p
  | d :: l, c, h => by
    by_cases hd : d = 47
    · subst hd
      rw [pcs_bar]
      rcases List.mem_cons.mp h with z | z
      · exact .inl z
      · rcases mem_pcs z with z | ⟨p, h1, h2⟩
        · exact .inl z
        · exact .inr ⟨p, List.mem_cons_of_mem _ h1, h2⟩
    · rw [pcs_cons _ hd]
      rcases List.mem_cons.mp h with z | z
      · subst z
        exact .inr ⟨_, List.mem_cons_self, List.mem_cons_self⟩
      · rcases mem_pcs z with z | ⟨p, h1, h2⟩
        · exact .inl z
        · have e := pcs_head l
          rw [← e] at h1
          rcases List.mem_cons.mp h1 with z | z
          · refine .inr ⟨_, List.mem_cons_self, List.mem_cons_of_mem _ ?_⟩
            rw [← z]
            exact h2
          · exact .inr ⟨p, List.mem_cons_of_mem _ z, h2⟩
theorem piece_lt {p : Str} (h : (dotty p || isName p) = true) : ∀ c ∈ tl p, c < 128 := fun c hc => by
  rcases (Bool.or_eq_true _ _).mp h with z | z
  · rw [dotty_lt z c hc]
    decide
  · have := name_lt z c hc
    omega
theorem path_lt {z : Str} (h : isPath z = true) : ∀ c ∈ tl z, c < 128 := fun c hc => by
  rcases mem_pcs hc with q | ⟨p, h1, h2⟩
  · rw [q]
    decide
  · exact piece_lt ((isPath_iff.mp h).2 p h1) c h2
theorem path_ok {z : Str} (h : isPath z = true) : PyData.strOk z = true := strOk_of (path_lt h)
theorem steps_ok {z : Str} (h : isPath z = true) : ∀ p ∈ steps z, PyData.strOk p = true := fun p hp => by
  unfold steps pieces at hp
  obtain ⟨q, hq, rfl⟩ := List.mem_map.mp (List.mem_filter.mp hp).1
  exact strOk_of (piece_lt ((isPath_iff.mp h).2 q hq))
theorem name_ok {z : Str} (h : isName z = true) : PyData.strOk z = true := strOk_of fun c hc => by
  have := name_lt h c hc
  omega
theorem name_bar {z : Str} (h : isName z = true) : 47 ∉ tl z := fun hc => by
  have := name_lt h 47 hc
  omega
end DT

/-! DOwn: operators of one's own classes, over data. -/
namespace DD
open PySem L2
open PySem.Spec PyProof.Rows
/-- an object of the class C, data or owned -/
def ObjD (m : Mem) (C : Addr) : D → Prop
  | .ins C' _ _ => C' = C
  | .s (.ref a) => ∃ ns ds, m.own a = some (.ins C ns ds)
  | _ => False
section
variable {K : PySem.W.Frag} {B F Hb H : Hp} {m : Mem} {ρ : Env} {C : Addr} {φ : Phi} {E : XK} {X : XD}
theorem ObjD.at {x : D} {v : V} (q : ObjD m C x) (r : Rel K F Hb H m) (hx : Rp K Hb x v) : ∃ a dx fs, v = .ref a ∧ H a = some (.ins C dx fs) := by
  cases x with
  | ins C' ns ds =>
    have e : C' = C := q
    subst e
    unfold Rp at hx
    obtain ⟨p, dx, vs, rfl, h1, h2, h3⟩ := hx
    exact ⟨p, dx, _, rfl, r.sub _ _ h1⟩
  | s v' =>
    cases v' with
    | ref a =>
      obtain ⟨ns, ds, ho⟩ := q
      unfold Rp at hx
      subst hx
      obtain ⟨_, dx, vs, h1, h2, h3⟩ := r.own _ _ ho
      exact ⟨a, dx, _, rfl, h1⟩
    | _ => exact q.elim
  | _ => exact q.elim
theorem wc_lenO {x : D} {Q : QD} (hE : OkX K F B X E) (hx : ObjD m C x) (h : φ [x] m (fun d m' => ∃ n : Int, d = .s (.int n) ∧ 0 ≤ n ∧ n < 2 ^ 63 ∧ Q (.s (.int n)) m') X) : WC K F B (HO1.rLenO C (spOf K φ) E) [x] m Q := fun Hb H vs R hB r hv k => by
  obtain ⟨v, rfl, hv1⟩ := rpL1 hv
  obtain ⟨a, dx, fs, rfl, ha⟩ := hx.at r hv1
  refine ⟨a, dx, fs, rfl, ha, _, m, F, Hb, _, X, hv, r, h, fun w H' Hb' d m' e r' hd q => ?_, hE.mono hB⟩
  obtain ⟨n, rfl, h0, h1, q⟩ := q
  unfold Rp at hd
  exact ⟨n, hd, h0, h1, k _ _ _ _ _ e r' rp_s q⟩
theorem wo_binO {x y : D} {Q : QD} (hE : OkX K F B X E) (hx : ObjD m C x) (hy : ObjD m C y) (h : φ [x, y] m Q X) : WO K F B (HO1.rBinO C (spOf K φ) E) x y m Q := fun Hb H vx vy R hB r hvx hvy k => by
  obtain ⟨a, dx, fs, rfl, ha⟩ := hx.at r hvx
  obtain ⟨b, dy, gs, rfl, hb⟩ := hy.at r hvy
  exact ⟨a, b, dx, dy, fs, gs, rfl, rfl, ha, hb, _, m, F, Hb, Q, X, RpL.cons hvx (RpL.cons hvy RpL.nil), r, h, k, hE.mono hB⟩
theorem wo_inO {neg : Bool} {x y : D} {Q : QD} (hE : OkX K F B X E) (hy : ObjD m C y) (h : φ [y, x] m (fun d m' => ∃ b, d = .s (.bl b) ∧ Q (.s (.bl (if neg then !b else b))) m') X) : WO K F B (HO1.rInO C (spOf K φ) E neg) x y m Q := fun Hb H vx vy R hB r hvx hvy k => by
  obtain ⟨a, dx, fs, rfl, ha⟩ := hy.at r hvy
  refine ⟨a, dx, fs, rfl, ha, _, m, F, Hb, _, X, RpL.cons hvy (RpL.cons hvx RpL.nil), r, h, fun w H' Hb' d m' e r' hd q => ?_, hE.mono hB⟩
  obtain ⟨b, rfl, q⟩ := q
  unfold Rp at hd
  exact ⟨b, hd, k _ _ _ _ _ e r' rp_s q⟩
theorem wo_cmpO {x y : D} {t : Value} {Q : QD} (hE : OkX K F B X E) (hx : ObjD m C x) (hy : TyD K m y t) (hn : PySem.W.notFirst K C t = true) (h : φ [x, y] m Q X) : WO K F B (HO1.rCmpO K C (spOf K φ) E) x y m Q := fun Hb H vx vy R hB r hvx hvy k => by
  obtain ⟨a, dx, fs, rfl, ha⟩ := hx.at r hvx
  exact ⟨a, dx, fs, rfl, ha, ⟨t, hy.at r hvy, hn⟩, _, m, F, Hb, Q, X, RpL.cons hvx (RpL.cons hvy RpL.nil), r, h, k, hE.mono hB⟩
theorem wo_neOwn {x y : D} {t : Value} {Q : QD} (hE : OkX K F B X E) (hx : ObjD m C x) (hy : TyD K m y t) (hn : PySem.W.notFirst K C t = true) (h : φ [x, y] m (fun d m' => ∃ b, d = .s (.bl b) ∧ Q (.s (.bl (!b))) m') X) : WO K F B (HO1.rNeO K C (spOf K φ) E) x y m Q := fun Hb H vx vy R hB r hvx hvy k => by
  obtain ⟨a, dx, fs, rfl, ha⟩ := hx.at r hvx
  refine ⟨a, dx, fs, rfl, ha, ⟨t, hy.at r hvy, hn⟩, _, m, F, Hb, _, X, RpL.cons hvx (RpL.cons hvy RpL.nil), r, h, fun w H' Hb' d m' e r' hd q => ?_, hE.mono hB⟩
  obtain ⟨b, rfl, q⟩ := q
  unfold Rp at hd
  exact ⟨b, hd, k _ _ _ _ _ e r' rp_s q⟩
/-- the item at the end -/
theorem atI_last {α : Type} {xs : List α} {d : α} (h : xs.getLast? = some d) : atI xs (-1) = some d := by
  have hne : xs ≠ [] := fun z => by
    rw [z] at h
    cases h
  have hl : 0 < xs.length := List.length_pos_iff.mpr hne
  rw [List.getLast?_eq_getElem?] at h
  unfold atI ixN
  rw [if_neg (by decide), if_pos (by omega)]
  show xs[(-1 + (xs.length : Int)).toNat]? = some d
  rw [show (-1 + (xs.length : Int)).toNat = xs.length - 1 by omega]
  exact h
theorem atI_zero {α : Type} {xs : List α} {d : α} (h : xs.head? = some d) : atI xs 0 = some d := by
  cases xs with
  | nil => cases h
  | cons a as =>
    cases h
    unfold atI ixN
    rw [if_pos (by decide), if_pos (by simp)]
    rfl
theorem atI_nat {α : Type} {xs : List α} {i : Nat} {d : α} (h : xs[i]? = some d) : atI xs (i : Int) = some d := by
  have hi : i < xs.length := (List.getElem?_eq_some_iff.mp h).1
  unfold atI ixN
  rw [if_pos (by omega), if_pos (by omega)]
  show xs[(i : Int).toNat]? = some d
  rw [Int.toNat_natCast]
  exact h
theorem atI_int {α : Type} {xs : List α} {i : Int} (h0 : 0 ≤ i) (h1 : i < xs.length) : ∃ d, atI xs i = some d ∧ d ∈ xs := by
  have hi : i.toNat < xs.length := by omega
  refine ⟨xs[i.toNat], ?_, List.getElem_mem _⟩
  unfold atI ixN
  rw [if_pos h0, if_pos h1]
  exact List.getElem?_eq_getElem hi
/-- a cut between two statements -/
theorem ws_seqI {t u : TS} {E : DE} (I : DD.Env → Mem → Prop) (h1 : WS K F B t ρ m { E with nx := I }) (h2 : ∀ ρ1 m1, I ρ1 m1 → WS K F B u ρ1 m1 E) : WS K F B (tSeq t u) ρ m E :=
  ws_seq (ws_imp h1 (fun ρ1 m1 q => h2 ρ1 m1 q) (fun _ _ q => q) (fun _ _ q => q) (fun _ _ q => q))
/-- an item of a list, a tuple or a text -/
theorem wo_ixSeq {x : D} {xs : List D} {i : Int} {d : D} {Q : QD} (hs : seqD x = some xs) (hl : xs.length ≤ 1000000) (h : atI xs i = some d) (q : Q d m) : WO K F B (rIx K) x (.s (.int i)) m Q := by
  cases x with
  | lst ys =>
    cases hs
    exact wo_ixL h q
  | tup ys =>
    cases hs
    exact wo_ixT h q
  | s w =>
    cases w with
    | str t =>
      cases hs
      unfold atI at h
      rw [chrs_length] at h hl
      cases hj : ixN t.length i with
      | none =>
        rw [hj] at h
        cases h
      | some j =>
        rw [hj] at h
        have h' : (chrs t)[j]? = some d := h
        unfold chrs at h'
        rw [List.getElem?_map] at h'
        cases hc : t.cps.toList[j]? with
        | none =>
          rw [hc] at h'
          cases h'
        | some c =>
          rw [hc] at h'
          cases h'
          refine wo_ixS (le_line hl) (c := c) ?_ q
          unfold atI
          rw [show t.cps.toList.length = t.length from (TL.len_tl t).symm, hj]
          exact hc
    | _ => cases hs
  | _ => cases hs
theorem lenD_seq {x : D} {xs : List D} (hs : seqD x = some xs) (hl : xs.length ≤ 1000000) : lenD m x xs.length := by
  cases x with
  | lst ys =>
    cases hs
    rfl
  | tup ys =>
    cases hs
    rfl
  | s w =>
    cases w with
    | str t =>
      cases hs
      rw [chrs_length] at hl ⊢
      exact ⟨le_line hl, rfl⟩
    | _ => cases hs
  | _ => cases hs
theorem zip_self : ∀ {xs : List D} {p : D × D}, p ∈ xs.zip xs → p.1 = p.2 ∧ p.1 ∈ xs
  | [], p, h => by cases h
  | x :: xs, p, h => by
    rw [List.zip_cons_cons] at h
    rcases List.mem_cons.mp h with z | z
    · subst z
      exact ⟨rfl, List.mem_cons_self⟩
    · obtain ⟨z1, z2⟩ := zip_self z
      exact ⟨z1, List.mem_cons_of_mem _ z2⟩
theorem len_le_of_sub {α : Type} [DecidableEq α] : ∀ {xs ys : List α}, xs.Nodup → (∀ x ∈ xs, x ∈ ys) → xs.length ≤ ys.length
  | [], ys, _, _ => Nat.zero_le _
  | x :: xs, ys, hn, hs => by
    have hx := hs x List.mem_cons_self
    obtain ⟨h1, h2⟩ := List.nodup_cons.mp hn
    have ih := len_le_of_sub (xs := xs) (ys := ys.erase x) h2 fun y hy => by
      have hne : y ≠ x := fun z => h1 (z ▸ hy)
      exact (List.mem_erase_of_ne hne).mpr (hs y (List.mem_cons_of_mem _ hy))
    rw [List.length_erase_of_mem hx] at ih
    have := List.length_pos_of_mem hx
    simp only [List.length_cons]
    omega
end
end DD
namespace DT
open PySem L2 TL PySem.StrLaws
theorem tl_emp : tl Str.empty = [] := rfl
theorem tl_join0 : ∀ zs : List Str, tl (Txt.join "" zs) = (zs.map tl).flatten := fun zs => by
  have e0 : tl ("" : Str) = [] := by decide +kernel
  show tl (Builtin.Str.glued "" zs) = _
  rw [glued_eq_join]
  induction zs with
  | nil => rfl
  | cons z zs ih =>
    cases zs with
    | nil => simp [Str.join]
    | cons y ys =>
      show tl (z ++ "" ++ Str.join "" (y :: ys)) = _
      rw [tl_append, tl_append, e0, ih]
      simp
theorem tl_joinB : ∀ ps : List (List Nat), tl (Txt.join "/" (ps.map mk)) = jn ps := fun ps => by
  have e0 : tl ("/" : Str) = [47] := by decide +kernel
  show tl (Builtin.Str.glued "/" (ps.map mk)) = _
  rw [glued_eq_join]
  induction ps with
  | nil => rfl
  | cons z zs ih =>
    cases zs with
    | nil => rfl
    | cons y ys =>
      show tl (mk z ++ "/" ++ Str.join "/" ((y :: ys).map mk)) = _
      rw [tl_append, tl_append, e0, ih]
      show z ++ [47] ++ _ = z ++ 47 :: _
      simp
end DT

/-! DKw: defs with defaults, calls by keywords, pop, a constant tuple. -/
namespace DD
open PySem L2
open PySem.Spec PyProof.Rows
section
variable {P : Program} {w : World} {K : PySem.W.Frag} {mg : Str → Option Value} {base : Heap} {B F Hb H : Hp} {m : Mem} {ρ : DD.Env}
theorem funD_mk {x qual : Str} {st : Stmt} {f T : Addr} {oc ot : Value} {od an odT : Option Addr} {osl slT : Array (Option Value)} {kV doc pm cdv ct : Value} {its : List Value} {n : Nat} {dvs : List V}
    (l : K.lookup f = some ⟨oc, od, .func (PySem.W.fnOf x qual (defArgs st) (defBody st) (defScope st) (.ref T) kV doc pm an cdv ct), osl⟩) (c : PySem.W.codeIn K cdv qual = true) (k : PySem.W.keepIn K (.ref f) = true)
    (lT : K.lookup T = some ⟨ot, odT, .seq its.toArray n, slT⟩) (r : Vals dvs its) (hd : dvs ≠ []) :
    FunD K x qual (defArgs st) (defBody st) (defScope st) dvs [] f (PySem.W.fnOf x qual (defArgs st) (defBody st) (defScope st) (.ref T) kV doc pm an cdv ct) :=
  ⟨⟨oc, od, .ref T, kV, doc, pm, an, cdv, ct, osl, rfl, l, c, .inr ⟨hd, T, _, its, n, rfl, lT, rfl, r⟩, .inl rfl⟩, k⟩
theorem allB {x qual : Str} {pa : Arguments} {bo : List Stmt} {sc : Scope} {dvs : List V} {f : Addr} {fd : FuncData} {ps : List Str} (F : FunD K x qual pa bo sc dvs [] f fd) (hd : dvs ≠ [])
    (h : ∀ (T : Addr) (kV doc pm : Value) (an : Option Addr) (cdv ct : Value) (us its : List Value), us.length = ps.length → its.length = dvs.length →
      ∃ k, bindArgs (PySem.W.fnOf x qual pa bo sc (.ref T) kV doc pm an cdv ct) ⟨us, []⟩ = seqItems? (.ref T) >>= k ∧ k (some its.toArray) = pure (ps.zip us)) : Binds K fd ps [] := by
  obtain ⟨ds, r, b⟩ := F.binds1 (ps := ps) ps.length dvs.length hd (by omega) fun T kV doc pm an cdv ct us its l1 l2 => by
    obtain ⟨k, e1, e2⟩ := h T kV doc pm an cdv ct us its l1 l2
    refine ⟨k, e1, ?_⟩
    rw [e2, ← l2, List.drop_length, List.append_nil]
  rw [List.drop_length] at r
  cases r
  exact b
theorem ok_DD {CX : CXT} {x qual : Str} {st : Stmt} {dvs : List V} {f : Addr} {fd : FuncData} {N ps : List Str} {k : Nat} {φ : Phi} (F : FunD K x qual (defArgs st) (defBody st) (defScope st) dvs [] f fd) (S : FnScope N ps (defScope st)) (hl : ∀ ds m nx X, φ ds m nx X → ds.length = ps.length)
    (hbody : ∀ (cdv : Value) (A : Around) (outer : List PySem.Env) (s : Shared) (H : Hp) (E : XK), Room k (A.deeper (envOfC qual (defScope st) s.heap.objs.size f cdv)) →
      ∃ t, PSs (cxOf CX P w K mg base N qual (defScope st) f cdv A outer s H E) (defBody st) t ∧ BodyOk K φ N E t) : FnOk P w K mg base CX (k + 1) f fd ps (spOf K φ) := by
  refine F.ok S (spOf_len hl) fun cdv A outer s H vs Q E hr h => ?_
  obtain ⟨ds, m, F', Hb, nx, X, h1, h2, h3, h4, h5⟩ := h
  obtain ⟨t, ht, hw⟩ := hbody cdv A outer s H E hr
  exact ⟨t, ht, hw ds m nx X F' Hb h3 h5 Hb H _ _ (Same.refl _) h2 (RpS.start h1) ⟨fun σ H' Hb' ρ m' e r hs q => h4 _ _ _ _ _ e r rp_s q, h4, fun _ _ _ _ _ _ _ _ z => z.elim, fun _ _ _ _ _ _ _ _ z => z.elim⟩⟩
theorem vals_app {vs zs : List V} {us ws : List Value} (h : Vals vs us) (h' : Vals zs ws) : Vals (vs ++ zs) (us ++ ws) := h.append h'
theorem kbn_mk {x qual : Str} {st : Stmt} {f : Addr} {fd : FuncData} {ps ks : List Str} {n : Nat} (F : Fun K x qual st f fd)
    (h : ∀ (kV doc pm : Value) (an : Option Addr) (cdv ct : Value) (us ws : List Value), us.length = n → ws.length = ks.length → bindArgs (PySem.W.fnOf x qual (defArgs st) (defBody st) (defScope st) .none kV doc pm an cdv ct) ⟨us, ks.zip ws⟩ = pure (ps.zip (us ++ ws))) :
    KBn K fd ps n ks (fun us ws => us ++ ws) (fun vs zs => vs ++ zs) := by
  obtain ⟨oc, od, kV, doc, pm, an, cdv, ct, osl, rfl, lk, hcd⟩ := F.ex
  exact ⟨fun s us ws X l1 l2 => .of_eq (h kV doc pm an cdv ct us ws l1 l2), fun r1 r2 => vals_app r1 r2⟩
theorem we_callN {φ : Phi} {E : XK} {n l : Nat} {ta tk : TA} {X : XD} {Q : QD} (hE : OkX K F B X E) (h : WA K F B ta ρ m fun ds m1 => WA K F B tk ρ m1 fun es m2 => ds.length = n ∧ es.length = l ∧ φ (ds ++ es) m2 Q X) :
    WE K F B (tCallN n l (spOf K φ) (fun vs zs => vs ++ zs) E ta tk) ρ m Q := fun Hb H σ R hB r hs k =>
  h Hb H σ _ hB r hs fun vs H1 Hb1 ds m1 e1 r1 hx q1 => q1 Hb1 H1 σ _ (hB.trans e1) r1 (hs.mono e1) fun zs H2 Hb2 es m2 e2 r2 hz q2 =>
    ⟨by rw [hx.length]; exact q2.1, by rw [hz.length]; exact q2.2.1, _, m2, F, Hb2, Q, X, (hx.mono e2).app hz, r2, q2.2.2, k.mono (e1.trans e2), hE.mono (hB.trans (e1.trans e2))⟩
/-- xs.pop(), xs an owned list -/
theorem we_pop {to : TE} {Q : QD} (h : WE K F B to ρ m fun x m1 => ∃ a xs y, x = .s (.ref a) ∧ m1.own a = some (.lst (xs ++ [y])) ∧ Q y { m1 with own := putM m1.own a (.lst xs) }) :
    WE K F B (tBM0 K "list" rPop to) ρ m Q := fun Hb H σ R hB r hs k =>
  h Hb H σ _ hB r hs fun v H1 Hb1 x m1 e1 r1 hx q1 => by
    obtain ⟨a, xs, y, rfl, ho, q⟩ := q1
    unfold Rp at hx
    subst hx
    obtain ⟨_, vs, h1, h2⟩ := r1.own _ _ ho
    have hl := h2.length
    obtain ⟨u, hu, ru⟩ := h2.get (i := xs.length) (d := y) (by simp)
    have e : vs.dropLast = vs.take xs.length := by
      rw [List.dropLast_eq_take, hl]
      simp
    refine ⟨.inl ⟨rfl, _, SqL.of h1⟩, a, vs, u, rfl, rfl, h1, ?_, ?_⟩
    · rw [hl]
      simpa using hu
    · refine k _ _ _ _ _ e1 (r1.change (mo' := .lst xs) ho ⟨_, upd_same, ?_⟩) ru q
      rw [e]
      have z := h2.take xs.length
      rw [List.take_left] at z
      exact z
/-- a constant tuple of the top -/
theorem we_cT {a : Addr} {vs : List V} {Q : QD} (h : ∀ H, SqT K H a vs) (q : Q (.tup (vs.map D.s)) m) : WE K F B (tC (.ref a)) ρ m Q := fun Hb H σ R hB r hs k => by
  refine k.here r (d := .tup (vs.map D.s)) ?_ q
  unfold Rp
  exact ⟨a, vs, rfl, h Hb, RpL.ofScal vs⟩
/-- any list against the empty one -/
theorem wo_neNil {xs : List D} {ps : List PyData} {Q : QD} (h : pyL xs = some ps) (s : SeqAt.shaped (.list ps) = true) (q : Q (.s (.bl (!decide (xs = [])))) m) : WO K F B (rNeA K) (.lst xs) (.lst []) m Q := by
  refine wo_neD (a := .list ps) (b := .list []) (by unfold pyD; rw [h]; rfl) (by simp [pyD, pyL]) s (by decide) ?_
  rw [eqv_nil]
  cases xs with
  | nil =>
    have e : ps = [] := by
      unfold pyL at h
      exact (Option.some.inj h).symm
    subst e
    exact q
  | cons a b =>
    cases ps with
    | nil =>
      unfold pyL at h
      cases e1 : pyD a with
      | none =>
        rw [e1] at h
        cases h
      | some y =>
        rw [e1] at h
        cases e2 : pyL b with
        | none =>
          rw [e2] at h
          cases h
        | some z =>
          rw [e2] at h
          cases h
    | cons y z => exact q
theorem wo_neNilOS {a : Addr} {zs : List Str} {Q : QD} (ho : m.own a = some (.lst (zs.map fun z => .s (.str z)))) (h : ∀ z ∈ zs, PyData.strOk z = true) (q : Q (.s (.bl (!decide (zs = [])))) m) : WO K F B (rNeA K) (.s (.ref a)) (.lst []) m Q := by
  refine wo_neO ho (pyL_strs zs) (b := .list []) (by simp [pyD, pyL]) (shaped_strs h) (by decide) ?_
  rw [eqv_nil]
  cases zs with
  | nil => exact q
  | cons a b => exact q
/-- a comprehension whose list is owned from then on -/
theorem we_lcO {wi : TI} {g : TG} {tt : TT} {te : TE} {vs : List Nat} {Q : QD} (h : WI K F B wi ρ m fun xs m1 => ∃ I : Nat → List D → Mem → Prop, I 0 [] m1 ∧
      (∀ F' i d acc m', xs[i]? = some d → I i acc m' → WGw K F' B g vs d ρ m' fun ρ2 m2 => WT K F' B tt ρ2 m2 fun b m3 =>
        (b = true → WE K F' B te ρ2 m3 fun y m4 => acc.length < sizeLine ∧ I (i + 1) (acc ++ [y]) m4) ∧ (b = false → I (i + 1) acc m3)) ∧ (∀ acc m' A, m'.own A = none → I xs.length acc m' → Q (.s (.ref A)) { m' with own := putM m'.own A (.lst acc) })) :
    WE K F B (tLc wi g tt te vs) ρ m Q := fun Hb H σ R hB r hs k =>
  h Hb H σ _ hB r hs fun J H1 Hb1 xs m1 e1 r1 hj q1 => by
    obtain ⟨I, h0, ht, hd⟩ := q1
    intro A hA
    have hF : F A = none := r1.nofr hA
    refine ⟨fun i n H' => n = xs.length - i ∧ i ≤ xs.length ∧ ∃ Hb' acc us m', Same Hb1 Hb' ∧ Rel K (upd F A (.lst us)) Hb' H' m' ∧ RpL K Hb' acc us ∧ I i acc m', ⟨xs.length, by simp, Nat.zero_le _, Hb1, [], [], m1, Same.refl _, r1.aside hA, RpL.nil, h0⟩, ?_⟩
    rintro i n H' ⟨rfl, hi, Hb', acc, us, m', e', r', ha, hI⟩
    by_cases hlt : i < xs.length
    · obtain ⟨hgo, hy⟩ := (hj i _ Hb' H' m' e' r').2 xs[i] (by simp [hlt])
      refine .inr ⟨hgo, fun H2 => ∃ Hb2 acc2 us2 m2, Same Hb1 Hb2 ∧ Rel K (upd F A (.lst us2)) Hb2 H2 m2 ∧ RpL K Hb2 acc2 us2 ∧ I (i + 1) acc2 m2, fun H2 q2 => ⟨xs.length - (i + 1), by omega, rfl, hlt, q2⟩, fun x H2 y => ?_⟩
      obtain ⟨Hb2, e2, r2, hx⟩ := hy x H2 y
      have eB : Same B Hb2 := (hB.trans e1).trans (e'.trans e2)
      refine ht (upd F A (.lst us)) i xs[i] acc m' (by simp [hlt]) hI Hb2 H2 σ x _ eB r2 (hs.mono ((e1.trans e').trans e2)) hx fun σ3 H3 Hb3 ρ3 m3 e3 r3 hs3 q3 => ?_
      refine q3 Hb3 H3 σ3 _ (eB.trans e3) r3 hs3 fun b H4 Hb4 m4 e4 r4 q4 => ?_
      have e14 : Same Hb1 Hb4 := ((e'.trans e2).trans e3).trans e4
      cases b with
      | true =>
        refine iteT (q4.1 rfl Hb4 H4 σ3 _ ((eB.trans e3).trans e4) r4 (hs3.mono e4) fun v H5 Hb5 y5 m5 e5 r5 hy5 q5 => ?_)
        have hD := (r5.fr A _ upd_same).1
        have ha5 : RpL K Hb5 acc us := ha.mono (((e2.trans e3).trans e4).trans e5)
        refine ⟨us, hD, by rw [ha5.length]; exact q5.1, Hb5, acc ++ [y5], us ++ [v], m5, e14.trans e5, r5.turnA, ha5.app (RpL.cons hy5 RpL.nil), q5.2⟩
      | false => exact iteF ⟨Hb4, acc, us, m4, e14, r4, ha.mono ((e2.trans e3).trans e4), q4.2 rfl⟩
    · have e : i = xs.length := by omega
      subst e
      have z := r'.fr A _ upd_same
      exact .inl ⟨(hj _ _ Hb' H' m' e' r').1 (Nat.le_refl _), k _ _ _ _ _ (e1.trans e') (r'.take hF (mo := .lst acc) ⟨us, z.1, ha⟩) rp_s (hd _ _ A z.2.2 hI)⟩
end
end DD

/-! DStrk: paths tidied, by lists of steps. -/
namespace DT
open PySem L2 TL
/-- a step -/
def isStep (s : Str) : Prop := s = "." ∨ s = ".." ∨ isName s = true
def lastN (st : List Str) : Bool := match st.getLast? with | some x => isName x | none => false
/-- one step is laid: d dot, u up, r root up and rooted -/
def lay (d u r : Bool) (st : List Str) (s : Str) : List Str :=
  if s = "." ∧ d = true then st else if s = ".." ∧ u = true ∧ lastN st = true then st.dropLast else if s = ".." ∧ r = true ∧ st = [] then st else st ++ [s]
def tidyS (d u r : Bool) (l : List Str) : List Str := l.foldl (lay d u r) []
theorem name_nd {s : Str} (h : isName s = true) : s ≠ "." ∧ s ≠ ".." := by
  constructor
  · rintro rfl
    revert h
    decide +kernel
  · rintro rfl
    revert h
    decide +kernel
theorem isStep_ne {s : Str} (h : isStep s) : tl s ≠ [] ∧ 47 ∉ tl s := by
  rcases h with rfl | rfl | h
  · decide +kernel
  · decide +kernel
  · refine ⟨fun e => ?_, name_bar h⟩
    unfold isName at h
    simp only [Bool.and_eq_true, decide_eq_true_eq] at h
    rw [len_tl, e] at h
    exact absurd h.1 (by decide)
theorem isStep_len {s : Str} (h : isStep s) : s.length ≤ 8 := by
  rcases h with rfl | rfl | h
  · decide +kernel
  · decide +kernel
  · unfold isName at h
    simp only [Bool.and_eq_true, decide_eq_true_eq] at h
    exact h.2.1
theorem isStep_piece {s : Str} (h : isStep s) : (dotty s || isName s) = true := by
  rcases h with rfl | rfl | h
  · decide +kernel
  · decide +kernel
  · rw [h, Bool.or_true]
theorem isStep_name {s : Str} (h : isStep s) : isName s = !(dotty s) := by
  rcases h with rfl | rfl | h
  · decide +kernel
  · decide +kernel
  · obtain ⟨h1, h2⟩ := name_nd h
    have h3 := isStep_ne (.inr (.inr h)) |>.1
    rw [h, dotty_iff, decide_eq_false h1, decide_eq_false h2, decide_eq_false (fun e => h3 (by rw [e]; decide +kernel))]
    rfl
theorem isStep_ok {s : Str} (h : isStep s) : PyData.strOk s = true := strOk_of (piece_lt (isStep_piece h))
theorem steps_isStep {z : Str} (h : isPath z = true) : ∀ s ∈ steps z, isStep s := fun s hs => by
  unfold steps pieces at hs
  obtain ⟨h1, h2⟩ := List.mem_filter.mp hs
  obtain ⟨q, hq, rfl⟩ := List.mem_map.mp h1
  have h3 := (isPath_iff.mp h).2 q hq
  have h4 : mk q ≠ "" := by simpa using h2
  rcases (Bool.or_eq_true _ _).mp h3 with w | w
  · rw [dotty_iff, decide_eq_false h4, Bool.false_or] at w
    rcases (Bool.or_eq_true _ _).mp w with w | w
    · exact .inl (of_decide_eq_true w)
    · exact .inr (.inl (of_decide_eq_true w))
  · exact .inr (.inr w)
section
variable {d u r : Bool}
theorem lay_cases (st : List Str) (s : Str) : lay d u r st s = st ∨ (lay d u r st s = st.dropLast) ∨ lay d u r st s = st ++ [s] := by
  unfold lay
  split
  · exact .inl rfl
  · split
    · exact .inr (.inl rfl)
    · split
      · exact .inl rfl
      · exact .inr (.inr rfl)
theorem lay_len (st : List Str) (s : Str) : (lay d u r st s).length ≤ st.length + 1 := by
  rcases lay_cases (d := d) (u := u) (r := r) st s with e | e | e <;> rw [e]
  · omega
  · rw [List.length_dropLast]
    omega
  · simp
theorem fold_len : ∀ (l st : List Str), (l.foldl (lay d u r) st).length ≤ st.length + l.length
  | [], st => Nat.le_refl _
  | s :: l, st => by
    have h1 := fold_len l (lay d u r st s)
    have h2 := lay_len (d := d) (u := u) (r := r) st s
    rw [List.foldl_cons, List.length_cons]
    omega
theorem tidy_snoc (l : List Str) (s : Str) : tidyS d u r (l ++ [s]) = lay d u r (tidyS d u r l) s := by
  unfold tidyS
  rw [List.foldl_append]
  rfl
theorem tidy_len (l : List Str) : (tidyS d u r l).length ≤ l.length := by
  have := fold_len (d := d) (u := u) (r := r) l []
  simpa [tidyS] using this
theorem lay_stable {st : List Str} (s : Str) (h : tidyS d u r st = st) : tidyS d u r (lay d u r st s) = lay d u r st s := by
  rcases lay_cases (d := d) (u := u) (r := r) st s with e | e | e
  · rw [e, h]
  · rw [e]
    by_cases hn : st = []
    · subst hn
      rfl
    · have es := List.dropLast_concat_getLast hn
      generalize st.getLast hn = x at es
      generalize st.dropLast = st' at es ⊢
      rw [← es, tidy_snoc] at h
      have hl := tidy_len (d := d) (u := u) (r := r) st'
      generalize tidyS d u r st' = y at h hl ⊢
      rcases lay_cases (d := d) (u := u) (r := r) y x with e2 | e2 | e2
      · rw [e2] at h
        rw [h] at hl
        simp at hl
        omega
      · rw [e2] at h
        have := congrArg List.length h
        simp at this
        omega
      · rw [e2] at h
        exact List.append_inj_left' h rfl
  · rw [e, tidy_snoc, h, e]
theorem tidy_idem (l : List Str) : tidyS d u r (tidyS d u r l) = tidyS d u r l := by
  refine snocInd (P := fun l => tidyS d u r (tidyS d u r l) = tidyS d u r l) rfl (fun l s ih => ?_) l
  rw [tidy_snoc]
  exact lay_stable s ih
theorem lay_mem {P : Str → Prop} {st : List Str} {s : Str} (h : ∀ x ∈ st, P x) (hs : P s) : ∀ x ∈ lay d u r st s, P x := by
  rcases lay_cases (d := d) (u := u) (r := r) st s with e | e | e <;> rw [e]
  · exact h
  · exact fun x hx => h x (List.dropLast_subset st hx)
  · intro x hx
    rcases List.mem_append.mp hx with w | w
    · exact h x w
    · have : x = s := by simpa using w
      rw [this]
      exact hs
theorem tidy_mem {P : Str → Prop} {l : List Str} (h : ∀ x ∈ l, P x) : ∀ x ∈ tidyS d u r l, P x := by
  revert h
  refine snocInd (P := fun l => (∀ x ∈ l, P x) → ∀ x ∈ tidyS d u r l, P x) (fun _ x hx => by cases hx) (fun l s ih h => ?_) l
  rw [tidy_snoc]
  exact lay_mem (ih fun x hx => h x (List.mem_append_left _ hx)) (h s (by simp))
/-! ### strikes -/
theorem fold_cut (l1 l2 m st : List Str) (h : ∀ st, st = tidyS d u r l1 → m.foldl (lay d u r) st = st) : tidyS d u r (l1 ++ (m ++ l2)) = tidyS d u r (l1 ++ l2) := by
  unfold tidyS at h ⊢
  rw [List.foldl_append, List.foldl_append, List.foldl_append, h _ rfl]
/-- what may be struck: (b, e) -/
def Strike (d u r : Bool) (l : List Str) (b e : Nat) : Prop :=
  (d = true ∧ e = b + 1 ∧ l[b]? = some ("." : Str)) ∨ (u = true ∧ e = b + 2 ∧ (∃ x : Str, l[b]? = some x ∧ x ≠ "." ∧ x ≠ "..") ∧ l[b + 1]? = some (".." : Str)) ∨ (r = true ∧ b = 0 ∧ e = 1 ∧ l[0]? = some (".." : Str))
theorem split_at {l : List Str} {b : Nat} {x : Str} (h : l[b]? = some x) : l = l.take b ++ x :: l.drop (b + 1) := by
  obtain ⟨hl, e⟩ := List.getElem?_eq_some_iff.mp h
  rw [← e]
  simp
theorem strike_len {l : List Str} {b e : Nat} (h : Strike d u r l b e) : b < e ∧ e ≤ l.length := by
  rcases h with ⟨_, rfl, h⟩ | ⟨_, rfl, _, h⟩ | ⟨_, rfl, rfl, h⟩
  · have := (List.getElem?_eq_some_iff.mp h).1
    omega
  · have := (List.getElem?_eq_some_iff.mp h).1
    omega
  · have := (List.getElem?_eq_some_iff.mp h).1
    omega
theorem strike_same {l : List Str} {b e : Nat} (hl : ∀ s ∈ l, isStep s) (h : Strike d u r l b e) : tidyS d u r (l.take b ++ l.drop e) = tidyS d u r l := by
  have key : ∀ m, l = l.take b ++ (m ++ l.drop e) → (∀ st, st = tidyS d u r (l.take b) → m.foldl (lay d u r) st = st) → tidyS d u r (l.take b ++ l.drop e) = tidyS d u r l := fun m e1 h1 => by
    have := fold_cut (d := d) (u := u) (r := r) (l.take b) (l.drop e) m [] h1
    rw [← e1] at this
    exact this.symm
  rcases h with ⟨hd, rfl, h⟩ | ⟨hu, rfl, ⟨x, hx, n1, n2⟩, h⟩ | ⟨hr, rfl, rfl, h⟩
  · refine key ["."] (split_at h) fun st _ => ?_
    show lay d u r st "." = st
    unfold lay
    rw [if_pos ⟨rfl, hd⟩]
  · have e1 := split_at hx
    have e2 : l.drop (b + 1) = (".." : Str) :: l.drop (b + 2) := by
      obtain ⟨hb, e⟩ := List.getElem?_eq_some_iff.mp h
      rw [List.drop_eq_getElem_cons hb, e]
    rw [e2] at e1
    have hxn : isName x = true := by
      have := hl x (List.mem_of_getElem? hx)
      rcases this with w | w | w
      · exact absurd w n1
      · exact absurd w n2
      · exact w
    refine key [x, ".."] e1 fun st _ => ?_
    show lay d u r (lay d u r st x) ".." = st
    have h1 : lay d u r st x = st ++ [x] := by
      unfold lay
      rw [if_neg (fun z => n1 z.1), if_neg (fun z => n2 z.1), if_neg (fun z => n2 z.1)]
    rw [h1]
    have h2 : lastN (st ++ [x]) = true := by
      unfold lastN
      rw [List.getLast?_concat]
      exact hxn
    unfold lay
    rw [if_neg (fun z => absurd z.1 (by decide +kernel)), if_pos ⟨rfl, hu, h2⟩, List.dropLast_concat]
  · refine key [".."] (split_at h) fun st e1 => ?_
    subst e1
    show lay d u r [] ".." = []
    unfold lay
    rw [if_neg (fun z => absurd z.1 (by decide +kernel)), if_neg (fun z => by simp [lastN] at z), if_pos ⟨rfl, hr, rfl⟩]
theorem strike_done {l : List Str} (hn : ∀ b e, ¬ Strike d u r l b e) : tidyS d u r l = l := by
  have key : ∀ n, n ≤ l.length → tidyS d u r (l.take n) = l.take n := fun n => by
    induction n with
    | zero =>
      intro _
      rw [List.take_zero]
      rfl
    | succ n ih =>
      intro h
      have hlt : n < l.length := by omega
      have hg : l[n]? = some l[n] := List.getElem?_eq_getElem hlt
      generalize l[n] = s at hg
      rw [List.take_add_one, hg]
      show tidyS d u r (l.take n ++ [s]) = l.take n ++ [s]
      rw [tidy_snoc, ih (by omega)]
      unfold lay
      rw [if_neg (fun z => hn n (n + 1) (.inl ⟨z.2, rfl, by rw [hg, z.1]⟩)), if_neg, if_neg]
      · rintro ⟨z1, z2, z3⟩
        have h0 : n = 0 := by
          have := congrArg List.length z3
          rw [List.length_take, List.length_nil] at this
          omega
        subst h0
        exact hn 0 1 (.inr (.inr ⟨z2, rfl, rfl, by rw [hg, z1]⟩))
      · rintro ⟨z1, z2, z3⟩
        cases n with
        | zero => simp [lastN] at z3
        | succ n =>
          have hlt' : n < l.length := by omega
          have hg' : l[n]? = some l[n] := List.getElem?_eq_getElem hlt'
          generalize l[n] = x at hg'
          have e : (l.take (n + 1)).getLast? = some x := by
            rw [List.take_add_one, hg']
            exact List.getLast?_concat
          unfold lastN at z3
          rw [e] at z3
          obtain ⟨w1, w2⟩ := name_nd z3
          exact hn n (n + 2) (.inr (.inl ⟨z2, rfl, ⟨x, hg', w1, w2⟩, by rw [hg, z1]⟩))
  have := key l.length (Nat.le_refl _)
  rw [List.take_length] at this
  exact this
end
/-! ### a path of steps -/
def bodyL (st : List Str) (rt : Bool) : List Nat := (if rt = true then [47] else []) ++ jn (st.map tl)
def plainL (st : List Str) (rt en : Bool) : List Nat := if bodyL st rt = [] then [46] else bodyL st rt ++ (if en = true ∧ lastN st = true then [47] else [])
def plainT (st : List Str) (rt en : Bool) : Str := mk (plainL st rt en)
theorem jn_ne {st : List (List Nat)} (h : ∀ s ∈ st, s ≠ []) (h0 : st ≠ []) : jn st ≠ [] := by
  cases st with
  | nil => exact absurd rfl h0
  | cons a as =>
    have ha := h a List.mem_cons_self
    cases as with
    | nil => exact ha
    | cons b bs => exact fun z => ha (List.append_eq_nil_iff.mp z).1
theorem body_nil {st : List Str} {rt : Bool} (h : ∀ s ∈ st, isStep s) : bodyL st rt = [] ↔ rt = false ∧ st = [] := by
  unfold bodyL
  constructor
  · intro z
    obtain ⟨z1, z2⟩ := List.append_eq_nil_iff.mp z
    refine ⟨?_, ?_⟩
    · cases rt with
      | true => cases z1
      | false => rfl
    · by_cases h0 : st = []
      · exact h0
      · refine absurd z2 (jn_ne (fun s hs => ?_) fun w => h0 (List.map_eq_nil_iff.mp w))
        obtain ⟨x, hx, rfl⟩ := List.mem_map.mp hs
        exact (isStep_ne (h x hx)).1
  · rintro ⟨rfl, rfl⟩
    rfl
theorem pcs_body {st : List Str} {rt : Bool} (h : ∀ s ∈ st, isStep s) (h0 : st ≠ []) : pcs (bodyL st rt) = (if rt = true then [[]] else []) ++ st.map tl := by
  have hj : pcs (jn (st.map tl)) = st.map tl := pcs_jn _ (fun w => h0 (List.map_eq_nil_iff.mp w)) fun p hp => by
    obtain ⟨x, hx, rfl⟩ := List.mem_map.mp hp
    exact (isStep_ne (h x hx)).2
  unfold bodyL
  cases rt with
  | true =>
    show pcs (47 :: jn (st.map tl)) = _
    rw [pcs_bar, hj]
    rfl
  | false => exact hj
theorem map_mk_tl (st : List Str) : (st.map tl).map mk = st := by
  rw [List.map_map]
  exact (List.map_congr_left fun x _ => mk_tl x).trans (List.map_id st)
/-- what a path with steps is, read again -/
theorem plain_read {st : List Str} {rt en : Bool} (h : ∀ s ∈ st, isStep s) (h0 : st ≠ []) :
    pcs (plainL st rt en) = (if rt = true then [[]] else []) ++ st.map tl ++ (if en = true ∧ lastN st = true then [[]] else []) := by
  have hb : bodyL st rt ≠ [] := fun z => h0 ((body_nil h).mp z).2
  unfold plainL
  rw [if_neg hb]
  split
  · rw [pcs_cat, pcs_body h h0]
    rfl
  · rw [List.append_nil, List.append_nil, pcs_body h h0]
theorem plain_steps {st : List Str} {rt en : Bool} (h : ∀ s ∈ st, isStep s) (h0 : st ≠ []) : steps (plainT st rt en) = st := by
  rw [steps_tl]
  show ((pcs (plainL st rt en)).filter fun p => !p.isEmpty).map mk = st
  rw [plain_read h h0, List.filter_append, List.filter_append]
  have e1 : (if rt = true then [([] : List Nat)] else []).filter (fun p => !p.isEmpty) = [] := by split <;> rfl
  have e2 : (if en = true ∧ lastN st = true then [([] : List Nat)] else []).filter (fun p => !p.isEmpty) = [] := by split <;> rfl
  have e3 : (st.map tl).filter (fun p => !p.isEmpty) = st.map tl := by
    rw [List.filter_eq_self]
    intro p hp
    obtain ⟨x, hx, rfl⟩ := List.mem_map.mp hp
    have := (isStep_ne (h x hx)).1
    simpa using this
  rw [e1, e2, e3, List.nil_append, List.append_nil, map_mk_tl]
theorem plain_rooted {st : List Str} {rt en : Bool} (h : ∀ s ∈ st, isStep s) (h0 : st ≠ []) : rooted (plainT st rt en) = rt := by
  have hb : bodyL st rt ≠ [] := fun z => h0 ((body_nil h).mp z).2
  unfold rooted
  show decide ((plainL st rt en).head? = some 47) = rt
  unfold plainL
  rw [if_neg hb]
  cases rt with
  | true =>
    refine decide_eq_true ?_
    unfold bodyL
    rfl
  | false =>
    refine decide_eq_false fun z => ?_
    unfold bodyL at z
    cases st with
    | nil => exact h0 rfl
    | cons a as =>
      obtain ⟨n1, n2⟩ := isStep_ne (h a List.mem_cons_self)
      cases ha : tl a with
      | nil => exact n1 ha
      | cons c cs =>
        have e : (jn ((a :: as).map tl)).head? = some c := by
          cases as with
          | nil =>
            show (tl a).head? = _
            rw [ha]
            rfl
          | cons b bs =>
            show (tl a ++ 47 :: jn ((b :: bs).map tl)).head? = _
            rw [ha]
            rfl
        have e2 : (([] ++ jn ((a :: as).map tl)) ++ (if en = true ∧ lastN (a :: as) = true then [47] else [])).head? = some c := by
          rw [List.nil_append, List.head?_append, e]
          rfl
        have z2 : (([] ++ jn ((a :: as).map tl)) ++ (if en = true ∧ lastN (a :: as) = true then [47] else [])).head? = some 47 := z
        rw [e2] at z2
        have : c = 47 := Option.some.inj z2
        exact n2 (by rw [ha, this]; exact List.mem_cons_self)
theorem plain_ended {st : List Str} {rt en : Bool} (h : ∀ s ∈ st, isStep s) (h0 : st ≠ []) : ended (plainT st rt en) = (!(lastN st) || en) := by
  unfold ended lastP
  show dotty (mk ((pcs (plainL st rt en)).getLastD [])) = _
  rw [plain_read h h0]
  have hl := List.getLast?_eq_some_getLast h0
  have hx := List.getLast_mem h0
  generalize st.getLast h0 = x at hl hx
  have hn : lastN st = isName x := by
    unfold lastN
    rw [hl]
  rw [List.getLastD_eq_getLast?, List.getLast?_append]
  by_cases hc : en = true ∧ lastN st = true
  · rw [if_pos hc, hc.1, Bool.or_true]
    show dotty (mk []) = true
    decide +kernel
  · rw [if_neg hc]
    have e2 : (((if rt = true then [([] : List Nat)] else []) ++ st.map tl).getLast?) = some (tl x) := by
      rw [List.getLast?_append, List.getLast?_map, hl]
      rfl
    show dotty (mk ((Option.or none (((if rt = true then [([] : List Nat)] else []) ++ st.map tl).getLast?)).getD [])) = _
    rw [e2]
    show dotty (mk (tl x)) = _
    rw [mk_tl', hn, isStep_name (h x hx)]
    rw [hn, isStep_name (h x hx)] at hc
    cases hd : dotty x with
    | true => rfl
    | false =>
      rw [hd] at hc
      cases en with
      | true => exact absurd ⟨rfl, rfl⟩ hc
      | false => rfl
theorem plain_path {st : List Str} {rt en : Bool} (h : ∀ s ∈ st, isStep s) : isPath (plainT st rt en) = true := by
  by_cases h0 : st = []
  · subst h0
    cases rt <;> cases en <;> decide +kernel
  · have hb : bodyL st rt ≠ [] := fun z => h0 ((body_nil h).mp z).2
    refine isPath_iff.mpr ⟨fun z => ?_, fun p hp => ?_⟩
    · have z2 := mk_eq_nil.mp z
      unfold plainL at z2
      rw [if_neg hb] at z2
      exact hb (List.append_eq_nil_iff.mp z2).1
    · have hp' : p ∈ pcs (plainL st rt en) := hp
      rw [plain_read h h0] at hp'
      rcases List.mem_append.mp hp' with w | w
      · rcases List.mem_append.mp w with w | w
        · split at w
          · have e : p = [] := by simpa using w
            subst e
            decide +kernel
          · cases w
        · obtain ⟨x, hx, rfl⟩ := List.mem_map.mp w
          rw [mk_tl']
          exact isStep_piece (h x hx)
      · split at w
        · have e : p = [] := by simpa using w
          subst e
          decide +kernel
        · cases w
/-- tidied once more nothing changes -/
theorem plain_again {d u r e : Bool} {st : List Str} {rt en : Bool} (h : ∀ s ∈ st, isStep s) (hf : tidyS d u (r && rt) st = st) (z : Str) (hz : z = plainT st rt (en && !e)) :
    plainT (tidyS d u (r && rooted z) (steps z)) (rooted z) (ended z && !e) = z := by
  by_cases h0 : st = []
  · subst h0
    subst hz
    cases rt <;> cases en <;> cases e <;> cases d <;> cases u <;> cases r <;> decide +kernel
  · have e1 := plain_steps (rt := rt) (en := en && !e) h h0
    have e2 := plain_rooted (rt := rt) (en := en && !e) h h0
    have e3 := plain_ended (rt := rt) (en := en && !e) h h0
    rw [← hz] at e1 e2 e3
    rw [e1, e2, e3, hf, hz]
    unfold plainT plainL
    congr 1
    split
    · rfl
    · congr 1
      cases hl : lastN st <;> cases en <;> cases e <;> rfl
theorem jn_le {b : Nat} : ∀ {st : List Str}, (∀ s ∈ st, s.length ≤ b) → (jn (st.map tl)).length ≤ st.length * (b + 1)
  | [], _ => Nat.zero_le _
  | [a], h => by
    have := h a List.mem_cons_self
    rw [len_tl] at this
    show (tl a).length ≤ 1 * (b + 1)
    omega
  | a :: c :: r, h => by
    have ih := jn_le (st := c :: r) fun s hs => h s (List.mem_cons_of_mem _ hs)
    have := h a List.mem_cons_self
    rw [len_tl] at this
    show (tl a ++ 47 :: jn ((c :: r).map tl)).length ≤ _
    rw [List.length_append, List.length_cons, List.length_cons (as := c :: r), Nat.succ_mul]
    omega
theorem plain_len {st : List Str} {rt en : Bool} (h : ∀ s ∈ st, isStep s) : (plainT st rt en).length ≤ st.length * 9 + 2 := by
  have h1 := jn_le (b := 8) (st := st) fun s hs => isStep_len (h s hs)
  rw [len_tl]
  show (plainL st rt en).length ≤ _
  unfold plainL
  split
  · show 1 ≤ _
    omega
  · unfold bodyL
    rw [List.length_append, List.length_append]
    have e1 : (if rt = true then [47] else []).length ≤ 1 := by split <;> decide
    have e2 : (if en = true ∧ lastN st = true then [47] else []).length ≤ 1 := by split <;> decide
    omega
end DT

/-! HExc: own exceptions whose __init__ calls the base's by its class; try around calls. -/
namespace HX1
open PySem PySem.Spec PyProof.Rows L2
section
variable {X : Cx} {o e : Expr} {es : List Expr} {to te : TE} {ta : TA} {f : Str} {p p' p1 p2 pos : Pos}
/-- B.__init__(self, ..), B an own class over ValueError without __init__ -/
theorem pe_peinit {x : Str} {C0 : Addr} {pl : Sem Bool} (hg : Gl X x) (hm : X.mg x = some (.ref C0)) (rd : PySem.W.readsIn X.K C0 (.type "type") = true) (ga : PySem.W.specialIn X.K (.ref C0) "__getattribute__" = some (some (.builtin "type.__getattribute__")))
    (vV : PySem.W.findCls X.K (.ref C0) (.type "type") "__init__" = some (.val (.builtin "ValueError.__init__"))) (ha : PA X (e :: es) ta)
    (hdb : (x == ("__debug__" : Str)) = false := by decide)
    (hc : eval (.Call (.Attribute (.Name x p1) "__init__" p2) (e :: es) [] pos) X.env = (do
      let ov ← eval (.Name x p1) X.env
      standAt p2.atName
      let (f, first) ← holding [ov] (getMethod ov "__init__" pl)
      callWith pos f first (backTo pos (starEach (e :: es) X.env)) (backToKw pos (keywordEach [] X.env))) := by rfl)
    (he : starEach (e :: es) X.env = (false, eval e X.env) :: starEach es X.env := by rfl) (hpl : (backTo pos (starEach es X.env)).any (·.1) = false := by rfl) :
    PE X (.Call (.Attribute (.Name x p1) "__init__" p2) (e :: es) [] pos) (tVeI X.K ta) := by
  refine ⟨fun pins s σ H Q I h => ?_⟩
  refine PySem.W.methodCall_KW (ld_glob I hg hm ?_ hdb) hc
  refine PySem.W.method_cls I.kIn ga ?_
  refine PySem.W.cls_value I.kIn rd vV (by decide +kernel) ?_
  show wpAny _ _ (callWith pos (Value.builtin "ValueError.__init__") [] (backTo pos (starEach (e :: es) X.env)) []) _ _ _
  refine PyProof.Rows.callWith_method1 (thn (ha.run pos pins _ σ H _ (I.tok _) h) fun us s1 ⟨vs, H1, I1, r1, a, C, ws, ev, hl, T, ea, q⟩ => ?_) he hpl
  subst ev
  cases r1 with
  | @cons _ u0 _ ur ra rw' =>
    obtain rfl : u0 = Value.ref a := ra
    have hlen : ur.length ≤ sizeLine := by
      rw [← Paired.length rw', sizeLine_eq]
      omega
    exact oinit_ok T I1 ea hlen fun s' J => ⟨.non, H1, J, rfl, q⟩
/-- what a callee lets out is taken, the slots' number known -/
theorem passes_len {W : WX} {E : XK} (tk : Takes X W) (hW : ∀ cls d σ H, σ.length = X.N.length → E cls d H → W cls d σ H) : Passes (L2.CX X.prog X.w) X E :=
  fun _ σ _ _ e s' I c => tk e s' (XE.of_call I (fun cls d H' h => hW cls d σ H' I.len h) c)
end
/-- the promise of an __init__ with one attribute f -/
def spExc (C : Addr) (f : Str) : Sp := fun vs H Q _ => ∃ a v, vs = [.ref a, v] ∧ H a = some (exo a C none) ∧ ∀ dx, H dx = none → dx ≠ a → Q .non (upd (upd H dx (exd dx [(f, v)])) a (exo a C (some dx)))
/-- its reading keeps the promise -/
theorem exc_init {K : PySem.W.Frag} {C : Addr} {f msg : Str} (T : OexC K C) (hno : PySem.W.findIn K (.ref C) f = some none) {N : List Str} {x y : Str} (hN : N = [x, y]) {vs : List V} {H : Hp} {Q : VK} {E : XK} (h : spExc C f vs H Q E) :
    (tSeq (tDrop (tVeI K (tCons (tVar 0) (tCons (tC (.str msg)) tNil)))) (tOst K f (tVar 0) (tVar 1))) { nx := fun _ H' => Q .non H', rt := Q } (L2.start N vs) H := by
  obtain ⟨a, v, rfl, ha, q⟩ := h
  subst hN
  refine ⟨.ref a, rfl, ⟨a, C, [.str msg], rfl, (by show 1 ≤ 1000; decide), T, ha, ?_⟩⟩
  exact ⟨v, rfl, .ref a, rfl, a, C, rfl, T, hno, .inl ⟨ha, fun dx h1 h2 => q dx h1 h2⟩⟩
/-- raise C(e) within a def -/
def tRaise (C : Addr) (sp : Sp) (ta : TA) (E : XK) : TS := fun _ σ H => tMkO C sp [] ta σ H fun cls d H' => E cls d H'
/-- try: body, except c as n: suite; n-th slot i -/
def tTry (K : PySem.W.Frag) (n : Nat) (c : Value) (i : Nat) (tb : XK → TS) (ts : Addr → Value → Option Addr → TS) : TS := fun D σ H => tb (fun cls d H' => ∀ σ' : L2.St, σ'.length = n → wAs K c i ts (fun _ _ _ _ => False) D cls d σ' H') D σ H
/-- a class's own clause takes its exceptions -/
theorem exm_own {K : PySem.W.Frag} {S : Addr} (h1 : PySem.W.subIn K (.ref S) (.type "BaseException") = some true) (h2 : PySem.W.isClsIn K S = true) (h3 : PySem.W.typeIn K (.ref S) = some (.type "type")) (h4 : PySem.W.subIn K (.ref S) (.ref S) = some true) :
    PySem.W.exmOne K (.ref S) (.ref S) = some true := by
  have e1 : (PySem.W.subIn K (.ref S) (.type "BaseException") == some true) = true := by rw [h1] <;> rfl
  have e2 : ((PySem.W.clsIn K S).isSome && PySem.W.typeIn K (.ref S) == some (.type "type")) = true := by
    have h2' : (PySem.W.clsIn K S).isSome = true := h2
    rw [h2', h3] <;> rfl
  show (if (PySem.W.subIn K (.ref S) (.type "BaseException") == some true) = true then (if ((PySem.W.clsIn K S).isSome && PySem.W.typeIn K (.ref S) == some (.type "type")) = true then PySem.W.subIn K (.ref S) (.ref S) else none) else none) = some true
  rw [if_pos e1, if_pos e2]
  exact h4
section
variable {X : Cx} {x n : Str} {c : Value} {i : Nat} {body suite : List Stmt} {b₀ : Stmt} {np pos pos' : Pos} {tb : XK → TS} {ts : Addr → Value → Option Addr → TS}
theorem ps_tryT (hs : X.stack = X.env :: X.outer) (hf : X.env.frame = some X.env.locals) (hN : X.N.Nodup) (hi : X.N[i]? = some n) (hln : X.env.kindOf n = some .local) (hc : Names X x c)
    (hb : ∀ (E : XK) (pn : List (Addr × Obj)) (xe : Value → Shared → Prop), Passes (L2.CX X.prog X.w) (X.tr pn xe) E → PassesOwn (model X.prog X.w) X.A X.env xe → PSs (X.tr pn xe) body (tb E))
    (hsu : ∀ (a : Addr) (oe : Obj) (cls : Value) (d : Option Addr) (pn : List (Addr × Obj)), Zc cls d oe → (∃ vs, oe.data = .fields vs) → PSs (X.suite a ((a, oe) :: pn)) (b₀ :: suite) (ts a cls d)) :
    PS X (.Try body [.ExceptHandler (some (.Name x np)) (some n) (b₀ :: suite) pos'] [] [] pos) (tTry X.K X.N.length c i tb ts) :=
  ps_try_as (tb := fun W => tb (fun cls d H' => ∀ σ' : L2.St, σ'.length = X.N.length → W cls d σ' H')) hs hf hN hi hln hc takes0 (fun W pn xe tk po => hb _ pn xe (passes_len (X := X.tr pn xe) tk fun cls d σ H hl h => h σ hl) po) hsu
end
end HX1

/-! DExc: raise and try over data. -/
namespace DD
open PySem L2
open PySem.Spec PyProof.Rows
section
variable {K : PySem.W.Frag} {B F Hb H : Hp} {m : Mem} {ρ : DD.Env}
theorem Rel.unframe {dd : Addr} {o : HO} (r : Rel K (upd F dd o) Hb H m) (h : F dd = none) : Rel K F Hb H m :=
  ⟨r.sub, fun b u e => r.fr b u (by rw [upd_ne (ne_fr e h)]; exact e), r.own⟩
theorem xd_put {H1 : Hp} {a dx : Addr} {C : Addr} {fs : List (Str × V)} {o1 o2 o3 u : HO} (ha : H1 a = none) (hne : dx ≠ a) : upd (del (upd (upd (upd H1 a o1) dx o2) a o3) a) dx u = upd H1 dx u := by
  funext b
  by_cases h1 : b = dx
  · subst h1
    rw [upd_same, upd_same]
  · rw [upd_ne h1, upd_ne h1]
    by_cases h2 : b = a
    · subst h2
      rw [del_same, ha]
    · rw [del_ne h2, upd_ne h2, upd_ne h1, upd_ne h2]
/-- raise C(e), C with one attribute -/
theorem ws_raise {C : Addr} {f : Str} {ta : TA} {EX : XK} {X : XD} {E : DE} (hE : OkX K F B X EX) (h : WA K F B ta ρ m fun ds m1 => ∃ d, ds = [d] ∧ X C [f] [d] m1) : WS K F B (HX1.tRaise C (HX1.spExc C f) ta EX) ρ m E := fun Hb H σ R hB r hs k =>
  h Hb H σ _ hB r hs fun vs H1 Hb1 ds m1 e1 r1 hx q1 => by
    obtain ⟨d, rfl, q⟩ := q1
    obtain ⟨v, rfl, hv⟩ := rpL1 hx
    refine ⟨by show 1 ≤ 1000; decide, fun a ha => ⟨a, v, rfl, upd_same, fun dx h1 h2 => ⟨rfl, dx, [(f, v)], upd_same, ?_, ?_, ?_⟩⟩⟩
    · rw [upd_ne h2, upd_same]
    · rw [upd_ne h2] at h1
      exact h1
    · rw [upd_ne h2] at h1
      rw [xd_put (C := C) (fs := [(f, v)]) ha h2]
      exact hE C (some dx) _ Hb1 [f] [d] [v] m1 (hB.trans e1) ⟨r1.nofr h1, r1.aside h1⟩ (RpL.cons hv RpL.nil) rfl q
theorem rpS_none {n : Nat} {σ : L2.St} (h : σ.length = n) : RpS K Hb (List.replicate n none) σ := by
  refine ⟨by rw [List.length_replicate, h], fun i d q => ?_⟩
  rw [List.getElem?_replicate] at q
  split at q <;> cases q
/-- try: body, except c as the i-th slot: suite -/
theorem ws_try {n i : Nat} {c : Value} {tb : XK → TS} {ts : Addr → Value → Option Addr → TS} {X : XD} {E : DE}
    (hb : ∀ B' EX, Same B B' → OkX K F B' X EX → WS K F B' (tb EX) ρ m E)
    (hX : ∀ C ns ds m', X C ns ds m' → ns ≠ [] ∧ PySem.W.exmOne K (.ref C) c = some true ∧ ∀ F' B' dd vs a, Same B B' → F' dd = some (.xd (ns.zip vs)) → RpL K B' ds vs → ns.length = ds.length →
      WS K F' B' (ts a (.ref C) (some dd)) ((List.replicate n none).set i (some (.s (.ref a)))) m' { nx := fun ρ m => E.nx (ρ.set i none) m, rt := E.rt, bk := fun ρ m => E.bk (ρ.set i none) m, ct := fun ρ m => E.ct (ρ.set i none) m }) :
    WS K F B (HX1.tTry K n c i tb ts) ρ m E := fun Hb H σ R hB r hs k => by
  refine hb Hb _ hB (fun C d H' Hb' ns ds vs m' eH rX hv hl hx => ?_) Hb H σ R (Same.refl _) r hs k
  obtain ⟨hne, hex, hw⟩ := hX C ns ds m' hx
  cases d with
  | none => exact absurd rX.1 hne
  | some dd =>
    obtain ⟨hF, rr⟩ := rX
    intro σ' hσ
    refine ⟨true, hex, fun _ a ha => ?_, fun z => nomatch z⟩
    refine hw (upd F dd (.xd (ns.zip vs))) Hb' dd vs a (hB.trans eH) upd_same hv hl Hb' H' _ _ (Same.refl _) rr ((rpS_none hσ).set rp_s) ?_
    exact ⟨fun σ1 H1 Hb1 ρ1 m1 e r1 hs1 q => k.nx _ _ _ _ _ (eH.trans e) (r1.unframe hF) hs1.unset q, fun v H1 Hb1 d1 m1 e r1 hd q => k.rt _ _ _ _ _ (eH.trans e) (r1.unframe hF) hd q,
      fun σ1 H1 Hb1 ρ1 m1 e r1 hs1 q => k.bk _ _ _ _ _ (eH.trans e) (r1.unframe hF) hs1.unset q, fun σ1 H1 Hb1 ρ1 m1 e r1 hs1 q => k.ct _ _ _ _ _ (eH.trans e) (r1.unframe hF) hs1.unset q⟩
/-- e.f of the exception that is caught -/
theorem we_xf {a C dd : Addr} {f : Str} {te : TE} {ns : List Str} {vs : List V} {ds : List D} {dv : D} {Q : QD} (hF : F dd = some (.xd (ns.zip vs))) (hv : RpL K B ds vs) (hd : (ns.zip ds).lookup f = some dv)
    (h : WE K F B te ρ m fun x m1 => x = .s (.ref a) ∧ Q dv m1) : WE K F B (tXf a (.ref C) (some dd) C f te) ρ m Q := fun Hb H σ R hB r hs k =>
  h Hb H σ _ hB r hs fun v H1 Hb1 x m1 e1 r1 hx q1 => by
    obtain ⟨rfl, q⟩ := q1
    unfold Rp at hx
    obtain ⟨u, hu, ru⟩ := zip_get (hv.mono (hB.trans e1)) hd
    exact ⟨hx, rfl, dd, _, u, rfl, (r1.fr dd _ hF).1, hu, k _ _ _ _ _ e1 r1 ru q⟩
/-- an owned object is let go -/
theorem Conv.leave {a : Addr} : Conv m { m with own := dropM m.own a } := fun _ _ _ _ r => r.leave a
end
end DD

/-! HRefl: a built-in value on the left of ==, an own instance on the right. -/
namespace HR1
open PySem PySem.Spec PyProof.Rows L2 PySem.SeqAt
open AutoSeq1 (wpAny_loadPart')
open MeetsSeq
section
theorem int_declines (b : Int) (u : Tok) (l C dx : Addr) : Meets (Builtin.«int.__eq__» ⟨[.int b u, .ref l], []⟩) (fun _ R s => s.heap.get? l = some (PySem.W.instObj C dx) ∧ R (.ok (.ret .notImplemented)) s) :=
  .of_wp fun prog w A R s h => by obtain ⟨hp, g, d, tk, os⟩ := s; obtain ⟨hl, h⟩ := h; wp_walk using wpAny_loadPart' hl, wpAny_load hl; exact ⟨_, rfl, h⟩
theorem bool_declines (b : Bool) (l C dx : Addr) : Meets (Builtin.«int.__eq__» ⟨[.bool b, .ref l], []⟩) (fun _ R s => s.heap.get? l = some (PySem.W.instObj C dx) ∧ R (.ok (.ret .notImplemented)) s) :=
  .of_wp fun prog w A R s h => by obtain ⟨hp, g, d, tk, os⟩ := s; obtain ⟨hl, h⟩ := h; wp_walk using wpAny_loadPart' hl, wpAny_load hl; exact ⟨_, rfl, h⟩
theorem str_declines (b : Str) (u : Tok) (l C dx : Addr) : Meets (Builtin.«str.__eq__» ⟨[.str b u, .ref l], []⟩) (fun _ R s => s.heap.get? l = some (PySem.W.instObj C dx) ∧ R (.ok (.ret .notImplemented)) s) :=
  .of_wp fun prog w A R s h => by obtain ⟨hp, g, d, tk, os⟩ := s; obtain ⟨hl, h⟩ := h; wp_walk using wpAny_loadPart' hl, wpAny_load hl; exact ⟨_, rfl, h⟩
theorem list_declines (a l : Addr) (items : Array Value) (n : Nat) (dd : Option Addr) (sl : Array (Option Value)) :
    Meets (Builtin.«list.__eq__» ⟨[.ref a, .ref l], []⟩) (fun _ R s => s.heap.get? a = some { cls := .type "list", dict := dd, data := .seq items n, slots := sl } ∧ (∀ M, PySem.W.Looks M s.heap (isInstance (.ref l) (.type "list")) false) ∧ R (.ok (.ret .notImplemented)) s) :=
  .of_wp fun prog w A R s h => by
    obtain ⟨hp, g, d, tk, os⟩ := s
    obtain ⟨hl, hI, h⟩ := h
    wp_walk using wpAny_loadPart' hl, (hI _).here
    exact ⟨_, rfl, h⟩
theorem tuple_declines (a l : Addr) (items : Array Value) (n : Nat) (dd : Option Addr) (sl : Array (Option Value)) :
    Meets (Builtin.«tuple.__eq__» ⟨[.ref a, .ref l], []⟩) (fun _ R s => s.heap.get? a = some { cls := .type "tuple", dict := dd, data := .seq items n, slots := sl } ∧ (∀ M, PySem.W.Looks M s.heap (isInstance (.ref l) (.type "tuple")) false) ∧ R (.ok (.ret .notImplemented)) s) :=
  .of_wp fun prog w A R s h => by
    obtain ⟨hp, g, d, tk, os⟩ := s
    obtain ⟨hl, hI, h⟩ := h
    wp_walk using wpAny_loadPart' hl, (hI _).here
    exact ⟨_, rfl, h⟩
theorem dict_declines (a l : Addr) (es : Array DictEntry) (ep : Nat) (dd : Option Addr) (sl : Array (Option Value)) :
    Meets (Builtin.«dict.__eq__» ⟨[.ref a, .ref l], []⟩) (fun _ R s => s.heap.get? a = some { cls := .type "dict", dict := dd, data := .dict es ep, slots := sl } ∧ (∀ M, PySem.W.Looks M s.heap (isInstance (.ref l) (.type "dict")) false) ∧ R (.ok (.ret .notImplemented)) s) :=
  .of_wp fun prog w A R s h => by
    obtain ⟨hp, g, d, tk, os⟩ := s
    obtain ⟨hl, hI, h⟩ := h
    wp_walk using wpAny_loadPart' hl, (hI _).here
    exact ⟨_, rfl, h⟩
end
end HR1
namespace HR1
open PySem L2
open PySem.Spec PyProof.Rows
theorem refl_K {prog : Program} {w : World} {A : Around} {E : Value → Shared → Prop} {s : Shared} {K : PySem.W.Frag} {x C f : Addr} {ox : Obj} {od : Option Obj} {a : Value} {T id : String} {Q : Value → Shared → Prop} (hu : A.units < cLine) (X : K.In s.heap)
    (I : PySem.W.InstAt s.heap x ox C od) (ha : s.TypeIs a T) (hsub : PySem.W.subIn K (.ref C) (.type T) = some false) (h1 : Slot T (cmpInfo .Eq).2.1 id)
    (hdec : ∀ Q' : Value → Shared → Prop, Q' .notImplemented s → wpAny (model prog w) A (call (.builtin id) [a, .ref x]) Q' E s)
    (hs : PySem.W.findIn K (.ref C) "__eq__" = some (some (.ref f))) (hf : PySem.W.isFn K (.ref f) = true)
    (h : wpAny (model prog w) A (call (.ref f) [.ref x, a]) (PySem.W.CmpBack Q) E s) : wpAny (model prog w) A (richCompare .Eq a (.ref x)) Q E s := by
  have two : wpAny (model prog w) A (tryCompare (.ref x) "__eq__" a) (fun r s' => ∃ v, r = some v ∧ Q v s') E s := by
    unfold tryCompare
    refine wpAny_bind (PySem.W.ifBound_K X I hs hf (wpAny_mono h (fun v s' hv => ?_) fun _ _ e => e))
    cases v <;> first | exact hv.elim | exact wpAny_pure ⟨_, rfl, hv⟩
  simp only [richCompare, cmpInfo_Eq, ha.oneThing_none] at h1 ⊢
  refine wpAny_holding (wpAny_bind (wpAny_cRoomFor hu ?_))
  refine wpAny_bind (wpAny_typeOf ha (wpAny_bind (I.type.here ?_)))
  split
  · refine wpAny_bind ((PySem.W.looks_subIn X hsub).here ?_)
    simp only [Bool.false_eq_true, if_false, Bool.not_false, if_true]
    refine wpAny_bind (m := tryCompare a _ (.ref x)) (wpAny_tryCompare_declines ha h1 (hdec _ ⟨rfl, ?_⟩))
    refine wpAny_bind (m := tryCompare (.ref x) _ a) (wpAny_mono two (fun r s2 z => ?_) fun _ _ e => e)
    obtain ⟨v, rfl, hq⟩ := z
    exact wpAny_pure hq
  · rename_i q
    exact absurd (by simp) q
end HR1
namespace HR1
open PySem L2
open PySem.Spec PyProof.Rows
/-- a value of a built-in type -/
inductive Bi (K : PySem.W.Frag) (H : Hp) : V → Prop
  | non : Bi K H .non
  | bl (b : Bool) : Bi K H (.bl b)
  | int (i : Int) : Bi K H (.int i)
  | str (z : Str) : Bi K H (.str z)
  | lst {p : Addr} {xs : List V} (h : SqL K H p xs) : Bi K H (.ref p)
  | tup {p : Addr} {xs : List V} (h : SqT K H p xs) : Bi K H (.ref p)
  | dic {p : Addr} {o : Obj} {kvs : List (Key × V)} (h : H p = some (.frz o (.dK kvs))) : Bi K H (.ref p)
/-- the class at C is below none of the built-in types -/
structure Aloof (K : PySem.W.Frag) (C : Addr) : Prop where
  non : PySem.W.subIn K (.ref C) (.type "NoneType") = some false
  bl : PySem.W.subIn K (.ref C) (.type "bool") = some false
  int : PySem.W.subIn K (.ref C) (.type "int") = some false
  str : PySem.W.subIn K (.ref C) (.type "str") = some false
  lst : PySem.W.subIn K (.ref C) (.type "list") = some false
  tup : PySem.W.subIn K (.ref C) (.type "tuple") = some false
  dic : PySem.W.subIn K (.ref C) (.type "dict") = some false
def rEqRefl (K : PySem.W.Frag) (C : Addr) (sp : Sp) (E : XK) : R2 := fun x y H Q => ∃ a dx fs, y = .ref a ∧ H a = some (.ins C dx fs) ∧ Bi K H x ∧ sp [y, x] H Q E
theorem op_eqRefl {X : Cx} {CX : CXT} {k : Nat} {f C : Addr} {fd : FuncData} {ps : List Str} {sp : Sp} {E : XK} (F0 : FnOk X.prog X.w X.K X.mg X.base CX k f fd ps sp) (hr : Room k X.A) (hb : Binds X.K fd ps []) (hx : Passes CX X E)
    (hs : PySem.W.findIn X.K (.ref C) "__eq__" = some (some (.ref f))) (hf : PySem.W.isFn X.K (.ref f) = true) (al : Aloof X.K C) : OpR X (compareOp .Eq) (rEqRefl X.K C sp E) := by
  intro pins s σ H x y v u Q I rx ry h
  obtain ⟨a, dx, fs, rfl, ha, hbi, q⟩ := h
  cases ry
  obtain ⟨mA, J0, _⟩ := ins_get I.hok ha
  obtain ⟨od, J, _⟩ := J0.look
  have ho : s.heap.get? a = some (PySem.W.instObj C dx) := J0.1
  have hI : ∀ T : String, PySem.W.subIn X.K (.ref C) (.type T) = some false → ∀ M, PySem.W.Looks M s.heap (isInstance (.ref a) (.type T)) false := fun T hT M => J.type.andThen (PySem.W.looks_subIn I.kIn hT)
  have fin : wpAny (model X.prog X.w) X.A (call (.ref f) [.ref a, v]) (PySem.W.CmpBack (EP X pins σ Q)) X.xe s := thn (HO1.run_in F0 hr rfl hb hx I (HO1.vals_rx rx) q) fun v s' z => HO1.back_of z
  show wpAny _ _ (richCompare .Eq v (.ref a)) _ _ _
  cases hbi with
  | non =>
    cases (show v = Value.none from rx)
    exact refl_K hr.units0 I.kIn J (show s.TypeIs .none "NoneType" from rfl) al.non F.slot_NoneType_eq
      (fun Q' hq => call_gives F.slot_NoneType_eq rfl F.entry_NoneType_eq (F.args_NoneType_eq_2 _ _) (PySem.SeqAt.NoneType___eq___none_ref_0 a) hq) hs hf fin
  | bl b =>
    cases (show v = Value.bool b from rx)
    exact refl_K hr.units0 I.kIn J (PySem.typeIs_bool s b) al.bl F.slot_bool_eq
      (fun Q' hq => call_meets F.slot_bool_eq (PySem.typeIs_bool s b) F.entry_int_eq (F.args_int_eq_2 _ _) (bool_declines b a C dx) ⟨ho, hq⟩) hs hf fin
  | int i =>
    obtain ⟨t, rfl⟩ := (show ∃ t, v = Value.int i t from rx)
    exact refl_K hr.units0 I.kIn J (typeIs_int s i t) al.int F.slot_int_eq
      (fun Q' hq => call_meets F.slot_int_eq (typeIs_int s i t) F.entry_int_eq (F.args_int_eq_2 _ _) (int_declines i t a C dx) ⟨ho, hq⟩) hs hf fin
  | str z =>
    obtain ⟨t, rfl⟩ := (show ∃ t, v = Value.str z t from rx)
    exact refl_K hr.units0 I.kIn J (typeIs_str s z t) al.str F.slot_str_eq
      (fun Q' hq => call_meets F.slot_str_eq (typeIs_str s z t) F.entry_str_eq (F.args_str_eq_2 _ _) (str_declines z t a C dx) ⟨ho, hq⟩) hs hf fin
  | @lst p xs hq0 =>
    cases (show v = Value.ref p from rx)
    obtain ⟨its, r, ⟨o, n, e, e1, e2, e3⟩, _⟩ := I.list hq0
    obtain ⟨oc, odd, odt, osl⟩ := o
    dsimp only at e1 e2 e3
    subst e1 e2 e3
    exact refl_K hr.units0 I.kIn J ⟨_, e, rfl⟩ al.lst F.slot_list_eq
      (fun Q' hq => call_meets F.slot_list_eq ⟨_, e, rfl⟩ F.entry_list_eq (F.args_list_eq_2 _ _) (list_declines p a _ n _ osl) ⟨e, hI "list" al.lst, hq⟩) hs hf fin
  | @tup p xs hq0 =>
    cases (show v = Value.ref p from rx)
    obtain ⟨its, r, ⟨o, e, e1, n, e3⟩, _⟩ := I.tuple hq0
    obtain ⟨oc, odd, odt, osl⟩ := o
    dsimp only at e1 e3
    subst e1 e3
    exact refl_K hr.units0 I.kIn J ⟨_, e, rfl⟩ al.tup F.slot_tuple_eq
      (fun Q' hq => call_meets F.slot_tuple_eq ⟨_, e, rfl⟩ F.entry_tuple_eq (F.args_tuple_eq_2 _ _) (tuple_declines p a _ n _ osl) ⟨e, hI "tuple" al.tup, hq⟩) hs hf fin
  | @dic p ob kvs e0 =>
    cases (show v = Value.ref p from rx)
    obtain ⟨_, _, _, vs, _, o, es, ep, e, e1, e3, _⟩ := (show ObjOk X.prog X.w H s.heap p (.frz ob (.dK kvs)) from I.hok p _ e0)
    obtain ⟨oc, odd, odt, osl⟩ := o
    obtain ⟨e1, e2⟩ := e1
    dsimp only at e1 e3
    subst e1 e3
    exact refl_K hr.units0 I.kIn J ⟨_, e, rfl⟩ al.dic F.slot_dict_eq
      (fun Q' hq => call_meets F.slot_dict_eq ⟨_, e, rfl⟩ F.entry_dict_eq (F.args_dict_eq_2 _ _) (dict_declines p a es ep _ osl) ⟨e, hI "dict" al.dic, hq⟩) hs hf fin
end HR1

/-! HTok: arguments behind a written text; replace over data; == with an own instance on the right, over data; {}. -/
namespace HT1
open PySem PySem.Spec PyProof.Rows L2
section
variable {X : Cx}
/-- the first item ends by a written text: behind it a token is out -/
theorem pa_consT {a : Expr} {es : List Expr} {ta : TE} {t : TA} {op : Operator} {r : R2} {c : Str} {j : Nat} {p2 p : Pos} (ho : OpR X (binaryOp op) r) (ha : PE X a ta) (hr : PAT X es t)
    (hs : starEach (.BinOp a op (.Constant (.str c) j p2) p :: es) X.env = (false, eval (.BinOp a op (.Constant (.str c) j p2) p) X.env) :: starEach es X.env := by rfl) :
    PA X (.BinOp a op (.Constant (.str c) j p2) p :: es) (tCons (tOp r ta (tC (.str c))) t) := by
  refine ⟨fun pos pins s σ H Q I h => ?_⟩
  rw [hs]
  show wpAny _ _ (spliced ((false, eval (.BinOp a op (.Constant (.str c) j p2) p) X.env) :: backTo pos (starEach es X.env))) _ _ s
  refine Calls.spliced_cons (wpAny_BinOp (thn (ha.run pins s σ H _ I h) fun v s1 ⟨x, H1, I1, r1, q1⟩ => ?_))
  refine Calls.Constant_str ?_
  refine wpAny_mono (PySem.wpAny_toks (ho pins _ σ H1 x (.str c) v (.str c s1.toks) _ (I1.tok _) r1 ⟨_, rfl⟩ q1)) (fun z s2 q => ?_) fun _ _ z => z.2
  obtain ⟨hk, x2, H2, I2, r2, q2⟩ := q
  have hk' : s1.toks + 1 ≤ s2.toks := hk
  exact thn (hr pos pins s2 σ H2 _ (by omega) I2 q2) fun us s3 ⟨xs, H3, I3, r3, q3⟩ => ⟨x2 :: xs, H3, I3, .cons r2 r3, q3⟩
theorem pat_of {e : Expr} {es : List Expr} {te : TE} {t : TA} (ha : PE X e te) (hr : PAT X es t) (hs : starEach (e :: es) X.env = (false, eval e X.env) :: starEach es X.env := by rfl) : PAT X (e :: es) (tCons te t) :=
  pat_cons (CwR.PET.of ha) hr hs
end
end HT1
namespace DD
open PySem L2
open PySem.Spec PyProof.Rows
section
variable {K : PySem.W.Frag} {B F Hb H : Hp} {m : Mem} {ρ : DD.Env} {C : Addr} {φ : Phi} {E : XK} {X : XD}
theorem we_repl {to : TE} {y z : Str} {Q : QD} (h : WE K F B to ρ m fun d m1 => ∃ x, d = .s (.str x) ∧ x.length + (x.length + 1) * z.length ≤ 16777216 ∧ Q (.s (.str (Txt.replace x y z))) m1) : WE K F B (CwR.tReplC to y z) ρ m Q := fun Hb H σ R hB r hs k =>
  h Hb H σ _ hB r hs fun v H1 Hb1 d m1 e1 r1 hd q1 => by
    obtain ⟨x, rfl, hl, q⟩ := q1
    unfold Rp at hd
    exact ⟨x, hd, hl, k _ _ _ _ _ e1 r1 rp_s q⟩
/-- a value of a built-in type -/
def BiD : D → Prop
  | .s .non => True
  | .s (.bl _) => True
  | .s (.int _) => True
  | .s (.str _) => True
  | .lst _ => True
  | .tup _ => True
  | .dic _ _ => True
  | _ => False
theorem BiD.at {x : D} {v : V} (h : BiD x) (r : Rel K F Hb H m) (hx : Rp K Hb x v) : HR1.Bi K H v := by
  cases x with
  | s w =>
    unfold Rp at hx
    subst hx
    cases v with
    | non => exact .non
    | bl b => exact .bl b
    | int i => exact .int i
    | str z => exact .str z
    | _ => exact h.elim
  | lst xs =>
    unfold Rp at hx
    obtain ⟨p, vs, rfl, h1, _⟩ := hx
    exact .lst (SqL.of (r.sub _ _ h1))
  | tup xs =>
    unfold Rp at hx
    obtain ⟨p, vs, rfl, h1, _⟩ := hx
    exact .tup (sameT r.sub h1)
  | dic ks xs =>
    unfold Rp at hx
    obtain ⟨p, o, vs, rfl, h1, _⟩ := hx
    exact .dic (r.sub _ _ h1)
  | _ => exact h.elim
theorem wo_eqRefl {x y : D} {Q : QD} (hE : OkX K F B X E) (hx : BiD x) (hy : ObjD m C y) (h : φ [y, x] m Q X) : WO K F B (HR1.rEqRefl K C (spOf K φ) E) x y m Q := fun Hb H vx vy R hB r hvx hvy k => by
  obtain ⟨a, dx, fs, rfl, ha⟩ := hy.at r hvy
  exact ⟨a, dx, fs, rfl, ha, hx.at r hvx, _, m, F, Hb, Q, X, RpL.cons hvy (RpL.cons hvx RpL.nil), r, h, k, hE.mono hB⟩
/-- {}, that stays as it is -/
def tDNewF : TE := fun _ H Q => ∀ p o, H p = none → Q (.ref p) (upd H p (.frz o (.dK [])))
theorem pe_dnewF {X : Cx} {pos : Pos} : PE X (.Dict [] [] pos) tDNewF := by
  refine ⟨fun pins s σ H Q I h => wpAny_Dict_empty ?_⟩
  have hn := I.hok.fresh (Nat.le_refl s.heap.objs.size)
  have I1 := I.laid (a := s.heap.objs.size) (o := .dK []) (h' := s.heap.push { cls := .type "dict", data := .dict #[] }) (t' := s.toks) (fun _ _ q => Heap.get?_push_of_some _ q) (Nat.le_refl _) (dk_empty s.heap I.big)
  obtain ⟨od, I2⟩ := I1.lock upd_same trivial
  rw [upd_upd] at I2
  exact ⟨.ref s.heap.objs.size, _, I2, rfl, h _ od hn⟩
theorem we_dnew {Q : QD} (q : Q (.dic [] []) m) : WE K F B tDNewF ρ m Q := fun Hb H σ R hB r hs k => fun p o hp =>
  k _ _ _ (.dic [] []) _ (Same.new (r.fresh hp)) (r.data hp) (by
    unfold Rp
    exact ⟨p, o, [], rfl, upd_same, RpL.nil, rfl⟩) q
/-- {} == {} -/
def rEqE : R2 := fun x y H Q => ∃ a b o o', x = .ref a ∧ y = .ref b ∧ H a = some (.frz o (.dK [])) ∧ H b = some (.frz o' (.dK [])) ∧ Q (.bl true) H
theorem op_eqE {X : Cx} (hu : X.A.units < cLine) : OpR X (compareOp .Eq) rEqE := by
  intro pins s σ H x y v u Q I rx ry h
  obtain ⟨a, b, o, o', rfl, rfl, ea, eb, q⟩ := h
  obtain rfl : v = Value.ref a := rx
  obtain rfl : u = Value.ref b := ry
  obtain ⟨_, _, ya, va, ra, da⟩ := (show ObjOk X.prog X.w H s.heap a (.frz o (.dK [])) from I.hok a _ ea)
  obtain ⟨_, _, yb, vb, rb, db⟩ := (show ObjOk X.prog X.w H s.heap b (.frz o' (.dK [])) from I.hok b _ eb)
  cases ra
  cases rb
  exact PySem.W.keq_eq (knd := mixKind X.prog X.w) (r := true) ya yb da db hu (fun _ => .nil) (fin_bl I q (by simp))
theorem wo_eqE {Q : QD} (q : Q (.s (.bl true)) m) : WO K F B rEqE (.dic [] []) (.dic [] []) m Q := fun Hb H vx vy R hB r hvx hvy k => by
  unfold Rp at hvx hvy
  obtain ⟨a, o, vs, rfl, h1, _⟩ := hvx
  obtain ⟨b, o', vs', rfl, h2, _⟩ := hvy
  exact ⟨a, b, o, o', rfl, rfl, r.sub _ _ h1, r.sub _ _ h2, k.here r rp_s q⟩
end
end DD

/-! HHot: list comprehensions, and dict() of nothing, while an exception is handled. -/
namespace HH1
open PySem PySem.Spec PyProof.Rows L2 HotX L2H
section
variable {prog : Program} {w : World} {A : Around} {E : Value → Shared → Prop} {s : Shared}
theorem list_end_hot {it l x1 : Addr} {i : Nat} {items : Array Value} {Q : Option Value → Shared → Prop} (hot : HotAt A x1 s.heap) (hne : x1 ≠ it)
    (hit : s.heap.IsListIter it l i) (hl : s.heap.IsList l items) (hx : items[i]? = none)
    (hQ : ∀ h', (∀ b o, b ≠ it → s.heap.get? b = some o → h'.get? b = some o) → Q none { s with heap := h' }) : wpAny (model prog w) A (pyNext (.ref it)) Q E s := by
  obtain ⟨hh, o1, vs1, h1, d1, c1⟩ := hot
  obtain ⟨o, ho, hc, hd⟩ := id hit
  obtain ⟨ol, hol, _, nl, hdl⟩ := hl
  unfold pyNext
  refine wpAny_bind (wpAny_attempt (wpAny_callSpecial?_slot (name := Str.ofString "__next__") hit.typeIs slot_listiter_next
    (wpAny_call_entry slot_listiter_next hit.typeIs entry_listiter_next ?_ (args_listiter_next _))))
  show wpAny _ _ (field (.ref it) 0 >>= _) _ _ s
  refine wpAny_bind (wpAny_field ho hd (x := .ref l) rfl ?_)
  show wpAny _ _ (if (Value.ref l == Value.none) = true then _ else _) _ _ s
  rw [if_neg (show ¬ ((Value.ref l == Value.none) = true) from Bool.false_ne_true)]
  show wpAny _ _ (field (.ref it) 1 >>= _) _ _ s
  refine wpAny_bind (wpAny_field ho hd (x := .int i 0) rfl ?_)
  show wpAny _ _ (seqItems? (.ref l) >>= _) _ _ s
  refine wpAny_bind (wpAny_seqItems hol hdl ?_)
  simp only [Int.toNat_natCast, hx]
  refine wpAny_bind (wpAny_rule (wpAny_bind (wpAny_setField ho hd (by simp) ?_)))
  show wpAny _ _ (newExc (.type "StopIteration") [] >>= _) _ _ _
  refine wpAny_bind ?_
  simp only [newExc, newTuple]
  refine wpAny_bind (wpAny_newObj_type ?_ (by size_fits))
  refine wpAny_bind (m := firstArgMember _ _) (wpAny_of_eq (a := Value.none) (by first | rfl | (simp only [firstArgMember]; rfl)) ?_)
  refine wpAny_newObj_type ?_ (by size_fits)
  refine raiseNew_hot ⟨hh, o1, vs1, Heap.get?_push_of_some _ (Heap.get?_push_of_some _ ((Heap.get?_update_other _ _ hne.symm).trans h1)), d1, c1⟩ (Nat.ne_of_lt (Heap.lt_size (Heap.get?_push_of_some _ ((Heap.get?_update_other _ _ hne.symm).trans h1)))) (Heap.get?_push_size _ rfl) rfl (by first | (simp; done) | (simp; omega) | (simp only [Array.size_append]; simp; omega)) ?_
  refine wpAny_bind (wpAny_isInstance (T := "StopIteration") (b := true) ⟨_, Heap.get?_update_self _ (Heap.get?_push_size _ rfl) rfl, rfl⟩ isSubtype_stop ?_)
  refine wpAny_pure (hQ _ fun b u hb e => ?_)
  rw [Heap.get?_update_other _ _ (Nat.ne_of_gt (Heap.lt_size (Heap.get?_push_of_some _ ((Heap.get?_update_other _ _ hb.symm).trans e))))]
  exact Heap.get?_push_of_some _ (Heap.get?_push_of_some _ ((Heap.get?_update_other _ _ hb.symm).trans e))
theorem tuple_end_hot {it t x1 : Addr} {i : Nat} {items : Array Value} {Q : Option Value → Shared → Prop} (hot : HotAt A x1 s.heap) (hne : x1 ≠ it)
    (hit : s.heap.IsTupleIter it t i) (ht : s.heap.IsTuple t items) (hx : items[i]? = none)
    (hQ : ∀ h', (∀ b o, b ≠ it → s.heap.get? b = some o → h'.get? b = some o) → Q none { s with heap := h' }) : wpAny (model prog w) A (pyNext (.ref it)) Q E s := by
  obtain ⟨hh, o1, vs1, h1, d1, c1⟩ := hot
  obtain ⟨o, ho, hc, hd⟩ := id hit
  obtain ⟨ol, hol, _, nl, hdl⟩ := ht
  unfold pyNext
  refine wpAny_bind (wpAny_attempt (wpAny_callSpecial?_slot (name := Str.ofString "__next__") hit.typeIs F.slot_tuple_iterator_next
    (wpAny_call_entry F.slot_tuple_iterator_next hit.typeIs F.entry_tuple_iterator_next ?_ (F.args_tuple_iterator_next_1 _))))
  show wpAny _ _ (field (.ref it) 0 >>= _) _ _ s
  refine wpAny_bind (wpAny_field ho hd (x := .ref t) rfl ?_)
  show wpAny _ _ (if (Value.ref t == Value.none) = true then _ else _) _ _ s
  rw [if_neg (show ¬ ((Value.ref t == Value.none) = true) from Bool.false_ne_true)]
  show wpAny _ _ (field (.ref it) 1 >>= _) _ _ s
  refine wpAny_bind (wpAny_field ho hd (x := .int i 0) rfl ?_)
  show wpAny _ _ (seqItems? (.ref t) >>= _) _ _ s
  refine wpAny_bind (wpAny_seqItems hol hdl ?_)
  simp only [Int.toNat_natCast, hx]
  refine wpAny_bind (wpAny_rule (wpAny_bind (wpAny_setField ho hd (by simp) ?_)))
  show wpAny _ _ (newExc (.type "StopIteration") [] >>= _) _ _ _
  refine wpAny_bind ?_
  simp only [newExc, newTuple]
  refine wpAny_bind (wpAny_newObj_type ?_ (by size_fits))
  refine wpAny_bind (m := firstArgMember _ _) (wpAny_of_eq (a := Value.none) (by first | rfl | (simp only [firstArgMember]; rfl)) ?_)
  refine wpAny_newObj_type ?_ (by size_fits)
  refine raiseNew_hot ⟨hh, o1, vs1, Heap.get?_push_of_some _ (Heap.get?_push_of_some _ ((Heap.get?_update_other _ _ hne.symm).trans h1)), d1, c1⟩ (Nat.ne_of_lt (Heap.lt_size (Heap.get?_push_of_some _ ((Heap.get?_update_other _ _ hne.symm).trans h1)))) (Heap.get?_push_size _ rfl) rfl (by first | (simp; done) | (simp; omega) | (simp only [Array.size_append]; simp; omega)) ?_
  refine wpAny_bind (wpAny_isInstance (T := "StopIteration") (b := true) ⟨_, Heap.get?_update_self _ (Heap.get?_push_size _ rfl) rfl, rfl⟩ isSubtype_stop ?_)
  refine wpAny_pure (hQ _ fun b u hb e => ?_)
  rw [Heap.get?_update_other _ _ (Nat.ne_of_gt (Heap.lt_size (Heap.get?_push_of_some _ ((Heap.get?_update_other _ _ hb.symm).trans e))))]
  exact Heap.get?_push_of_some _ (Heap.get?_push_of_some _ ((Heap.get?_update_other _ _ hb.symm).trans e))
theorem key_end_hot {it d x1 : Addr} {i n ep : Nat} {od : Obj} {es : Array DictEntry} {Q : Option Value → Shared → Prop} (hot : HotAt A x1 s.heap) (hne : x1 ≠ it) (hit : s.heap.IsKeyIter it d i n ep) (hod : s.heap.get? d = some od) (hdd : od.data = .dict es ep)
    (hsz : es.size = n) (hge : n ≤ i) (hQ : ∀ h', (∀ b o, b ≠ it → s.heap.get? b = some o → h'.get? b = some o) → Q none { s with heap := h' }) : wpAny (model prog w) A (pyNext (.ref it)) Q E s := by
  obtain ⟨hh, o1, vs1, h1, d1, c1⟩ := hot
  obtain ⟨o, ho, hc, hd⟩ := id hit
  unfold pyNext
  refine wpAny_bind (wpAny_attempt (wpAny_callSpecial?_slot (name := Str.ofString "__next__") hit.typeIs F.slot_dict_keyiterator_next
    (wpAny_call_entry F.slot_dict_keyiterator_next hit.typeIs F.entry_dict_keyiterator_next ?_ (F.args_dict_keyiterator_next_1 _))))
  refine wpAny_bind (wpAny_pure ?_)
  refine wpAny_bind ?_
  refine wpAny_bind ?_
  first | refine wpAny_bind (wpAny_typeNameOfWhole_keyiter hit.typeIs (wpAny_pure ?_)) | refine wpAny_bind (wpAny_typeNameOf_keyiter hit.typeIs (wpAny_pure ?_))
  refine wpAny_bind (wpAny_fieldsOf ho hd ?_)
  have hown : Builtin.Dict_items.ownsTuple "dict_keyiterator" = false := by decide
  simp only [hown, Bool.false_eq_true, if_false]
  show wpAny _ _ (if (Value.ref d == Value.none) = true then _ else _) _ _ s
  rw [if_neg (show ¬ ((Value.ref d == Value.none) = true) from Bool.false_ne_true)]
  refine wpAny_bind (wpAny_pure ?_)
  refine wpAny_bind (wpAny_dictEntries hod hdd ?_)
  rw [if_neg (by rw [hsz]; simp)]
  refine wpAny_bind (wpAny_pure ?_)
  refine wpAny_bind (wpAny_dictEpoch hod hdd ?_)
  rw [if_neg (by simp)]
  refine wpAny_pure ?_
  have hge' : es.size ≤ i := by rw [hsz]; exact hge
  simp only [show ¬ ((i : Int) < 0) from by omega, if_false, Int.toNat_natCast, Array.getElem?_eq_none hge']
  refine wpAny_bind ?_
  first | refine wpAny_bind (wpAny_typeNameOfWhole_keyiter hit.typeIs (wpAny_pure ?_)) | refine wpAny_bind (wpAny_typeNameOf_keyiter hit.typeIs (wpAny_pure ?_))
  show wpAny _ _ (setField (.ref it) 0 .none >>= _) _ _ s
  refine wpAny_bind (wpAny_setField ho hd (by simp) ?_)
  show wpAny _ _ (newExc (.type "StopIteration") [] >>= _) _ _ _
  refine wpAny_bind ?_
  simp only [newExc, newTuple]
  refine wpAny_bind (wpAny_newObj_type ?_ (by size_fits))
  refine wpAny_bind (m := firstArgMember _ _) (wpAny_of_eq (a := Value.none) (by first | rfl | (simp only [firstArgMember]; rfl)) ?_)
  refine wpAny_newObj_type ?_ (by size_fits)
  refine raiseNew_hot ⟨hh, o1, vs1, Heap.get?_push_of_some _ (Heap.get?_push_of_some _ ((Heap.get?_update_other _ _ hne.symm).trans h1)), d1, c1⟩ (Nat.ne_of_lt (Heap.lt_size (Heap.get?_push_of_some _ ((Heap.get?_update_other _ _ hne.symm).trans h1)))) (Heap.get?_push_size _ rfl) rfl (by first | (simp; done) | (simp; omega) | (simp only [Array.size_append]; simp; omega)) ?_
  refine wpAny_bind (wpAny_isInstance (T := "StopIteration") (b := true) ⟨_, Heap.get?_update_self _ (Heap.get?_push_size _ rfl) rfl, rfl⟩ isSubtype_stop ?_)
  refine wpAny_pure (hQ _ fun b u hb e => ?_)
  rw [Heap.get?_update_other _ _ (Nat.ne_of_gt (Heap.lt_size (Heap.get?_push_of_some _ ((Heap.get?_update_other _ _ hb.symm).trans e))))]
  exact Heap.get?_push_of_some _ (Heap.get?_push_of_some _ ((Heap.get?_update_other _ _ hb.symm).trans e))

theorem raiseAttr_hot {α : Type} {o : Value} {name msg : Str} {x1 : Addr} {Q : α → Shared → Prop} (hot : HotAt A x1 s.heap)
    (h : ∀ h' tk e, (∀ b ob, s.heap.get? b = some ob → h'.get? b = some ob) → (∃ t u, h'.get? e = some { cls := .type "AttributeError", data := .fields #[t, .none, .ref x1, .none, .bool false, .none, .str name u, o] }) → E (.ref e) { s with heap := h', toks := tk }) (hm : msg.length ≤ sizeLine := by size_fits) :
    wpAny (model prog w) A (raiseAttrError o name msg : Sem α) Q E s := by
  obtain ⟨hh, o1, vs1, h1, d1, c1⟩ := hot
  unfold raiseAttrError
  refine wpAny_bind (wpAny_mkStr (wpAny_bind ?_) hm)
  unfold newExc newTuple
  refine wpAny_bind (wpAny_newObj_type ?_ (by size_fits))
  refine wpAny_bind (m := firstArgMember _ _) (wpAny_of_eq (a := Value.none) (by simp only [firstArgMember, attrError_no_first]; rfl) ?_)
  rw [ownMembersOf_AttributeError]
  refine wpAny_newObj_type ?_ (by size_fits)
  obtain ⟨hp, g, d, tk, os⟩ := s
  have f1 := sub_AttributeError
  repeat (any_goals (first | assumption | wp_step))
  have hlt : x1 < hp.objs.size := Heap.lt_size h1
  refine raiseNew_hot ⟨hh, o1, vs1, (Heap.get?_update_other _ _ ?_).trans (Heap.get?_push_of_some _ (Heap.get?_push_of_some _ h1)), d1, c1⟩ ?_ (Heap.get?_update_self _ (Heap.get?_push_size _ rfl) rfl) rfl (by first | (simp; done) | (simp; omega) | (simp only [Array.size_append]; simp; omega)) ?_
  · simp only [Heap.size_push]
    exact Nat.ne_of_gt (Nat.lt_succ_of_lt hlt)
  · simp only [Heap.size_push]
    exact Nat.ne_of_lt (Nat.lt_succ_of_lt hlt)
  · dsimp only
    refine h _ _ _ (fun b ob hb => ?_) ?_
    · have hlt : b < hp.objs.size := Heap.lt_size hb
      refine (Heap.get?_update_other _ _ ?_).trans ((Heap.get?_update_other _ _ ?_).trans (Heap.get?_push_of_some _ (Heap.get?_push_of_some _ hb)))
      · simp only [Heap.size_push]
        exact Nat.ne_of_gt (Nat.lt_succ_of_lt hlt)
      · simp only [Heap.size_push]
        exact Nat.ne_of_gt (Nat.lt_succ_of_lt hlt)
    · exact ⟨_, _, Heap.get?_update_self _ (Heap.get?_update_self _ (Heap.get?_push_size _ rfl) rfl) rfl⟩
/-- raisesAttr while x1 is handled -/
def raisesAttrH (x1 : Addr) (o : Value) (name : Str) : PySem.Spec := fun A R s => HotAt A x1 s.heap ∧ ∀ h' tk e, (∀ b ob, s.heap.get? b = some ob → h'.get? b = some ob) → (∃ t u, h'.get? e = some { cls := .type "AttributeError", data := .fields #[t, .none, .ref x1, .none, .bool false, .none, .str name u, o] }) → R (.error (.ref e)) { s with heap := h', toks := tk }
theorem meets_miss_listH (x1 a : Addr) (xs : Array Value) (k : Nat) (sl : Array (Option Value)) (name : Str) (u : Tok) (hmiss : typeLookup (.type "list") name = pure none) (hname : (["__module__", "__name__", "__qualname__", "__doc__", "__annotations__"] : List Str).contains name = false) (hsz : name.length + 100 ≤ sizeLine := by size_fits) :
    Meets (Builtin.«object.__getattribute__» ⟨[.ref a, .str name u], []⟩) (fun A R s => s.heap.get? a = some { cls := .type "list", dict := none, data := .seq xs k, slots := sl } ∧ raisesAttrH x1 (.ref a) name A R s) :=
  Meets.of_wp fun prog w A R s hs => by
    obtain ⟨hp, g, d, tk, os⟩ := s
    obtain ⟨hx, hs⟩ := hs
    have hT : (⟨hp, g, d, tk, os⟩ : Shared).TypeIs (.ref a) "list" := ⟨_, hx, rfl⟩
    unfold Builtin.«object.__getattribute__»
    repeat (any_goals (first | assumption | wp_step))
    simp only [hname, Bool.false_eq_true, if_false]
    repeat (any_goals (first | assumption | wp_step))
    exact raiseAttr_hot hs.1 hs.2 (attrMsg_fits (by decide +kernel) hsz)
theorem miss_list_hot {s : Shared} {a x1 : Addr} {o : Obj} {xs : Array Value} {k : Nat} {Q : Option Value → Shared → Prop} (hx : s.heap.get? a = some o) (hc : o.cls = .type "list") (hdat : o.data = .seq xs k) (hd : o.dict = none) (hot : HotAt A x1 s.heap)
    (h : ∀ h' tk, (∀ b ob, s.heap.get? b = some ob → h'.get? b = some ob) → Q none { s with heap := h', toks := tk }) : wpAny (model prog w) A (getAttr? (.ref a) "keys") Q E s := by
  obtain ⟨c, dct, dat, sl⟩ := o
  simp only at hc hdat hd
  subst hc hdat hd
  obtain ⟨hp, g, d, tk, os⟩ := s
  have hT : ∀ tk', (⟨hp, g, d, tk', os⟩ : Shared).TypeIs (.ref a) "list" := fun _ => ⟨_, hx, rfl⟩
  have hmiss := list_keys_none
  have hname : (["__module__", "__name__", "__qualname__", "__doc__", "__annotations__"] : List Str).contains "keys" = false := by decide +kernel
  have hsz : ("keys" : Str).length + 100 ≤ sizeLine := by first | size_fits | decide +kernel
  have f1 := sub_AttributeError
  have f3 := PySem.F.slot_list_getattribute.lookup
  have f4 := PySem.F.slot_list_getattribute.bind (.ref a)
  have f5 := am_list_getattr_none
  unfold getAttr? getAttrBy? getAttrBy
  repeat (any_goals (first | assumption | exact hT _ | ((with_reducible show wpAny _ _ (call (Value.builtin "list.__getattribute__") _ _) _ _ _); refine call_meets PySem.F.slot_list_getattribute (hT _) am_entry_list_getattribute (PySem.F.args_list_getattribute_2 _ _) (meets_miss_listH x1 a xs k sl "keys" _ hmiss hname hsz) ⟨hx, hot, fun h' tk' e hk' hx' => ?_⟩) | wp_step))
  obtain ⟨t', u', he⟩ := hx'
  show wpAny _ _ (getattributeRaised _ _ _ _ _ _ _) _ _ _
  unfold getattributeRaised
  repeat (any_goals (first | assumption | wp_step))
  all_goals first | exact h _ _ hk' | (dsimp only; repeat (any_goals (first | assumption | exact h _ _ hk' | wp_step)))
/-- dict([]) -/
theorem dict_nil_hot {s : Shared} {l x1 : Addr} {ol : Obj} {n : Nat} {Q : Value → Shared → Prop} (hot : HotAt A x1 s.heap) (hl : s.heap.get? l = some ol) (hc : ol.cls = .type "list") (hd : ol.dict = none)
    (hdat : ol.data = .seq #[] n)
    (h : ∀ h' tk, h'.DictOf (mixKind prog w) s.heap.objs.size [] → (∀ b o, s.heap.get? b = some o → h'.get? b = some o) → Q (.ref s.heap.objs.size) { s with heap := h', toks := tk }) :
    wpAny (model prog w) A (call (.type "dict") [.ref l]) Q E s := by
  obtain ⟨hh, o1, vs1, ho1, d1, c1⟩ := hot
  refine callType_codes (Q₁ := fun obj s₁ => obj = .ref s.heap.objs.size ∧ s₁ = { s with heap := s.heap.push { cls := .type "dict", data := .dict #[] } }) PySem.F.kt_called_dict (PySem.F.kt_typeCall_dict_1 _) PySem.F.entry_dict_init (kt_code_dict_new _ ⟨rfl, rfl⟩) ?_
  rintro obj s₁ ⟨rfl, rfl⟩
  have hnew : (s.heap.push { cls := .type "dict", data := .dict #[] }).DictOf (mixKind prog w) s.heap.objs.size [] := Heap.DictOf.new s.heap
  have k0 : ∀ b o, s.heap.get? b = some o → (s.heap.push { cls := .type "dict", data := .dict #[] }).get? b = some o := fun b o e => Heap.get?_push_of_some _ e
  refine ⟨hnew.typeIs, PySem.F.args_dict_init_2 _ _, ?_⟩
  unfold Builtin.«dict.__init__»
  refine wpAny_bind ?_
  unfold Builtin.Dict.selfAndRest
  refine wpAny_bind (wpAny_notOrdered_dict hnew.typeIs ?_)
  show wpAny _ _ (pure (s.heap.objs.size, [Value.ref l])) _ _ _
  refine wpAny_pure ?_
  show wpAny _ _ (Builtin.Dict.updateFrom "dict.__init__" s.heap.objs.size (.ref l) [] .none) _ _ _
  unfold Builtin.Dict.updateFrom
  refine wpAny_bind (wpAny_typeOf (T := "list") ⟨ol, k0 _ _ hl, hc⟩ ?_)
  rw [if_pos (by first | decide | rfl | simp)]
  refine wpAny_bind (miss_list_hot (x1 := x1) (k0 _ _ hl) hc hdat hd ⟨hh, o1, vs1, k0 _ _ ho1, d1, c1⟩ fun h1 tk1 hk1 => ?_)
  rw [if_pos (show (none : Option Value).isNone = true from rfl)]
  refine wpAny_bind (wpAny_rule ?_)
  have hl1 : h1.IsList l #[] := ⟨ol, hk1 _ _ (k0 _ _ hl), hc, n, hdat⟩
  have hS1 : s.heap.objs.size < h1.objs.size := by
    have e : (s.heap.push { cls := .type "dict", data := .dict #[] }).get? s.heap.objs.size = some { cls := .type "dict", data := .dict #[] } := Heap.get?_push_size _ rfl
    exact Heap.lt_size (hk1 _ _ e)
  refine wpAny_bind (wpAny_pyIter_list hl1 ?_)
  have k2 : ∀ b o, h1.get? b = some o → (h1.push { cls := .type "list_iterator", data := .fields #[.ref l, .int 0 0] }).get? b = some o := fun b o e => Heap.get?_push_of_some _ e
  have hlt : l < s.heap.objs.size := Heap.lt_size hl
  have hx1 : x1 < s.heap.objs.size := Heap.lt_size ho1
  have key : codeAny (model prog w) A.in1 (.builtin "dict.update.loop" ⟨[.ref s.heap.objs.size, .ref h1.objs.size, .int 0 0, .none], []⟩) (wants (fun r s₂ => r = .none ∧ Q (.ref s.heap.objs.size) s₂) E)
      { s with heap := h1.push { cls := .type "list_iterator", data := .fields #[.ref l, .int 0 0] }, toks := tk1 } := by
    refine codeAny_builtin ud_entry ?_
    rw [Around.under_plainId ud_plain _]
    show wpAny _ A.in1.in1 (pyNext (.ref h1.objs.size) >>= _) _ _ _
    refine wpAny_bind (list_end_hot (A := A.in1.in1) (i := 0) (x1 := x1) (l := l) (items := #[]) ⟨hh, o1, vs1, k2 _ _ (hk1 _ _ (k0 _ _ ho1)), d1, c1⟩ (Nat.ne_of_lt (Nat.lt_trans hx1 hS1)) ⟨_, Heap.get?_push_size _ rfl, rfl, rfl⟩ (hl1.at fun o e => k2 _ _ e) rfl fun h' he => ?_)
    show wpAny _ A.in1.in1 (Builtin.Dict.addKeywords s.heap.objs.size [] >>= _) _ _ _
    refine wpAny_bind (wpAny_pure (wpAny_pure ?_))
    refine ⟨rfl, h h' tk1 (((hnew.at fun o e => hk1 _ _ e).at fun o e => k2 _ _ e).at fun o e => he _ _ (Nat.ne_of_lt hS1) e) fun b o e => ?_⟩
    exact he b o (Nat.ne_of_lt (Nat.lt_trans (Heap.lt_size e) hS1)) (k2 _ _ (hk1 _ _ (k0 _ _ e)))
  first
    | exact wpAny_pure ⟨plainId_quiet ud_plain _, key⟩
    | exact wpAny_bind (wpAny_pure (wpAny_pure ⟨plainId_quiet ud_plain _, key⟩))
end
/-! ### walks -/
section
variable {P : Program} {w : World} {K : PySem.W.Frag} {tg : Expr}
theorem turn_listH (a it : Addr) : TurnH P w K tg (Itl K a) [it] it (fun i h => h.IsListIter it a i) where
  mem := by simp
  obj := fun i h st b hb => by
    have e : b = it := by simpa using hb
    subst e
    obtain ⟨o, e, c, d⟩ := st
    exact ⟨o, e, fun v z => by rw [d] at z; cases z⟩
  keep := fun i h h' st k => st.at fun o e => k it (by simp) o e
  item := by
    intro X hP hw hK hc i pins s σ H E I hf st hg
    subst hP hw hK
    obtain ⟨xs, x, hq, hx⟩ := hg
    obtain ⟨its, rv, p, hz⟩ := I.list hq
    obtain ⟨u, hu, ru⟩ := rv.get hx
    obtain ⟨f0, f1, f2, f3, f4, f5⟩ := hf it (by simp)
    refine wpAny_pyNext_list_item st p.isList (x := u) (by simpa using hu) fun h' st' sb => ?_
    have I1 : Inv X pins σ H { s with heap := h' } := I.turned (t' := s.toks) (fun b o hb e => (sb.2 b hb).trans e) f0 f1 f3 f4 f5
    obtain ⟨o, e, c, d⟩ := id st'
    exact ⟨u, rfl, go_of (s := { s with heap := h' }) e c d (by decide) ⟨x, H, I1, ru, ⟨rfl, fun ys hy => by rw [I.list_inj hy hq]; exact hx⟩, st', fun b hb => (hf b hb).1⟩⟩
  done := by
    intro X hP hw hK hc i pins s σ H E I hf st hg
    subst hP hw hK
    obtain ⟨xs, hq, hx⟩ := hg
    obtain ⟨its, rv, p, hz⟩ := I.list hq
    obtain ⟨f0, f1, f2, f3, f4, f5⟩ := hf it (by simp)
    have hl := rv.length
    obtain ⟨q, hq1, hq2⟩ := hc
    obtain ⟨hh, v1, e1, c1⟩ := hq1
    have hot : HotAt X.A q.1 s.heap := ⟨hh, q.2, v1, (I.pin q (List.mem_append_left _ hq2)).1, e1, c1⟩
    exact list_end_hot hot (f5 q (List.mem_append_left _ hq2)) st p.isList (by simp; omega) fun h' eb => ⟨rfl, I.turned (t' := s.toks) (fun b o hb e => eb b o hb e) f0 f1 f3 f4 f5⟩
  self := fun _ _ _ _ _ st h => wpAny_pyIter_listiter st h
theorem turn_tupleH (a it : Addr) : TurnH P w K tg (Itt K a) [it] it (fun i h => h.IsTupleIter it a i) where
  mem := by simp
  obj := fun i h st b hb => by
    have e : b = it := by simpa using hb
    subst e
    obtain ⟨o, e, c, d⟩ := st
    exact ⟨o, e, fun v z => by rw [d] at z; cases z⟩
  keep := fun i h h' st k => st.at fun o e => k it (by simp) o e
  item := by
    intro X hP hw hK hc i pins s σ H E I hf st hg
    subst hP hw hK
    obtain ⟨xs, x, hq, hx⟩ := hg
    obtain ⟨its, rv, p, hz⟩ := I.tuple hq
    obtain ⟨u, hu, ru⟩ := rv.get hx
    obtain ⟨f0, f1, f2, f3, f4, f5⟩ := hf it (by simp)
    refine wpAny_pyNext_tuple_item st (show s.heap.IsTuple a its.toArray from p) (x := u) (by simpa using hu) fun h' st' sb => ?_
    have I1 : Inv X pins σ H { s with heap := h' } := I.turned (t' := s.toks) (fun b o hb e => (sb.2 b hb).trans e) f0 f1 f3 f4 f5
    obtain ⟨o, e, c, d⟩ := id st'
    exact ⟨u, rfl, go_of (s := { s with heap := h' }) e c d (by decide) ⟨x, H, I1, ru, ⟨rfl, fun ys hy => by rw [I.tuple_inj hy hq]; exact hx⟩, st', fun b hb => (hf b hb).1⟩⟩
  done := by
    intro X hP hw hK hc i pins s σ H E I hf st hg
    subst hP hw hK
    obtain ⟨xs, hq, hx⟩ := hg
    obtain ⟨its, rv, p, hz⟩ := I.tuple hq
    obtain ⟨f0, f1, f2, f3, f4, f5⟩ := hf it (by simp)
    have hl := rv.length
    obtain ⟨q, hq1, hq2⟩ := hc
    obtain ⟨hh, v1, e1, c1⟩ := hq1
    have hot : HotAt X.A q.1 s.heap := ⟨hh, q.2, v1, (I.pin q (List.mem_append_left _ hq2)).1, e1, c1⟩
    exact tuple_end_hot hot (f5 q (List.mem_append_left _ hq2)) st (show s.heap.IsTuple a its.toArray from p) (by simp; omega) fun h' eb => ⟨rfl, I.turned (t' := s.toks) (fun b o hb e => eb b o hb e) f0 f1 f3 f4 f5⟩
  self := fun _ _ _ _ _ st h => wpAny_pyIter_tupleiter st h
theorem turn_keysH {d : Addr} {o : Obj} {es : Array DictEntry} {ep : Nat} {kvs : List (L2.Key × V)} (it : Addr) (hod : o.data = .dict es ep) : TurnH P w K tg (Itk d o kvs) [it] it (fun i h => h.IsKeyIter it d i kvs.length ep) where
  mem := by simp
  obj := fun i h st b hb => by
    have e : b = it := by simpa using hb
    subst e
    obtain ⟨oi, e, c, dd⟩ := st
    exact ⟨oi, e, fun v z => by rw [dd] at z; cases z⟩
  keep := fun i h h' st k => st.at fun oi e => k it (by simp) oi e
  item := by
    intro X hP hw hK hc i pins s σ H E I hf st hg
    subst hP hw hK
    obtain ⟨hd, hi⟩ := hg
    obtain ⟨f0, f1, f2, f3, f4, f5⟩ := hf it (by simp)
    obtain ⟨hs, hgd, hx, es', ep', vs, hdt, hsz, kv, hm⟩ := I.frzK hd
    obtain ⟨rfl, rfl⟩ := dict_ep hod hdt
    obtain ⟨⟨k, v⟩, hkv⟩ : ∃ p, kvs[i]? = some p := ⟨kvs[i], List.getElem?_eq_getElem hi⟩
    obtain ⟨u, hu, ru⟩ := kv_get kv hkv
    have hl : kvs.length = vs.length := Paired.length kv
    rw [hl] at st
    refine wpAny_pyNext_dict_item st hm hu fun key h' hkey st' sb => ?_
    have I1 : Inv X pins σ H { s with heap := h' } := I.turned (t' := s.toks) (fun b ob hb e => (sb.2 b hb).trans e) f0 f1 f3 f4 f5
    obtain ⟨oi, e, c, dd⟩ := id st'
    refine ⟨key, rfl, go_of (s := { s with heap := h' }) e c dd (by decide) ⟨kV k, H, I1, relV_key (show keyIs k key = true from hkey), ⟨rfl, k, v, hkv, rfl⟩, ?_, fun b hb => (hf b hb).1⟩⟩
    show h'.IsKeyIter it d (i + 1) kvs.length _
    rw [hl]
    exact st'
  done := by
    intro X hP hw hK hc i pins s σ H E I hf st hg
    subst hP hw hK
    obtain ⟨hd, hi⟩ := hg
    obtain ⟨f0, f1, f2, f3, f4, f5⟩ := hf it (by simp)
    obtain ⟨hs, hgd, hx, es', ep', vs, hdt, hsz, kv, hm⟩ := I.frzK hd
    obtain ⟨rfl, rfl⟩ := dict_ep hod hdt
    obtain ⟨q, hq1, hq2⟩ := hc
    obtain ⟨hh, v1, e1, c1⟩ := hq1
    have hot : HotAt X.A q.1 s.heap := ⟨hh, q.2, v1, (I.pin q (List.mem_append_left _ hq2)).1, e1, c1⟩
    exact key_end_hot hot (f5 q (List.mem_append_left _ hq2)) st hgd hdt hsz hi fun h' eb => ⟨rfl, I.turned (t' := s.toks) (fun b ob hb e => eb b ob hb e) f0 f1 f3 f4 f5⟩
  self := fun A i s Q E st h => wpAny_pyIter_keyiter st h
end
section
variable {X : Cx} {tg e : Expr} {te : TE}
theorem pi_oneH {pins : List (Addr × Obj)} {σ : L2.St} {H : Hp} {s : Shared} {R : It → Hp → Prop} {J : It} {tn : Nat → Heap → Prop} {tk : Nat} (I : Inv X pins σ H s) (o : Obj)
    (T : TurnH X.prog X.w X.K tg J [s.heap.objs.size] s.heap.objs.size tn) (st : tn 0 (s.heap.push o)) (q : R J H) : PIEH X pins σ tg R (.ref s.heap.objs.size) { s with heap := s.heap.push o, toks := tk } := by
  refine ⟨s.heap.objs.size, [s.heap.objs.size], tn, J, H, rfl, I.kept fun b ob e => Heap.get?_push_of_some _ e, T, st, fun b hb => ?_, q⟩
  have e : b = s.heap.objs.size := by simpa using hb
  subst e
  exact I.fpOk (Nat.le_refl _) (I.hok.fresh (Nat.le_refl _))
/-- a list or a tuple, as it comes -/
def iLT (K : PySem.W.Frag) (te : TE) : TI := fun σ H R => te σ H fun v H1 => (∃ a, v = .ref a ∧ (∃ vs, SqL K H1 a vs) ∧ R (Itl K a) H1) ∨ (∃ a, v = .ref a ∧ (∃ vs, SqT K H1 a vs) ∧ R (Itt K a) H1)
theorem pi_LT (he : PE X e te) : PI X tg e (iLT X.K te) := by
  refine ⟨fun pins s σ H R I h => thn (he.run pins s σ H _ I h) fun v s1 ⟨y, H1, I1, r1, q⟩ => ?_⟩
  rcases q with ⟨a, rfl, ⟨vs, hq⟩, q⟩ | ⟨a, rfl, ⟨vs, hq⟩, q⟩
  · cases r1
    obtain ⟨its, _, p, _⟩ := I1.list hq
    exact wpAny_pyIter_list p.isList (pi_one (tk := s1.toks) I1 _ (turn_list a _) ⟨_, Heap.get?_push_size _ rfl, rfl, rfl⟩ q)
  · cases r1
    obtain ⟨its, _, p, _⟩ := I1.tuple hq
    exact wpAny_pyIter_tuple (show s1.heap.IsTuple a its.toArray from p) (pi_one (tk := s1.toks) I1 _ (turn_tuple a _) ⟨_, Heap.get?_push_size _ rfl, rfl, rfl⟩ q)
theorem pi_LTH (he : PE X e te) : PIH X tg e (iLT X.K te) := by
  refine ⟨fun pins s σ H R I h => thn (he.run pins s σ H _ I h) fun v s1 ⟨y, H1, I1, r1, q⟩ => ?_⟩
  rcases q with ⟨a, rfl, ⟨vs, hq⟩, q⟩ | ⟨a, rfl, ⟨vs, hq⟩, q⟩
  · cases r1
    obtain ⟨its, _, p, _⟩ := I1.list hq
    exact wpAny_pyIter_list p.isList (pi_oneH (tk := s1.toks) I1 _ (turn_listH a _) ⟨_, Heap.get?_push_size _ rfl, rfl, rfl⟩ q)
  · cases r1
    obtain ⟨its, _, p, _⟩ := I1.tuple hq
    exact wpAny_pyIter_tuple (show s1.heap.IsTuple a its.toArray from p) (pi_oneH (tk := s1.toks) I1 _ (turn_tupleH a _) ⟨_, Heap.get?_push_size _ rfl, rfl, rfl⟩ q)
/-- the keys of a locked dict -/
def iKy (td : TE) : TI := fun σ H R => td σ H fun x H1 => ∃ d o, x = .ref d ∧ ∃ kvs, H1 d = some (.frz o (.dK kvs)) ∧ R (Itk d o kvs) H1
theorem pi_ky (he : PE X e te) : PI X tg e (iKy te) := by
  refine ⟨fun pins s σ H R I h => ?_⟩
  refine thn (he.run pins s σ H _ I h) fun u s1 ⟨x, H1, I1, rx, d, o, ex, kvs, hd, q⟩ => ?_
  subst ex
  obtain rfl : u = Value.ref d := rx
  obtain ⟨hs, hgd, hx, es, ep, vs, hdt, hsz, kv, hm⟩ := I1.frzK hd
  refine iter_keys hs hgd hx hdt (pi_one (tk := s1.toks) I1 _ (turn_keys _ hdt) ⟨_, Heap.get?_push_size _ rfl, rfl, ?_⟩ q)
  rw [hsz] <;> rfl
theorem pi_kyH (he : PE X e te) : PIH X tg e (iKy te) := by
  refine ⟨fun pins s σ H R I h => ?_⟩
  refine thn (he.run pins s σ H _ I h) fun u s1 ⟨x, H1, I1, rx, d, o, ex, kvs, hd, q⟩ => ?_
  subst ex
  obtain rfl : u = Value.ref d := rx
  obtain ⟨hs, hgd, hx, es, ep, vs, hdt, hsz, kv, hm⟩ := I1.frzK hd
  refine iter_keys hs hgd hx hdt (pi_oneH (tk := s1.toks) I1 _ (turn_keysH _ hdt) ⟨_, Heap.get?_push_size _ rfl, rfl, ?_⟩ q)
  rw [hsz] <;> rfl
end
/-! ### the comprehension -/
/-- the block's context, the handled exception still pinned -/
abbrev blkH (X : Cx) (s : Shared) (H : Hp) (scope : Scope) (cenv : PySem.Env) (fp : List Addr) : Cx := { X with s_0 := s, H_0 := H, env := cenv, outer := X.stack, ex := fp, fn := fun x => scope.names.lookup x == some .cell, xe := fun _ _ => False }
section
variable {X : Cx}
theorem hotC_blk {s : Shared} {H : Hp} {scope : Scope} {cenv : PySem.Env} {fp : List Addr} (hc : HotC X) : HotC (blkH X s H scope cenv fp) := hc
theorem blk_pinned {pins : List (Addr × Obj)} {σ σ' : L2.St} {H : Hp} {s s' : Shared} {scope : Scope} {cenv : PySem.Env} {fp : List Addr} (I : Inv X pins σ H s) (hL : s.heap.objs.size ≤ cenv.locals)
    (k : ∀ b o, s.heap.get? b = some o → s'.heap.get? b = some o) (J : Inv (X.blk s H scope cenv fp) [] σ' H s') : Inv (blkH X s H scope cenv fp) [] σ' H s' :=
  ⟨⟨J.ok.mod, J.ok.kind, J.ok.glob, J.ok.blt, J.ok.above, J.ok.inj, J.ok.has, J.ok.cab, J.ok.hd, J.ok.frames, J.ok.stk, J.ok.exf, J.ok.bs, J.ok.bsz, J.ok.noex, J.ok.exfs, J.ok.funs, J.ok.frf⟩, J.os, J.bare, J.base, J.loc, J.cell, J.free, J.freeC, fun p hp => by
    have hp' : p ∈ X.pn := by simpa using hp
    have q := I.pin p (List.mem_append_left _ hp')
    refine ⟨k _ _ q.1, q.2.1, fun z => ?_, fun hm => ?_, q.2.2.2.2⟩
    · exact absurd (Nat.lt_of_lt_of_le (Heap.lt_size q.1) (by rw [z]; exact hL)) (Nat.lt_irrefl _)
    · exact (List.mem_cons.mp (I.stkSub p.1 hm)).elim q.2.2.1 q.2.2.2.1, J.hok, J.len⟩
theorem lc_coreH {pins : List (Addr × Obj)} {s : Shared} {σ : L2.St} {H : Hp} {Q : VK} {elt tg iter : Expr} {ifs : List Expr} {scope : Scope} {own : List (Str × Nat)} {pos pos' : Pos} {wi : TI} {g : TG} {tt : TT} {te : TE} {use : Option (Value → Sem Unit)} {Qf : Value → Shared → Prop}
    (hc : HotC X) (hN : X.N.Nodup) (I : Inv X pins σ H s) (hi : PIH X tg iter wi) (ok : BlkOk X.N X.env.scope scope own)
    (hg : ∀ (s : Shared) (H : Hp) (C : Addr) (cl : List (Str × Addr)) (fp : List Addr), PG (blkH X s H scope (compEnvC scope cl C X.env) fp) tg g) (ht : ∀ (s : Shared) (H : Hp) (C : Addr) (cl : List (Str × Addr)) (fp : List Addr), PTs (blkH X s H scope (compEnvC scope cl C X.env) fp) ifs tt)
    (he : ∀ (s : Shared) (H : Hp) (C : Addr) (cl : List (Str × Addr)) (fp : List Addr), PE (blkH X s H scope (compEnvC scope cl C X.env) fp) elt te) (hs : ∀ x, foldedSetIterable iter X.env x = pure x)
    (h : tLc wi g tt te (own.map (·.2)) σ H Q)
    (hRR : ∀ D C s' m H', Inv X pins σ H' s' → Q (.ref D) H' → s'.heap.Ns C m → FpOk X pins H' C → compPost (model X.prog X.w) X.A X.xe use Qf (.ref D) C (.ok .next) s') :
    wpAny (model X.prog X.w) X.A (comprehension (.ListComp elt [⟨tg, iter, ifs, 0⟩] scope pos) scope X.env pos' (newList []) false (eval iter X.env) use) Qf X.xe s := by
  have hfree : ∀ y ∈ scope.names, y.2 = .free → ∃ c, X.env.cells.lookup y.1 = some c := fun y hy e => by
    rcases ok.free y hy e with k | k
    · exact I.ok.has _ (.inl k)
    · exact I.ok.has _ (.inr k)
  refine wpAny_comprehension_free (use := use) rfl hs (closure_ok hfree) ok.kind (fun y hy e => by rw [ok.uniq y hy, e])
    (thn (hi.run pins s σ H _ I h) fun xv s1 hx => thn hx fun itv s2 h2 => ?_)
  obtain ⟨it, fp, tn, J, H2, e, I2, T, st2, f2, q⟩ := h2
  subst e
  refine wpAny_newObj_type (newEnv_comp ?_) (by show 0 ≤ sizeLine; decide)
  generalize hD : s2.heap.objs.size = D
  have hDn : H2 D = none := I2.hok.fresh (Nat.le_of_eq hD)
  obtain ⟨W, ⟨m0, w0⟩, turn⟩ := q D hDn
  generalize hs3 : ({ s2 with heap := s2.heap.push { cls := .type "list", data := .seq ([] : List Value).toArray } } : Shared) = s3
  have I3 : Inv X pins σ (upd H2 D (.lst [])) s3 := by
    rw [← hs3]
    refine I2.laid (t' := s2.toks) (fun b o e => Heap.get?_push_of_some _ e) (Nat.le_of_eq hD) ⟨Nat.zero_le _, [], 0, .nil, ?_⟩
    rw [← hD]
    exact Heap.get?_push_size _ rfl
  have h3 : s3.heap = s2.heap.push { cls := .type "list", data := .seq ([] : List Value).toArray } := by rw [← hs3]
  have sz : ∀ b ∈ fp, b < s2.heap.objs.size := fun b hb => by
    obtain ⟨o, e, _⟩ := T.obj _ _ st2 b hb
    exact Heap.lt_size e
  have f3 : ∀ b ∈ fp, FpOk X pins (upd H2 D (.lst [])) b ∧ b < s3.heap.objs.size := fun b hb => by
    have hlt := sz b hb
    refine ⟨⟨?_, (f2 b hb).2⟩, by rw [h3, Heap.size_push]; exact Nat.lt_succ_of_lt hlt⟩
    rw [upd_ne (by rw [← hD]; exact Nat.ne_of_lt hlt)]
    exact (f2 b hb).1
  have st3 : tn 0 s3.heap := T.keep _ _ _ st2 fun b _ o e => by rw [h3]; exact Heap.get?_push_of_some _ e
  have I4 : Inv (blkH X s3 (upd H2 D (.lst [])) scope (compEnvC scope (cellsFrom (s3.heap.objs.size + 1) scope.names (cloFrom X.env.cells scope.names [])) s3.heap.objs.size X.env) fp) [] (wipe σ (own.map (·.2))) (upd H2 D (.lst [])) { s3 with heap := pushCells (s3.heap.push { cls := .type "dict", data := .dict #[] }) scope.names } :=
    blk_pinned I3 (Nat.le_refl _) (fun b o e => pushCells_keeps _ _ _ _ (Heap.get?_push_of_some _ e)) (block_start I3 ok hN f3)
  have pg := hg s3 (upd H2 D (.lst [])) s3.heap.objs.size (cellsFrom (s3.heap.objs.size + 1) scope.names (cloFrom X.env.cells scope.names [])) fp
  have pt := ht s3 (upd H2 D (.lst [])) s3.heap.objs.size (cellsFrom (s3.heap.objs.size + 1) scope.names (cloFrom X.env.cells scope.names [])) fp
  have pe := he s3 (upd H2 D (.lst [])) s3.heap.objs.size (cellsFrom (s3.heap.objs.size + 1) scope.names (cloFrom X.env.cells scope.names [])) fp
  show codeAny _ _ (.compStart (.ListComp elt [⟨tg, iter, ifs, 0⟩] scope pos) 0 (.ref it) (.ref D) (compEnvC scope (cellsFrom (s3.heap.objs.size + 1) scope.names (cloFrom X.env.cells scope.names [])) s3.heap.objs.size X.env)) (compPost (model X.prog X.w) X.A X.xe use Qf (.ref D) s3.heap.objs.size) { s3 with heap := pushCells (s3.heap.push { cls := .type "dict", data := .dict #[] }) scope.names }
  have nfp : ∀ b ∈ fp, (upd H2 D (.lst [])) b = none := fun b hb => (f3 b hb).1.1
  generalize hce : compEnvC scope (cellsFrom (s3.heap.objs.size + 1) scope.names (cloFrom X.env.cells scope.names [])) s3.heap.objs.size X.env = ce at I4 pg pt pe ⊢
  have cL : ce.locals = s3.heap.objs.size := by subst hce; rfl
  generalize hH3 : upd H2 D (.lst []) = H3 at I3 I4 pg pt pe w0 nfp f3
  generalize hs4 : ({ s3 with heap := pushCells (s3.heap.push { cls := .type "dict", data := .dict #[] }) scope.names } : Shared) = s4 at I4 ⊢
  have st4 : tn 0 s4.heap := T.keep _ _ _ st3 fun b _ o e => by rw [← hs4]; exact pushCells_keeps _ _ _ _ (Heap.get?_push_of_some _ e)
  have stat : ∀ {σ' : L2.St} {H' : Hp} {s' : Shared}, Inv (blkH X s3 H3 scope ce fp) [] σ' H' s' → (∀ b ∈ fp, H' b = none) → ∀ b ∈ fp, FpOk (blkH X s3 H3 scope ce fp) [] H' b := fun {σ' H' s'} I' hn b hb =>
    ⟨hn b hb, (I'.ok.exf b hb).1, I'.ok.exfs b hb, .inl hb, fun x c e => (I'.ok.exf b hb).2 x c e, fun p hp => (f3 b hb).1.2.2.2.2.2 p (List.mem_append_left _ (by simpa using hp))⟩
  have loop : codeAny (model X.prog X.w) X.A (.compLoop (.ListComp elt [⟨tg, iter, ifs, 0⟩] scope pos) 0 (.ref it) (.ref D) ce) (compPost (model X.prog X.w) X.A X.xe use Qf (.ref D) s3.heap.objs.size) s4 := by
    refine compLoop_any (fun n s' => ∃ i H', Inv (blkH X s3 H3 scope ce fp) [] (wipe σ (own.map (·.2))) H' s' ∧ tn i s'.heap ∧ (∀ b ∈ fp, H' b = none) ∧ W i n H') ?_ m0 ⟨0, H3, I4, st4, nfp, w0⟩
    rintro n s5 ⟨i, H5, I5, st5, n5, w5⟩
    rcases turn i n H5 w5 with ⟨stop, qq⟩ | ⟨go, Nx, hNx, step⟩
    · have td := T.done (blkH X s3 H3 scope ce fp) rfl rfl rfl hc i [] s5 _ H5 (fun _ _ => False) I5 (stat I5 n5) st5 stop
      refine thnF td fun r s6 ⟨hr, I6⟩ => ?_
      subst hr
      have I7 : Inv X pins σ H5 s6 := I3.call' (ch := fp) I6.os I6.base I6.hok I6.bare fun b hb => ⟨(f3 b hb).1.2.2.2.1, (f3 b hb).1.2.1, (f3 b hb).1.2.2.2.2.1, (f3 b hb).1.2.2.2.2.2⟩
      have nC : H5 s3.heap.objs.size = none := by
        have z : H5 ce.locals = none := I6.free
        rw [cL] at z
        exact z
      obtain ⟨m, hn, _⟩ := I6.loc
      have hn : s6.heap.Ns ce.locals m := hn
      rw [cL] at hn
      exact hRR D s3.heap.objs.size s6 m H5 I7 qq hn (I3.fpOk (Nat.le_refl _) nC)
    · have ti := T.item (blkH X s3 H3 scope ce fp) rfl rfl rfl hc i [] s5 _ H5 (fun _ _ => False) I5 (stat I5 n5) st5 go
      refine thnF ti fun r s6 ⟨u, hr, h6⟩ => ?_
      subst hr
      refine thnF h6 fun _ s7 ⟨x, H7, I7, r7, y7, st7, n7⟩ => ?_
      have I7' := I7.pinned (stat I7 n7) (T.obj _ _ st7)
      refine thnF (pg.run _ s7 _ H7 x u _ I7' r7 (step x H7 y7)) fun _ s8 ⟨σ8, H8, I8, hw8, q8⟩ => ?_
      refine thnF (pt.run _ s8 σ8 H8 _ I8 q8) fun b s9 ⟨H9, I9, q9⟩ => ?_
      have fin : ∀ {s' : Shared} {H' : Hp}, Inv (blkH X s3 H3 scope ce fp) ([] ++ pinsAt fp s7.heap) σ8 H' s' → Nx H' → ∃ m, m < n ∧ ∃ i H', Inv (blkH X s3 H3 scope ce fp) [] (wipe σ (own.map (·.2))) H' s' ∧ tn i s'.heap ∧ (∀ b ∈ fp, H' b = none) ∧ W i m H' := fun {s' H'} I' nx => by
        obtain ⟨m', hm, w'⟩ := hNx H' nx
        have pin' : ∀ b ∈ fp, ∀ o, s7.heap.get? b = some o → s'.heap.get? b = some o ∧ H' b = none := fun b hb o e =>
          let z := I'.pin (b, o) (List.mem_append_right _ (List.mem_append_right _ (mem_pinsAt hb e)))
          ⟨z.1, z.2.1⟩
        have hl : (wipe σ (own.map (·.2))).length = σ8.length := by rw [← hw8, wipe_length]
        refine ⟨m', hm, i + 1, H', (I'.unpinned (pins := [])).weak hl (fun j v e => ?_), T.keep _ _ _ st7 fun b hb o e => (pin' b hb o e).1, fun b hb => ?_, w'⟩
        · rw [← hw8] at e
          exact (wipe_some e).1
        · obtain ⟨o, e, _⟩ := T.obj _ _ st7 b hb
          exact (pin' b hb o e).2
      cases b with
      | false =>
        simp only [Bool.false_eq_true, if_false] at q9 ⊢
        exact fin I9 q9
      | true =>
        simp only [if_true] at q9 ⊢
        refine thnF (pe.run _ s9 σ8 H9 _ I9 q9) fun z s10 ⟨yv, H10, I10, r10, acc, hD10, hz10, nx⟩ => ?_
        exact app_ok (X := blkH X s3 H3 scope ce fp) I10 hD10 hz10 r10 fun s11 I11 => fin I11 nx
  exact codeAny_compStart_list loop (T.self X.A 0 _ _ _ st4 loop)
theorem pe_lcH {elt tg iter : Expr} {ifs : List Expr} {scope : Scope} {own : List (Str × Nat)} {pos : Pos} {wi : TI} {g : TG} {tt : TT} {te : TE} (hc : HotC X) (hN : X.N.Nodup) (hi : PIH X tg iter wi) (ok : BlkOk X.N X.env.scope scope own)
    (hg : ∀ (s : Shared) (H : Hp) (C : Addr) (cl : List (Str × Addr)) (fp : List Addr), PG (blkH X s H scope (compEnvC scope cl C X.env) fp) tg g) (ht : ∀ (s : Shared) (H : Hp) (C : Addr) (cl : List (Str × Addr)) (fp : List Addr), PTs (blkH X s H scope (compEnvC scope cl C X.env) fp) ifs tt)
    (he : ∀ (s : Shared) (H : Hp) (C : Addr) (cl : List (Str × Addr)) (fp : List Addr), PE (blkH X s H scope (compEnvC scope cl C X.env) fp) elt te) (hs : ∀ x, foldedSetIterable iter X.env x = pure x := by intro _; rfl) :
    PE X (.ListComp elt [⟨tg, iter, ifs, 0⟩] scope pos) (tLc wi g tt te (own.map (·.2))) := by
  refine ⟨fun pins s σ H Q I h => ?_⟩
  rw [eval_ListComp]
  refine lc_coreH hc hN I hi ok hg ht he hs h fun D C s' m H' I' q hn f => ⟨m, hn, fun h'' sb => ?_⟩
  obtain ⟨f0, f1, f2, f3, f4, f5⟩ := f
  exact ⟨.ref D, H', I'.turned (t' := s'.toks) (fun b o hb e => (sb.2 b hb).trans e) f0 f1 f3 f4 f5, rfl, q⟩
end
end HH1

/-! HHotD: dict([]), calls, defs while an exception is handled; exceptions whose context is None; over data. -/
namespace HH1
open PySem PySem.Spec PyProof.Rows L2 HotX L2H
/-! ### dict([]) -/
def rDictE (K : PySem.W.Frag) : List V → Hp → VK → Prop := fun xs H Q => ∃ a, xs = [.ref a] ∧ SqL K H a [] ∧ ∀ p o, H p = none → Q (.ref p) (upd H p (.frz o (.dK [])))
theorem call_dictE {X : Cx} (hc : X.calm = true) : CallR X (.type "dict") (rDictE X.K) := by
  intro pins s σ H xs us Q I r q
  obtain ⟨a, rfl, hq, q⟩ := q
  refine thn (call_dictP hc pins s σ H [.ref a] us (fun v H' => ∃ p, v = .ref p ∧ H p = none ∧ H' = upd H p (.dK [])) I r ⟨a, [], [], rfl, hq, .nil, fun p hp => ⟨p, rfl, hp, rfl⟩⟩) fun v s' ⟨x, H', I', rv, p, hv, hp, hH⟩ => ?_
  subst hv hH
  obtain ⟨od, I2⟩ := I'.lock upd_same trivial
  rw [upd_upd] at I2
  exact ⟨.ref p, _, I2, rv, q p od hp⟩
theorem call_dictEH {X : Cx} (hc : HotC X) : CallR X (.type "dict") (rDictE X.K) := by
  intro pins s σ H xs us Q I r q
  obtain ⟨a, rfl, hq, q⟩ := q
  obtain ⟨u, eu, rx⟩ := vals1 r
  subst eu
  cases rx
  obtain ⟨x1, hot⟩ := hc.at I
  obtain ⟨its, rv, pl, hz⟩ := I.list hq
  cases rv
  obtain ⟨o, n, ho, hcl, hd, hdat⟩ := pl
  refine dict_nil_hot hot ho hcl hd hdat fun h' tk hd' k => ?_
  have hm : (s.heap.objs.size == sysModules) = false := beq_eq_false_iff_ne.mpr (Nat.ne_of_gt I.big)
  have hn : H s.heap.objs.size = none := I.hok.fresh (Nat.le_refl _)
  have I1 : Inv X pins σ (upd H s.heap.objs.size (.dK [])) { s with heap := h', toks := tk } :=
    I.laid (a := s.heap.objs.size) (o := .dK []) (t' := tk) k (Nat.le_refl _) ⟨Nat.zero_le _, hm, [], .nil, hd'⟩
  obtain ⟨od, I2⟩ := I1.lock upd_same trivial
  rw [upd_upd] at I2
  exact ⟨.ref s.heap.objs.size, _, I2, rfl, q _ od hn⟩
/-! ### list(text) -/
theorem vals_at : ∀ {xs : List V} {us : List Value}, xs.length = us.length → (∀ (j : Nat) (x : V) (u : Value), xs[j]? = some x → us[j]? = some u → RelV x u) → Vals xs us
  | [], [], _, _ => .nil
  | [], _ :: _, h, _ => by simp at h
  | _ :: _, [], h, _ => by simp at h
  | x :: xs, u :: us, h, k => .cons (k 0 x u rfl rfl) (vals_at (by simpa using h) fun j y v h1 h2 => k (j + 1) y v (by simpa using h1) (by simpa using h2))
def chV (z : Str) : List V := z.cps.toList.map fun c => V.str ⟨#[c]⟩
def rListS : List V → Hp → VK → Prop := fun xs H Q => ∃ z, xs = [.str z] ∧ z.length ≤ sizeLine ∧ ∀ p, H p = none → Q (.ref p) (upd H p (.lst (chV z)))
theorem call_listS {X : Cx} (hc : X.calm = true) : CallR X (.type "list") rListS := by
  intro pins s σ H xs us Q I r q
  obtain ⟨z, rfl, hz, q⟩ := q
  obtain ⟨u, eu, rx⟩ := vals1 r
  subst eu
  obtain ⟨t, rfl⟩ := rx
  refine call_list_str (I.ok.hd hc) z t (fun h' tk acc' c' k e it => ?_) (by show z.cps.size ≤ sizeLine; exact hz)
  have hl : (chV z).length = acc'.toList.length := by simp [chV, it.1]
  have hv : Vals (chV z) acc'.toList := vals_at hl fun j x u h1 h2 => by
    obtain ⟨c, t', h3, rfl⟩ := it.2 j u (by rw [← Array.getElem?_toList]; exact h2)
    unfold chV at h1
    rw [List.getElem?_map, Array.getElem?_toList, h3] at h1
    cases h1
    exact ⟨_, rfl⟩
  refine ⟨.ref s.heap.objs.size, _, I.laid (t' := tk) k (Nat.le_refl _) (show ObjOk X.prog X.w _ h' _ (.lst (chV z)) from ⟨?_, acc'.toList, c', hv, by rw [Array.toArray_toList]; exact e⟩), rfl, q _ (I.hok.fresh (Nat.le_refl _))⟩
  rw [hl]
  have a1 := it.1
  simp only [Array.length_toList]
  rw [a1]
  exact hz
/-! ### calls -/
theorem pe_callH0 {X : Cx} {CX : CXT} {k : Nat} {f : Addr} {fd : FuncData} {ps : List Str} {sp : Sp} {E : XK} {x : Str} {q pos : Pos} {e : Expr} {es : List Expr} {t : TA}
    (F : FnH X.prog X.w X.K X.mg X.base CX k f fd ps sp) (hr : RoomH k X.A) (hc : HotC X) (hg : Gl X x) (hm : X.mg x = some (.ref f)) (hk : PySem.W.keepIn X.K (.ref f) = true) (hb : Binds X.K fd ps []) (hx : Passes CX X E)
    (ha : PA X (e :: es) t) (hdb : (x == ("__debug__" : Str)) = false := by decide) (he : starEach (e :: es) X.env = (false, eval e X.env) :: starEach es X.env := by rfl) (hpl : (backTo pos (starEach es X.env)).any (·.1) = false := by rfl) :
    PE X (.Call (.Name x q) (e :: es) [] pos) (tCall sp [] E t) := by
  refine ⟨fun pins s σ H Q I h => (pe_callH F hr hc hg hm hk hb (E := fun _ => E) (fun σ pins H s e s' I c => hx pins σ H s e s' I c) ha hdb he hpl).run pins s σ H Q I ?_⟩
  have e : (fun (vs : List V) (H1 : Hp) => sp (vs ++ []) H1 Q E) = fun vs H1 => sp vs H1 Q E := by
    funext vs H1
    rw [List.append_nil]
  show t σ H fun vs H1 => sp vs H1 Q E
  rw [← e]
  exact h
/-! ### exceptions whose context is None -/
theorem passN {X : Cx} : Passes (L2N.CX X.prog X.w) X E0 := fun _ _ _ _ _ _ _ h => by
  obtain ⟨_, _, _, _, _, _, _, _, _, _, _, _, z⟩ := h
  exact z.elim
theorem takesN0 {X : Cx} : L2N.Takes X (fun _ _ _ _ => False) := fun _ _ x => by
  obtain ⟨_, _, _, _, _, _, _, _, _, _, _, _, _, _, _, _, z⟩ := x
  exact z.elim
theorem passesN_len {X : Cx} {W : WX} {E : XK} (tk : L2N.Takes X W) (hW : ∀ cls d σ H, σ.length = X.N.length → E cls d H → W cls d σ H) : Passes (L2N.CX X.prog X.w) X E :=
  fun _ σ _ _ e s' I c => tk e s' (L2N.XE.of_call I (fun cls d H' h => hW cls d σ H' I.len h) c)
section
variable {X : Cx} {e : Expr} {es : List Expr} {ta : TA} {p pos : Pos}
theorem pmkN_oex {CX : CXT} {x : Str} {C fI : Addr} {k : Nat} {fd : FuncData} {ps : List Str} {sp : Sp} {ds : List Value} {dvs : List V} (T : OexC X.K C) (iC : PySem.W.findIn X.K (.ref C) "__init__" = some (some (.ref fI))) (tI : PySem.W.typeIn X.K (.ref fI) = some (.type "function"))
    (F1 : FnOk X.prog X.w X.K X.mg X.base CX k fI fd ps sp) (hr : Room (k + 1) X.A) (hb : Binds X.K fd ps ds) (hd : Vals dvs ds) (hx : Passes CX X (fun _ _ _ => False)) (hg : Gl X x) (hm : X.mg x = some (.ref C)) (ha : PA X (e :: es) ta)
    (hdb : (x == ("__debug__" : Str)) = false := by decide) (he : starEach (e :: es) X.env = (false, eval e X.env) :: starEach es X.env := by rfl) (hpl : (backTo pos (starEach es X.env)).any (·.1) = false := by rfl) :
    L2N.PMk X (.Call (.Name x p) (e :: es) [] pos) (tMkO C sp dvs ta) := by
  intro pins s σ H Q I h
  obtain ⟨nm, q, N, bs, bm, sn, sub, ab, col, dd, k0, k1, k2, k3, k5, hC, hbm⟩ := T.cls
  refine wpAny_Call_Name_kw (ld_glob I hg hm ?_ hdb)
  refine PySem.W.callWith_K (h₀ := X.base) I.ok.mod.kin T.kC (thn (ha.run pos pins s σ H _ I h) fun us s1 ⟨vs, H1, I1, r1, hz, q1⟩ => ⟨I1.kIn, ?_⟩) he hpl
  show wpAny _ _ (call (.ref C) us) _ _ _
  obtain ⟨hp, g, dr, tk, os⟩ := s1
  have hsz : hp.objs.size ≤ hp.objs.size + 1 := Nat.le_succ _
  have hn : H1 (hp.objs.size + 1) = none := I1.hok.fresh hsz
  have hq := q1 (hp.objs.size + 1) hn
  have kk : ∀ b o, hp.get? b = some o → ((hp.push (PySem.W.kdv_tup us)).push (PySem.HandSPX.excO C hp.objs.size)).get? b = some o := fun b o e => Heap.get?_push_of_some _ (Heap.get?_push_of_some _ e)
  have hget : ((hp.push (PySem.W.kdv_tup us)).push (PySem.HandSPX.excO C hp.objs.size)).get? (hp.objs.size + 1) = some (PySem.HandSPX.excO C hp.objs.size) := by heap_get
  have I2 : Inv X pins σ (upd H1 (hp.objs.size + 1) (exo (hp.objs.size + 1) C none)) ⟨(hp.push (PySem.W.kdv_tup us)).push (PySem.HandSPX.excO C hp.objs.size), g, dr, tk, os⟩ :=
    I1.laid (t' := tk) (a := hp.objs.size + 1) (o := exo (hp.objs.size + 1) C none) (h' := (hp.push (PySem.W.kdv_tup us)).push (PySem.HandSPX.excO C hp.objs.size)) kk hsz (exo_ok hget)
  have r2 : Vals (V.ref (hp.objs.size + 1) :: (vs ++ dvs)) (Value.ref (hp.objs.size + 1) :: (us ++ ds)) := .cons rfl (r1.append hd)
  have hl : (Value.ref (hp.objs.size + 1) :: us ++ ds).length = ps.length := by
    have e := r2.length
    rw [F1.len _ _ _ _ hq] at e
    exact e.symm
  have hus : us.length ≤ sizeLine := by
    rw [← Paired.length r1, sizeLine_eq]
    omega
  refine wpAny_call (PySem.HandSPX.call_own F.excBase_ValueError (fun Y => PySem.HandSPX.refsVE_contains Y bm hbm) (I1.kIn _ _ hC) (PySem.W.looks_findIn I1.kIn iC) (fun self => PySem.W.bind_fn I1.kIn self tI) hus
    (codeAny_mono (F1.run _ X.stack _ _ ⟨Value.ref (hp.objs.size + 1) :: us, []⟩ (Value.ref (hp.objs.size + 1) :: (us ++ ds)) _ _ (fun _ _ _ => False) (hr.make C us []) (I2.env0.make C us []) (hb _ (Value.ref (hp.objs.size + 1) :: us) I2.kIn hl) r2 hq) fun r s' hq' => ?_))
  cases r with
  | error er => exact hx pins σ _ _ er s' I2 hq'
  | ok fl =>
    cases fl with
    | ret u =>
      obtain ⟨v, H2, os2, bare2, un2, hok2, rv, ev, d, fs, ea, ed, hd1, q2⟩ := hq'
      subst ev
      obtain ⟨h2, g2, d2, t2, os'⟩ := s'
      obtain ⟨t0, G, J, kG, ge, hoe, na⟩ := mk_end0 (d2 := d2) (t2 := t2) I1 hsz kk un2 hok2 os2 bare2 ea ed hd1
      refine ⟨rv, hp.objs.size + 1, _, _, ⟨G, g2, d2, t2, os'⟩, _, .ref C, some d, rfl, J, kG, ge, hoe, ⟨rfl, rfl, fun vs hv => ?_⟩, rfl, rfl, na, rfl, bare2, raises_own T.exC T.tyC, q2⟩
      cases hv
      rfl
    | next => exact False.elim hq'
    | brk => exact False.elim hq'
    | cont => exact False.elim hq'
end
/-- the suite is hot -/
theorem hot_suite {X : Cx} {a : Addr} {oe : Obj} {cls : Value} {d : Option Addr} {pn : List (Addr × Obj)} (hz : L2N.Zn cls d oe) (hd : ∃ vs, oe.data = .fields vs) : HotC (X.suite a ((a, oe) :: pn)) := by
  obtain ⟨vs, e⟩ := hd
  exact ⟨(a, oe), ⟨rfl, vs, e, hz.2.2 vs e⟩, List.mem_cons_self⟩
theorem room_suite {X : Cx} {k : Nat} {a : Addr} {pn : List (Addr × Obj)} (r : Room k X.A) : RoomH k (X.suite a pn).A := ⟨r.dp, r.un⟩
section
variable {X : Cx} {x n : Str} {c : Value} {i : Nat} {body suite : List Stmt} {b₀ : Stmt} {np pos pos' : Pos} {tb : XK → TS} {ts : Addr → Value → Option Addr → TS}
theorem ps_tryN (hs : X.stack = X.env :: X.outer) (hf : X.env.frame = some X.env.locals) (hN : X.N.Nodup) (hi : X.N[i]? = some n) (hln : X.env.kindOf n = some .local) (hc : Names X x c)
    (hb : ∀ (E : XK) (pn : List (Addr × Obj)) (xe : Value → Shared → Prop), Passes (L2N.CX X.prog X.w) (X.tr pn xe) E → PassesOwn (model X.prog X.w) X.A X.env xe → PSs (X.tr pn xe) body (tb E))
    (hsu : ∀ (a : Addr) (oe : Obj) (cls : Value) (d : Option Addr) (pn : List (Addr × Obj)), L2N.Zn cls d oe → (∃ vs, oe.data = .fields vs) → PSs (X.suite a ((a, oe) :: pn)) (b₀ :: suite) (ts a cls d)) :
    PS X (.Try body [.ExceptHandler (some (.Name x np)) (some n) (b₀ :: suite) pos'] [] [] pos) (HX1.tTry X.K X.N.length c i tb ts) :=
  L2N.ps_try_as (tb := fun W => tb (fun cls d H' => ∀ σ' : L2.St, σ'.length = X.N.length → W cls d σ' H')) hs hf hN hi hln hc takesN0 (fun W pn xe tk po => hb _ pn xe (passesN_len (X := X.tr pn xe) tk fun cls d σ H hl h => h σ hl) po) hsu
end
end HH1
namespace DD
open PySem L2 HotX L2H
def rLeS : R2 := fun x y H Q => ∃ i j, x = .str i ∧ y = .str j ∧ Q (.bl (!decide (j.cps.toList < i.cps.toList))) H
theorem op_leS {X : Cx} : OpR X (compareOp .LtE) rLeS := op_le_str
open PySem.Spec PyProof.Rows
section
variable {P : Program} {w : World} {K : PySem.W.Frag} {mg : Str → Option Value} {base : Heap} {B F Hb H : Hp} {m : Mem} {ρ : DD.Env}
/-- a def called while an exception is handled -/
theorem ok_DH {CX : CXT} {x qual : Str} {st : Stmt} {f : Addr} {fd : FuncData} {N ps : List Str} {k : Nat} {φ : Phi} (F : Fun K x qual st f fd) (S : FnScope N ps (defScope st)) (hl : ∀ ds m nx X, φ ds m nx X → ds.length = ps.length)
    (hbody : ∀ (cdv : Value) (A : Around) (outer : List PySem.Env) (s : Shared) (H : Hp) (E : XK) (p : Addr × Obj), HotC (cxH CX P w K mg base N qual (defScope st) f cdv A outer s H E p) → RoomH k (A.deeper (envOfC qual (defScope st) s.heap.objs.size f cdv)) →
      ∃ t, PSs (cxH CX P w K mg base N qual (defScope st) f cdv A outer s H E p) (defBody st) t ∧ BodyOk K φ N E t) : FnH P w K mg base CX (k + 1) f fd ps (spOf K φ) := by
  obtain ⟨oc, od, kV, doc, pm, an, cdv, ct, osl, rfl, lk, hcd⟩ := F.ex
  refine fn_ofH lk hcd S (spOf_len hl) fun A outer s H vs Q E p hot hr h => ?_
  obtain ⟨ds, m, F', Hb, nx, X, h1, h2, h3, h4, h5⟩ := h
  obtain ⟨t, ht, hw⟩ := hbody cdv A outer s H E p ⟨p, ⟨hot.1, hot.2⟩, List.mem_singleton_self p⟩ hr
  exact ⟨t, ht, hw ds m nx X F' Hb h3 h5 Hb H _ _ (Same.refl _) h2 (RpS.start h1) ⟨fun σ H' Hb' ρ m' e r hs q => h4 _ _ _ _ _ e r rp_s q, h4, fun _ _ _ _ _ _ _ _ z => z.elim, fun _ _ _ _ _ _ _ _ z => z.elim⟩⟩
theorem wc_dictE {Q : QD} (q : Q (.dic [] []) m) : WC K F B (HH1.rDictE K) [.lst []] m Q := fun Hb H vs R hB r hx k => by
  obtain ⟨v, rfl, hv⟩ := rpL1 hx
  unfold Rp at hv
  obtain ⟨p, us, rfl, h1, h2⟩ := hv
  cases us with
  | cons u us => exact absurd h2.length (by simp)
  | nil =>
    refine ⟨p, rfl, SqL.of (r.sub _ _ h1), fun a o ha => ?_⟩
    refine k _ _ _ (.dic [] []) _ (Same.new (r.fresh ha)) (r.data ha) ?_ q
    unfold Rp
    exact ⟨a, o, [], rfl, upd_same, RpL.nil, rfl⟩
theorem wc_listS {z : Str} {Q : QD} (hz : z.length ≤ sizeLine) (q : Q (.lst (chrs z)) m) : WC K F B HH1.rListS [.s (.str z)] m Q := fun Hb H vs R hB r hx k => by
  obtain ⟨v, rfl, hv⟩ := rpL1 hx
  unfold Rp at hv
  subst hv
  refine ⟨z, rfl, hz, fun p hp => ?_⟩
  refine k _ _ _ (.lst (chrs z)) _ (Same.new (r.fresh hp)) (r.data hp) ?_ q
  unfold Rp
  refine ⟨p, _, rfl, upd_same, ?_⟩
  have e : chrs z = (HH1.chV z).map D.s := by
    unfold chrs HH1.chV
    rw [List.map_map]
    rfl
  rw [e]
  exact RpL.ofScal _
theorem wo_leS {i j : Str} {Q : QD} (q : Q (.s (.bl (!decide (j.cps.toList < i.cps.toList)))) m) : WO K F B rLeS (.s (.str i)) (.s (.str j)) m Q := fun Hb H vx vy R hB r hx hy k => by
  unfold Rp at hx hy
  subst hx hy
  exact ⟨i, j, rfl, rfl, k.here r rp_s q⟩
theorem wi_LT {te : TE} {Q : List D → Mem → Prop} (h : WE K F B te ρ m fun x m1 => ∃ xs, (x = .lst xs ∨ x = .tup xs) ∧ Q xs m1) : WI K F B (HH1.iLT K te) ρ m Q := fun Hb H σ R hB r hs k =>
  h Hb H σ _ hB r hs fun v H1 Hb1 x m1 e1 r1 hx q1 => by
    obtain ⟨xs, hxx, q⟩ := q1
    rcases hxx with rfl | rfl
    · unfold Rp at hx
      obtain ⟨p, vs, rfl, h1, h2⟩ := hx
      exact .inl ⟨p, rfl, ⟨vs, SqL.of (r1.sub _ _ h1)⟩, k _ _ _ _ _ e1 r1 (it_list (SqL.of h1) h2) q⟩
    · unfold Rp at hx
      obtain ⟨p, vs, rfl, h1, h2⟩ := hx
      exact .inr ⟨p, rfl, ⟨vs, sameT r1.sub h1⟩, k _ _ _ _ _ e1 r1 (it_tup h1 h2) q⟩
theorem wi_ky0 {te : TE} {Q : List D → Mem → Prop} (h : WE K F B te ρ m fun x m1 => x = .dic [] [] ∧ Q [] m1) : WI K F B (HH1.iKy te) ρ m Q := fun Hb H σ R hB r hs k =>
  h Hb H σ _ hB r hs fun v H1 Hb1 x m1 e1 r1 hx q1 => by
    obtain ⟨rfl, q⟩ := q1
    unfold Rp at hx
    obtain ⟨p, o, vs, rfl, h1, _⟩ := hx
    refine ⟨p, o, rfl, [], r1.sub _ _ h1, k _ _ _ _ _ e1 r1 (fun i F' Hb2 H2 m2 e2 r2 => ⟨fun _ => ⟨r2.sub _ _ (e2 _ _ h1), Nat.zero_le _⟩, fun d hd => by simp at hd⟩) q⟩
end
end DD

/-! HBind: arguments that are left to the defaults. -/
namespace HB1
open PySem PySem.Spec PyProof.Rows L2
def det : V → Bool
  | .non => true
  | .bl _ => true
  | .ref _ => true
  | _ => false
theorem det_eq {v : V} {u u' : Value} (h : det v = true) (r : RelV v u) (r' : RelV v u') : u = u' := by
  cases v with
  | non => exact (show u = Value.none from r).trans (show u' = Value.none from r').symm
  | bl b => exact (show u = Value.bool b from r).trans (show u' = Value.bool b from r').symm
  | ref a => exact (show u = Value.ref a from r).trans (show u' = Value.ref a from r').symm
  | _ => exact nomatch h
theorem det_all : ∀ {vs : List V} {us us' : List Value}, vs.all det = true → Vals vs us → Vals vs us' → us = us'
  | [], _, _, _, .nil, .nil => rfl
  | v :: vs, _, _, h, .cons r t, .cons r' t' => by
    have h2 : (det v && vs.all det) = true := h
    rw [Bool.and_eq_true] at h2
    rw [det_eq h2.1 r r', det_all h2.2 t t']
theorem dflB {K : PySem.W.Frag} {x qual : Str} {pa : Arguments} {bo : List Stmt} {sc : Scope} {dvs : List V} {f : Addr} {fd : FuncData} {ps : List Str} {ds : List Value} (n j : Nat) (F : FunD K x qual pa bo sc dvs [] f fd) (hd : dvs ≠ []) (hv : Vals (dvs.drop j) ds) (hdet : (dvs.drop j).all det = true) (hn : n + (dvs.length - j) = ps.length)
    (h : ∀ (T : Addr) (kV doc pm : Value) (an : Option Addr) (cdv ct : Value) (us its : List Value), us.length = n → its.length = dvs.length →
      ∃ k, bindArgs (PySem.W.fnOf x qual pa bo sc (.ref T) kV doc pm an cdv ct) ⟨us, []⟩ = seqItems? (.ref T) >>= k ∧ k (some its.toArray) = pure (ps.zip (us ++ its.drop j))) : Binds K fd ps ds := by
  obtain ⟨ds', r, b⟩ := F.binds1 (ps := ps) n j hd hn h
  rw [det_all hdet hv r]
  exact b
end HB1

/-! DLend: owned lists that are walked, asked, extended, made tuples of. -/
namespace DD
open PySem L2
open PySem.Spec PyProof.Rows
section
variable {K : PySem.W.Frag} {B F Hb H : Hp} {m : Mem} {ρ : DD.Env}
/-- the memory without a, with a again -/
def offM (m : Mem) (a : Addr) : Mem := { m with own := dropM m.own a }
def onM (m : Mem) (a : Addr) (o : MO) : Mem := { m with own := putM m.own a o }
theorem on_off {a : Addr} {o : MO} (h : m.own a = some o) : onM (offM m a) a o = m := by
  unfold onM offM
  have e : putM (dropM m.own a) a o = m.own := by
    funext b
    by_cases hb : b = a
    · subst hb
      rw [putM_same, h]
    · rw [putM_ne hb, dropM_ne hb]
  rw [e]
/-- an owned list is put into the frame -/
theorem Rel.lend {a : Addr} {xs : List D} (r : Rel K F Hb H m) (h : m.own a = some (.lst xs)) : ∃ vs, RpL K Hb xs vs ∧ F a = none ∧ Rel K (upd F a (.lst vs)) Hb H (offM m a) := by
  obtain ⟨h1, vs, h2, h3⟩ := r.own a _ h
  have hF : F a = none := r.ownF h
  refine ⟨vs, h3, hF, r.sub, fun b o e => ?_, fun b mo e => ?_⟩
  · by_cases hb : b = a
    · subst hb
      rw [upd_same] at e
      cases e
      exact ⟨h2, h1, dropM_same⟩
    · rw [upd_ne hb] at e
      obtain ⟨z1, z2, z3⟩ := r.fr b o e
      exact ⟨z1, z2, (dropM_ne hb).trans z3⟩
  · by_cases hb : b = a
    · subst hb
      have q : (none : Option MO) = some mo := by
        rw [← e]
        exact dropM_same.symm
      cases q
    · exact r.own b mo (by rw [← e]; exact (dropM_ne hb).symm)
theorem Rel.back {a : Addr} {xs : List D} {vs : List V} (r : Rel K (upd F a (.lst vs)) Hb H m) (hF : F a = none) (h : RpL K Hb xs vs) : Rel K F Hb H (onM m a (.lst xs)) :=
  r.take hF ⟨vs, (r.fr a _ upd_same).1, h⟩
theorem upd_swap {H : Hp} {a b : Addr} {o u : HO} (h : a ≠ b) : upd (upd H a o) b u = upd (upd H b u) a o := by
  funext c
  by_cases h1 : c = b
  · subst h1
    rw [upd_same, upd_ne h.symm, upd_same]
  · rw [upd_ne h1]
    by_cases h2 : c = a
    · subst h2
      rw [upd_same, upd_same]
    · rw [upd_ne h2, upd_ne h2, upd_ne h1]
/-- what is let out, the list lent -/
theorem OkX.lend {a : Addr} {xs : List D} {vs : List V} {X : XD} {E : XK} (h : OkX K F Hb X E) (hF : F a = none) (hv : RpL K Hb xs vs) : OkX K (upd F a (.lst vs)) Hb (fun C ns ds m => X C ns ds (onM m a (.lst xs))) E := by
  intro C d H' Hb' ns ds us m' e rX hu hl hx
  refine h C d H' Hb' ns ds us (onM m' a (.lst xs)) e ?_ hu hl hx
  cases d with
  | none => exact ⟨rX.1, rX.2.1, rX.2.2.back hF (hv.mono e)⟩
  | some dd =>
    obtain ⟨h1, r⟩ := rX
    have hne : dd ≠ a := fun z => by
      rw [z, upd_same] at h1
      cases h1
    have h2 : F dd = none := by rw [upd_ne hne] at h1; exact h1
    refine ⟨h2, ?_⟩
    rw [upd_swap hne.symm] at r
    exact r.back (by rw [upd_ne hne.symm]; exact hF) (hv.mono e)
/-- for over an owned list -/
theorem ws_forO {te : TE} {g : TG} {tb : TS} {E : DE} {a : Addr} {xs : List D} {X : XD} {EX : XK} (hE : OkX K F B X EX) (h : WE K F B te ρ m fun x m1 => x = .s (.ref a) ∧ m1.own a = some (.lst xs) ∧ ∃ I : Nat → DD.Env → Mem → Prop, I 0 ρ (offM m1 a) ∧
      (∀ F' B' i d ρ' m', Same B B' → OkX K F' B' (fun C ns ds m => X C ns ds (onM m a (.lst xs))) EX → xs[i]? = some d → I i ρ' m' → WG K F' B' g d ρ' m' fun ρ2 m2 => WS K F' B' tb ρ2 m2 { nx := I (i + 1), ct := I (i + 1), bk := fun ρ m => E.nx ρ (onM m a (.lst xs)), rt := fun d m => E.rt d (onM m a (.lst xs)) }) ∧
      (∀ ρ' m', I xs.length ρ' m' → E.nx ρ' (onM m' a (.lst xs)))) :
    WS K F B (tFor (iAny K te) g tb) ρ m E := fun Hb H σ R hB r hs k =>
  h Hb H σ _ hB r hs fun v H1 Hb1 x m1 e1 r1 hx q1 => by
    obtain ⟨rfl, ho, I, h0, ht, hd⟩ := q1
    unfold Rp at hx
    subst hx
    obtain ⟨vs, hv, hF, rL⟩ := r1.lend ho
    have hl : vs.length = xs.length := hv.length
    have hq : ∀ {H' Hb' : Hp} {m' : Mem}, Rel K (upd F a (.lst vs)) Hb' H' m' → SqL K H' a vs := fun {H' Hb' m'} r' => SqL.of (r'.fr a _ upd_same).1
    refine .inl ⟨a, rfl, ⟨vs, hq rL⟩, ?_⟩
    refine ⟨fun i n σ' H' => n = xs.length - i ∧ i ≤ xs.length ∧ ∃ Hb' ρ' m', Same Hb1 Hb' ∧ Rel K (upd F a (.lst vs)) Hb' H' m' ∧ RpS K Hb' ρ' σ' ∧ I i ρ' m', ⟨xs.length, by simp, Nat.zero_le _, Hb1, ρ, _, Same.refl _, rL, hs.mono e1, h0⟩, ?_⟩
    rintro i n σ' H' ⟨rfl, hi, Hb', ρ', m', e', r', hs', hI⟩
    by_cases hlt : i < xs.length
    · obtain ⟨u, hu, ru⟩ := hv.get (i := i) (d := xs[i]) (by simp [hlt])
      refine .inr ⟨⟨vs, u, hq r', hu⟩, fun σ2 H2 => ∃ Hb2 ρ2 m2, Same Hb1 Hb2 ∧ Rel K (upd F a (.lst vs)) Hb2 H2 m2 ∧ RpS K Hb2 ρ2 σ2 ∧ I (i + 1) ρ2 m2, fun σ2 H2 q2 => ⟨xs.length - (i + 1), by omega, rfl, hlt, q2⟩, fun x H2 y => ?_⟩
      obtain ⟨rfl, y2⟩ := y
      have hx := y2 vs (hq r')
      rw [hu] at hx
      cases hx
      have eB : Same B Hb' := (hB.trans e1).trans e'
      have hE' := (hE.mono eB).lend hF (hv.mono e')
      refine ht _ Hb' i xs[i] ρ' m' eB hE' (by simp [hlt]) hI Hb' H2 σ' _ _ (Same.refl _) r' hs' (ru.mono e') fun σ3 H3 Hb3 ρ3 m3 e3 r3 hs3 q3 => ?_
      have e13 : Same Hb1 Hb3 := e'.trans e3
      refine q3 Hb3 H3 σ3 _ e3 r3 hs3 ⟨fun σ4 H4 Hb4 ρ4 m4 e4 r4 hs4 q4 => ⟨Hb4, ρ4, m4, e13.trans e4, r4, hs4, q4⟩, fun v4 H4 Hb4 d4 m4 e4 r4 hd4 q4 => ?_, fun σ4 H4 Hb4 ρ4 m4 e4 r4 hs4 q4 => ?_, fun σ4 H4 Hb4 ρ4 m4 e4 r4 hs4 q4 => ⟨Hb4, ρ4, m4, e13.trans e4, r4, hs4, q4⟩⟩
      · exact k.rt _ _ _ _ _ ((e1.trans e13).trans e4) (r4.back hF (hv.mono (e13.trans e4))) hd4 q4
      · exact k.nx _ _ _ _ _ ((e1.trans e13).trans e4) (r4.back hF (hv.mono (e13.trans e4))) hs4 q4
    · have e : i = xs.length := by omega
      subst e
      exact .inl ⟨⟨vs, hq r', by omega⟩, k.nx _ _ _ _ _ (e1.trans e') (r'.back hF (hv.mono e')) hs' (hd _ _ hI)⟩
theorem wo_inOL {x : V} {a : Addr} {xs : List V} {Q : QD} (ho : m.own a = some (.lst (xs.map D.s))) (hx0 : flatV x = true) (hf : xs.all flatV = true) (q : Q (.s (.bl (inV x xs))) m) : WO K F B (rInA K) (.s x) (.s (.ref a)) m Q := fun Hb H vx vy R hB r hx hy k => by
  unfold Rp at hx hy
  subst hx hy
  obtain ⟨_, vs, h1, h2⟩ := r.own a _ ho
  have e := RpL.scal h2
  subst e
  exact .inl ⟨a, vs, rfl, .inl (SqL.of h1), hx0, hf, k.here r rp_s q⟩
/-- xs.extend(ys), xs owned, ys data -/
theorem we_extend {to te : TE} {Q : QD} (h : WE K F B to ρ m fun x m1 => ∃ a, x = .s (.ref a) ∧ (∃ xs, m1.own a = some (.lst xs)) ∧ WE K F B te ρ m1 fun y m2 => ∃ xs ys, m2.own a = some (.lst xs) ∧ y = .lst ys ∧ xs.length + ys.length ≤ sizeLine ∧ Q (.s .non) { m2 with own := putM m2.own a (.lst (xs ++ ys)) }) :
    WE K F B (tBM K "list" rExtA to (tCons te tNil)) ρ m Q := fun Hb H σ R hB r hs k =>
  h Hb H σ _ hB r hs fun v H1 Hb1 x m1 e1 r1 hx q1 => by
    obtain ⟨a, rfl, ⟨xs0, ho0⟩, q1⟩ := q1
    unfold Rp at hx
    subst hx
    obtain ⟨_, vs0, h0, _⟩ := r1.own a _ ho0
    refine ⟨.inl ⟨rfl, vs0, SqL.of h0⟩, ?_⟩
    refine q1 Hb1 H1 σ _ (hB.trans e1) r1 (hs.mono e1) fun u H2 Hb2 y m2 e2 r2 hy q2 => ?_
    obtain ⟨xs, ys, ho, rfl, hz, q⟩ := q2
    unfold Rp at hy
    obtain ⟨p, us, rfl, h1, h2⟩ := hy
    obtain ⟨h3, vs, h4, h5⟩ := r2.own a _ ho
    refine ⟨a, p, vs, us, rfl, rfl, h4, r2.sub _ _ h1, by rw [h5.length, h2.length]; exact hz, ?_⟩
    exact k _ _ _ (.s .non) _ (e1.trans e2) (r2.change (mo' := .lst (xs ++ ys)) ho ⟨vs ++ us, upd_same, h5.app h2⟩) rp_s q
/-- tuple(xs), xs owned -/
theorem wc_tupO {a : Addr} {xs : List D} {Q : QD} (ho : m.own a = some (.lst xs)) (q : Q (.tup xs) m) : WC K F B (rTupA K) [.s (.ref a)] m Q := fun Hb H vs R hB r hx k => by
  obtain ⟨v, rfl, hv⟩ := rpL1 hx
  unfold Rp at hv
  subst hv
  obtain ⟨_, us, h1, h2⟩ := r.own a _ ho
  refine ⟨a, us, rfl, .inl ⟨SqL.of h1, fun l hl => ?_⟩⟩
  refine k _ _ _ (.tup xs) _ (Same.new (r.fresh hl)) (r.data hl) ?_ q
  unfold Rp
  exact ⟨l, us, rfl, .inl (.inl upd_same), h2.mono (Same.new (r.fresh hl))⟩
end
end DD

namespace My
open PySem L2 DD
open PySem.Spec PyProof.Rows
/-! ### the text by places -/
def topS (i : Nat) : Stmt := PySem.Challenge.pw_unwalked_k51_strikes_told.main.body.getD i (.Pass ⟨0, 0, 0, 0⟩)
abbrev s_BadWord___init__ : Stmt := inClass (topS 4) 0
abbrev N_BadWord___init__ : List Str := ["self", "word"]
theorem sc_BadWord___init__ : FnScope N_BadWord___init__ ["self", "word"] (defScope s_BadWord___init__) := ⟨rfl, rfl, rfl, by decide +kernel, rfl, by decide +kernel, by decide +kernel⟩
abbrev s_is_name : Stmt := topS 8
abbrev N_is_name : List Str := ["thing", "sign"]
theorem sc_is_name : FnScope N_is_name ["thing"] (defScope s_is_name) := ⟨rfl, rfl, rfl, by decide +kernel, rfl, by decide +kernel, by decide +kernel⟩
abbrev s_is_path_text : Stmt := topS 9
abbrev N_is_path_text : List Str := ["thing", "piece"]
theorem sc_is_path_text : FnScope N_is_path_text ["thing"] (defScope s_is_path_text) := ⟨rfl, rfl, rfl, by decide +kernel, rfl, by decide +kernel, by decide +kernel⟩
abbrev s_Path___init__ : Stmt := inClass (topS 10) 0
abbrev N_Path___init__ : List Str := ["self", "text"]
theorem sc_Path___init__ : FnScope N_Path___init__ ["self", "text"] (defScope s_Path___init__) := ⟨rfl, rfl, rfl, by decide +kernel, rfl, by decide +kernel, by decide +kernel⟩
abbrev s_Path___eq__ : Stmt := inClass (topS 10) 1
abbrev N_Path___eq__ : List Str := ["self", "other"]
theorem sc_Path___eq__ : FnScope N_Path___eq__ ["self", "other"] (defScope s_Path___eq__) := ⟨rfl, rfl, rfl, by decide +kernel, rfl, by decide +kernel, by decide +kernel⟩
abbrev s_Strikes___init__ : Stmt := inClass (topS 13) 0
abbrev N_Strikes___init__ : List Str := ["self", "words", "word"]
theorem sc_Strikes___init__ : FnScope N_Strikes___init__ ["self", "words"] (defScope s_Strikes___init__) := ⟨rfl, rfl, rfl, by decide +kernel, rfl, by decide +kernel, by decide +kernel⟩
abbrev s_Strikes___eq__ : Stmt := inClass (topS 13) 1
abbrev N_Strikes___eq__ : List Str := ["self", "other"]
theorem sc_Strikes___eq__ : FnScope N_Strikes___eq__ ["self", "other"] (defScope s_Strikes___eq__) := ⟨rfl, rfl, rfl, by decide +kernel, rfl, by decide +kernel, by decide +kernel⟩
abbrev s_Strikes___len__ : Stmt := inClass (topS 13) 2
abbrev N_Strikes___len__ : List Str := ["self"]
theorem sc_Strikes___len__ : FnScope N_Strikes___len__ ["self"] (defScope s_Strikes___len__) := ⟨rfl, rfl, rfl, by decide +kernel, rfl, by decide +kernel, by decide +kernel⟩
abbrev s_Strikes___contains__ : Stmt := inClass (topS 13) 3
abbrev N_Strikes___contains__ : List Str := ["self", "thing"]
theorem sc_Strikes___contains__ : FnScope N_Strikes___contains__ ["self", "thing"] (defScope s_Strikes___contains__) := ⟨rfl, rfl, rfl, by decide +kernel, rfl, by decide +kernel, by decide +kernel⟩
abbrev s_Strikes___or__ : Stmt := inClass (topS 13) 4
abbrev N_Strikes___or__ : List Str := ["self", "other"]
theorem sc_Strikes___or__ : FnScope N_Strikes___or__ ["self", "other"] (defScope s_Strikes___or__) := ⟨rfl, rfl, rfl, by decide +kernel, rfl, by decide +kernel, by decide +kernel⟩
abbrev s_Strikes___and__ : Stmt := inClass (topS 13) 5
abbrev N_Strikes___and__ : List Str := ["self", "other", "word"]
theorem sc_Strikes___and__ : FnScope N_Strikes___and__ ["self", "other"] (defScope s_Strikes___and__) := ⟨rfl, rfl, rfl, by decide +kernel, rfl, by decide +kernel, by decide +kernel⟩
abbrev s_Strikes___sub__ : Stmt := inClass (topS 13) 6
abbrev N_Strikes___sub__ : List Str := ["self", "other", "word"]
theorem sc_Strikes___sub__ : FnScope N_Strikes___sub__ ["self", "other"] (defScope s_Strikes___sub__) := ⟨rfl, rfl, rfl, by decide +kernel, rfl, by decide +kernel, by decide +kernel⟩
abbrev s_Strikes___le__ : Stmt := inClass (topS 13) 7
abbrev N_Strikes___le__ : List Str := ["self", "other", "word"]
theorem sc_Strikes___le__ : FnScope N_Strikes___le__ ["self", "other"] (defScope s_Strikes___le__) := ⟨rfl, rfl, rfl, by decide +kernel, rfl, by decide +kernel, by decide +kernel⟩
abbrev s_Strikes_words : Stmt := inClass (topS 13) 8
abbrev N_Strikes_words : List Str := ["self"]
theorem sc_Strikes_words : FnScope N_Strikes_words ["self"] (defScope s_Strikes_words) := ⟨rfl, rfl, rfl, by decide +kernel, rfl, by decide +kernel, by decide +kernel⟩
abbrev s__law_start : Stmt := topS 15
abbrev N__law_start : List Str := ["_law_script"]
theorem sc__law_start : FnScope N__law_start ["_law_script"] (defScope s__law_start) := ⟨rfl, rfl, rfl, by decide +kernel, rfl, by decide +kernel, by decide +kernel⟩
abbrev s__law_draw : Stmt := topS 16
abbrev N__law_draw : List Str := ["_law_stream", "_law_many", "_law_cell", "_law_digit", "_law_mixed"]
theorem sc__law_draw : FnScope N__law_draw ["_law_stream", "_law_many"] (defScope s__law_draw) := ⟨rfl, rfl, rfl, by decide +kernel, rfl, by decide +kernel, by decide +kernel⟩
abbrev s__law_pick : Stmt := topS 17
abbrev N__law_pick : List Str := ["_law_stream", "_law_some"]
theorem sc__law_pick : FnScope N__law_pick ["_law_stream", "_law_some"] (defScope s__law_pick) := ⟨rfl, rfl, rfl, by decide +kernel, rfl, by decide +kernel, by decide +kernel⟩
abbrev s__law_same : Stmt := topS 18
abbrev N__law_same : List Str := ["_law_found", "_law_due", "_law_x", "_law_y"]
theorem sc__law_same : FnScope N__law_same ["_law_found", "_law_due"] (defScope s__law_same) := ⟨rfl, rfl, rfl, by decide +kernel, rfl, by decide +kernel, by decide +kernel⟩
abbrev s__law_frozen : Stmt := topS 19
abbrev N__law_frozen : List Str := ["_law_thing", "_law_key", "_law_part"]
theorem sc__law_frozen : FnScope N__law_frozen ["_law_thing"] (defScope s__law_frozen) := ⟨rfl, rfl, rfl, by decide +kernel, rfl, by decide +kernel, by decide +kernel⟩
abbrev s__law_all_words : Stmt := topS 20
abbrev N__law_all_words : List Str := []
theorem sc__law_all_words : FnScope N__law_all_words [] (defScope s__law_all_words) := ⟨rfl, rfl, rfl, by decide +kernel, rfl, by decide +kernel, by decide +kernel⟩
abbrev s__law_tried : Stmt := topS 21
abbrev N__law_tried : List Str := ["_law_thing", "_law_found", "e"]
theorem sc__law_tried : FnScope N__law_tried ["_law_thing"] (defScope s__law_tried) := ⟨rfl, rfl, rfl, by decide +kernel, rfl, by decide +kernel, by decide +kernel⟩
abbrev s_law : Stmt := topS 22
abbrev N_law : List Str := ["_law_script", "_law_stream", "_law_turn", "_law_lists", "_law_k", "_law_j", "_law_handed", "_law_one", "_law_two", "_law_sets", "_law_word", "_law_some", "_law_found", "_law_due", "_law_odd", "_law_bare"]
theorem sc_law : FnScope N_law ["_law_script"] (defScope s_law) := ⟨rfl, rfl, rfl, by decide +kernel, rfl, by decide +kernel, by decide +kernel⟩
theorem st_BadWord___init__ (d0 d1 : D) : startD N_BadWord___init__ [d0, d1] = [some d0, some d1] := rfl
theorem st_is_name (d0 : D) : startD N_is_name [d0] = [some d0, none] := rfl
theorem st_is_path_text (d0 : D) : startD N_is_path_text [d0] = [some d0, none] := rfl
theorem st_Path___init__ (d0 d1 : D) : startD N_Path___init__ [d0, d1] = [some d0, some d1] := rfl
theorem st_Path___eq__ (d0 d1 : D) : startD N_Path___eq__ [d0, d1] = [some d0, some d1] := rfl
theorem st_Strikes___init__ (d0 d1 : D) : startD N_Strikes___init__ [d0, d1] = [some d0, some d1, none] := rfl
theorem st_Strikes___eq__ (d0 d1 : D) : startD N_Strikes___eq__ [d0, d1] = [some d0, some d1] := rfl
theorem st_Strikes___len__ (d0 : D) : startD N_Strikes___len__ [d0] = [some d0] := rfl
theorem st_Strikes___contains__ (d0 d1 : D) : startD N_Strikes___contains__ [d0, d1] = [some d0, some d1] := rfl
theorem st_Strikes___or__ (d0 d1 : D) : startD N_Strikes___or__ [d0, d1] = [some d0, some d1] := rfl
theorem st_Strikes___and__ (d0 d1 : D) : startD N_Strikes___and__ [d0, d1] = [some d0, some d1, none] := rfl
theorem st_Strikes___sub__ (d0 d1 : D) : startD N_Strikes___sub__ [d0, d1] = [some d0, some d1, none] := rfl
theorem st_Strikes___le__ (d0 d1 : D) : startD N_Strikes___le__ [d0, d1] = [some d0, some d1, none] := rfl
theorem st_Strikes_words (d0 : D) : startD N_Strikes_words [d0] = [some d0] := rfl
theorem st__law_start (d0 : D) : startD N__law_start [d0] = [some d0] := rfl
theorem st__law_draw (d0 d1 : D) : startD N__law_draw [d0, d1] = [some d0, some d1, none, none, none] := rfl
theorem st__law_pick (d0 d1 : D) : startD N__law_pick [d0, d1] = [some d0, some d1] := rfl
theorem st__law_same (d0 d1 : D) : startD N__law_same [d0, d1] = [some d0, some d1, none, none] := rfl
theorem st__law_frozen (d0 : D) : startD N__law_frozen [d0] = [some d0, none, none] := rfl
theorem st__law_all_words : startD N__law_all_words [] = [] := rfl
theorem st__law_tried (d0 : D) : startD N__law_tried [d0] = [some d0, none, none] := rfl
theorem st_law (d0 : D) : startD N_law [d0] = [some d0, none, none, none, none, none, none, none, none, none, none, none, none, none, none, none] := rfl
/-! ### what the top has written -/
structure Txt (K : PySem.W.Frag) (mg : Str → Option Value) where
  c_Path : Addr
  c_Strikes : Addr
  c_PathError : Addr
  c_BadWord : Addr
  a_BadWord___init__ : Addr
  d_BadWord___init__ : FuncData
  F_BadWord___init__ : Fun K "__init__" "BadWord.__init__" s_BadWord___init__ a_BadWord___init__ d_BadWord___init__
  b_BadWord___init__ : Binds K d_BadWord___init__ ["self", "word"] []
  m_BadWord___init__ : Meth K c_BadWord "__init__" a_BadWord___init__
  a_is_name : Addr
  d_is_name : FuncData
  F_is_name : Fun K "is_name" "is_name" s_is_name a_is_name d_is_name
  b_is_name : Binds K d_is_name ["thing"] []
  g_is_name : mg "is_name" = some (.ref a_is_name)
  a_is_path_text : Addr
  d_is_path_text : FuncData
  F_is_path_text : Fun K "is_path_text" "is_path_text" s_is_path_text a_is_path_text d_is_path_text
  b_is_path_text : Binds K d_is_path_text ["thing"] []
  g_is_path_text : mg "is_path_text" = some (.ref a_is_path_text)
  a_Path___init__ : Addr
  d_Path___init__ : FuncData
  F_Path___init__ : Fun K "__init__" "Path.__init__" s_Path___init__ a_Path___init__ d_Path___init__
  b_Path___init__ : Binds K d_Path___init__ ["self", "text"] []
  m_Path___init__ : Meth K c_Path "__init__" a_Path___init__
  a_Path___eq__ : Addr
  d_Path___eq__ : FuncData
  F_Path___eq__ : Fun K "__eq__" "Path.__eq__" s_Path___eq__ a_Path___eq__ d_Path___eq__
  b_Path___eq__ : Binds K d_Path___eq__ ["self", "other"] []
  m_Path___eq__ : Meth K c_Path "__eq__" a_Path___eq__
  a_Strikes___init__ : Addr
  d_Strikes___init__ : FuncData
  x0_Strikes___init__ : Addr
  F_Strikes___init__ : FunD K "__init__" "Strikes.__init__" (defArgs s_Strikes___init__) (defBody s_Strikes___init__) (defScope s_Strikes___init__) [.ref x0_Strikes___init__] [] a_Strikes___init__ d_Strikes___init__
  b_Strikes___init__ : Binds K d_Strikes___init__ ["self", "words"] []
  m_Strikes___init__ : Meth K c_Strikes "__init__" a_Strikes___init__
  bd1_Strikes___init__ : Binds K d_Strikes___init__ ["self", "words"] [.ref x0_Strikes___init__]
  q0_Strikes___init__ : ∀ H, SqT K H x0_Strikes___init__ []
  a_Strikes___eq__ : Addr
  d_Strikes___eq__ : FuncData
  F_Strikes___eq__ : Fun K "__eq__" "Strikes.__eq__" s_Strikes___eq__ a_Strikes___eq__ d_Strikes___eq__
  b_Strikes___eq__ : Binds K d_Strikes___eq__ ["self", "other"] []
  m_Strikes___eq__ : Meth K c_Strikes "__eq__" a_Strikes___eq__
  a_Strikes___len__ : Addr
  d_Strikes___len__ : FuncData
  F_Strikes___len__ : Fun K "__len__" "Strikes.__len__" s_Strikes___len__ a_Strikes___len__ d_Strikes___len__
  b_Strikes___len__ : Binds K d_Strikes___len__ ["self"] []
  m_Strikes___len__ : Meth K c_Strikes "__len__" a_Strikes___len__
  a_Strikes___contains__ : Addr
  d_Strikes___contains__ : FuncData
  F_Strikes___contains__ : Fun K "__contains__" "Strikes.__contains__" s_Strikes___contains__ a_Strikes___contains__ d_Strikes___contains__
  b_Strikes___contains__ : Binds K d_Strikes___contains__ ["self", "thing"] []
  m_Strikes___contains__ : Meth K c_Strikes "__contains__" a_Strikes___contains__
  a_Strikes___or__ : Addr
  d_Strikes___or__ : FuncData
  F_Strikes___or__ : Fun K "__or__" "Strikes.__or__" s_Strikes___or__ a_Strikes___or__ d_Strikes___or__
  b_Strikes___or__ : Binds K d_Strikes___or__ ["self", "other"] []
  m_Strikes___or__ : Meth K c_Strikes "__or__" a_Strikes___or__
  a_Strikes___and__ : Addr
  d_Strikes___and__ : FuncData
  F_Strikes___and__ : Fun K "__and__" "Strikes.__and__" s_Strikes___and__ a_Strikes___and__ d_Strikes___and__
  b_Strikes___and__ : Binds K d_Strikes___and__ ["self", "other"] []
  m_Strikes___and__ : Meth K c_Strikes "__and__" a_Strikes___and__
  a_Strikes___sub__ : Addr
  d_Strikes___sub__ : FuncData
  F_Strikes___sub__ : Fun K "__sub__" "Strikes.__sub__" s_Strikes___sub__ a_Strikes___sub__ d_Strikes___sub__
  b_Strikes___sub__ : Binds K d_Strikes___sub__ ["self", "other"] []
  m_Strikes___sub__ : Meth K c_Strikes "__sub__" a_Strikes___sub__
  a_Strikes___le__ : Addr
  d_Strikes___le__ : FuncData
  F_Strikes___le__ : Fun K "__le__" "Strikes.__le__" s_Strikes___le__ a_Strikes___le__ d_Strikes___le__
  b_Strikes___le__ : Binds K d_Strikes___le__ ["self", "other"] []
  m_Strikes___le__ : Meth K c_Strikes "__le__" a_Strikes___le__
  a_Strikes_words : Addr
  d_Strikes_words : FuncData
  F_Strikes_words : Fun K "words" "Strikes.words" s_Strikes_words a_Strikes_words d_Strikes_words
  b_Strikes_words : Binds K d_Strikes_words ["self"] []
  m_Strikes_words : Meth K c_Strikes "words" a_Strikes_words
  a__law_start : Addr
  d__law_start : FuncData
  F__law_start : Fun K "_law_start" "_law_start" s__law_start a__law_start d__law_start
  b__law_start : Binds K d__law_start ["_law_script"] []
  g__law_start : mg "_law_start" = some (.ref a__law_start)
  a__law_draw : Addr
  d__law_draw : FuncData
  F__law_draw : Fun K "_law_draw" "_law_draw" s__law_draw a__law_draw d__law_draw
  b__law_draw : Binds K d__law_draw ["_law_stream", "_law_many"] []
  g__law_draw : mg "_law_draw" = some (.ref a__law_draw)
  a__law_pick : Addr
  d__law_pick : FuncData
  F__law_pick : Fun K "_law_pick" "_law_pick" s__law_pick a__law_pick d__law_pick
  b__law_pick : Binds K d__law_pick ["_law_stream", "_law_some"] []
  g__law_pick : mg "_law_pick" = some (.ref a__law_pick)
  a__law_same : Addr
  d__law_same : FuncData
  F__law_same : Fun K "_law_same" "_law_same" s__law_same a__law_same d__law_same
  b__law_same : Binds K d__law_same ["_law_found", "_law_due"] []
  g__law_same : mg "_law_same" = some (.ref a__law_same)
  a__law_frozen : Addr
  d__law_frozen : FuncData
  F__law_frozen : Fun K "_law_frozen" "_law_frozen" s__law_frozen a__law_frozen d__law_frozen
  b__law_frozen : Binds K d__law_frozen ["_law_thing"] []
  g__law_frozen : mg "_law_frozen" = some (.ref a__law_frozen)
  a__law_all_words : Addr
  d__law_all_words : FuncData
  F__law_all_words : Fun K "_law_all_words" "_law_all_words" s__law_all_words a__law_all_words d__law_all_words
  b__law_all_words : Binds K d__law_all_words [] []
  g__law_all_words : mg "_law_all_words" = some (.ref a__law_all_words)
  a__law_tried : Addr
  d__law_tried : FuncData
  F__law_tried : Fun K "_law_tried" "_law_tried" s__law_tried a__law_tried d__law_tried
  b__law_tried : Binds K d__law_tried ["_law_thing"] []
  g__law_tried : mg "_law_tried" = some (.ref a__law_tried)
  a_law : Addr
  d_law : FuncData
  F_law : Fun K "law" "law" s_law a_law d_law
  b_law : Binds K d_law ["_law_script"] []
  g_law : mg "law" = some (.ref a_law)
  g_Path : mg "Path" = some (.ref c_Path)
  y_Path : InsTy K c_Path
  mk_Path : Mk K c_Path a_Path___init__
  n_Path_text : NoAttr K c_Path "text"
  n_Path_rooted : NoAttr K c_Path "rooted"
  n_Path_ended : NoAttr K c_Path "ended"
  kt_Path_Path : PySem.W.kitOne K (.ref c_Path) (.ref c_Path) = some true
  kt_Path_list : PySem.W.kitOne K (.ref c_Path) (.type "list") = some false
  kt_Path_tuple : PySem.W.kitOne K (.ref c_Path) (.type "tuple") = some false
  kt_Path_int : PySem.W.kitOne K (.ref c_Path) (.type "int") = some false
  kt_Path_str : PySem.W.kitOne K (.ref c_Path) (.type "str") = some false
  kt_Path_dict : PySem.W.kitOne K (.ref c_Path) (.type "dict") = some false
  kt_Path_Strikes : PySem.W.kitOne K (.ref c_Path) (.ref c_Strikes) = some false
  nf_Path_Strikes : PySem.W.notFirst K c_Path (.ref c_Strikes) = true
  g_Strikes : mg "Strikes" = some (.ref c_Strikes)
  y_Strikes : InsTy K c_Strikes
  mk_Strikes : Mk K c_Strikes a_Strikes___init__
  n_Strikes_held : NoAttr K c_Strikes "held"
  sf_Strikes : PySem.W.selfFirst K c_Strikes = true
  ne_Strikes : PySem.W.findIn K (.ref c_Strikes) "__ne__" = some (some (.builtin "object.__ne__"))
  ob_Strikes : PySem.W.subIn K (.ref c_Strikes) (.type "object") = some true
  al_Strikes : HR1.Aloof K c_Strikes
  kt_Strikes_Strikes : PySem.W.kitOne K (.ref c_Strikes) (.ref c_Strikes) = some true
  kt_Strikes_Path : PySem.W.kitOne K (.ref c_Strikes) (.ref c_Path) = some false
  kx_NoneType_Strikes : PySem.W.kitOne K (.type "NoneType") (.ref c_Strikes) = some false
  kx_int_Strikes : PySem.W.kitOne K (.type "int") (.ref c_Strikes) = some false
  kx_bool_Strikes : PySem.W.kitOne K (.type "bool") (.ref c_Strikes) = some false
  kx_dict_Strikes : PySem.W.kitOne K (.type "dict") (.ref c_Strikes) = some false
  kx_str_Strikes : PySem.W.kitOne K (.type "str") (.ref c_Strikes) = some false
  kx_list_Strikes : PySem.W.kitOne K (.type "list") (.ref c_Strikes) = some false
  kx_tuple_Strikes : PySem.W.kitOne K (.type "tuple") (.ref c_Strikes) = some false
  nf_Strikes_NoneType : PySem.W.notFirst K c_Strikes (.type "NoneType") = true
  nf_Strikes_int : PySem.W.notFirst K c_Strikes (.type "int") = true
  nf_Strikes_bool : PySem.W.notFirst K c_Strikes (.type "bool") = true
  nf_Strikes_dict : PySem.W.notFirst K c_Strikes (.type "dict") = true
  nf_Strikes_str : PySem.W.notFirst K c_Strikes (.type "str") = true
  nf_Strikes_list : PySem.W.notFirst K c_Strikes (.type "list") = true
  nf_Strikes_tuple : PySem.W.notFirst K c_Strikes (.type "tuple") = true
  nf_Strikes_Path : PySem.W.notFirst K c_Strikes (.ref c_Path) = true
  g_PathError : mg "PathError" = some (.ref c_PathError)
  er_PathError : PySem.W.readsIn K c_PathError (.type "type") = true
  ea_PathError : PySem.W.specialIn K (.ref c_PathError) "__getattribute__" = some (some (.builtin "type.__getattribute__"))
  ev_PathError : PySem.W.findCls K (.ref c_PathError) (.type "type") "__init__" = some (.val (.builtin "ValueError.__init__"))
  g_BadWord : mg "BadWord" = some (.ref c_BadWord)
  oe_BadWord : OexC K c_BadWord
  ex_BadWord : XfC K c_BadWord
  ef_BadWord : PySem.W.findIn K (.ref c_BadWord) "word" = some none
  ei_BadWord : PySem.W.findIn K (.ref c_BadWord) "__init__" = some (some (.ref a_BadWord___init__))
  et_BadWord : PySem.W.typeIn K (.ref a_BadWord___init__) = some (.type "function")
  em_BadWord : PySem.W.exmOne K (.ref c_BadWord) (.ref c_BadWord) = some true
  op_Path___eq__ : PySem.W.findIn K (.ref c_Path) ("__eq__") = some (some (.ref a_Path___eq__))
  op_Strikes___and__ : PySem.W.findIn K (.ref c_Strikes) (PySem.dunder "and") = some (some (.ref a_Strikes___and__))
  op_Strikes___contains__ : PySem.W.findIn K (.ref c_Strikes) ("__contains__") = some (some (.ref a_Strikes___contains__))
  op_Strikes___eq__ : PySem.W.findIn K (.ref c_Strikes) ("__eq__") = some (some (.ref a_Strikes___eq__))
  op_Strikes___le__ : PySem.W.findIn K (.ref c_Strikes) ("__le__") = some (some (.ref a_Strikes___le__))
  op_Strikes___len__ : PySem.W.findIn K (.ref c_Strikes) ("__len__") = some (some (.ref a_Strikes___len__))
  op_Strikes___or__ : PySem.W.findIn K (.ref c_Strikes) (PySem.dunder "or") = some (some (.ref a_Strikes___or__))
  op_Strikes___sub__ : PySem.W.findIn K (.ref c_Strikes) (PySem.dunder "sub") = some (some (.ref a_Strikes___sub__))
  z_all : mg "all" = none
  z_bool : mg "bool" = none
  z_dict : mg "dict" = none
  z_int : mg "int" = none
  z_isinstance : mg "isinstance" = none
  z_len : mg "len" = none
  z_list : mg "list" = none
  z_range : mg "range" = none
  z_str : mg "str" = none
  z_tuple : mg "tuple" = none
  z_zip : mg "zip" = none
  u_LETTERS : Value
  g_LETTERS : mg "LETTERS" = some u_LETTERS
  r_LETTERS : RelV (.str "abcdefghijklmnopqrstuvwxyz") u_LETTERS
  u_LONGEST : Value
  g_LONGEST : mg "LONGEST" = some u_LONGEST
  r_LONGEST : RelV (.int 8) u_LONGEST
  a_WORDS : Addr
  g_WORDS : mg "WORDS" = some (.ref a_WORDS)
  q_WORDS : ∀ H, SqT K H a_WORDS [.str "dot", .str "up", .str "root up", .str "end bar"]
/-! ### data of this program -/
abbrev strD (z : Str) : D := .s (.str z)
abbrev intD (i : Int) : D := .s (.int i)
abbrev blD (b : Bool) : D := .s (.bl b)
abbrev nonD : D := .s .non
def strsD (zs : List Str) : D := .lst (zs.map strD)
def sz : Nat := 1000000
def pN : List Str := ["text", "rooted", "ended"]
def pV (z : Str) : List D := [strD z, blD (DT.rooted z), blD (DT.ended z)]
/-- any object that is no text -/
def NoText (K : PySem.W.Frag) (m : Mem) (d : D) : Prop := ∃ t, TyD K m d t ∧ PySem.W.kitOne K t (.type "str") = some false
def pathD (C : Addr) (z : Str) : D := .ins C pN (pV z)
def Stream (m : Mem) (p : Addr) : Prop := ∃ c, m.own p = some (.stm c) ∧ m.own c = some .cel ∧ p ≠ c
def more (m : Mem) (n : Nat) : Mem := { m with cnt := m.cnt + n }
def sepOf (a : Str) : Str := if DT.tlLast a = some 47 then ("" : Str) else ("/" : Str)
def joinP (a b : Str) : Str := if DT.rooted b = true then b else a ++ sepOf a ++ b
def lastD (z : Str) : D := match (DT.steps z).getLast? with
  | some p => strD p
  | none => nonD
def wordsAll : List Str := ["dot", "up", "root up", "end bar"]
def heldOf (ws : List Str) : List Str := wordsAll.filter fun w => decide (w ∈ ws)
def strkD (C : Addr) (hs : List Str) : D := .ins C ["held"] [strsD hs]
def hasW (w : Str) (hs : List Str) : Bool := decide (w ∈ hs)
def tidiedT (hs : List Str) (z : Str) : Str := DT.plainT (DT.tidyS (hasW "dot" hs) (hasW "up" hs) (hasW "root up" hs && DT.rooted z) (DT.steps z)) (DT.rooted z) (DT.ended z && !(hasW "end bar" hs))
def strikeD (pr : Nat × Nat) : D := .tup [intD pr.1, intD pr.2]
/-- what _law_same is asked of, paths and an empty dict among it -/
def SameH (C : Addr) : Nat → D → Prop
  | _, .s .non => True
  | _, .s (.bl _) => True
  | _, .s (.int _) => True
  | _, .s (.str _) => True
  | _, .dic [] [] => True
  | _, .ins C' ns ds => ∃ z, D.ins C' ns ds = pathD C z
  | n + 1, .lst xs => xs.length ≤ 1000000 ∧ ∀ x ∈ xs, SameH C n x
  | n + 1, .tup xs => xs.length ≤ 1000000 ∧ ∀ x ∈ xs, SameH C n x
  | _, _ => False
/-- tuples in the place of lists -/
def frz : Nat → D → D
  | n + 1, .lst xs => .tup (xs.map (frz n))
  | n + 1, .tup xs => .tup (xs.map (frz n))
  | _, d => d
def FrzOk (C : Addr) : Nat → D → Prop
  | _, .s .non => True
  | _, .s (.bl _) => True
  | _, .s (.int _) => True
  | _, .s (.str _) => True
  | _, .dic [] [] => True
  | _, .ins C' ns ds => ∃ z, D.ins C' ns ds = pathD C z
  | n + 1, .lst xs => xs.length ≤ 1000000 ∧ ∀ x ∈ xs, FrzOk C n x
  | n + 1, .tup xs => xs.length ≤ 1000000 ∧ ∀ x ∈ xs, FrzOk C n x
  | _, _ => False
/-- any object that is no text of a path -/
def NoPath (K : PySem.W.Frag) (m : Mem) (d : D) : Prop := (∃ z, d = strD z ∧ z.length ≤ sz ∧ DT.isPath z = false) ∨ NoText K m d
/-- what is no word of strikes -/
def NoWord (K : PySem.W.Frag) (m : Mem) (d : D) : Prop := (∃ z, d = strD z ∧ z ∉ wordsAll) ∨ NoText K m d
/-- what is neither a list nor a tuple -/
def NoSeq (K : PySem.W.Frag) (m : Mem) (d : D) : Prop := ∃ t, TyD K m d t ∧ PySem.W.kitAny K t (["list", "tuple"].map Value.type) = some false
/-- what Strikes refuses, and the object that it names -/
def Refused (K : PySem.W.Frag) (m : Mem) (y w : D) : Prop := (NoSeq K m y ∧ w = y) ∨ ∃ (ws : List Str) (rest : List D), (∀ v ∈ ws, v ∈ wordsAll) ∧ NoWord K m w ∧ (y = .lst (ws.map strD ++ w :: rest) ∨ y = .tup (ws.map strD ++ w :: rest))
def Good (m : Mem) (y : D) (ws : List Str) : Prop := y = strsD ws ∨ y = .tup (ws.map strD) ∨ ∃ a, y = .s (.ref a) ∧ m.own a = some (.lst (ws.map strD))
def φ_is_name {K : PySem.W.Frag} {mg : Str → Option Value} (T : Txt K mg) : Phi := fun ds m nx _ => ∃ d, ds = [d] ∧ ((∃ z, d = strD z ∧ z.length ≤ sz ∧ nx (blD (DT.isName z)) m) ∨ (NoText K m d ∧ nx (blD false) m))
def φ_is_path_text {K : PySem.W.Frag} {mg : Str → Option Value} (T : Txt K mg) : Phi := fun ds m nx _ => ∃ d, ds = [d] ∧ ((∃ z, d = strD z ∧ z.length ≤ sz ∧ nx (blD (DT.isPath z)) m) ∨ (NoText K m d ∧ nx (blD false) m))
def φ_Path___init__ {K : PySem.W.Frag} {mg : Str → Option Value} (T : Txt K mg) : Phi := fun ds m nx _ => ∃ x z, ds = [.s (.ref x), strD z] ∧ DT.isPath z = true ∧ z.length ≤ sz ∧ m.own x = some (.ins T.c_Path [] []) ∧ nx nonD { m with own := putM m.own x (.ins T.c_Path pN (pV z)) }
def φ_Path___eq__ {K : PySem.W.Frag} {mg : Str → Option Value} (T : Txt K mg) : Phi := fun ds m nx _ => ∃ z y, ds = [pathD T.c_Path z, y] ∧ ((∃ w, y = pathD T.c_Path w ∧ nx (blD (decide (z = w))) m) ∨ (∃ t, TyD K m y t ∧ PySem.W.kitOne K t (.ref T.c_Path) = some false) ∧ nx (blD false) m)
def φ_Strikes___init__ {K : PySem.W.Frag} {mg : Str → Option Value} (T : Txt K mg) : Phi := fun ds m nx X => (∃ x ws y, ds = [.s (.ref x), y] ∧ Good m y ws ∧ (∀ w ∈ ws, w ∈ wordsAll) ∧ m.own x = some (.ins T.c_Strikes [] []) ∧ nx nonD { m with own := putM m.own x (.ins T.c_Strikes ["held"] [strsD (heldOf ws)]) }) ∨
  ∃ x y w, ds = [.s (.ref x), y] ∧ Refused K m y w ∧ X T.c_BadWord ["word"] [w] m
def φ_Strikes___eq__ {K : PySem.W.Frag} {mg : Str → Option Value} (T : Txt K mg) : Phi := fun ds m nx _ => ∃ a y, ds = [strkD T.c_Strikes a, y] ∧ (∀ w ∈ a, w ∈ wordsAll) ∧ ((∃ b, y = strkD T.c_Strikes b ∧ (∀ w ∈ b, w ∈ wordsAll) ∧ nx (blD (decide (a = b))) m) ∨ (∃ t, TyD K m y t ∧ PySem.W.kitOne K t (.ref T.c_Strikes) = some false) ∧ nx (blD false) m)
def φ_Strikes___len__ {K : PySem.W.Frag} {mg : Str → Option Value} (T : Txt K mg) : Phi := fun ds m nx _ => ∃ a, ds = [strkD T.c_Strikes a] ∧ a.length ≤ 4 ∧ nx (intD ((a.length : Nat) : Int)) m
def φ_Strikes___contains__ {K : PySem.W.Frag} {mg : Str → Option Value} (T : Txt K mg) : Phi := fun ds m nx _ => ∃ hs d, ds = [strkD T.c_Strikes hs, d] ∧ ((∃ z, d = strD z ∧ nx (blD (decide (z ∈ hs))) m) ∨ (NoText K m d ∧ nx (blD false) m))
def φ_Strikes___or__ {K : PySem.W.Frag} {mg : Str → Option Value} (T : Txt K mg) : Phi := fun ds m nx _ => ∃ a b, ds = [strkD T.c_Strikes a, strkD T.c_Strikes b] ∧ (∀ w ∈ a, w ∈ wordsAll) ∧ (∀ w ∈ b, w ∈ wordsAll) ∧ a.length ≤ 4 ∧ b.length ≤ 4 ∧ nx (strkD T.c_Strikes (heldOf (a ++ b))) m
def φ_Strikes___and__ {K : PySem.W.Frag} {mg : Str → Option Value} (T : Txt K mg) : Phi := fun ds m nx _ => ∃ a b, ds = [strkD T.c_Strikes a, strkD T.c_Strikes b] ∧ (∀ w ∈ a, w ∈ wordsAll) ∧ a.length ≤ 4 ∧ nx (strkD T.c_Strikes (heldOf (a.filter fun w => decide (w ∈ b)))) m
def φ_Strikes___sub__ {K : PySem.W.Frag} {mg : Str → Option Value} (T : Txt K mg) : Phi := fun ds m nx _ => ∃ a b, ds = [strkD T.c_Strikes a, strkD T.c_Strikes b] ∧ (∀ w ∈ a, w ∈ wordsAll) ∧ a.length ≤ 4 ∧ nx (strkD T.c_Strikes (heldOf (a.filter fun w => !decide (w ∈ b)))) m
def φ_Strikes___le__ {K : PySem.W.Frag} {mg : Str → Option Value} (T : Txt K mg) : Phi := fun ds m nx _ => ∃ a b, ds = [strkD T.c_Strikes a, strkD T.c_Strikes b] ∧ a.length ≤ 4 ∧ nx (blD (a.all fun w => decide (w ∈ b))) m
def φ_Strikes_words {K : PySem.W.Frag} {mg : Str → Option Value} (T : Txt K mg) : Phi := fun ds m nx _ => ∃ hs, ds = [strkD T.c_Strikes hs] ∧ (nx (strsD hs) m ∨ ∀ a, m.own a = none → nx (.s (.ref a)) { m with own := putM m.own a (.lst (hs.map strD)) })
def φ__law_draw {K : PySem.W.Frag} {mg : Str → Option Value} (T : Txt K mg) : Phi := fun ds m nx _ => ∃ p n, ds = [.s (.ref p), intD n] ∧ Stream m p ∧ 0 < n ∧ n < 1073741824 ∧ m.cnt < 1000000000 ∧ ∀ r, 0 ≤ r → r < n → nx (intD r) (more m 1)
def φ__law_pick {K : PySem.W.Frag} {mg : Str → Option Value} (T : Txt K mg) : Phi := fun ds m nx _ => ∃ p x xs, ds = [.s (.ref p), x] ∧ Stream m p ∧ m.cnt < 1000000000 ∧ DD.seqD x = some xs ∧ xs ≠ [] ∧ xs.length ≤ sz ∧ ∀ d ∈ xs, nx d (more m 1)
def φ__law_same {K : PySem.W.Frag} {mg : Str → Option Value} (T : Txt K mg) (n : Nat) : Phi := fun ds m nx _ => ∃ x, ds = [x, x] ∧ SameH T.c_Path n x ∧ nx (blD true) m
def φ__law_frozen {K : PySem.W.Frag} {mg : Str → Option Value} (T : Txt K mg) (n : Nat) : Phi := fun ds m nx _ => ∃ x, ds = [x] ∧ FrzOk T.c_Path n x ∧ nx (frz n x) m
def φ__law_all_words {K : PySem.W.Frag} {mg : Str → Option Value} (T : Txt K mg) : Phi := fun ds m nx _ => ds = [] ∧ nx (strsD wordsAll) m
def φ__law_tried {K : PySem.W.Frag} {mg : Str → Option Value} (T : Txt K mg) : Phi := fun ds m nx _ => ∃ y, ds = [y] ∧ ((∃ ws, Good m y ws ∧ (∀ w ∈ ws, w ∈ wordsAll) ∧ nx (.tup [strD "made", strsD (heldOf ws)]) m) ∨ ∃ w, Refused K m y w ∧ FrzOk T.c_Path 3 w ∧ nx (.tup [strD "word", frz 3 w]) m)
def t_BadWord___init__ {K : PySem.W.Frag} {mg : Str → Option Value} (T : Txt K mg) (E : XK) : TS :=
    (tSeq (tDrop (tVeI K (tCons (tVar 0) (tCons (tC (.str "an object is no word of its kind")) tNil)))) (tOst K "word" (tVar 0) (tVar 1)))
def t_is_name {K : PySem.W.Frag} {mg : Str → Option Value} (T : Txt K mg) (E : XK) : TS :=
    (tRet (tAndV (tCB (rIsiA K) (tCons (tVar 0) (tCons (tC (.ty "str")) tNil))) (tAndV (tChain rLeI rLeI (tC (.int 1)) (tCB (rLenA K) (tCons (tVar 0) tNil)) (tC (.int 8))) (tCB (rAll K) (tCons (tLc (iAny K (tVar 0)) (gName 1) tYes (tOp (rInA K) (tVar 1) (tC (.str "abcdefghijklmnopqrstuvwxyz"))) [1]) tNil)))))
def t_is_path_text {K : PySem.W.Frag} {mg : Str → Option Value} (T : Txt K mg) (E : XK) : TS :=
    (tSeq (tIfS (tOr (tNot (tB (tCB (rIsiA K) (tCons (tVar 0) (tCons (tC (.ty "str")) tNil))))) (tTest (tOp (rEqA K) (tVar 0) (tC (.str ""))))) (tRet (tC (.bl false))) tNext)
    (tRet (tCB (rAll K) (tCons (tLc (iAny K (tM1 rSplit (tVar 0) (tC (.str "/")))) (gName 1) tYes (tOrV (tOp (rInA K) (tVar 1) (tTup (tCons (tC (.str "")) (tCons (tC (.str ".")) (tCons (tC (.str "..")) tNil))))) (tCall (spOf K (φ_is_name T)) [] E0 (tCons (tVar 1) tNil))) [1]) tNil))))
def t_Path___init__ {K : PySem.W.Frag} {mg : Str → Option Value} (T : Txt K mg) (E : XK) : TS :=
    (tSeq (tIfS (tNot (tB (tCall (spOf K (φ_is_path_text T)) [] E0 (tCons (tVar 1) tNil)))) tNever tNext)
    (tSeq (sFld K (tVar 0) (tVar 1) "text")
    (tSeq (sFld K (tVar 0) (tOp (rEqA K) (tOp (rIx K) (tVar 1) (tC (.int 0))) (tC (.str "/"))) "rooted")
    (sFld K (tVar 0) (tOp (rInA K) (tOp (rIx K) (tM1 rSplit (tVar 1) (tC (.str "/"))) (tUn rNeg (tC (.int 1)))) (tTup (tCons (tC (.str "")) (tCons (tC (.str ".")) (tCons (tC (.str "..")) tNil))))) "ended"))))
def t_Path___eq__ {K : PySem.W.Frag} {mg : Str → Option Value} (T : Txt K mg) (E : XK) : TS :=
    (tRet (tAndV (tCB (rIsiA K) (tCons (tVar 1) (tCons (tC (.ref T.c_Path)) tNil))) (tOp (rEqA K) (tFld K (tVar 0) "text") (tFld K (tVar 1) "text"))))
def t_Strikes___init__ {K : PySem.W.Frag} {mg : Str → Option Value} (T : Txt K mg) (E : XK) : TS :=
    (tSeq (tIfS (tNot (tB (tCB (rIsiA K) (tCons (tVar 1) (tCons (tTup (tCons (tC (.ty "list")) (tCons (tC (.ty "tuple")) tNil))) tNil))))) (HX1.tRaise T.c_BadWord (HX1.spExc T.c_BadWord "word") (tCons (tVar 1) tNil) E) tNext)
    (tSeq (tFor (iAny K (tVar 1)) (gName 2) (tIfS (tOr (tNot (tB (tCB (rIsiA K) (tCons (tVar 2) (tCons (tC (.ty "str")) tNil))))) (tTest (tOp (rNInA K) (tVar 2) (tC (.ref T.a_WORDS))))) (HX1.tRaise T.c_BadWord (HX1.spExc T.c_BadWord "word") (tCons (tVar 2) tNil) E) tNext))
    (sFld K (tVar 0) (tLc (iAny K (tC (.ref T.a_WORDS))) (gName 2) (tTest (tOp (rInA K) (tVar 2) (tVar 1))) (tVar 2) [2]) "held")))
def t_Strikes___eq__ {K : PySem.W.Frag} {mg : Str → Option Value} (T : Txt K mg) (E : XK) : TS :=
    (tRet (tAndV (tCB (rIsiA K) (tCons (tVar 1) (tCons (tC (.ref T.c_Strikes)) tNil))) (tOp (rEqA K) (tFld K (tVar 0) "held") (tFld K (tVar 1) "held"))))
def t_Strikes___len__ {K : PySem.W.Frag} {mg : Str → Option Value} (T : Txt K mg) (E : XK) : TS :=
    (tRet (tCB (rLenA K) (tCons (tFld K (tVar 0) "held") tNil)))
def t_Strikes___contains__ {K : PySem.W.Frag} {mg : Str → Option Value} (T : Txt K mg) (E : XK) : TS :=
    (tRet (tAndV (tCB (rIsiA K) (tCons (tVar 1) (tCons (tC (.ty "str")) tNil))) (tOp (rInA K) (tVar 1) (tFld K (tVar 0) "held"))))
def t_Strikes___or__ {K : PySem.W.Frag} {mg : Str → Option Value} (T : Txt K mg) (E : XK) : TS :=
    (tRet (tMake T.c_Strikes (spOf K (φ_Strikes___init__ T)) [] E0 (tCons (tOp (rAddA K) (tFld K (tVar 0) "held") (tFld K (tVar 1) "held")) tNil)))
def t_Strikes___and__ {K : PySem.W.Frag} {mg : Str → Option Value} (T : Txt K mg) (E : XK) : TS :=
    (tRet (tMake T.c_Strikes (spOf K (φ_Strikes___init__ T)) [] E0 (tCons (tLc (iAny K (tFld K (tVar 0) "held")) (gName 2) (tTest (tOp (rInA K) (tVar 2) (tFld K (tVar 1) "held"))) (tVar 2) [2]) tNil)))
def t_Strikes___sub__ {K : PySem.W.Frag} {mg : Str → Option Value} (T : Txt K mg) (E : XK) : TS :=
    (tRet (tMake T.c_Strikes (spOf K (φ_Strikes___init__ T)) [] E0 (tCons (tLc (iAny K (tFld K (tVar 0) "held")) (gName 2) (tTest (tOp (rNInA K) (tVar 2) (tFld K (tVar 1) "held"))) (tVar 2) [2]) tNil)))
def t_Strikes___le__ {K : PySem.W.Frag} {mg : Str → Option Value} (T : Txt K mg) (E : XK) : TS :=
    (tRet (tCB (rAll K) (tCons (tLc (iAny K (tFld K (tVar 0) "held")) (gName 2) tYes (tOp (rInA K) (tVar 2) (tFld K (tVar 1) "held")) [2]) tNil)))
def t_Strikes_words {K : PySem.W.Frag} {mg : Str → Option Value} (T : Txt K mg) (E : XK) : TS :=
    (tRet (tCB (rListA K) (tCons (tFld K (tVar 0) "held") tNil)))
def t__law_start {K : PySem.W.Frag} {mg : Str → Option Value} (T : Txt K mg) (E : XK) : TS :=
    (tRet (tLst (tCons (tCB (rListA K) (tCons (tVar 0) tNil)) (tCons (tC (.int 0)) (tCons (tC (.int 0)) (tCons (tC (.int 11)) tNil))))))
def t__law_draw {K : PySem.W.Frag} {mg : Str → Option Value} (T : Txt K mg) (E : XK) : TS :=
    (tSeq (tAsg (tOp (rAddA K) (tOp (rIx K) (tVar 0) (tC (.int 2))) (tC (.int 1))) (gSub (tVar 0) (tC (.int 2)) rSetL))
    (tSeq (tIfS (tAnd (tTest (tOp (rEqA K) (tOp (rIx K) (tVar 0) (tC (.int 1))) (tC (.int 0)))) (tTest (tOp (rNeA K) (tOp (rIx K) (tVar 0) (tC (.int 0))) (tLst tNil)))) (tSeq (tAsg (tBM K "list" rPopAt (tOp (rIx K) (tVar 0) (tC (.int 0))) (tCons (tC (.int 0)) tNil)) (gName 2))
    (tSeq (tAsg (tOp rModI (tCB rInt1 (tCons (tOp (rAddA K) (tOp (rAddA K) (tOp rMulA (tOp (rIx K) (tVar 0) (tC (.int 3))) (tC (.int 8191))) (tVar 2)) (tC (.int 3))) tNil)) (tC (.int 2147483647))) (gSub (tVar 0) (tC (.int 3)) rSetL))
    (tAsg (tIf (tTest (tOp rGeI (tVar 2) (tOp rPowI (tC (.int 10)) (tC (.int 18))))) (tVar 2) (tC (.int 0))) (gSub (tVar 0) (tC (.int 1)) rSetL)))) tNext)
    (tSeq (tIfS (tTest (tOp rGtI (tOp (rIx K) (tVar 0) (tC (.int 1))) (tC (.int 0)))) (tSeq (tAsg (tOp rModI (tCB rInt1 (tCons (tOp (rIx K) (tVar 0) (tC (.int 1))) tNil)) (tVar 1)) (gName 3))
    (tSeq (tAsg (tOp rDivI (tOp (rIx K) (tVar 0) (tC (.int 1))) (tVar 1)) (gSub (tVar 0) (tC (.int 1)) rSetL))
    (tRet (tVar 3)))) tNext)
    (tSeq (tAsg (tOp rModI (tCB rInt1 (tCons (tOp rPowI (tOp (rAddA K) (tOp (rAddA K) (tOp (rIx K) (tVar 0) (tC (.int 3))) (tOp rMulA (tC (.int 7919)) (tOp (rIx K) (tVar 0) (tC (.int 2))))) (tC (.int 104729))) (tC (.int 5))) tNil)) (tC (.int 2147483629))) (gName 4))
    (tRet (tOp rModI (tOp rModI (tCB rInt1 (tCons (tOp rPowI (tOp (rAddA K) (tOp (rAddA K) (tOp rMulA (tVar 4) (tC (.int 48271))) (tOp rMulA (tC (.int 30011)) (tOp (rIx K) (tVar 0) (tC (.int 2))))) (tC (.int 29))) (tC (.int 3))) tNil)) (tC (.int 1000000007))) (tVar 1)))))))
def t__law_pick {K : PySem.W.Frag} {mg : Str → Option Value} (T : Txt K mg) (E : XK) : TS :=
    (tRet (tOp (rIx K) (tVar 1) (tCall (spOf K (φ__law_draw T)) [] E0 (tCons (tVar 0) (tCons (tCB (rLenA K) (tCons (tVar 1) tNil)) tNil)))))
def t__law_same {K : PySem.W.Frag} {mg : Str → Option Value} (T : Txt K mg) (φ : Phi) (E : XK) : TS :=
    (tSeq (tIfS (tB (tCB (rIsiA K) (tCons (tVar 1) (tCons (tTup (tCons (tC (.ty "list")) (tCons (tC (.ty "tuple")) tNil))) tNil)))) (tSeq (tIfS (tOr (tTest (tOp (rNeA K) (tCB (rIsiA K) (tCons (tVar 0) (tCons (tC (.ty "list")) tNil))) (tCB (rIsiA K) (tCons (tVar 1) (tCons (tC (.ty "list")) tNil))))) (tTest (tOp (rNeA K) (tCB (rIsiA K) (tCons (tVar 0) (tCons (tC (.ty "tuple")) tNil))) (tCB (rIsiA K) (tCons (tVar 1) (tCons (tC (.ty "tuple")) tNil)))))) (tRet (tC (.bl false))) tNext)
    (tRet (tAndV (tOp (rEqA K) (tCB (rLenA K) (tCons (tVar 0) tNil)) (tCB (rLenA K) (tCons (tVar 1) tNil))) (tCB (rAll K) (tCons (tLc (RZ.iZipA K (tCons (tVar 0) (tCons (tVar 1) tNil))) (gTup K 2 (gCons (gName 2) (gCons (gName 3) gNil))) tYes (tCall (spOf K φ) [] E0 (tCons (tVar 2) (tCons (tVar 3) tNil))) [2, 3]) tNil))))) tNext)
    (tSeq (tIfS (tB (tCB (rIsiA K) (tCons (tVar 1) (tCons (tC (.ty "int")) tNil)))) (tRet (tAndV (tCB (rIsiA K) (tCons (tVar 0) (tCons (tC (.ty "int")) tNil))) (tAndV (tOp (rEqA K) (tCB (rIsiA K) (tCons (tVar 0) (tCons (tC (.ty "bool")) tNil))) (tCB (rIsiA K) (tCons (tVar 1) (tCons (tC (.ty "bool")) tNil)))) (tOp (fun x y H Q => rEqA K x y H Q ∨ rEqE x y H Q ∨ (HO1.rCmpO K T.c_Path (spOf K (φ_Path___eq__ T)) E0) x y H Q) (tVar 0) (tVar 1))))) tNext)
    (tRet (tAndV (tOp rIsB (tCB (rIsiA K) (tCons (tVar 0) (tCons (tTup (tCons (tC (.ty "int")) (tCons (tC (.ty "list")) (tCons (tC (.ty "tuple")) tNil)))) tNil))) (tC (.bl false))) (tOp (fun x y H Q => rEqA K x y H Q ∨ rEqE x y H Q ∨ (HO1.rCmpO K T.c_Path (spOf K (φ_Path___eq__ T)) E0) x y H Q) (tVar 0) (tVar 1))))))
def t__law_frozen {K : PySem.W.Frag} {mg : Str → Option Value} (T : Txt K mg) (φ : Phi) (E : XK) : TS :=
    (tSeq (tIfS (tB (tCB (rIsiA K) (tCons (tVar 0) (tCons (tC (.ty "dict")) tNil)))) (tRet (tCB (HH1.rDictE K) (tCons (tLc (HH1.iKy (tVar 0)) (gName 1) tYes (tTup (tCons (tVar 1) (tCons (tCall (spOf K φ) [] E0 (tCons (tOp (rIx K) (tVar 0) (tVar 1)) tNil)) tNil))) [1]) tNil))) tNext)
    (tRet (tIf (tB (tCB (rIsiA K) (tCons (tVar 0) (tCons (tTup (tCons (tC (.ty "list")) (tCons (tC (.ty "tuple")) tNil))) tNil)))) (tCB (rTupA K) (tCons (tLc (HH1.iLT K (tVar 0)) (gName 2) tYes (tCall (spOf K φ) [] E0 (tCons (tVar 2) tNil)) [2]) tNil)) (tVar 0))))
def t__law_all_words {K : PySem.W.Frag} {mg : Str → Option Value} (T : Txt K mg) (E : XK) : TS :=
    (tRet (tLst (tCons (tC (.str "dot")) (tCons (tC (.str "up")) (tCons (tC (.str "root up")) (tCons (tC (.str "end bar")) tNil))))))
def t__law_tried {K : PySem.W.Frag} {mg : Str → Option Value} (T : Txt K mg) (E : XK) : TS :=
    (tSeq (tAsg (tTup (tCons (tC (.str "odd")) tNil)) (gName 1))
    (tSeq (HX1.tTry K 3 (.ref T.c_BadWord) 2 (fun EX => (tAsg (tTup (tCons (tC (.str "made")) (tCons (tMeth T.c_Strikes "words" (spOf K (φ_Strikes_words T)) [] E0 (tMake T.c_Strikes (spOf K (φ_Strikes___init__ T)) [] EX (tCons (tVar 0) tNil)) tNil) tNil))) (gName 1))) (fun ea cls ed => (tAsg (tTup (tCons (tC (.str "word")) (tCons (tCall (spOf K (φ__law_frozen T 3)) [] E0 (tCons (tXf ea cls ed T.c_BadWord "word" (tVar 2)) tNil)) tNil))) (gName 1))))
    (tRet (tVar 1))))
def t_law {K : PySem.W.Frag} {mg : Str → Option Value} (T : Txt K mg) (E : XK) : TS :=
    (tSeq (tAsg (tCall (spStart K) [] E0 (tCons (tVar 0) tNil)) (gName 1))
    (tSeq (tFor (iRng1 (tCons (tC (.int 8)) tNil)) (gName 2) (tSeq (tAsg (tLc (iRng1 (tCons (tC (.int 2)) tNil)) (gName 5) tYes (tLc (iRng1 (tCons (tCall (spOf K (φ__law_draw T)) [] E0 (tCons (tVar 1) (tCons (tC (.int 5)) tNil))) tNil)) (gName 4) tYes (tCall (spOf K (φ__law_pick T)) [] E0 (tCons (tVar 1) (tCons (tCall (spOf K (φ__law_all_words T)) [] E0 tNil) tNil))) [4]) [5]) (gName 3))
    (tSeq (tAsg (tCB (rListA K) (tCons (tOp (rIx K) (tVar 3) (tC (.int 0))) tNil)) (gName 6))
    (tSeq (tAsg (tTup (tCons (tMake T.c_Strikes (spOf K (φ_Strikes___init__ T)) [] E0 (tCons (tVar 6) tNil)) (tCons (tMake T.c_Strikes (spOf K (φ_Strikes___init__ T)) [] E0 (tCons (tCB (rTupA K) (tCons (tOp (rIx K) (tVar 3) (tC (.int 1))) tNil)) tNil)) tNil))) (gTup K 2 (gCons (gName 7) (gCons (gName 8) gNil))))
    (tSeq (tDrop (tBM K "list" rExtA (tVar 6) (tCons (tCall (spOf K (φ__law_all_words T)) [] E0 tNil) tNil)))
    (tSeq (tAsg (tLc (iAny K (tVar 3)) (gName 11) tYes (tLc (iAny K (tCall (spOf K (φ__law_all_words T)) [] E0 tNil)) (gName 10) (tTest (tOp (rInA K) (tVar 10) (tVar 11))) (tVar 10) [10]) [11]) (gName 9))
    (tSeq (tIfS (tNot (tB (tCall (spOf K (φ__law_same T 4)) [] E0 (tCons (tLst (tCons (tMeth T.c_Strikes "words" (spOf K (φ_Strikes_words T)) [] E0 (tVar 7) tNil) (tCons (tMeth T.c_Strikes "words" (spOf K (φ_Strikes_words T)) [] E0 (tVar 8) tNil) (tCons (tCB (HO1.rLenO T.c_Strikes (spOf K (φ_Strikes___len__ T)) E0) (tCons (tVar 7) tNil)) tNil)))) (tCons (tOp (rAddA K) (tVar 9) (tLst (tCons (tCB (rLenA K) (tCons (tOp (rIx K) (tVar 9) (tC (.int 0))) tNil)) tNil))) tNil))))) (tRet (tC (.bl false))) tNext)
    (tSeq (tDrop (tBM K "list" rAppend (tMeth T.c_Strikes "words" (spOf K (φ_Strikes_words T)) [] E0 (tVar 7) tNil) (tCons (tC (.str "more")) tNil)))
    (tSeq (tAsg (tLst (tCons (tMeth T.c_Strikes "words" (spOf K (φ_Strikes_words T)) [] E0 (tOp (HO1.rBinO T.c_Strikes (spOf K (φ_Strikes___or__ T)) E0) (tVar 7) (tVar 8)) tNil) (tCons (tMeth T.c_Strikes "words" (spOf K (φ_Strikes_words T)) [] E0 (tOp (HO1.rBinO T.c_Strikes (spOf K (φ_Strikes___and__ T)) E0) (tVar 7) (tVar 8)) tNil) (tCons (tMeth T.c_Strikes "words" (spOf K (φ_Strikes_words T)) [] E0 (tOp (HO1.rBinO T.c_Strikes (spOf K (φ_Strikes___sub__ T)) E0) (tVar 7) (tVar 8)) tNil) (tCons (tMeth T.c_Strikes "words" (spOf K (φ_Strikes_words T)) [] E0 (tVar 7) tNil) tNil))))) (gName 12))
    (tSeq (tAsg (tLst (tCons (tLc (iAny K (tCall (spOf K (φ__law_all_words T)) [] E0 tNil)) (gName 10) (tTest (tOp (rInA K) (tVar 10) (tOp (rAddA K) (tOp (rIx K) (tVar 9) (tC (.int 0))) (tOp (rIx K) (tVar 9) (tC (.int 1)))))) (tVar 10) [10]) tNil)) (gName 13))
    (tSeq (tDrop (tBM K "list" rAppend (tVar 13) (tCons (tLc (iAny K (tOp (rIx K) (tVar 9) (tC (.int 0)))) (gName 10) (tTest (tOp (rInA K) (tVar 10) (tOp (rIx K) (tVar 9) (tC (.int 1))))) (tVar 10) [10]) tNil)))
    (tSeq (tAsg (tOp (rAddA K) (tVar 13) (tLst (tCons (tLc (iAny K (tOp (rIx K) (tVar 9) (tC (.int 0)))) (gName 10) (tTest (tOp (rNInA K) (tVar 10) (tOp (rIx K) (tVar 9) (tC (.int 1))))) (tVar 10) [10]) (tCons (tOp (rIx K) (tVar 9) (tC (.int 0))) tNil)))) (gName 13))
    (tSeq (tIfS (tNot (tB (tCall (spOf K (φ__law_same T 4)) [] E0 (tCons (tVar 12) (tCons (tVar 13) tNil))))) (tRet (tC (.bl false))) tNext)
    (tSeq (tAsg (tLst (tCons (tOp (HO1.rCmpO K T.c_Strikes (spOf K (φ_Strikes___le__ T)) E0) (tVar 7) (tVar 8)) (tCons (tOp (HO1.rCmpO K T.c_Strikes (spOf K (φ_Strikes___eq__ T)) E0) (tVar 7) (tVar 8)) (tCons (tOp (HO1.rNeO K T.c_Strikes (spOf K (φ_Strikes___eq__ T)) E0) (tVar 7) (tVar 8)) (tCons (tOp (HO1.rCmpO K T.c_Strikes (spOf K (φ_Strikes___eq__ T)) E0) (tVar 7) (tMake T.c_Strikes (spOf K (φ_Strikes___init__ T)) [] E0 (tCons (tOp (rIx K) (tVar 9) (tC (.int 0))) tNil))) (tCons (tOp (HO1.rCmpO K T.c_Strikes (spOf K (φ_Strikes___le__ T)) E0) (tMake T.c_Strikes (spOf K (φ_Strikes___init__ T)) [.ref T.x0_Strikes___init__] E0 tNil) (tVar 7)) tNil)))))) (gName 12))
    (tSeq (tIfS (tNot (tB (tCall (spOf K (φ__law_same T 4)) [] E0 (tCons (tVar 12) (tCons (tLst (tCons (tOp (rEqA K) (tOp (rIx K) (tVar 13) (tC (.int 2))) (tLst tNil)) (tCons (tOp (rEqA K) (tOp (rIx K) (tVar 9) (tC (.int 0))) (tOp (rIx K) (tVar 9) (tC (.int 1)))) (tCons (tOp (rNeA K) (tOp (rIx K) (tVar 9) (tC (.int 0))) (tOp (rIx K) (tVar 9) (tC (.int 1)))) (tCons (tC (.bl true)) (tCons (tC (.bl true)) tNil)))))) tNil))))) (tRet (tC (.bl false))) tNext)
    (tSeq (tAsg (tCall (spOf K (φ__law_pick T)) [] E0 (tCons (tVar 1) (tCons (tLst (tCons (tC (.str "")) (tCons (tC (.str "dots")) (tCons (tC (.str "UP")) (tCons (tC .non) (tCons (tC (.int 5)) (tCons (tC (.bl true)) (tCons (tLst (tCons (tC (.str "dot")) tNil)) (tCons (tTup (tCons (tC (.str "up")) tNil)) (tCons tDNewF (tCons (tC (.str "rootup")) (tCons (tMake T.c_Path (spOf K (φ_Path___init__ T)) [] E0 (tCons (tC (.str "up")) tNil)) tNil)))))))))))) tNil))) (gName 14))
    (tSeq (tIfS (tNot (tB (tCall (spOf K (φ__law_same T 4)) [] E0 (tCons (tLc (iAny K (tCall (spOf K (φ__law_all_words T)) [] E0 tNil)) (gName 10) tYes (tOp (HO1.rInO T.c_Strikes (spOf K (φ_Strikes___contains__ T)) E0 false) (tVar 10) (tVar 7)) [10]) (tCons (tLc (iAny K (tCall (spOf K (φ__law_all_words T)) [] E0 tNil)) (gName 10) tYes (tOp (rInA K) (tVar 10) (tOp (rIx K) (tVar 9) (tC (.int 0)))) [10]) tNil))))) (tRet (tC (.bl false))) tNext)
    (tSeq (tIfS (tOr (tTest (tOp (HO1.rInO T.c_Strikes (spOf K (φ_Strikes___contains__ T)) E0 false) (tVar 14) (tVar 7))) (tOr (tTest (tOp (HO1.rCmpO K T.c_Strikes (spOf K (φ_Strikes___eq__ T)) E0) (tVar 7) (tVar 14))) (tOr (tTest (tOp (fun x y H Q => (HR1.rEqRefl K T.c_Strikes (spOf K (φ_Strikes___eq__ T)) E0) x y H Q ∨ (HO1.rCmpO K T.c_Path (spOf K (φ_Path___eq__ T)) E0) x y H Q) (tVar 14) (tVar 7))) (tNot (tTest (tOp (HO1.rNeO K T.c_Strikes (spOf K (φ_Strikes___eq__ T)) E0) (tVar 7) (tVar 14))))))) (tRet (tC (.bl false))) tNext)
    (tSeq (tIfS (tNot (tB (tCall (spOf K (φ__law_same T 4)) [] E0 (tCons (tCall (spOf K (φ__law_tried T)) [] E0 (tCons (tOp (rAddA K) (tOp (rIx K) (tVar 3) (tC (.int 0))) (tLst (tCons (tVar 14) (tCons (tC (.str "none")) tNil)))) tNil)) (tCons (tTup (tCons (tC (.str "word")) (tCons (tCall (spOf K (φ__law_frozen T 3)) [] E0 (tCons (tVar 14) tNil)) tNil))) tNil))))) (tRet (tC (.bl false))) tNext)
    (tSeq (tAsg (tCall (spOf K (φ__law_pick T)) [] E0 (tCons (tVar 1) (tCons (tLst (tCons (tC .non) (tCons (tC (.int 5)) (tCons (tC (.str "dot")) (tCons tDNewF (tCons (tC (.bl true)) tNil)))))) tNil))) (gName 15))
    (tIfS (tNot (tB (tCall (spOf K (φ__law_same T 4)) [] E0 (tCons (tLst (tCons (tCall (spOf K (φ__law_tried T)) [] E0 (tCons (tVar 15) tNil)) (tCons (tCall (spOf K (φ__law_tried T)) [] E0 (tCons (tOp (rIx K) (tVar 3) (tC (.int 1))) tNil)) tNil))) (tCons (tLst (tCons (tTup (tCons (tC (.str "word")) (tCons (tVar 15) tNil))) (tCons (tTup (tCons (tC (.str "made")) (tCons (tOp (rIx K) (tVar 9) (tC (.int 1))) tNil))) tNil))) tNil))))) (tRet (tC (.bl false))) tNext)))))))))))))))))))))
    (tRet (tAndV (tOp (rEqA K) (tMeth T.c_Strikes "words" (spOf K (φ_Strikes_words T)) [] E0 (tMake T.c_Strikes (spOf K (φ_Strikes___init__ T)) [.ref T.x0_Strikes___init__] E0 tNil) tNil) (tLst tNil)) (tOp (HO1.rCmpO K T.c_Strikes (spOf K (φ_Strikes___eq__ T)) E0) (tMake T.c_Strikes (spOf K (φ_Strikes___init__ T)) [] E0 (tCons (tTup tNil) tNil)) (tMake T.c_Strikes (spOf K (φ_Strikes___init__ T)) [] E0 (tCons (tLst tNil) tNil)))))))
end My

namespace My
open PySem L2 DD
open PySem.Spec PyProof.Rows
theorem pcs_len : ∀ l : List Nat, (DT.pcs l).length ≤ l.length + 1
  | [] => by simp [DT.pcs]
  | c :: r => by
    have ih := pcs_len r
    have hne := DT.pcs_ne r
    by_cases hc : c = 47
    · subst hc
      rw [DT.pcs_bar]
      simp only [List.length_cons]
      omega
    · rw [DT.pcs_cons _ hc]
      simp only [List.length_cons, List.length_tail]
      omega
theorem pcs_each : ∀ {l p : List Nat}, p ∈ DT.pcs l → p.length ≤ l.length
  | [], p, h => by
    have e : p = [] := by simpa [DT.pcs] using h
    subst e
    exact Nat.le_refl _
  | c :: r, p, h => by
    by_cases hc : c = 47
    · subst hc
      rw [DT.pcs_bar] at h
      rcases List.mem_cons.mp h with z | z
      · subst z
        exact Nat.zero_le _
      · have := pcs_each z
        simp only [List.length_cons]
        omega
    · rw [DT.pcs_cons _ hc] at h
      have e := DT.pcs_head r
      rcases List.mem_cons.mp h with z | z
      · have := pcs_each (l := r) (p := (DT.pcs r).headD []) (by rw [← e]; exact List.mem_cons_self)
        subst z
        simp only [List.length_cons]
        omega
      · have := pcs_each (l := r) (p := p) (by rw [← e]; exact List.mem_cons_of_mem _ z)
        simp only [List.length_cons]
        omega
theorem pieces_len (z : Str) : (DT.pieces z).length ≤ z.length + 1 := by
  unfold DT.pieces
  rw [List.length_map, TL.len_tl]
  exact pcs_len _
theorem pieces_each {z p : Str} (h : p ∈ DT.pieces z) : p.length ≤ z.length := by
  unfold DT.pieces at h
  obtain ⟨q, hq, rfl⟩ := List.mem_map.mp h
  rw [TL.len_tl z]
  exact pcs_each hq
theorem pieces_line {z : Str} (h : z.length ≤ sz) : (DT.pieces z).length ≤ sizeLine := by
  have h1 := pieces_len z
  have h2 : z.length ≤ 1000000 := h
  rw [sizeLine_eq]
  omega
theorem split_line {z : Str} (h : z.length ≤ sz) : z.length + 2 ≤ sizeLine := by
  have h2 : z.length ≤ 1000000 := h
  rw [sizeLine_eq]
  omega
theorem bar1 : (("/" : Str).length == 0) = false := by decide +kernel
theorem inDots (p : Str) : inV (.str p) [.str "", .str ".", .str ".."] = DT.dotty p := rfl
theorem path_ne {z : Str} (h : DT.isPath z = true) : TL.tl z ≠ [] := fun e => (DT.isPath_iff.mp h).1 (DT.tl_ext (l := []) e |>.trans DT.mk_nil)
theorem first_of {z : Str} (h : TL.tl z ≠ []) : ∃ c, atI z.cps.toList 0 = some c ∧ (TL.tl z).head? = some c := by
  cases e : TL.tl z with
  | nil => exact absurd e h
  | cons c r => exact ⟨c, atI_zero (by rw [show z.cps.toList = c :: r from e]; rfl), rfl⟩
theorem last_of {z : Str} (h : TL.tl z ≠ []) : ∃ c, atI z.cps.toList (-1) = some c ∧ (TL.tl z).getLast? = some c := by
  cases e : (TL.tl z).getLast? with
  | none => exact absurd (List.getLast?_eq_none_iff.mp e) h
  | some c => exact ⟨c, atI_last e, rfl⟩
theorem one_eq (c d : Nat) : decide ((V.str ⟨#[c]⟩) = V.str ⟨#[d]⟩) = decide (c = d) := by
  rw [Bool.eq_iff_iff]
  simp
theorem bar_eq (c : Nat) : decide ((V.str ⟨#[c]⟩) = V.str ("/" : Str)) = decide (c = 47) := by
  rw [show ("/" : Str) = ⟨#[47]⟩ by decide +kernel]
  exact one_eq c 47
theorem bar_is : ("/" : Str) = ⟨#[47]⟩ := by decide +kernel
theorem pieces_last (z : Str) : (DT.pieces z).getLast? = some (DT.lastP z) := by
  unfold DT.pieces DT.lastP
  rw [List.getLast?_map]
  cases e : (DT.pcs (TL.tl z)).getLast? with
  | none => exact absurd (List.getLast?_eq_none_iff.mp e) (DT.pcs_ne _)
  | some p =>
    rw [List.getLastD_eq_getLast?, e]
    rfl
theorem steps_ok' {z : Str} (h : DT.isPath z = true) : ∀ p ∈ DT.steps z, PyData.strOk p = true := DT.steps_ok h
theorem join_path {a b : Str} (ha : DT.isPath a = true) (hb : DT.isPath b = true) : DT.isPath (joinP a b) = true := by
  unfold joinP
  by_cases h : DT.rooted b = true
  · rw [if_pos h]
    exact hb
  · rw [if_neg h]
    obtain ⟨a1, a2⟩ := DT.isPath_iff.mp ha
    obtain ⟨b1, b2⟩ := DT.isPath_iff.mp hb
    have hbn := path_ne hb
    have e1 : TL.tl ("/" : Str) = [47] := by decide +kernel
    have e0 : TL.tl ("" : Str) = [] := by decide +kernel
    refine DT.isPath_iff.mpr ⟨fun z => ?_, ?_⟩
    · have z2 := congrArg TL.tl z
      rw [TL.tl_append, e0] at z2
      exact hbn (List.append_eq_nil_iff.mp z2).2
    · rw [TL.tl_append, TL.tl_append]
      unfold sepOf
      by_cases hl : DT.tlLast a = some 47
      · rw [if_pos hl, e0, List.append_nil]
        unfold DT.tlLast at hl
        obtain ⟨a', ha'⟩ : ∃ a', TL.tl a = a' ++ [47] := by
          have := List.getLast?_eq_some_iff.mp hl
          exact this
        rw [ha'] at a2 ⊢
        rw [List.append_assoc]
        exact DT.good_cat (DT.good_cut (b := []) a2).1 b2
      · rw [if_neg hl, e1, List.append_assoc]
        exact DT.good_cat a2 b2
theorem len2 (x y : D) : [x, y].length ≤ sizeLine := le_line (by show 2 ≤ 1000000; decide)
theorem eq_emp (z : Str) : decide (V.str z = V.str ("" : Str)) = decide (z = "") := by
  rw [Bool.eq_iff_iff]
  simp
theorem fst_bar {z : Str} (h : TL.tl z ≠ []) : ∃ c, atI z.cps.toList 0 = some c ∧ DT.rooted z = decide (c = 47) := by
  obtain ⟨c, h1, h2⟩ := first_of h
  refine ⟨c, h1, ?_⟩
  unfold DT.rooted
  rw [h2, Bool.eq_iff_iff]
  simp
theorem strs_of (qs : List (List Nat)) : (qs.map DT.mk).map (fun y => D.s (.str y)) = qs.map fun q => strD (DT.mk q) := by
  rw [List.map_map]
  rfl
theorem strs_scal (zs : List Str) : zs.map strD = (zs.map V.str).map D.s := by
  rw [List.map_map]
  rfl
theorem inV_strs (x : Str) (zs : List Str) : inV (.str x) (zs.map V.str) = decide (x ∈ zs) := by
  unfold inV
  rw [List.any_map, Bool.eq_iff_iff, List.any_eq_true]
  constructor
  · rintro ⟨y, hy, e⟩
    have e2 : (y == x) = true := e
    have e3 : y = x := by simpa using e2
    subst e3
    exact decide_eq_true hy
  · intro h
    refine ⟨x, of_decide_eq_true h, ?_⟩
    show (x == x) = true
    simp
theorem flat_strs (zs : List Str) : (zs.map V.str).all flatV = true := by
  rw [List.all_map, List.all_eq_true]
  intro _ _
  rfl
theorem make_path {K : PySem.W.Frag} {mg : Str → Option Value} (T : Txt K mg) {F B : Hp} {ρ : DD.Env} {m : Mem} {te : TE} {Q : QD} (h : WE K F B te ρ m fun d m1 => ∃ z, d = strD z ∧ DT.isPath z = true ∧ z.length ≤ sz ∧ Q (pathD T.c_Path z) m1) :
    WE K F B (tMake T.c_Path (spOf K (φ_Path___init__ T)) [] E0 (tCons te tNil)) ρ m Q :=
  we_make (dds := []) okx0 RpL.nil (wa_cons (we_imp h fun d m1 ⟨z, e, hp, hz, q⟩ => by
    subst e
    refine wa_nil fun x hx => ?_
    first
      | (refine ⟨x, z, rfl, hp, hz, putM_same, rfl, pN, _, putM_same, ?_⟩; rw [putM_put, dropM_put hx]; exact q)
      | (refine Or.inl ⟨x, z, rfl, hp, hz, putM_same, rfl, pN, _, putM_same, ?_⟩; rw [putM_put, dropM_put hx]; exact q)))
theorem more_more (m : Mem) (a b : Nat) : more (more m a) b = more m (a + b) := by
  unfold more
  rw [Nat.add_assoc]
theorem len_twice {α : Type} (xs : List α) : (List.replicate (2 : Int).toNat xs).flatten.length = 2 * xs.length := by
  show (xs ++ (xs ++ [])).length = _
  rw [List.append_nil, List.length_append]
  omega
theorem lc_draws {K : PySem.W.Frag} {F B : Hp} {ρ : DD.Env} {m : Mem} {wi : TI} {te : TE} {i N : Nat} {Q : QD} (P : Str → Prop) (hN : N ≤ 1000000) (hw : ∀ Q', Q' (rngD 0 N) m → WI K F B wi ρ m Q')
    (ht : ∀ F' k d, k < N → WE K F' B te ((wipeD ρ [i]).set i (some d)) (more m k) fun y m' => ∃ z, y = strD z ∧ P z ∧ m' = more m (k + 1))
    (q : ∀ zs : List Str, zs.length = N → (∀ z ∈ zs, P z) → Q (strsD zs) (more m N)) : WE K F B (tLc wi (gName i) tYes te [i]) ρ m Q := by
  refine we_lc (hw _ ⟨fun k acc m' => ∃ zs : List Str, acc = zs.map strD ∧ zs.length = k ∧ (∀ z ∈ zs, P z) ∧ m' = more m k, ⟨[], rfl, rfl, (fun _ z => nomatch z), rfl⟩, fun F' k d acc m' hd ⟨zs, e1, e2, e3, e4⟩ => ?_, fun acc m' ⟨zs, e1, e2, e3, e4⟩ => ?_⟩)
  · subst e1 e4
    have hk := (rngD_get hd).1
    refine wgw_name List.mem_cons_self (wt_yes ⟨fun _ => we_imp (ht F' k d hk) fun y m4 ⟨z, ey, hz, em⟩ => ?_, fun z => nomatch z⟩)
    subst ey em
    refine ⟨by rw [List.length_map]; exact Nat.lt_of_lt_of_le (by omega) (le_line hN), zs ++ [z], by simp, by simp [e2], fun x hx => ?_, rfl⟩
    rcases List.mem_append.mp hx with w | w
    · exact e3 x w
    · have e : x = z := by simpa using w
      subst e
      exact hz
  · subst e1 e4
    rw [rngD_length] at e2 ⊢
    exact q zs e2 e3
theorem sum_le {b : Nat} : ∀ {zs : List Str}, (∀ z ∈ zs, z.length ≤ b) → (zs.map (·.length)).sum ≤ zs.length * b
  | [], _ => Nat.zero_le _
  | z :: zs, h => by
    have ih := sum_le (zs := zs) fun y hy => h y (List.mem_cons_of_mem _ hy)
    have h1 := h z List.mem_cons_self
    rw [List.map_cons, List.sum_cons, List.length_cons, Nat.succ_mul]
    omega
theorem name_of : ∀ {zs : List Str}, (∀ z ∈ zs, ∃ c, c ∈ DT.letters ∧ z = ⟨#[c]⟩) → (TL.tl (Txt.join "" zs)).length = zs.length ∧ ∀ c ∈ TL.tl (Txt.join "" zs), c ∈ DT.letters := fun {zs} h => by
  rw [DT.tl_join0]
  induction zs with
  | nil => exact ⟨rfl, fun c hc => by cases hc⟩
  | cons z zs ih =>
    obtain ⟨i1, i2⟩ := ih fun y hy => h y (List.mem_cons_of_mem _ hy)
    obtain ⟨c, hc, rfl⟩ := h z List.mem_cons_self
    rw [List.map_cons, List.flatten_cons]
    refine ⟨?_, fun d hd => ?_⟩
    · rw [List.length_append, i1]
      show 1 + zs.length = zs.length + 1
      omega
    · rcases List.mem_append.mp hd with w | w
      · have e : d = c := by simpa [TL.tl] using w
        subst e
        exact hc
      · exact i2 d w
theorem chr_of {z : Str} {d : D} (h : d ∈ chrs z) : ∃ c, c ∈ TL.tl z ∧ d = strD ⟨#[c]⟩ := by
  unfold chrs at h
  obtain ⟨c, hc, rfl⟩ := List.mem_map.mp h
  exact ⟨c, hc, rfl⟩
theorem steps_count {z : Str} {n : Nat} (h : z.length ≤ n) : (DT.steps z).length ≤ n + 1 := by
  unfold DT.steps
  have h1 := List.length_filter_le (fun p : Str => !decide (p = "")) (DT.pieces z)
  have h2 := pieces_len z
  omega
theorem join_ok {st : List Str} (h : ∀ s ∈ st, DT.isStep s) (hl : st.length ≤ 10000) : (st.map (·.length)).sum + st.length * ("/" : Str).length ≤ 16777216 := by
  have h1 := sum_le (b := 8) (zs := st) fun s hs => DT.isStep_len (h s hs)
  have hb : ("/" : Str).length = 1 := by decide +kernel
  rw [hb]
  omega
theorem join_mk (st : List Str) : Txt.join "/" st = DT.mk (DT.jn (st.map TL.tl)) := by
  apply TL.ext_tl
  have := DT.tl_joinB (st.map TL.tl)
  rw [DT.map_mk_tl] at this
  rw [this]
  rfl
theorem jn_len9 {st : List Str} (h : ∀ s ∈ st, DT.isStep s) (hl : st.length ≤ 10000) : (DT.mk (DT.jn (st.map TL.tl))).length ≤ 90000 := by
  have h1 := DT.jn_le (b := 8) (st := st) fun s hs => DT.isStep_len (h s hs)
  rw [TL.len_tl]
  show (DT.jn (st.map TL.tl)).length ≤ _
  omega
theorem mk_app (a b : List Nat) : DT.mk a ++ DT.mk b = DT.mk (a ++ b) := by
  apply TL.ext_tl
  rw [TL.tl_append]
  rfl
theorem bar_mk : ("/" : Str) = DT.mk [47] := by decide +kernel
theorem dot_mk : ("." : Str) = DT.mk [46] := by decide +kernel
theorem lastN_get {st : List Str} {x : Str} (h : st.getLast? = some x) : DT.lastN st = DT.isName x := by
  unfold DT.lastN
  rw [h]
theorem last_strs {st : List Str} {x : Str} (h : st.getLast? = some x) : (st.map strD).getLast? = some (strD x) := by
  rw [List.getLast?_map, h]
  rfl
theorem st_last {st : List Str} (h : st ≠ []) : ∃ x, st.getLast? = some x ∧ x ∈ st := ⟨_, List.getLast?_eq_some_getLast h, List.getLast_mem h⟩
theorem stepsOk {st : List Str} (h : ∀ s ∈ st, DT.isStep s) : ∀ z ∈ st, PyData.strOk z = true := fun z hz => DT.isStep_ok (h z hz)
theorem tyd_put {K : PySem.W.Frag} {m : Mem} {d : D} {t : Value} {x : Addr} {o : MO} (h : TyD K m d t) (hx : m.own x = none) : TyD K { m with own := putM m.own x o } d t := by
  have ne : ∀ {a : Addr} {u : MO}, m.own a = some u → a ≠ x := fun {a u} e z => by
    rw [z, hx] at e
    cases e
  cases h with
  | non => exact .non
  | bl b => exact .bl b
  | int i => exact .int i
  | str z => exact .str z
  | lst xs => exact .lst xs
  | tup xs => exact .tup xs
  | dic ks xs => exact .dic ks xs
  | ins h ns xs => exact .ins h ns xs
  | ownL h => exact .ownL ((putM_ne (ne h)).trans h)
  | ownD h => exact .ownD ((putM_ne (ne h)).trans h)
  | ownI hc h => exact .ownI hc ((putM_ne (ne h)).trans h)
theorem held_words (ws : List Str) : ∀ w ∈ heldOf ws, w ∈ wordsAll := fun w hw => (List.mem_filter.mp hw).1
theorem held_len (ws : List Str) : (heldOf ws).length ≤ 4 := List.length_filter_le _ _
theorem held_filter (p : Str → Bool) : heldOf (wordsAll.filter p) = wordsAll.filter p := by
  unfold heldOf
  refine List.filter_congr fun w hw => ?_
  rw [Bool.eq_iff_iff, decide_eq_true_iff, List.mem_filter]
  exact ⟨fun h => h.2, fun h => ⟨hw, h⟩⟩
theorem held_held (ws : List Str) : heldOf (heldOf ws) = heldOf ws := held_filter _
theorem held_sub (ws : List Str) (p : Str → Bool) : heldOf ((heldOf ws).filter p) = (heldOf ws).filter p := by
  have e : (heldOf ws).filter p = wordsAll.filter fun w => decide (w ∈ ws) && p w := by
    unfold heldOf
    rw [List.filter_filter]
    exact List.filter_congr fun w _ => Bool.and_comm _ _
  rw [e]
  exact held_filter _
theorem word_ok : ∀ v ∈ wordsAll, PyData.strOk v = true := by
  have : (wordsAll.all fun v => PyData.strOk v) = true := by decide +kernel
  exact fun v hv => List.all_eq_true.mp this v hv
theorem words_ok {a : List Str} (h : ∀ w ∈ a, w ∈ wordsAll) : ∀ z ∈ a, PyData.strOk z = true := fun z hz => word_ok z (h z hz)
theorem words_line {xs : List D} (h : xs.length ≤ 4) : xs.length ≤ sizeLine := le_line (by omega)
theorem strk_fld {K : PySem.W.Frag} {mg : Str → Option Value} (T : Txt K mg) {F B : Hp} {ρ : DD.Env} {m : Mem} {te : TE} {Q : QD} (h : WE K F B te ρ m fun d m1 => ∃ hs, d = strkD T.c_Strikes hs ∧ Q (strsD hs) m1) : WE K F B (tFld K te "held") ρ m Q :=
  we_fld (we_imp h fun d m1 ⟨hs, e, q⟩ => ⟨T.c_Strikes, strsD hs, T.y_Strikes.cl, T.n_Strikes_held, by subst e; exact ⟨rfl, rfl⟩, q⟩)
/-- a comprehension over a list of texts that keeps some of them -/
theorem lc_keep {K : PySem.W.Frag} {F B : Hp} {ρ : DD.Env} {m : Mem} {te tx : TE} {i : Nat} {Q : QD} {a : List Str} (p : Str → Bool) (hl : a.length ≤ 100) (hi : i < ρ.length) (h : ∀ Q', Q' (strsD a) m → WE K F B te ρ m Q')
    (hp : ∀ F' w (Q' : QD), w ∈ a → Q' (blD (p w)) m → WE K F' B tx ((wipeD ρ [i]).set i (some (strD w))) m Q') (q : Q (strsD (a.filter p)) m) : WE K F B (tLc (iAny K te) (gName i) (tTest tx) (tVar i) [i]) ρ m Q := by
  have hg : ∀ d, ((wipeD ρ [i]).set i (some d))[i]? = some (some d) := fun d => by
    rw [List.getElem?_set_self]
    show i < ((wipeD ρ []).set i none).length
    rw [List.length_set]
    exact hi
  refine we_lcFilter (wi_any (h _ ⟨_, rfl, fun d => (match d with | .s (.str v) => p v | _ => false), id, ?_, fun F' d hd => ?_, ?_⟩))
  · rw [List.length_map]
    exact le_line (by omega)
  · obtain ⟨v, hv, rfl⟩ := List.mem_map.mp hd
    exact wgw_name List.mem_cons_self ⟨rfl, wt_test (hp F' v _ hv ⟨_, rfl, rfl, rfl, fun _ => we_var (hg _) ⟨rfl, rfl⟩⟩)⟩
  · rw [List.map_id]
    have e : (a.map strD).filter (fun d => (match d with | .s (.str v) => p v | _ => false)) = (a.filter p).map strD := by
      rw [List.filter_map]
      rfl
    rw [e]
    exact q
theorem in_words {K : PySem.W.Frag} {F B : Hp} {m : Mem} {w : Str} {b : List Str} {Q : QD} (q : Q (blD (decide (w ∈ b))) m) : WO K F B (rInA K) (strD w) (strsD b) m Q := by
  show WO K F B (rInA K) (.s (.str w)) (.lst (b.map strD)) m Q
  rw [strs_scal]
  refine wo_inL rfl (flat_strs b) ?_
  rw [inV_strs]
  exact q
theorem nin_words {K : PySem.W.Frag} {F B : Hp} {m : Mem} {w : Str} {b : List Str} {Q : QD} (q : Q (blD (!decide (w ∈ b))) m) : WO K F B (rNInA K) (strD w) (strsD b) m Q := by
  show WO K F B (rNInA K) (.s (.str w)) (.lst (b.map strD)) m Q
  rw [strs_scal]
  refine wo_ninL rfl (flat_strs b) ?_
  rw [inV_strs]
  exact q
theorem make_strk {K : PySem.W.Frag} {mg : Str → Option Value} (T : Txt K mg) {F B : Hp} {ρ : DD.Env} {m : Mem} {te : TE} {E : XK} {X : XD} {Q : QD} (hE : OkX K F B X E) (h : WE K F B te ρ m fun d m1 => ∃ ws, Good m1 d ws ∧ (∀ w ∈ ws, w ∈ wordsAll) ∧ Q (strkD T.c_Strikes (heldOf ws)) m1) :
    WE K F B (tMake T.c_Strikes (spOf K (φ_Strikes___init__ T)) [] E (tCons te tNil)) ρ m Q :=
  we_make (dds := []) hE RpL.nil (wa_cons (we_imp h fun d m1 ⟨ws, hy, hw, q⟩ => by
    refine wa_nil fun x hx => .inl ⟨x, ws, d, rfl, ?_, hw, putM_same, rfl, ["held"], [strsD (heldOf ws)], putM_same, ?_⟩
    · rcases hy with z | z | ⟨a, z1, z2⟩
      · exact .inl z
      · exact .inr (.inl z)
      · refine .inr (.inr ⟨a, z1, (putM_ne fun z => ?_).trans z2⟩)
        rw [z, hx] at z2
        cases z2
    · rw [putM_put, dropM_put hx]
      exact q))
theorem make_strk0 {K : PySem.W.Frag} {mg : Str → Option Value} (T : Txt K mg) {F B : Hp} {ρ : DD.Env} {m : Mem} {E : XK} {X : XD} {Q : QD} (hE : OkX K F B X E) (q : Q (strkD T.c_Strikes []) m) :
    WE K F B (tMake T.c_Strikes (spOf K (φ_Strikes___init__ T)) [.ref T.x0_Strikes___init__] E tNil) ρ m Q := by
  have hr : RpL K B [.tup []] [.ref T.x0_Strikes___init__] := RpL.cons (by
    unfold Rp
    exact ⟨_, [], rfl, T.q0_Strikes___init__ B, RpL.nil⟩) RpL.nil
  refine we_make (dds := [.tup []]) hE hr (wa_nil fun x hx => .inl ⟨x, [], .tup [], rfl, .inr (.inl rfl), (fun _ z => nomatch z), putM_same, rfl, ["held"], [strsD (heldOf [])], putM_same, ?_⟩)
  rw [putM_put, dropM_put hx]
  exact q
theorem same_lst {C : Addr} {n : Nat} {xs : List D} (hl : xs.length ≤ 1000000) (h : ∀ x ∈ xs, SameH C n x) : SameH C (n + 1) (.lst xs) := by
  unfold SameH
  exact ⟨hl, h⟩
theorem same_tup {C : Addr} {n : Nat} {xs : List D} (hl : xs.length ≤ 1000000) (h : ∀ x ∈ xs, SameH C n x) : SameH C (n + 1) (.tup xs) := by
  unfold SameH
  exact ⟨hl, h⟩
theorem same_str {C : Addr} {n : Nat} {z : Str} : SameH C n (strD z) := by cases n <;> (unfold SameH; trivial)
theorem same_bl {C : Addr} {n : Nat} {z : Bool} : SameH C n (blD z) := by cases n <;> (unfold SameH; trivial)
theorem same_int {C : Addr} {n : Nat} {z : Int} : SameH C n (intD z) := by cases n <;> (unfold SameH; trivial)
theorem same_strs {C : Addr} {n : Nat} {zs : List Str} (h : zs.length ≤ 100) : SameH C (n + 1) (strsD zs) := same_lst (by rw [List.length_map]; omega) fun x hx => by
  obtain ⟨z, _, rfl⟩ := List.mem_map.mp hx
  exact same_str
theorem frz_same {C : Addr} : ∀ (n : Nat) (x : D), FrzOk C n x → SameH C n (frz n x)
  | n, .s .non, _ => by cases n <;> (unfold frz SameH; trivial)
  | n, .s (.bl _), _ => by cases n <;> (unfold frz SameH; trivial)
  | n, .s (.int _), _ => by cases n <;> (unfold frz SameH; trivial)
  | n, .s (.str _), _ => by cases n <;> (unfold frz SameH; trivial)
  | n, .s (.byt _), h => by unfold FrzOk at h; exact h.elim
  | n, .s (.flt _), h => by unfold FrzOk at h; exact h.elim
  | n, .s (.ref _), h => by unfold FrzOk at h; exact h.elim
  | n, .s (.ty _), h => by unfold FrzOk at h; exact h.elim
  | n, .dic [] [], _ => by cases n <;> (unfold frz SameH; trivial)
  | n, .dic (_ :: _) _, h => by unfold FrzOk at h; exact h.elim
  | n, .dic [] (_ :: _), h => by unfold FrzOk at h; exact h.elim
  | n, .ins _ _ _, h => by
    unfold FrzOk at h
    cases n <;> (unfold frz SameH; exact h)
  | 0, .lst _, h => by unfold FrzOk at h; exact h.elim
  | 0, .tup _, h => by unfold FrzOk at h; exact h.elim
  | n + 1, .lst xs, h => by
    unfold FrzOk at h
    unfold frz
    refine same_tup (by rw [List.length_map]; exact h.1) fun y hy => ?_
    obtain ⟨x, hx, rfl⟩ := List.mem_map.mp hy
    exact frz_same n x (h.2 x hx)
  | n + 1, .tup xs, h => by
    unfold FrzOk at h
    unfold frz
    refine same_tup (by rw [List.length_map]; exact h.1) fun y hy => ?_
    obtain ⟨x, hx, rfl⟩ := List.mem_map.mp hy
    exact frz_same n x (h.2 x hx)
theorem all_filter (a : List Str) (p : Str → Bool) : a.all p = decide ((a.filter fun w => !p w) = []) := by
  rw [Bool.eq_iff_iff, List.all_eq_true, decide_eq_true_iff, List.filter_eq_nil_iff]
  constructor
  · intro h x hx
    rw [h x hx]
    decide
  · intro h x hx
    have := h x hx
    simpa using this
/-- what the law picks as an odd object -/
def OddOk {K : PySem.W.Frag} {mg : Str → Option Value} (T : Txt K mg) (d : D) : Prop := (∀ m, NoWord K m d) ∧ FrzOk T.c_Path 3 d ∧ (∃ t, (∀ m, TyD K m d t) ∧ PySem.W.kitOne K t (.ref T.c_Strikes) = some false ∧ PySem.W.notFirst K T.c_Strikes t = true) ∧ (BiD d ∨ ∃ z, d = pathD T.c_Path z)
theorem no_text {K : PySem.W.Frag} {m : Mem} {d : D} {t : String} (h : TyD K m d (.type t)) (hk : kitB t "str" = some false) : NoText K m d := ⟨_, h, kit_ty hk⟩
theorem rd_is_name {K : PySem.W.Frag} {mg : Str → Option Value} (T : Txt K mg) (E : XK) : BodyOk K (φ_is_name T) N_is_name E (t_is_name T E) := by
  intro ds m nx X F B h hE
  obtain ⟨d, rfl, h⟩ := h
  rw [st_is_name]
  unfold t_is_name
  refine ws_ret (we_andV ?_)
  refine we_cb (wa_cons (we_var rfl (wa_cons (we_c (wa_nil ?_)))))
  rcases h with ⟨z, rfl, hz, h⟩ | ⟨⟨t, ht, hk⟩, h⟩
  · refine wc_isi (.str z) rfl (kit_ty (by decide +kernel)) ⟨true, rfl, fun _ => ?_, (fun q => nomatch q)⟩
    refine we_andV ?_
    refine we_chain (we_c (we_cb (wa_cons (we_var rfl (wa_nil ?_)))))
    refine wc_len ⟨le_line hz, rfl⟩ (wo_I0 ⟨_, rfl, fun h1 => ?_, fun h1 => ?_⟩)
    · refine we_c (wo_I0 ⟨_, rfl, fun h2 => ?_, fun h2 => ?_⟩)
      · refine we_cb (wa_cons ?_)
        refine we_lcMap (wi_any (we_var rfl ⟨_, rfl, fun d => blD (match d with | .s (.str c) => decide ((c.cps.toList.headD 0) ∈ DT.letters) | _ => false), ?_, fun F' d hd => ?_, ?_⟩))
        · rw [chrs_length]
          exact le_line hz
        · obtain ⟨c, hc, rfl⟩ := List.mem_map.mp hd
          refine wgw_name List.mem_cons_self ⟨rfl, ?_⟩
          exact we_op (we_var rfl (we_c (wo_inC ⟨rfl, rfl⟩)))
        · refine wa_nil ?_
          have e : (chrs z).map (fun d => blD (match d with | .s (.str c) => decide ((c.cps.toList.headD 0) ∈ DT.letters) | _ => false)) = (((TL.tl z).map fun c => decide (c ∈ DT.letters))).map fun b => .s (.bl b) := by
            unfold chrs
            rw [List.map_map, List.map_map]
            rfl
          rw [e]
          refine wc_all ?_
          have e2 : DT.isName z = ((TL.tl z).map fun c => decide (c ∈ DT.letters)).all id := by
            unfold DT.isName
            have a1 : (1 : Int) ≤ (z.length : Nat) := of_decide_eq_true h1
            have a2 : ((z.length : Nat) : Int) ≤ 8 := of_decide_eq_true h2
            rw [decide_eq_true (show 1 ≤ z.length by omega), decide_eq_true (show z.length ≤ 8 by omega), List.all_map]
            rfl
          rw [← e2]
          exact h
      · have e2 : DT.isName z = false := by
          unfold DT.isName
          have a2 : ¬ ((z.length : Nat) : Int) ≤ 8 := of_decide_eq_false h2
          rw [decide_eq_false (show ¬ z.length ≤ 8 by omega)]
          simp
        rw [e2] at h
        exact h
    · have e2 : DT.isName z = false := by
        unfold DT.isName
        have a2 : ¬ (1 : Int) ≤ ((z.length : Nat) : Int) := of_decide_eq_false h1
        rw [decide_eq_false (show ¬ 1 ≤ z.length by omega)]
        rfl
      rw [e2] at h
      exact ⟨false, rfl, (fun q => nomatch q), fun _ => h⟩
  · exact wc_isi ht rfl hk ⟨false, rfl, (fun q => nomatch q), fun _ => h⟩
theorem rd_is_path_text {K : PySem.W.Frag} {mg : Str → Option Value} (T : Txt K mg) (E : XK) : BodyOk K (φ_is_path_text T) N_is_path_text E (t_is_path_text T E) := by
  intro ds m nx X F B h hE
  obtain ⟨d, rfl, h⟩ := h
  rw [st_is_path_text]
  unfold t_is_path_text
  refine ws_seq (ws_if (wt_or (wt_not (wt_B (we_cb (wa_cons (we_var rfl (wa_cons (we_c (wa_nil ?_))))))))))
  rcases h with ⟨z, rfl, hz, h⟩ | ⟨⟨t, ht, hk⟩, h⟩
  · refine wc_isi (.str z) rfl (kit_ty (by decide +kernel)) ⟨true, rfl, fun _ => ?_, (fun q => nomatch q)⟩
    refine wt_test (we_op (we_var rfl (we_c (wo_eqS rfl ⟨_, rfl, fun q => ?_, fun q => ?_⟩))))
    · refine ws_ret (we_c ?_)
      have e : z = "" := by simpa using of_decide_eq_true q
      have e2 : DT.isPath z = false := by
        unfold DT.isPath
        rw [decide_eq_true e]
        rfl
      rw [e2] at h
      exact h
    · have e : ¬ z = "" := by simpa using of_decide_eq_false q
      refine ws_next (ws_ret (we_cb (wa_cons ?_)))
      refine we_lcMap (wi_any (we_m1 (we_var rfl ⟨⟨_, rfl⟩, we_c (wm_split bar1 (split_line hz) ⟨_, rfl, fun d => blD (match d with | .s (.str p) => DT.dotty p || DT.isName p | _ => false), ?_, fun F' d hd => ?_, ?_⟩)⟩)))
      · rw [List.length_map, DT.split_eq]
        exact pieces_line hz
      · rw [DT.split_eq] at hd
        obtain ⟨p, hp, rfl⟩ := List.mem_map.mp hd
        refine wgw_name List.mem_cons_self ⟨rfl, ?_⟩
        refine we_orV (we_op (we_var rfl (we_tup (wa_cons (we_c (wa_cons (we_c (wa_cons (we_c (wa_nil ⟨by decide, ?_⟩))))))))))
        refine wo_inT (xs := [.str "", .str ".", .str ".."]) rfl rfl ⟨_, rfl, fun q => ?_, fun q => ?_⟩
        · rw [inDots] at q
          refine we_call okx0 (wa_cons (we_var rfl (wa_nil ⟨_, rfl, .inl ⟨p, rfl, Nat.le_trans (pieces_each hp) hz, ?_, rfl⟩⟩)))
          show blD (DT.isName p) = blD (DT.dotty p || DT.isName p)
          rw [q]
          rfl
        · rw [inDots] at q
          refine ⟨?_, rfl⟩
          show blD true = blD (DT.dotty p || DT.isName p)
          rw [q]
          rfl
      · refine wa_nil ?_
        rw [DT.split_eq, List.map_map]
        have e1 : (DT.pieces z).map ((fun d => blD (match d with | .s (.str p) => DT.dotty p || DT.isName p | _ => false)) ∘ fun y => D.s (.str y)) = ((DT.pieces z).map fun p => DT.dotty p || DT.isName p).map fun b => .s (.bl b) := by
          rw [List.map_map]
          rfl
        rw [e1]
        refine wc_all ?_
        have e2 : DT.isPath z = ((DT.pieces z).map fun p => DT.dotty p || DT.isName p).all id := by
          unfold DT.isPath
          rw [decide_eq_false e, List.all_map]
          rfl
        rw [← e2]
        exact h
  · exact wc_isi ht rfl hk ⟨false, rfl, (fun q => nomatch q), fun _ => ⟨fun _ => ws_ret (we_c h), fun q => nomatch q⟩⟩
theorem rd_Path___init__ {K : PySem.W.Frag} {mg : Str → Option Value} (T : Txt K mg) (E : XK) : BodyOk K (φ_Path___init__ T) N_Path___init__ E (t_Path___init__ T E) := by
  intro ds m nx X F B h hE
  obtain ⟨x, z, rfl, hp, hz, ho, h⟩ := h
  rw [st_Path___init__]
  unfold t_Path___init__
  refine ws_seq (ws_if (wt_not (wt_B (we_call okx0 (wa_cons (we_var rfl (wa_nil ⟨_, rfl, .inl ⟨z, rfl, hz, _, rfl, ?_⟩⟩)))))))
  rw [hp]
  refine ⟨(fun q => nomatch q), fun _ => ws_next (ws_seq (ws_fld (we_var rfl (we_var rfl ⟨x, T.c_Path, [], [], rfl, T.y_Path.cl, T.n_Path_text, ho, by decide, ?_⟩))))⟩
  obtain ⟨c, hc, hc2⟩ := first_of (path_ne hp)
  refine ws_seq (ws_fld (we_op (we_op (we_var rfl (we_c (wo_ixS (le_line hz) hc (we_c ?_)))))))
  refine wo_eqS rfl ?_
  rw [bar_eq]
  refine we_var rfl ⟨x, T.c_Path, _, _, rfl, T.y_Path.cl, T.n_Path_rooted, putM_same, by decide, ?_⟩
  refine ws_fld (we_op (we_op (we_m1 (we_var rfl ⟨⟨_, rfl⟩, we_c (wm_split bar1 (split_line hz) (we_un (we_c (wu_neg ?_))))⟩))))
  rw [DT.split_eq]
  refine wo_ixL (d := strD (DT.lastP z)) (atI_last ?_) (we_tup (wa_cons (we_c (wa_cons (we_c (wa_cons (we_c (wa_nil ⟨by decide, ?_⟩))))))))
  · rw [List.getLast?_map, pieces_last]
    rfl
  refine wo_inT (xs := [.str "", .str ".", .str ".."]) rfl rfl (we_var rfl ⟨x, T.c_Path, _, _, rfl, T.y_Path.cl, T.n_Path_ended, putM_same, by decide, ?_⟩)
  have e : DT.rooted z = decide (c = 47) := by
    unfold DT.rooted
    rw [hc2]
    rw [Bool.eq_iff_iff]
    simp
  have h' := h
  unfold pV at h'
  rw [e] at h'
  simp only [putM_put]
  exact h'
theorem rd_Path___eq__ {K : PySem.W.Frag} {mg : Str → Option Value} (T : Txt K mg) (E : XK) : BodyOk K (φ_Path___eq__ T) N_Path___eq__ E (t_Path___eq__ T E) := by
  intro ds m nx X F B h hE
  obtain ⟨z, y, rfl, h⟩ := h
  rw [st_Path___eq__]
  unfold t_Path___eq__
  refine ws_ret (we_andV (we_cb (wa_cons (we_var rfl (wa_cons (we_c (wa_nil ?_)))))))
  rcases h with ⟨w, rfl, h⟩ | ⟨⟨t, ht, hk⟩, h⟩
  · refine wc_isi (.ins T.y_Path _ _) rfl T.kt_Path_Path ⟨true, rfl, (fun _ => ?_), fun q => nomatch q⟩
    refine we_op (we_fld (we_var rfl ⟨T.c_Path, strD z, T.y_Path.cl, T.n_Path_text, ⟨rfl, rfl⟩, we_fld (we_var rfl ⟨T.c_Path, strD w, T.y_Path.cl, T.n_Path_text, ⟨rfl, rfl⟩, wo_eqS rfl ?_⟩)⟩))
    have e : decide (V.str z = V.str w) = decide (z = w) := by
      rw [Bool.eq_iff_iff]
      simp
    rw [e]
    exact h
  · exact wc_isi ht rfl hk ⟨false, rfl, (fun q => nomatch q), fun _ => h⟩
theorem rd_Strikes___init__ {K : PySem.W.Frag} {mg : Str → Option Value} (T : Txt K mg) (E : XK) : BodyOk K (φ_Strikes___init__ T) N_Strikes___init__ E (t_Strikes___init__ T E) := by
  intro ds m nx X F B h hE
  -- one item
  have word : ∀ {F' B' : Hp} {X' : XD} {w : Str} {ρ : DD.Env} {m' : Mem} {EE : DE}, w ∈ wordsAll → ρ[2]? = some (some (strD w)) → EE.nx ρ m' →
      WS K F' B' (tIfS (tOr (tNot (tB (tCB (rIsiA K) (tCons (tVar 2) (tCons (tC (.ty "str")) tNil))))) (tTest (tOp (rNInA K) (tVar 2) (tC (.ref T.a_WORDS))))) (HX1.tRaise T.c_BadWord (HX1.spExc T.c_BadWord "word") (tCons (tVar 2) tNil) E) tNext) ρ m' EE := fun {F' B' X' w ρ m' EE} hw h2 q => by
    refine ws_if (wt_or (wt_not (wt_B (we_cb (wa_cons (we_var h2 (wa_cons (we_c (wa_nil ?_)))))))))
    refine wc_isi (.str w) rfl (kit_ty (by decide +kernel)) ⟨true, rfl, fun _ => ?_, fun q => nomatch q⟩
    refine wt_test (we_op (we_var h2 (we_cT T.q_WORDS (wo_ninT rfl rfl ⟨_, rfl, ?_, fun _ => ws_next q⟩))))
    have e : inV (.str w) (wordsAll.map V.str) = true := by
      rw [inV_strs]
      exact decide_eq_true hw
    have e2 : (!inV (.str w) (wordsAll.map V.str)) = false := by rw [e]; rfl
    intro q
    exact absurd (e2.symm.trans q) (by decide)
  rcases h with ⟨x, ws, y, rfl, hy, hw, ho, h⟩ | ⟨x, y, w, rfl, hr, h⟩
  · rw [st_Strikes___init__]
    unfold t_Strikes___init__
    have last : ∀ z, WS K F B (sFld K (tVar 0) (tLc (iAny K (tC (.ref T.a_WORDS))) (gName 2) (tTest (tOp (rInA K) (tVar 2) (tVar 1))) (tVar 2) [2]) "held") [some (.s (.ref x)), some y, z] m { nx := fun _ m' => nx (.s .non) m', rt := nx } := fun z => by
      refine ws_fld (we_lcFilter (wi_any (we_cT T.q_WORDS ⟨_, rfl, fun d => (match d with | .s (.str v) => decide (v ∈ ws) | _ => false), id, by decide, fun F' d hd => ?_, ?_⟩)))
      · have hd' : d ∈ wordsAll.map strD := hd
        obtain ⟨v, hv, rfl⟩ := List.mem_map.mp hd'
        refine wgw_name List.mem_cons_self ⟨rfl, wt_test (we_op (we_var rfl (we_var rfl ?_)))⟩
        rcases hy with rfl | rfl | ⟨a, rfl, ha⟩
        · exact in_words ⟨_, rfl, rfl, rfl, fun q => we_var rfl ⟨rfl, rfl⟩⟩
        · rw [strs_scal]
          refine wo_inT rfl (flat_strs ws) ⟨_, rfl, ?_, rfl, fun q => we_var rfl ⟨rfl, rfl⟩⟩
          rw [inV_strs]
        · rw [strs_scal] at ha
          refine wo_inOL ha rfl (flat_strs ws) ⟨_, rfl, ?_, rfl, fun q => we_var rfl ⟨rfl, rfl⟩⟩
          rw [inV_strs]
      · refine we_var rfl ⟨x, T.c_Strikes, [], [], rfl, T.y_Strikes.cl, T.n_Strikes_held, ho, by decide, ?_⟩
        rw [List.map_id]
        have e : (([.str "dot", .str "up", .str "root up", .str "end bar"] : List V).map D.s).filter (fun d => (match d with | .s (.str v) => decide (v ∈ ws) | _ => false)) = (heldOf ws).map strD := by
          show (wordsAll.map strD).filter _ = _
          rw [List.filter_map]
          rfl
        rw [e]
        exact h
    refine ws_seq (ws_if (wt_not (wt_B (we_cb (wa_cons (we_var rfl (wa_cons (we_tup (wa_cons (we_c (wa_cons (we_c (wa_nil ⟨by decide, wa_nil ?_⟩)))))))))))))
    have hlen : ∀ i d, (ws.map strD)[i]? = some d → ∃ w, d = strD w ∧ w ∈ wordsAll := fun i d hd => by
      obtain ⟨w, hwm, rfl⟩ := List.mem_map.mp (List.mem_of_getElem? hd)
      exact ⟨w, rfl, hw w hwm⟩
    have dat : seqD y = some (ws.map strD) → WS K F B (tSeq (tFor (iAny K (tVar 1)) (gName 2) (tIfS (tOr (tNot (tB (tCB (rIsiA K) (tCons (tVar 2) (tCons (tC (.ty "str")) tNil))))) (tTest (tOp (rNInA K) (tVar 2) (tC (.ref T.a_WORDS))))) (HX1.tRaise T.c_BadWord (HX1.spExc T.c_BadWord "word") (tCons (tVar 2) tNil) E) tNext)) (sFld K (tVar 0) (tLc (iAny K (tC (.ref T.a_WORDS))) (gName 2) (tTest (tOp (rInA K) (tVar 2) (tVar 1))) (tVar 2) [2]) "held")) [some (.s (.ref x)), some y, none] m { nx := fun _ m' => nx (.s .non) m', rt := nx } := fun hsq => by
      refine ws_seqI (fun ρ1 m1 => (∃ z, ρ1 = [some (.s (.ref x)), some y, z]) ∧ m1 = m) ?_ ?_
      · refine ws_for (wi_any (we_var rfl ⟨_, hsq, fun _ ρ1 m1 => (∃ z, ρ1 = [some (.s (.ref x)), some y, z]) ∧ m1 = m, ⟨⟨_, rfl⟩, rfl⟩, ?_, fun _ _ q => q⟩))
        rintro i d ρ1 m1 hd ⟨⟨z, rfl⟩, rfl⟩
        obtain ⟨w, rfl, hwm⟩ := hlen i d hd
        exact wg_name (word (X' := X0) hwm rfl ⟨⟨_, rfl⟩, rfl⟩)
      · rintro ρ1 m1 ⟨⟨z, rfl⟩, rfl⟩
        exact last z
    rcases hy with rfl | rfl | ⟨a, rfl, ha⟩
    · exact wc_isiT (us := ["list", "tuple"].map Value.type) (.lst _) rfl (kit_any (by decide +kernel)) ⟨true, rfl, (fun q => nomatch q), fun _ => ws_next (dat rfl)⟩
    · exact wc_isiT (us := ["list", "tuple"].map Value.type) (.tup _) rfl (kit_any (by decide +kernel)) ⟨true, rfl, (fun q => nomatch q), fun _ => ws_next (dat rfl)⟩
    · refine wc_isiT (us := ["list", "tuple"].map Value.type) (.ownL ha) rfl (kit_any (by decide +kernel)) ⟨true, rfl, (fun q => nomatch q), fun _ => ws_next ?_⟩
      refine ws_seqI (fun ρ1 m1 => (∃ z, ρ1 = [some (.s (.ref x)), some (.s (.ref a)), z]) ∧ m1 = m) ?_ ?_
      · refine ws_forO (X := X) hE (we_var rfl ⟨rfl, ha, fun _ ρ1 m1 => (∃ z, ρ1 = [some (.s (.ref x)), some (.s (.ref a)), z]) ∧ m1 = offM m a, ⟨⟨_, rfl⟩, rfl⟩, ?_, ?_⟩)
        · rintro F' B' i d ρ1 m1 hB hE' hd ⟨⟨z, rfl⟩, rfl⟩
          obtain ⟨w, rfl, hwm⟩ := hlen i d hd
          exact wg_name (word (X' := X0) hwm rfl ⟨⟨_, rfl⟩, rfl⟩)
        · rintro ρ1 m1 ⟨⟨z, rfl⟩, rfl⟩
          exact ⟨⟨z, rfl⟩, on_off ha⟩
      · rintro ρ1 m1 ⟨⟨z, rfl⟩, rfl⟩
        exact last z
  · rw [st_Strikes___init__]
    unfold t_Strikes___init__
    refine ws_seq (ws_if (wt_not (wt_B (we_cb (wa_cons (we_var rfl (wa_cons (we_tup (wa_cons (we_c (wa_cons (we_c (wa_nil ⟨by decide, wa_nil ?_⟩)))))))))))))
    rcases hr with ⟨⟨t, ht, hk⟩, rfl⟩ | ⟨ws, rest, hw, hn, hyy⟩
    · exact wc_isiT (us := ["list", "tuple"].map Value.type) ht rfl hk ⟨false, rfl, (fun _ => ws_raise hE (wa_cons (we_var rfl (wa_nil ⟨_, rfl, h⟩)))), fun q => nomatch q⟩
    · have hsq : seqD y = some (ws.map strD ++ w :: rest) := by rcases hyy with rfl | rfl <;> rfl
      have dat : WS K F B (tSeq (tFor (iAny K (tVar 1)) (gName 2) (tIfS (tOr (tNot (tB (tCB (rIsiA K) (tCons (tVar 2) (tCons (tC (.ty "str")) tNil))))) (tTest (tOp (rNInA K) (tVar 2) (tC (.ref T.a_WORDS))))) (HX1.tRaise T.c_BadWord (HX1.spExc T.c_BadWord "word") (tCons (tVar 2) tNil) E) tNext)) (sFld K (tVar 0) (tLc (iAny K (tC (.ref T.a_WORDS))) (gName 2) (tTest (tOp (rInA K) (tVar 2) (tVar 1))) (tVar 2) [2]) "held")) [some (.s (.ref x)), some y, none] m { nx := fun _ m' => nx (.s .non) m', rt := nx } := by
        refine ws_seq (ws_for (wi_any (we_var rfl ⟨_, hsq, fun i ρ1 m1 => i ≤ ws.length ∧ (∃ z, ρ1 = [some (.s (.ref x)), some y, z]) ∧ m1 = m, ⟨Nat.zero_le _, ⟨_, rfl⟩, rfl⟩, ?_, ?_⟩)))
        · rintro i d ρ1 m1 hd ⟨hi, ⟨z, rfl⟩, rfl⟩
          by_cases hlt : i < ws.length
          · rw [List.getElem?_append_left (by rw [List.length_map]; exact hlt)] at hd
            obtain ⟨v, hv, rfl⟩ := List.mem_map.mp (List.mem_of_getElem? hd)
            exact wg_name (word (X' := X0) (hw v hv) rfl ⟨hlt, ⟨_, rfl⟩, rfl⟩)
          · have e : i = ws.length := by omega
            subst e
            rw [List.getElem?_append_right (by rw [List.length_map]; exact Nat.le_refl _), List.length_map, Nat.sub_self] at hd
            cases hd
            refine wg_name (ws_if (wt_or (wt_not (wt_B (we_cb (wa_cons (we_var rfl (wa_cons (we_c (wa_nil ?_))))))))))
            rcases hn with ⟨u, rfl, hu⟩ | ⟨t, ht, hk⟩
            · refine wc_isi (.str u) rfl (kit_ty (by decide +kernel)) ⟨true, rfl, fun _ => ?_, fun q => nomatch q⟩
              refine wt_test (we_op (we_var rfl (we_cT T.q_WORDS (wo_ninT rfl rfl ⟨_, rfl, (fun _ => ws_raise hE (wa_cons (we_var rfl (wa_nil ⟨_, rfl, h⟩)))), ?_⟩))))
              have e : inV (.str u) (wordsAll.map V.str) = false := by
                rw [inV_strs]
                exact decide_eq_false hu
              have e2 : (!inV (.str u) (wordsAll.map V.str)) = true := by rw [e]; rfl
              intro q
              exact absurd (e2.symm.trans q) (by decide)
            · exact wc_isi ht rfl hk ⟨false, rfl, (fun q => nomatch q), fun _ => ⟨(fun _ => ws_raise hE (wa_cons (we_var rfl (wa_nil ⟨_, rfl, h⟩)))), fun q => nomatch q⟩⟩
        · rintro ρ1 m1 ⟨hi, _⟩
          rw [List.length_append, List.length_map] at hi
          simp at hi
          omega
      rcases hyy with rfl | rfl
      · exact wc_isiT (us := ["list", "tuple"].map Value.type) (.lst _) rfl (kit_any (by decide +kernel)) ⟨true, rfl, (fun q => nomatch q), fun _ => ws_next dat⟩
      · exact wc_isiT (us := ["list", "tuple"].map Value.type) (.tup _) rfl (kit_any (by decide +kernel)) ⟨true, rfl, (fun q => nomatch q), fun _ => ws_next dat⟩
theorem rd_Strikes___eq__ {K : PySem.W.Frag} {mg : Str → Option Value} (T : Txt K mg) (E : XK) : BodyOk K (φ_Strikes___eq__ T) N_Strikes___eq__ E (t_Strikes___eq__ T E) := by
  intro ds m nx X F B h hE
  obtain ⟨a, y, rfl, ha, h⟩ := h
  rw [st_Strikes___eq__]
  unfold t_Strikes___eq__
  refine ws_ret (we_andV (we_cb (wa_cons (we_var rfl (wa_cons (we_c (wa_nil ?_)))))))
  rcases h with ⟨b, rfl, hb, h⟩ | ⟨⟨t, ht, hk⟩, h⟩
  · refine wc_isi (.ins T.y_Strikes _ _) rfl T.kt_Strikes_Strikes ⟨true, rfl, (fun _ => ?_), fun q => nomatch q⟩
    exact we_op (strk_fld T (we_var rfl ⟨a, rfl, strk_fld T (we_var rfl ⟨b, rfl, wo_eqStrs (words_ok ha) (words_ok hb) h⟩)⟩))
  · exact wc_isi ht rfl hk ⟨false, rfl, (fun q => nomatch q), fun _ => h⟩
theorem rd_Strikes___len__ {K : PySem.W.Frag} {mg : Str → Option Value} (T : Txt K mg) (E : XK) : BodyOk K (φ_Strikes___len__ T) N_Strikes___len__ E (t_Strikes___len__ T E) := by
  intro ds m nx X F B h hE
  obtain ⟨a, rfl, hl, h⟩ := h
  rw [st_Strikes___len__]
  unfold t_Strikes___len__
  refine ws_ret (we_cb (wa_cons (strk_fld T (we_var rfl ⟨a, rfl, wa_nil (wc_len (n := a.length) ?_ h)⟩))))
  show a.length = (a.map strD).length
  rw [List.length_map]
theorem rd_Strikes___contains__ {K : PySem.W.Frag} {mg : Str → Option Value} (T : Txt K mg) (E : XK) : BodyOk K (φ_Strikes___contains__ T) N_Strikes___contains__ E (t_Strikes___contains__ T E) := by
  intro ds m nx X F B h hE
  obtain ⟨hs, d, rfl, h⟩ := h
  rw [st_Strikes___contains__]
  unfold t_Strikes___contains__
  refine ws_ret (we_andV (we_cb (wa_cons (we_var rfl (wa_cons (we_c (wa_nil ?_)))))))
  rcases h with ⟨z, rfl, h⟩ | ⟨⟨t, ht, hk⟩, h⟩
  · refine wc_isi (.str z) rfl (kit_ty (by decide +kernel)) ⟨true, rfl, (fun _ => ?_), fun q => nomatch q⟩
    refine we_op (we_var rfl (we_fld (we_var rfl ⟨T.c_Strikes, strsD hs, T.y_Strikes.cl, T.n_Strikes_held, ⟨rfl, rfl⟩, ?_⟩)))
    show WO K F B (rInA K) (.s (.str z)) (.lst (hs.map strD)) m nx
    rw [strs_scal]
    refine wo_inL rfl (flat_strs hs) ?_
    rw [inV_strs]
    exact h
  · exact wc_isi ht rfl hk ⟨false, rfl, (fun q => nomatch q), fun _ => h⟩
theorem rd_Strikes___or__ {K : PySem.W.Frag} {mg : Str → Option Value} (T : Txt K mg) (E : XK) : BodyOk K (φ_Strikes___or__ T) N_Strikes___or__ E (t_Strikes___or__ T E) := by
  intro ds m nx X F B h hE
  obtain ⟨a, b, rfl, ha, hb, la, lb, h⟩ := h
  rw [st_Strikes___or__]
  unfold t_Strikes___or__
  refine ws_ret (make_strk T okx0 (we_op (strk_fld T (we_var rfl ⟨a, rfl, strk_fld T (we_var rfl ⟨b, rfl, wo_addL ?_ ⟨a ++ b, .inl ?_, ?_, h⟩⟩)⟩))))
  · rw [List.length_map, List.length_map]
    exact le_line (by omega)
  · unfold strsD
    rw [List.map_append]
  · intro w hw
    rcases List.mem_append.mp hw with z | z
    · exact ha w z
    · exact hb w z
theorem rd_Strikes___and__ {K : PySem.W.Frag} {mg : Str → Option Value} (T : Txt K mg) (E : XK) : BodyOk K (φ_Strikes___and__ T) N_Strikes___and__ E (t_Strikes___and__ T E) := by
  intro ds m nx X F B h hE
  obtain ⟨a, b, rfl, ha, la, h⟩ := h
  rw [st_Strikes___and__]
  unfold t_Strikes___and__
  exact ws_ret (make_strk T okx0 (lc_keep (fun w => decide (w ∈ b)) (by omega) (by show 2 < 3; decide) (fun Q' q => strk_fld T (we_var rfl ⟨a, rfl, q⟩)) (fun F' w Q' hw q => we_op (we_var rfl (strk_fld T (we_var rfl ⟨b, rfl, in_words q⟩)))) ⟨_, .inl rfl, (fun w hw => ha w (List.mem_filter.mp hw).1), h⟩))
theorem rd_Strikes___sub__ {K : PySem.W.Frag} {mg : Str → Option Value} (T : Txt K mg) (E : XK) : BodyOk K (φ_Strikes___sub__ T) N_Strikes___sub__ E (t_Strikes___sub__ T E) := by
  intro ds m nx X F B h hE
  obtain ⟨a, b, rfl, ha, la, h⟩ := h
  rw [st_Strikes___sub__]
  unfold t_Strikes___sub__
  exact ws_ret (make_strk T okx0 (lc_keep (fun w => !decide (w ∈ b)) (by omega) (by show 2 < 3; decide) (fun Q' q => strk_fld T (we_var rfl ⟨a, rfl, q⟩)) (fun F' w Q' hw q => we_op (we_var rfl (strk_fld T (we_var rfl ⟨b, rfl, nin_words q⟩)))) ⟨_, .inl rfl, (fun w hw => ha w (List.mem_filter.mp hw).1), h⟩))
theorem rd_Strikes___le__ {K : PySem.W.Frag} {mg : Str → Option Value} (T : Txt K mg) (E : XK) : BodyOk K (φ_Strikes___le__ T) N_Strikes___le__ E (t_Strikes___le__ T E) := by
  intro ds m nx X F B h hE
  obtain ⟨a, b, rfl, la, h⟩ := h
  rw [st_Strikes___le__]
  unfold t_Strikes___le__
  refine ws_ret (we_cb (wa_cons (we_lcMap (wi_any (strk_fld T (we_var rfl ⟨a, rfl, _, rfl, fun d => blD (match d with | .s (.str v) => decide (v ∈ b) | _ => false), ?_, fun F' d hd => ?_, ?_⟩))))))
  · rw [List.length_map]
    exact le_line (by omega)
  · obtain ⟨v, hv, rfl⟩ := List.mem_map.mp hd
    exact wgw_name List.mem_cons_self ⟨rfl, we_op (we_var rfl (strk_fld T (we_var rfl ⟨b, rfl, in_words ⟨rfl, rfl⟩⟩)))⟩
  · refine wa_nil ?_
    have e : ((a.map strD).map fun d => blD (match d with | .s (.str v) => decide (v ∈ b) | _ => false)) = (a.map fun w => decide (w ∈ b)).map fun x => .s (.bl x) := by
      rw [List.map_map, List.map_map]
      rfl
    rw [e]
    refine wc_all ?_
    rw [List.all_map]
    exact h
theorem rd_Strikes_words {K : PySem.W.Frag} {mg : Str → Option Value} (T : Txt K mg) (E : XK) : BodyOk K (φ_Strikes_words T) N_Strikes_words E (t_Strikes_words T E) := by
  intro ds m nx X F B h hE
  obtain ⟨hs, rfl, h⟩ := h
  rw [st_Strikes_words]
  unfold t_Strikes_words
  refine ws_ret (we_cb (wa_cons (strk_fld T (we_var rfl ⟨hs, rfl, wa_nil ?_⟩))))
  rcases h with h | h
  · exact wc_listL h
  · exact wc_listO h
theorem rd__law_draw {K : PySem.W.Frag} {mg : Str → Option Value} (T : Txt K mg) (E : XK) : BodyOk K (φ__law_draw T) N__law_draw E (t__law_draw T E) := by
  intro ds m nx X F B h hE
  obtain ⟨p, n, rfl, ⟨c, hp, hc, hpc⟩, n0, n1, hm, h⟩ := h
  rw [st__law_draw]
  unfold t__law_draw
  refine ws_open hp hc hpc fun s1 s2 s3 ns hst hl => ?_
  obtain ⟨a1, ⟨a2, a3⟩, a4, a5⟩ := hst
  refine ws_seq (ws_setO (we_op (we_op (we_var rfl (we_c (wo_ixO (d := .s (.int s2)) opened_p rfl (we_c (wo_addI (we_var rfl (we_c ⟨p, _, 2, 2, rfl, rfl, opened_p, rfl, ?_⟩))))))))))
  show WS K F B _ _ ⟨m.cnt, putM (opened m.own p c s1 s2 s3 ns) p (.lst [.s (.ref c), .s (.int s1), .s (.int (s2 + 1)), .s (.int s3)])⟩ _
  rw [put4]
  have b2 : 0 ≤ s2 + 1 ∧ s2 + 1 ≤ ((m.cnt + 1 : Nat) : Int) := by omega
  generalize s2 + 1 = s2 at b2 ⊢
  refine ws_seqI (fun ρ1 m1 => ∃ s1 s3 ns x, ρ1 = [some (.s (.ref p)), some (intD n), x, none, none] ∧ m1 = ⟨m.cnt, opened m.own p c s1 s2 s3 ns⟩ ∧ 0 ≤ s1 ∧ (0 ≤ s3 ∧ s3 < 2147483647) ∧ ns.length ≤ 63) ?_ ?_
  · refine ws_if (wt_and (wt_test (we_op (we_op (we_var rfl (we_c (wo_ixO (d := .s (.int s1)) opened_p rfl (we_c (wo_eqS rfl ⟨_, rfl, fun q => ?_, fun q => ?_⟩)))))))))
    · refine wt_test (we_op (we_op (we_var rfl (we_c (wo_ixO (d := .s (.ref c)) opened_p rfl (we_lst (wa_nil ⟨by decide, wo_neNilO (opened_c hpc) ⟨_, rfl, fun q2 => ?_, fun q2 => ?_⟩⟩)))))))
      · cases ns with
        | nil => cases q2
        | cons z zs =>
          refine ws_seq (ws_asg (we_pop0 (we_op (we_var rfl (we_c (wo_ixO (d := .s (.ref c)) opened_p rfl ⟨c, rfl, ⟨_, opened_c hpc⟩, we_c ⟨rfl, .s (.int z), _, opened_c hpc, ?_⟩⟩))))))
          show WS K F B _ _ ⟨m.cnt, putM (opened m.own p c s1 s2 s3 (z :: zs)) c (.lst ((zs.map V.int).map D.s))⟩ _
          rw [putc hpc]
          have hzl : zs.length ≤ 63 := by
            simp only [List.length_cons] at hl
            omega
          refine ws_seq (ws_setO (we_op (we_cb (wa_cons (we_op (we_op (we_op (we_op (we_var rfl (we_c (wo_ixO (d := .s (.int s3)) opened_p rfl (we_c (wo_mulI (.inr ⟨by decide, by decide⟩) (we_var rfl (wo_addI (we_c (wo_addI (wa_nil (wc_int (we_c (wo_I (by decide) (we_var rfl (we_c ⟨p, _, 3, 3, rfl, rfl, opened_p, rfl, ?_⟩)))))))))))))))))))))))
          show WS K F B _ _ ⟨m.cnt, putM (opened m.own p c s1 s2 s3 zs) p (.lst [.s (.ref c), .s (.int s1), .s (.int s2), .s (.int ((s3 * 8191 + z + 3) % 2147483647))])⟩ _
          rw [put4]
          have b3 : 0 ≤ (s3 * 8191 + z + 3) % 2147483647 ∧ (s3 * 8191 + z + 3) % 2147483647 < 2147483647 := ⟨Int.emod_nonneg _ (by decide), Int.emod_lt_of_pos _ (by decide)⟩
          generalize (s3 * 8191 + z + 3) % 2147483647 = s3' at b3 ⊢
          refine ws_setO (we_if (wt_test (we_op (we_var rfl (we_op (we_c (we_c (wo_I ⟨by decide, by decide, by decide⟩ (wo_I0 ⟨_, rfl, fun q3 => ?_, fun q3 => ?_⟩)))))))))
          · refine we_var rfl (we_var rfl (we_c ⟨p, _, 1, 1, rfl, rfl, opened_p, rfl, z, s3', zs, _, rfl, ?_, ?_, b3, hzl⟩))
            · show (⟨m.cnt, putM (opened m.own p c s1 s2 s3' zs) p (.lst [.s (.ref c), .s (.int z), .s (.int s2), .s (.int s3')])⟩ : Mem) = _
              rw [put4]
            · have e : ((10 : Int) ^ (18 : Int).toNat) ≤ z := of_decide_eq_true q3
              have e2 : ((10 : Int) ^ (18 : Int).toNat) = 1000000000000000000 := by decide
              omega
          · refine we_c (we_var rfl (we_c ⟨p, _, 1, 1, rfl, rfl, opened_p, rfl, 0, s3', zs, _, rfl, ?_, Int.le_refl _, b3, hzl⟩))
            show (⟨m.cnt, putM (opened m.own p c s1 s2 s3' zs) p (.lst [.s (.ref c), .s (.int 0), .s (.int s2), .s (.int s3')])⟩ : Mem) = _
            rw [put4]
      · exact ws_next ⟨s1, s3, ns, _, rfl, rfl, a1, ⟨a4, a5⟩, hl⟩
    · exact ⟨(fun z => nomatch z), fun _ => ws_next ⟨s1, s3, ns, _, rfl, rfl, a1, ⟨a4, a5⟩, hl⟩⟩
  · rintro ρ1 m1 ⟨s1, s3, ns, x, rfl, rfl, a1, ⟨a4, a5⟩, hl⟩
    have close : ∀ {te : TE} {ρ : DD.Env} {s1' : Int}, 0 ≤ s1' → WE K F B te ρ ⟨m.cnt, opened m.own p c s1' s2 s3 ns⟩ (fun d m' => ∃ r, d = intD r ∧ 0 ≤ r ∧ r < n ∧ m' = ⟨m.cnt, opened m.own p c s1' s2 s3 ns⟩) → WE K F B te ρ ⟨m.cnt, opened m.own p c s1' s2 s3 ns⟩ nx := fun {te ρ s1'} h1 hw => we_conv hw fun d m' ⟨r, e, r0, r1, em⟩ => by
      subst e em
      exact ⟨more m 1, Conv.close hp hc hpc (Nat.le_succ _) ⟨h1, b2, a4, a5⟩ hl, h r r0 r1⟩
    have hmod : ∀ x : Int, 0 ≤ x % n ∧ x % n < n := fun x => ⟨Int.emod_nonneg _ (by omega), Int.emod_lt_of_pos _ n0⟩
    refine ws_seq (ws_if (wt_test (we_op (we_op (we_var rfl (we_c (wo_ixO (d := .s (.int s1)) opened_p rfl (we_c (wo_I0 ⟨_, rfl, fun q => ?_, fun q => ?_⟩)))))))))
    · refine ws_seq (ws_asg (we_op (we_cb (wa_cons (we_op (we_var rfl (we_c (wo_ixO (d := .s (.int s1)) opened_p rfl (wa_nil (wc_int (we_var rfl (wo_I n0 ?_))))))))))))
      refine ws_seq (ws_setO (we_op (we_op (we_var rfl (we_c (wo_ixO (d := .s (.int s1)) opened_p rfl (we_var rfl (wo_I ⟨n0, n1⟩ (we_var rfl (we_c ⟨p, _, 1, 1, rfl, rfl, opened_p, rfl, ?_⟩))))))))))
      show WS K F B _ _ ⟨m.cnt, putM (opened m.own p c s1 s2 s3 ns) p (.lst [.s (.ref c), .s (.int (s1 / n)), .s (.int s2), .s (.int s3)])⟩ _
      rw [put4]
      refine ws_ret (close (Int.ediv_nonneg a1 (by omega)) (we_var rfl ⟨_, rfl, (hmod s1).1, (hmod s1).2, rfl⟩))
    · refine ws_next (ws_seq (ws_asg (we_op (we_cb (wa_cons (we_op (we_op (we_op (we_op (we_var rfl (we_c (wo_ixO (d := .s (.int s3)) opened_p rfl (we_op (we_c (we_op (we_var rfl (we_c (wo_ixO (d := .s (.int s2)) opened_p rfl (wo_mulI (.inl ⟨by decide, by decide⟩) (wo_addI (we_c (wo_addI (we_c (wo_I ⟨by decide, by decide, ?_⟩ (wa_nil (wc_int (we_c (wo_I (by decide) ?_))))))))))))))))))))))))))))
      · omega
      have b6 := (⟨Int.emod_nonneg _ (by decide), Int.emod_lt_of_pos _ (by decide)⟩ : 0 ≤ ((s3 + 7919 * s2 + 104729) ^ (5 : Int).toNat) % 2147483629 ∧ ((s3 + 7919 * s2 + 104729) ^ (5 : Int).toNat) % 2147483629 < 2147483629)
      show WS K F B _ [_, _, _, _, some (D.s (V.int (((s3 + 7919 * s2 + 104729) ^ (5 : Int).toNat) % 2147483629)))] _ _
      generalize ((s3 + 7919 * s2 + 104729) ^ (5 : Int).toNat) % 2147483629 = s6 at b6 ⊢
      refine ws_ret (close a1 (we_op (we_op (we_cb (wa_cons (we_op (we_op (we_op (we_op (we_var rfl (we_c (wo_mulI (.inr ⟨by decide, by decide⟩) (we_op (we_c (we_op (we_var rfl (we_c (wo_ixO (d := .s (.int s2)) opened_p rfl (wo_mulI (.inl ⟨by decide, by decide⟩) (wo_addI (we_c (wo_addI (we_c (wo_I ⟨by decide, by decide, ?_⟩ (wa_nil (wc_int (we_c (wo_I (by decide) (we_var rfl (wo_I n0 ⟨_, rfl, (hmod _).1, (hmod _).2, rfl⟩))))))))))))))))))))))))))))))
      omega
theorem rd__law_pick {K : PySem.W.Frag} {mg : Str → Option Value} (T : Txt K mg) (E : XK) : BodyOk K (φ__law_pick T) N__law_pick E (t__law_pick T E) := by
  intro ds m nx X F B h hE
  obtain ⟨p, x, xs, rfl, hS, hm, hx, hne, hl, h⟩ := h
  rw [st__law_pick]
  unfold t__law_pick
  have hl' : xs.length ≤ 1000000 := hl
  have hpos : 0 < xs.length := List.length_pos_iff.mpr hne
  refine ws_ret (we_op (we_var rfl (we_call okx0 (wa_cons (we_var rfl (wa_cons (we_cb (wa_cons (we_var rfl (wa_nil (wc_len (lenD_seq hx hl) (wa_nil ⟨p, _, rfl, hS, by omega, by omega, hm, fun r r0 r1 => ?_⟩))))))))))))
  obtain ⟨d, hd, hd2⟩ := atI_int r0 r1
  exact wo_ixSeq hx hl hd (h d hd2)
theorem rd__law_same {K : PySem.W.Frag} {mg : Str → Option Value} (T : Txt K mg) (E : XK) (n : Nat) (φ : Phi) (hφ : ∀ x ds m nx X, (∃ j, n = j + 1 ∧ SameH T.c_Path j x) → ds = [x, x] → nx (blD true) m → φ ds m nx X) : BodyOk K (φ__law_same T n) N__law_same E (t__law_same T φ E) := by
  intro ds m nx X F B h hE
  obtain ⟨x, rfl, hx, h⟩ := h
  rw [st__law_same]
  have seqs : ∀ (xs : List D) (hx1 : xs.length ≤ 1000000) (j : Nat), n = j + 1 → (∀ y ∈ xs, SameH T.c_Path j y) → ∀ (x : D), lenD m x xs.length → (x = .lst xs ∨ x = .tup xs) → WE K F B (tAndV (tOp (rEqA K) (tCB (rLenA K) (tCons (tVar 0) tNil)) (tCB (rLenA K) (tCons (tVar 1) tNil))) (tCB (rAll K) (tCons (tLc (RZ.iZipA K (tCons (tVar 0) (tCons (tVar 1) tNil))) (gTup K 2 (gCons (gName 2) (gCons (gName 3) gNil))) tYes (tCall (spOf K φ) [] E0 (tCons (tVar 2) (tCons (tVar 3) tNil))) [2, 3]) tNil))) [some x, some x, none, none] m nx := fun xs hx1 j hj hy x hlen hxx => by
    refine we_andV (we_op (we_cb (wa_cons (we_var rfl (wa_nil (wc_len hlen (we_cb (wa_cons (we_var rfl (wa_nil (wc_len hlen (wo_eqS rfl ⟨true, by rw [decide_eq_true rfl], fun _ => ?_, fun q => nomatch q⟩))))))))))))
    have hzl : (xs.zip xs).length ≤ sizeLine := by
      rw [List.length_zip]
      have := le_line hx1
      omega
    refine we_cb (wa_cons (we_lcMap (wi_zipL (wa_cons (we_var rfl (wa_cons (we_var rfl (wa_nil ⟨xs, xs, by rcases hxx with rfl | rfl; exact .inl rfl; exact .inr rfl, fun _ => blD true, by rw [List.length_map]; exact hzl, fun F' d hd => ?_, ?_⟩))))))))
    · obtain ⟨pr, hpr, rfl⟩ := List.mem_map.mp hd
      obtain ⟨e1, e2⟩ := zip_self hpr
      refine wgw_pair (by decide) (by decide) ⟨rfl, ?_⟩
      refine we_call okx0 (wa_cons (we_var rfl (wa_cons (we_var rfl (wa_nil (hφ pr.1 _ _ _ X0 ⟨j, hj, hy _ e2⟩ ?_ ⟨rfl, rfl⟩))))))
      rw [← e1]
    · refine wa_nil ?_
      have e : ((xs.zip xs).map fun p => D.tup [p.1, p.2]).map (fun _ => blD true) = ((xs.zip xs).map fun _ => true).map fun b => .s (.bl b) := by
        rw [List.map_map, List.map_map]
        rfl
      rw [e]
      refine wc_all ?_
      have e2 : ((xs.zip xs).map fun _ => true).all id = true := by
        rw [List.all_map, List.all_eq_true]
        intro _ _
        rfl
      rw [e2]
      exact h
  -- what is neither a list, a tuple nor an int
  have fin : ∀ (t : Value) (v : D), TyD K m v t → PySem.W.kitAny K t (["list", "tuple"].map Value.type) = some false → PySem.W.kitOne K t (.type "int") = some false → PySem.W.kitAny K t (["int", "list", "tuple"].map Value.type) = some false →
      (∀ Q : QD, Q (blD true) m → WO K F B (fun x y H Q => rEqA K x y H Q ∨ rEqE x y H Q ∨ HO1.rCmpO K T.c_Path (spOf K (φ_Path___eq__ T)) E0 x y H Q) v v m Q) → nx (blD true) m →
      WS K F B (t__law_same T φ E) [some v, some v, none, none] m { nx := fun _ m' => nx (.s .non) m', rt := nx } := fun t v ht k1 k2 k3 hs h => by
    unfold t__law_same
    refine ws_seq (ws_if (wt_B (we_cb (wa_cons (we_var rfl (wa_cons (we_tup (wa_cons (we_c (wa_cons (we_c (wa_nil ⟨by decide, wa_nil ?_⟩))))))))))))
    refine wc_isiT (us := ["list", "tuple"].map Value.type) ht rfl k1 ⟨false, rfl, (fun q => nomatch q), fun _ => ?_⟩
    refine ws_next (ws_seq (ws_if (wt_B (we_cb (wa_cons (we_var rfl (wa_cons (we_c (wa_nil ?_)))))))))
    refine wc_isi ht rfl k2 ⟨false, rfl, (fun q => nomatch q), fun _ => ?_⟩
    refine ws_next (ws_ret (we_andV (we_op (we_cb (wa_cons (we_var rfl (wa_cons (we_tup (wa_cons (we_c (wa_cons (we_c (wa_cons (we_c (wa_nil ⟨by decide, wa_nil ?_⟩)))))))))))))))
    refine wc_isiT (us := ["int", "list", "tuple"].map Value.type) ht rfl k3 (we_c (wo_isB ⟨true, rfl, fun _ => ?_, fun q => nomatch q⟩))
    exact we_op (we_var rfl (we_var rfl (hs _ h)))
  have fins : ∀ (t : String) (v : V), TyD K m (.s v) (.type t) → kitAnyB t ["list", "tuple"] = some false → kitB t "int" = some false → kitAnyB t ["int", "list", "tuple"] = some false → scal v v = true → nx (blD true) m →
      WS K F B (t__law_same T φ E) [some (.s v), some (.s v), none, none] m { nx := fun _ m' => nx (.s .non) m', rt := nx } := fun t v ht k1 k2 k3 hs h =>
    fin (.type t) (.s v) ht (kit_any k1) (kit_ty k2) (kit_any k3) (fun Q q => fun Hb H vx vy R hB r hx hy k => .inl (wo_eqS hs (by rw [decide_eq_true rfl]; exact q) Hb H vx vy R hB r hx hy k)) h
  have num : ∀ (t : String) (v : V) (bb : Bool), TyD K m (.s v) (.type t) → kitAnyB t ["list", "tuple"] = some false → kitB t "int" = some true → kitB t "bool" = some bb → scal v v = true → nx (blD true) m →
      WS K F B (t__law_same T φ E) [some (.s v), some (.s v), none, none] m { nx := fun _ m' => nx (.s .non) m', rt := nx } := fun t v bb ht k1 k2 k3 hs h => by
    unfold t__law_same
    refine ws_seq (ws_if (wt_B (we_cb (wa_cons (we_var rfl (wa_cons (we_tup (wa_cons (we_c (wa_cons (we_c (wa_nil ⟨by decide, wa_nil ?_⟩))))))))))))
    refine wc_isiT (us := ["list", "tuple"].map Value.type) ht rfl (kit_any k1) ⟨false, rfl, (fun q => nomatch q), fun _ => ?_⟩
    refine ws_next (ws_seq (ws_if (wt_B (we_cb (wa_cons (we_var rfl (wa_cons (we_c (wa_nil ?_)))))))))
    refine wc_isi ht rfl (kit_ty k2) ⟨true, rfl, (fun _ => ?_), fun q => nomatch q⟩
    refine ws_ret (we_andV (we_cb (wa_cons (we_var rfl (wa_cons (we_c (wa_nil ?_)))))))
    refine wc_isi ht rfl (kit_ty k2) ⟨true, rfl, (fun _ => ?_), fun q => nomatch q⟩
    refine we_andV (we_op (we_cb (wa_cons (we_var rfl (wa_cons (we_c (wa_nil ?_)))))))
    refine wc_isi ht rfl (kit_ty k3) (we_cb (wa_cons (we_var rfl (wa_cons (we_c (wa_nil ?_))))))
    refine wc_isi ht rfl (kit_ty k3) (wo_eqS rfl ⟨true, by rw [decide_eq_true rfl], fun _ => ?_, fun q => nomatch q⟩)
    refine we_op (we_var rfl (we_var rfl fun Hb H vx vy R hB r hx hy k => .inl (wo_eqS hs ?_ Hb H vx vy R hB r hx hy k)))
    rw [decide_eq_true rfl]
    exact h
  cases x with
  | s v =>
    cases v with
    | non => exact fins "NoneType" .non .non (by decide +kernel) (by decide +kernel) (by decide +kernel) rfl h
    | bl b => exact num "bool" (.bl b) true (.bl b) (by decide +kernel) (by decide +kernel) (by decide +kernel) rfl h
    | int i => exact num "int" (.int i) false (.int i) (by decide +kernel) (by decide +kernel) (by decide +kernel) rfl h
    | str z => exact fins "str" (.str z) (.str z) (by decide +kernel) (by decide +kernel) (by decide +kernel) rfl h
    | byt _ => unfold SameH at hx; exact hx.elim
    | flt _ => unfold SameH at hx; exact hx.elim
    | ref _ => unfold SameH at hx; exact hx.elim
    | ty _ => unfold SameH at hx; exact hx.elim
  | lst xs =>
    cases n with
    | zero => unfold SameH at hx; exact hx.elim
    | succ j =>
      unfold SameH at hx
      unfold t__law_same
      refine ws_seq (ws_if (wt_B (we_cb (wa_cons (we_var rfl (wa_cons (we_tup (wa_cons (we_c (wa_cons (we_c (wa_nil ⟨by decide, wa_nil ?_⟩))))))))))))
      refine wc_isiT (us := ["list", "tuple"].map Value.type) (.lst xs) rfl (kit_any (by decide +kernel)) ⟨true, rfl, (fun _ => ?_), fun q => nomatch q⟩
      refine ws_seq (ws_if (wt_or (wt_test (we_op (we_cb (wa_cons (we_var rfl (wa_cons (we_c (wa_nil ?_))))))))))
      refine wc_isi (b := true) (.lst xs) rfl (kit_ty (by decide +kernel)) (we_cb (wa_cons (we_var rfl (wa_cons (we_c (wa_nil ?_))))))
      refine wc_isi (b := true) (.lst xs) rfl (kit_ty (by decide +kernel)) (wo_neS rfl ⟨false, rfl, fun _ => ?_, fun q => nomatch q⟩)
      refine wt_test (we_op (we_cb (wa_cons (we_var rfl (wa_cons (we_c (wa_nil ?_)))))))
      refine wc_isi (b := false) (.lst xs) rfl (kit_ty (by decide +kernel)) (we_cb (wa_cons (we_var rfl (wa_cons (we_c (wa_nil ?_))))))
      refine wc_isi (b := false) (.lst xs) rfl (kit_ty (by decide +kernel)) (wo_neS rfl ⟨false, rfl, (fun q => nomatch q), fun _ => ?_⟩)
      exact ws_next (ws_ret (seqs xs hx.1 j rfl hx.2 _ rfl (.inl rfl)))
  | tup xs =>
    cases n with
    | zero => unfold SameH at hx; exact hx.elim
    | succ j =>
      unfold SameH at hx
      unfold t__law_same
      refine ws_seq (ws_if (wt_B (we_cb (wa_cons (we_var rfl (wa_cons (we_tup (wa_cons (we_c (wa_cons (we_c (wa_nil ⟨by decide, wa_nil ?_⟩))))))))))))
      refine wc_isiT (us := ["list", "tuple"].map Value.type) (.tup xs) rfl (kit_any (by decide +kernel)) ⟨true, rfl, (fun _ => ?_), fun q => nomatch q⟩
      refine ws_seq (ws_if (wt_or (wt_test (we_op (we_cb (wa_cons (we_var rfl (wa_cons (we_c (wa_nil ?_))))))))))
      refine wc_isi (b := false) (.tup xs) rfl (kit_ty (by decide +kernel)) (we_cb (wa_cons (we_var rfl (wa_cons (we_c (wa_nil ?_))))))
      refine wc_isi (b := false) (.tup xs) rfl (kit_ty (by decide +kernel)) (wo_neS rfl ⟨false, rfl, fun _ => ?_, fun q => nomatch q⟩)
      refine wt_test (we_op (we_cb (wa_cons (we_var rfl (wa_cons (we_c (wa_nil ?_)))))))
      refine wc_isi (b := true) (.tup xs) rfl (kit_ty (by decide +kernel)) (we_cb (wa_cons (we_var rfl (wa_cons (we_c (wa_nil ?_))))))
      refine wc_isi (b := true) (.tup xs) rfl (kit_ty (by decide +kernel)) (wo_neS rfl ⟨false, rfl, (fun q => nomatch q), fun _ => ?_⟩)
      exact ws_next (ws_ret (seqs xs hx.1 j rfl hx.2 _ rfl (.inr rfl)))
  | dic ks vs =>
    have e : ks = [] ∧ vs = [] := by
      cases ks with
      | nil =>
        cases vs with
        | nil => exact ⟨rfl, rfl⟩
        | cons _ _ => unfold SameH at hx; exact hx.elim
      | cons _ _ => unfold SameH at hx; exact hx.elim
    obtain ⟨rfl, rfl⟩ := e
    exact fin (.type "dict") _ (.dic _ _) (kit_any (by decide +kernel)) (kit_ty (by decide +kernel)) (kit_any (by decide +kernel)) (fun Q q => fun Hb H vx vy R hB r hx hy k => .inr (.inl (wo_eqE q Hb H vx vy R hB r hx hy k))) h
  | ins C ns vs =>
    have e : ∃ z, D.ins C ns vs = pathD T.c_Path z := by
      unfold SameH at hx
      exact hx
    obtain ⟨z, e⟩ := e
    rw [e]
    have k1 := T.kt_Path_list
    have k2 := T.kt_Path_tuple
    have k3 := T.kt_Path_int
    have a1 : PySem.W.kitAny K (.ref T.c_Path) (["list", "tuple"].map Value.type) = some false := by
      simp [PySem.W.kitAny, k1, k2]
    have a2 : PySem.W.kitAny K (.ref T.c_Path) (["int", "list", "tuple"].map Value.type) = some false := by
      simp [PySem.W.kitAny, k1, k2, k3]
    refine fin (.ref T.c_Path) _ (.ins T.y_Path _ _) a1 k3 a2 (fun Q q => fun Hb H vx vy R hB r hx hy k => .inr (.inr (wo_cmpO (x := pathD T.c_Path z) (y := pathD T.c_Path z) okx0 rfl (.ins T.y_Path _ _) (by simp [PySem.W.notFirst]) ⟨z, _, rfl, .inl ⟨z, rfl, ?_⟩⟩ Hb H vx vy R hB r hx hy k))) h
    rw [decide_eq_true rfl]
    exact q
theorem rd__law_frozen {K : PySem.W.Frag} {mg : Str → Option Value} (T : Txt K mg) (E : XK) (n : Nat) (φ : Phi) (hφ : ∀ j x ds m nx X, n = j + 1 → FrzOk T.c_Path j x → ds = [x] → nx (frz j x) m → φ ds m nx X) : BodyOk K (φ__law_frozen T n) N__law_frozen E (t__law_frozen T φ E) := by
  intro ds m nx X F B h hE
  obtain ⟨x, rfl, hx, h⟩ := h
  rw [st__law_frozen]
  -- what stays as it is
  have fin : ∀ (t : Value) (v : D), TyD K m v t → PySem.W.kitOne K t (.type "dict") = some false → PySem.W.kitAny K t (["list", "tuple"].map Value.type) = some false → nx v m →
      WS K F B (t__law_frozen T φ E) [some v, none, none] m { nx := fun _ m' => nx (.s .non) m', rt := nx } := fun t v ht k1 k2 h => by
    unfold t__law_frozen
    refine ws_seq (ws_if (wt_B (we_cb (wa_cons (we_var rfl (wa_cons (we_c (wa_nil (wc_isi ht rfl k1 ⟨false, rfl, (fun q => nomatch q), fun _ => ?_⟩)))))))))
    refine ws_next (ws_ret (we_if (wt_B (we_cb (wa_cons (we_var rfl (wa_cons (we_tup (wa_cons (we_c (wa_cons (we_c (wa_nil ⟨by decide, wa_nil ?_⟩)))))))))))))
    exact wc_isiT (us := ["list", "tuple"].map Value.type) ht rfl k2 ⟨false, rfl, (fun q => nomatch q), fun _ => we_var rfl h⟩
  have scl : ∀ (t : String) (v : V), TyD K m (.s v) (.type t) → kitB t "dict" = some false → kitAnyB t ["list", "tuple"] = some false → nx (.s v) m →
      WS K F B (t__law_frozen T φ E) [some (.s v), none, none] m { nx := fun _ m' => nx (.s .non) m', rt := nx } := fun t v ht k1 k2 h => fin (.type t) (.s v) ht (kit_ty k1) (kit_any k2) h
  have seqs : ∀ (t : String) (x : D) (xs : List D) (j : Nat), n = j + 1 → (x = .lst xs ∨ x = .tup xs) → xs.length ≤ 1000000 → (∀ y ∈ xs, FrzOk T.c_Path j y) → TyD K m x (.type t) → kitB t "dict" = some false → kitAnyB t ["list", "tuple"] = some true → nx (.tup (xs.map (frz j))) m →
      WS K F B (t__law_frozen T φ E) [some x, none, none] m { nx := fun _ m' => nx (.s .non) m', rt := nx } := fun t x xs j hj hxx hl hy ht k1 k2 h => by
    unfold t__law_frozen
    refine ws_seq (ws_if (wt_B (we_cb (wa_cons (we_var rfl (wa_cons (we_c (wa_nil (wc_isi ht rfl (kit_ty k1) ⟨false, rfl, (fun q => nomatch q), fun _ => ?_⟩)))))))))
    refine ws_next (ws_ret (we_if (wt_B (we_cb (wa_cons (we_var rfl (wa_cons (we_tup (wa_cons (we_c (wa_cons (we_c (wa_nil ⟨by decide, wa_nil ?_⟩)))))))))))))
    refine wc_isiT (us := ["list", "tuple"].map Value.type) ht rfl (kit_any k2) ⟨true, rfl, (fun _ => ?_), fun q => nomatch q⟩
    refine we_cb (wa_cons (we_lcMap (wi_LT (we_var rfl ⟨xs, hxx, frz j, le_line hl, fun F' d hd => ?_, wa_nil (wc_tupL h)⟩))))
    exact wgw_name List.mem_cons_self ⟨rfl, we_call okx0 (wa_cons (we_var rfl (wa_nil (hφ j d _ _ _ X0 hj (hy d hd) rfl ⟨rfl, rfl⟩))))⟩
  have leaf : ∀ y : D, frz n y = y → nx (frz n y) m → nx y m := fun y e q => by
    rw [e] at q
    exact q
  cases x with
  | s v =>
    have e : frz n (.s v) = .s v := by cases n <;> rfl
    rw [e] at h
    cases v with
    | non => exact scl "NoneType" .non .non (by decide +kernel) (by decide +kernel) h
    | bl b => exact scl "bool" (.bl b) (.bl b) (by decide +kernel) (by decide +kernel) h
    | int i => exact scl "int" (.int i) (.int i) (by decide +kernel) (by decide +kernel) h
    | str z => exact scl "str" (.str z) (.str z) (by decide +kernel) (by decide +kernel) h
    | byt _ => unfold FrzOk at hx; exact hx.elim
    | flt _ => unfold FrzOk at hx; exact hx.elim
    | ref _ => unfold FrzOk at hx; exact hx.elim
    | ty _ => unfold FrzOk at hx; exact hx.elim
  | lst xs =>
    cases n with
    | zero => unfold FrzOk at hx; exact hx.elim
    | succ j =>
      unfold FrzOk at hx
      exact seqs "list" _ xs j rfl (.inl rfl) hx.1 hx.2 (.lst xs) (by decide +kernel) (by decide +kernel) h
  | tup xs =>
    cases n with
    | zero => unfold FrzOk at hx; exact hx.elim
    | succ j =>
      unfold FrzOk at hx
      exact seqs "tuple" _ xs j rfl (.inr rfl) hx.1 hx.2 (.tup xs) (by decide +kernel) (by decide +kernel) h
  | dic ks vs =>
    have e : ks = [] ∧ vs = [] := by
      cases ks with
      | nil =>
        cases vs with
        | nil => exact ⟨rfl, rfl⟩
        | cons _ _ => unfold FrzOk at hx; exact hx.elim
      | cons _ _ => unfold FrzOk at hx; exact hx.elim
    obtain ⟨rfl, rfl⟩ := e
    have e : frz n (.dic [] []) = .dic [] [] := by cases n <;> rfl
    rw [e] at h
    unfold t__law_frozen
    refine ws_seq (ws_if (wt_B (we_cb (wa_cons (we_var rfl (wa_cons (we_c (wa_nil (wc_isi (.dic _ _) rfl (kit_ty (by decide +kernel)) ⟨true, rfl, (fun _ => ?_), fun q => nomatch q⟩)))))))))
    exact ws_ret (we_cb (wa_cons (we_lcMap (wi_ky0 (we_var rfl ⟨rfl, fun d => d, by decide, (fun F' d hd => by simp at hd), wa_nil (wc_dictE h)⟩)))))
  | ins C ns vs =>
    have e : ∃ z, D.ins C ns vs = pathD T.c_Path z := by
      unfold FrzOk at hx
      exact hx
    obtain ⟨z, e⟩ := e
    rw [e] at h ⊢
    have e : frz n (pathD T.c_Path z) = pathD T.c_Path z := by cases n <;> rfl
    rw [e] at h
    have k1 := T.kt_Path_list
    have k2 := T.kt_Path_tuple
    have a1 : PySem.W.kitAny K (.ref T.c_Path) (["list", "tuple"].map Value.type) = some false := by
      simp [PySem.W.kitAny, k1, k2]
    exact fin (.ref T.c_Path) _ (.ins T.y_Path _ _) T.kt_Path_dict a1 h
theorem rd__law_all_words {K : PySem.W.Frag} {mg : Str → Option Value} (T : Txt K mg) (E : XK) : BodyOk K (φ__law_all_words T) N__law_all_words E (t__law_all_words T E) := by
  intro ds m nx X F B h hE
  obtain ⟨rfl, h⟩ := h
  rw [st__law_all_words]
  unfold t__law_all_words
  exact ws_ret (we_lst (wa_cons (we_c (wa_cons (we_c (wa_cons (we_c (wa_cons (we_c (wa_nil ⟨le_line (by show 4 ≤ 1000000; decide), h⟩))))))))))
theorem rd__law_tried {K : PySem.W.Frag} {mg : Str → Option Value} (T : Txt K mg) (E : XK) : BodyOk K (φ__law_tried T) N__law_tried E (t__law_tried T E) := by
  intro ds m nx X F B h hE
  obtain ⟨y, rfl, h⟩ := h
  rw [st__law_tried]
  unfold t__law_tried
  refine ws_seq (ws_asg (we_tup (wa_cons (we_c (wa_nil ⟨by decide, ?_⟩)))))
  rcases h with ⟨ws, hy, hw, h⟩ | ⟨w, hr, hf, h⟩
  · refine ws_seqI (fun ρ1 m1 => m1 = m ∧ ρ1[1]? = some (some (.tup [strD "made", strsD (heldOf ws)]))) (ws_try (X := X0) (fun B' EX hB hx => ?_) fun C ns ds m' z => z.elim) ?_
    · exact ws_asg (we_tup (wa_cons (we_c (wa_cons (we_meth okx0 (make_strk T hx (we_var rfl ⟨ws, hy, hw, ⟨rfl, by decide +kernel⟩, wa_nil ⟨_, rfl, .inl (wa_nil ⟨len2 _ _, rfl, rfl⟩)⟩⟩)))))))
    · rintro ρ1 m1 ⟨rfl, e⟩
      exact ws_ret (we_var e h)
  · refine ws_seqI (fun ρ1 m1 => m1 = m ∧ ρ1[1]? = some (some (.tup [strD "word", frz 3 w]))) (ws_try (X := fun C ns ds m' => C = T.c_BadWord ∧ ns = (["word"] : List Str) ∧ ds = [w] ∧ ∃ x, m.own x = none ∧ m' = { m with own := putM m.own x (.ins T.c_Strikes [] []) }) (fun B' EX hB hx => ?_) ?_) ?_
    · refine ws_asg (we_tup (wa_cons (we_c (wa_cons (we_meth okx0 (we_make (dds := []) hx RpL.nil (wa_cons (we_var rfl (wa_nil fun x hx0 => .inr ⟨x, y, w, rfl, ?_, rfl, rfl, rfl, x, hx0, rfl⟩)))))))))
      have tp : ∀ {d : D} {t : Value}, TyD K m d t → TyD K { m with own := putM m.own x (.ins T.c_Strikes [] []) } d t := fun ht => tyd_put ht hx0
      rcases hr with ⟨⟨t, ht, hk⟩, e⟩ | ⟨vs, rest, h1, h2, h3⟩
      · exact .inl ⟨⟨t, tp ht, hk⟩, e⟩
      · refine .inr ⟨vs, rest, h1, ?_, h3⟩
        rcases h2 with h2 | ⟨t, ht, hk⟩
        · exact .inl h2
        · exact .inr ⟨t, tp ht, hk⟩
    · rintro C ns ds m' ⟨rfl, rfl, rfl, x, hx0, rfl⟩
      refine ⟨by simp, T.em_BadWord, fun F' B' dd vs a hB hF hv hl => ?_⟩
      refine ws_pre (m2 := m) ?_ ?_
      · intro K' F2 Hb' H' r
        have r2 := r.leave x
        have e : dropM (putM m.own x (.ins T.c_Strikes [] [])) x = m.own := dropM_put hx0
        show Rel K' F2 Hb' H' ⟨m.cnt, m.own⟩
        rw [← e]
        exact r2
      · exact ws_asg (we_tup (wa_cons (we_c (wa_cons (we_call okx0 (wa_cons (we_xf hF hv (dv := w) rfl (we_var rfl ⟨rfl, wa_nil ⟨w, rfl, hf, wa_nil ⟨len2 _ _, rfl, rfl⟩⟩⟩))))))))
    · rintro ρ1 m1 ⟨rfl, e⟩
      exact ws_ret (we_var e h)
theorem rd_law {K : PySem.W.Frag} {mg : Str → Option Value} (T : Txt K mg) (E : XK) (a : Addr) (ns : List Int) (B : Hp) (hS : SqL K B a (ns.map V.int)) (hl : ns.length ≤ 63) : WS K (fun _ => none) B (t_law T E) (startD N_law [.s (.ref a)]) ⟨0, fun _ => none⟩ { nx := fun _ _ => False, rt := fun d _ => d = .s (.bl true) } := by
  rw [st_law]
  unfold t_law
  refine ws_seq (ws_asg (we_start (wa_cons (we_var rfl (wa_nil ⟨a, ns, rfl, hS, hl, fun c p hpc hc0 hp0 => ?_⟩)))))
  generalize hown : putM (putM (fun _ => none) c MO.cel) p (MO.stm c) = own
  have hst : ∀ n, Stream ⟨n, own⟩ p := fun n => by
    subst hown
    exact ⟨c, putM_same, (putM_ne (Ne.symm hpc)).trans putM_same, hpc⟩
  have words : ∀ {F' B' : Hp} {ρ : DD.Env} {m : Mem} {Q' : QD}, Q' (strsD wordsAll) m → WE K F' B' (tCall (spOf K (φ__law_all_words T)) [] E0 tNil) ρ m Q' := fun {F' B' ρ m Q'} q => we_call okx0 (wa_nil ⟨rfl, q⟩)
  have nfS : PySem.W.notFirst K T.c_Strikes (.ref T.c_Strikes) = true := by simp [PySem.W.notFirst]
  refine ws_seq (ws_for (wi_rng1 (wa_cons (we_c (wa_nil ⟨8, rfl, by decide, by decide, fun i ρ1 m1 => m1 = ⟨100 * i, own⟩ ∧ ∃ x2 x3 x4 x5 x6 x7 x8 x9 x10 x11 x12 x13 x14 x15, ρ1 = [some (.s (.ref a)), some (.s (.ref p)), x2, x3, x4, x5, x6, x7, x8, x9, x10, x11, x12, x13, x14, x15], ?_, ?_, ?_⟩)))))
  · exact ⟨rfl, _, _, _, _, _, _, _, _, _, _, _, _, _, _, rfl⟩
  · rintro i d ρ1 m1 hd ⟨rfl, x2, x3, x4, x5, x6, x7, x8, x9, x10, x11, x12, x13, x14, x15, rfl⟩
    have hi : i < 8 := (rngD_get hd).1
    refine wg_name ?_
    -- the two lists
    refine ws_seq (ws_asg (we_lc (wi_rng1 (wa_cons (we_c (wa_nil ⟨2, rfl, by decide, by decide, fun j acc m' => ∃ Ls : List (List Str), acc = Ls.map strsD ∧ Ls.length = j ∧ (∀ L ∈ Ls, L.length ≤ 4 ∧ ∀ w ∈ L, w ∈ wordsAll) ∧ m' = ⟨100 * i + 5 * j, own⟩, ⟨[], rfl, rfl, (fun _ z => nomatch z), rfl⟩, ?_, ?_⟩))))))
    · rintro F' j d2 acc m' hd2 ⟨Ls, rfl, hLl, hL, rfl⟩
      have hj : j < 2 := (rngD_get hd2).1
      refine wgw_name List.mem_cons_self (wt_yes ⟨fun _ => ?_, fun z => nomatch z⟩)
      refine we_conv (Q := fun y m' => ∃ L : List Str, y = strsD L ∧ L.length ≤ 4 ∧ (∀ w ∈ L, w ∈ wordsAll) ∧ ∃ k, k ≤ 5 ∧ m' = ⟨100 * i + 5 * j + k, own⟩) ?_ ?_
      · refine we_lc (wi_rng1 (wa_cons (we_call okx0 (wa_cons (we_var rfl (wa_cons (we_c (wa_nil ⟨p, 5, rfl, hst _, by decide, by decide, by show 100 * i + 5 * j < _; omega, fun r r1 r2 => ?_⟩))))))))
        refine wa_nil ⟨r, rfl, by omega, by omega, fun k acc m' => ∃ L : List Str, acc = L.map strD ∧ L.length = k ∧ (∀ w ∈ L, w ∈ wordsAll) ∧ m' = ⟨100 * i + 5 * j + 1 + k, own⟩, ⟨[], rfl, rfl, (fun _ z => nomatch z), rfl⟩, ?_, ?_⟩
        · rintro F2 k d3 acc m' hd3 ⟨L, rfl, hk, hw, rfl⟩
          have hk2 : k < r.toNat := (rngD_get hd3).1
          refine wgw_name List.mem_cons_self (wt_yes ⟨fun _ => ?_, fun z => nomatch z⟩)
          refine we_call okx0 (wa_cons (we_var rfl (wa_cons (words (wa_nil ⟨p, _, _, rfl, hst _, by show 100 * i + 5 * j + 1 + k < _; omega, rfl, by decide, by decide +kernel, fun w hw2 => ?_⟩)))))
          obtain ⟨v, hv, rfl⟩ := List.mem_map.mp hw2
          refine ⟨by rw [List.length_map]; exact Nat.lt_of_lt_of_le (by omega) (le_line (n := 1000) (by decide)), L ++ [v], by simp, by simp [hk], fun w hw3 => ?_, rfl⟩
          rcases List.mem_append.mp hw3 with z | z
          · exact hw w z
          · have e : w = v := by simpa using z
            rw [e]
            exact hv
        · rintro acc m' ⟨L, rfl, hk, hw, rfl⟩
          rw [rngD_length] at hk ⊢
          exact ⟨L, rfl, by omega, hw, 1 + r.toNat, by omega, by rw [Nat.add_assoc]⟩
      · rintro y m' ⟨L, rfl, h1, h2, k, hk, rfl⟩
        refine ⟨⟨100 * i + 5 * (j + 1), own⟩, Conv.count (m := ⟨100 * i + 5 * j + k, own⟩) (by show 100 * i + 5 * j + k ≤ _; omega), ?_, Ls ++ [L], by simp, by simp [hLl], fun M hM => ?_, rfl⟩
        · rw [List.length_map]
          exact Nat.lt_of_lt_of_le (by omega) (le_line (n := 1000) (by decide))
        · rcases List.mem_append.mp hM with z | z
          · exact hL M z
          · have e : M = L := by simpa using z
            rw [e]
            exact ⟨h1, h2⟩
    rintro acc m' ⟨Ls, rfl, hLl, hL, rfl⟩
    obtain ⟨L0, L1, rfl⟩ : ∃ L0 L1, Ls = [L0, L1] := by
      rw [rngD_length] at hLl
      match Ls, hLl with
      | [L0, L1], _ => exact ⟨L0, L1, rfl⟩
    obtain ⟨l0, w0⟩ := hL L0 (by simp)
    obtain ⟨l1, w1⟩ := hL L1 (by simp)
    have hcnt : (⟨100 * i + 5 * (rngD 0 (2 : Int).toNat).length, own⟩ : Mem) = ⟨100 * i + 10, own⟩ := rfl
    rw [hcnt]
    -- handed, one, two
    refine ws_seq (ws_asg (we_cb (wa_cons (we_op (we_var rfl (we_c (wo_ixL (d := strsD L0) rfl (wa_nil (wc_listO fun h hh => ?_)))))))))
    have hh2 : own h = none := hh
    refine ws_seq (ws_asgG (we_tup (wa_cons (make_strk T okx0 (we_var rfl ⟨L0, .inr (.inr ⟨h, rfl, putM_same⟩), w0, wa_cons (make_strk T okx0 (we_cb (wa_cons (we_op (we_var rfl (we_c (wo_ixL (d := strsD L1) rfl (wa_nil (wc_tupL ⟨L1, .inr (.inl rfl), w1, wa_nil ⟨len2 _ _, wg_tup rfl (wgs_cons (wg_name (wgs_cons (wg_name (wgs_nil ?_)))))⟩⟩)))))))) )⟩)))))
    refine ws_seq (ws_drop (we_extend (we_var rfl ⟨h, rfl, ⟨_, putM_same⟩, words ⟨_, _, putM_same, rfl, ?_, ?_⟩⟩)))
    · rw [List.length_map, List.length_map]
      show L0.length + 4 ≤ _
      exact le_line (by omega)
    refine ws_pre (m2 := ⟨100 * i + 10, own⟩) ?_ ?_
    · intro K' F2 Hb' H' r
      have r2 := r.leave h
      have e : dropM (putM (putM own h (.lst (L0.map strD))) h (.lst (L0.map strD ++ wordsAll.map strD))) h = own := by
        rw [putM_put, dropM_put hh2]
      show Rel K' F2 Hb' H' ⟨100 * i + 10, own⟩
      rw [← e]
      exact r2
    generalize hA0 : heldOf L0 = hA
    generalize hB0 : heldOf L1 = hB
    have lA : hA.length ≤ 4 := by rw [← hA0]; exact held_len _
    have lB : hB.length ≤ 4 := by rw [← hB0]; exact held_len _
    have wA : ∀ w ∈ hA, w ∈ wordsAll := by rw [← hA0]; exact held_words _
    have wB : ∀ w ∈ hB, w ∈ wordsAll := by rw [← hB0]; exact held_words _
    have eA : heldOf hA = hA := by rw [← hA0]; exact held_held _
    have eF : ∀ q, heldOf (hA.filter q) = hA.filter q := fun q => by rw [← hA0]; exact held_sub _ _
    -- sets
    refine ws_seq (ws_asg (we_lc (wi_any (we_var rfl ⟨[strsD L0, strsD L1], rfl, fun j acc m' => acc = ([hA, hB].take j).map strsD ∧ m' = ⟨100 * i + 10, own⟩, ⟨rfl, rfl⟩, ?_, ?_⟩))))
    · rintro F' j d2 acc m' hd2 ⟨rfl, rfl⟩
      have step : ∀ L hL, d2 = strsD L → heldOf L = hL → ([hA, hB].take (j + 1)).map strsD = ([hA, hB].take j).map strsD ++ [strsD hL] → WGw K F' B (gName 11) [11] d2 [some (.s (.ref a)), some (.s (.ref p)), some d, some (.lst [strsD L0, strsD L1]), x4, x5, some (.s (.ref h)), some (strkD T.c_Strikes hA), some (strkD T.c_Strikes hB), x9, x10, x11, x12, x13, x14, x15] ⟨100 * i + 10, own⟩ fun ρ2 m2 => WT K F' B tYes ρ2 m2 fun b m3 =>
          (b = true → WE K F' B (tLc (iAny K (tCall (spOf K (φ__law_all_words T)) [] E0 tNil)) (gName 10) (tTest (tOp (rInA K) (tVar 10) (tVar 11))) (tVar 10) [10]) ρ2 m3 fun y m4 => (([hA, hB].take j).map strsD).length < sizeLine ∧ (([hA, hB].take j).map strsD) ++ [y] = ([hA, hB].take (j + 1)).map strsD ∧ m4 = ⟨100 * i + 10, own⟩) ∧ (b = false → (([hA, hB].take j).map strsD) = ([hA, hB].take (j + 1)).map strsD ∧ m3 = ⟨100 * i + 10, own⟩) := fun L hL e1 e2 e3 => by
        subst e1
        refine wgw_name List.mem_cons_self (wt_yes ⟨fun _ => ?_, fun z => nomatch z⟩)
        refine lc_keep (a := wordsAll) (fun w => decide (w ∈ L)) (by decide) (by show 10 < 16; decide) (fun Q' q => words q) (fun F2 w Q' hw q => we_op (we_var rfl (we_var rfl (in_words q)))) ⟨?_, ?_, rfl⟩
        · rw [List.length_map, List.length_take]
          exact Nat.lt_of_lt_of_le (show min j 2 < 3 by omega) (le_line (n := 3) (by decide))
        · rw [e3, ← e2]
          rfl
      match j, hd2 with
      | 0, hd2 =>
        cases hd2
        exact step L0 hA rfl hA0 rfl
      | 1, hd2 =>
        cases hd2
        exact step L1 hB rfl hB0 rfl
    rintro acc m' ⟨rfl, rfl⟩
    show WS K (fun _ => none) B _ [some (.s (.ref a)), some (.s (.ref p)), some d, some (.lst [strsD L0, strsD L1]), x4, x5, some (.s (.ref h)), some (strkD T.c_Strikes hA), some (strkD T.c_Strikes hB), some (.lst [strsD hA, strsD hB]), x10, x11, x12, x13, x14, x15] ⟨100 * i + 10, own⟩ _
    have hs0 : ∀ {F' B' : Hp} {ρ : DD.Env} {m : Mem} {Q : QD}, ρ[9]? = some (some (.lst [strsD hA, strsD hB])) → Q (strsD hA) m → WE K F' B' (tOp (rIx K) (tVar 9) (tC (.int 0))) ρ m Q := fun {F' B' ρ m Q} h9 q => we_op (we_var h9 (we_c (wo_ixL (d := strsD hA) rfl q)))
    have hs1 : ∀ {F' B' : Hp} {ρ : DD.Env} {m : Mem} {Q : QD}, ρ[9]? = some (some (.lst [strsD hA, strsD hB])) → Q (strsD hB) m → WE K F' B' (tOp (rIx K) (tVar 9) (tC (.int 1))) ρ m Q := fun {F' B' ρ m Q} h9 q => we_op (we_var h9 (we_c (wo_ixL (d := strsD hB) rfl q)))
    have meth : ∀ {F' B' : Hp} {ρ : DD.Env} {m : Mem} {te : TE} {Q : QD}, WE K F' B' te ρ m (fun x m1 => ∃ hs, x = strkD T.c_Strikes hs ∧ Q (strsD hs) m1) → WE K F' B' (tMeth T.c_Strikes "words" (spOf K (φ_Strikes_words T)) [] E0 te tNil) ρ m Q := fun {F' B' ρ m te Q} hw => we_meth okx0 (we_imp hw fun x m1 hh => by obtain ⟨hs, e, q⟩ := hh; subst e; exact ⟨⟨rfl, by decide +kernel⟩, wa_nil ⟨hs, rfl, .inl q⟩⟩)
    -- what is told
    have hlenA : ((hA.map strD).length : Int) = (hA.length : Int) := by rw [List.length_map]
    refine ws_seq (ws_if (wt_not (wt_B (we_call okx0 (wa_cons (we_lst (wa_cons (meth (we_var rfl ⟨_, rfl, wa_cons (meth (we_var rfl ⟨_, rfl, wa_cons (we_cb (wa_cons (we_var rfl (wa_nil (wc_lenO okx0 rfl ⟨hA, rfl, lA, _, rfl, by omega, by omega, wa_nil ⟨le_line (by show 3 ≤ 1000000; decide), ?_⟩⟩))))) ⟩))⟩)))))))))
    refine wa_cons (we_op (we_var rfl (we_lst (wa_cons (we_cb (wa_cons (hs0 rfl (wa_nil (wc_len (n := hA.length) (by show _ = (hA.map strD).length; rw [List.length_map]) (wa_nil ⟨le_line (by show 1 ≤ 1000000; decide), wo_addL (le_line (by show 2 + 1 ≤ 1000000; decide)) (wa_nil ⟨_, rfl, ?_, true, rfl, (fun z => nomatch z), fun _ => ws_next ?_⟩)⟩))))))))))
    · refine same_lst (by show 3 ≤ 1000000; decide) fun x hx => ?_
      simp only [List.mem_cons, List.not_mem_nil, or_false] at hx
      rcases hx with rfl | rfl | rfl
      · exact same_strs (by omega)
      · exact same_strs (by omega)
      · exact same_int
    -- a told list is spoiled
    refine ws_seq (ws_drop (we_append (we_meth okx0 (we_var rfl ⟨⟨rfl, by decide +kernel⟩, wa_nil ⟨hA, rfl, .inr fun u hu => ⟨u, rfl, ⟨_, putM_same⟩, we_c ⟨_, putM_same, ?_, ?_⟩⟩⟩⟩))))
    · rw [List.length_map]
      exact Nat.lt_of_lt_of_le (show hA.length < 5 by omega) (le_line (by decide))
    refine ws_pre (m2 := ⟨100 * i + 10, own⟩) ?_ ?_
    · intro K' F2 Hb' H' r
      have hu2 : own u = none := hu
      have r2 := r.leave u
      have e : dropM (putM (putM own u (.lst (hA.map strD))) u (.lst (hA.map strD ++ [strD "more"]))) u = own := by
        rw [putM_put, dropM_put hu2]
      show Rel K' F2 Hb' H' ⟨100 * i + 10, own⟩
      rw [← e]
      exact r2
    -- or, and, less
    refine ws_seq (ws_asg (we_lst (wa_cons (meth (we_op (we_var rfl (we_var rfl (wo_binO okx0 rfl rfl ⟨hA, hB, rfl, wA, wB, lA, lB, _, rfl, wa_cons (meth (we_op (we_var rfl (we_var rfl (wo_binO okx0 rfl rfl ⟨hA, hB, rfl, wA, lA, _, rfl, wa_cons (meth (we_op (we_var rfl (we_var rfl (wo_binO okx0 rfl rfl ⟨hA, hB, rfl, wA, lA, _, rfl, wa_cons (meth (we_var rfl ⟨_, rfl, wa_nil ⟨le_line (by show 4 ≤ 1000000; decide), ?_⟩⟩))⟩)))))⟩)))))⟩))))))))
    rw [eF, eF]
    refine ws_seq (ws_asg (we_lstO (wa_cons (lc_keep (a := wordsAll) (fun w => decide (w ∈ hA ++ hB)) (by decide) (by show 10 < 16; decide) (fun Q' q => words q) (fun F2 w Q' hw q => we_op (we_var rfl (we_op (hs0 rfl (hs1 rfl (wo_addL ?_ ?_)))))) (wa_nil ⟨le_line (by show 1 ≤ 1000000; decide), fun v hv => ?_⟩)))))
    · rw [List.length_map, List.length_map]
      exact le_line (by omega)
    · show WO K _ _ (rInA K) (strD w) (.lst (hA.map strD ++ hB.map strD)) _ _
      rw [← List.map_append]
      exact in_words q
    have hv2 : own v = none := hv
    refine ws_seq (ws_drop (we_append (we_var rfl ⟨v, rfl, ⟨_, putM_same⟩, lc_keep (a := hA) (fun w => decide (w ∈ hB)) (by omega) (by show 10 < 16; decide) (fun Q' q => hs0 rfl q) (fun F2 w Q' hw q => we_op (we_var rfl (hs1 rfl (in_words q)))) ⟨_, putM_same, by show 1 < sizeLine; decide, ?_⟩⟩)))
    refine ws_seq (ws_asg (we_op (we_freeze (we_var rfl ⟨v, _, rfl, putM_same, we_lst (wa_cons (lc_keep (a := hA) (fun w => !decide (w ∈ hB)) (by omega) (by show 10 < 16; decide) (fun Q' q => hs0 rfl q) (fun F2 w Q' hw q => we_op (we_var rfl (hs1 rfl (nin_words q)))) (wa_cons (hs0 rfl (wa_nil ⟨len2 _ _, wo_addL (by show 2 + 2 ≤ sizeLine; exact le_line (by decide)) ?_⟩)))))⟩))))
    have hm0 : dropM (putM (putM own v (.lst [strsD (wordsAll.filter fun w => decide (w ∈ hA ++ hB))])) v (.lst ([strsD (wordsAll.filter fun w => decide (w ∈ hA ++ hB))] ++ [strsD (hA.filter fun w => decide (w ∈ hB))]))) v = own := by
      rw [putM_put, dropM_put hv2]
    have l1 : (heldOf (hA ++ hB)).length ≤ 4 := held_len _
    have l2 : ∀ q, (hA.filter q).length ≤ 4 := fun q => Nat.le_trans (List.length_filter_le _ _) lA
    refine ws_pre (m2 := ⟨100 * i + 10, own⟩) (fun K' F2 Hb' H' r => by rw [← hm0]; exact r) ?_
    refine ws_seq (ws_if (wt_not (wt_B (we_call okx0 (wa_cons (we_var rfl (wa_cons (we_var rfl (wa_nil ⟨_, rfl, ?_, true, rfl, (fun z => nomatch z), fun _ => ws_next ?_⟩)))))))))
    · refine same_lst (by show 4 ≤ 1000000; decide) fun x hx => ?_
      simp only [List.mem_cons, List.not_mem_nil, or_false] at hx
      rcases hx with rfl | rfl | rfl | rfl
      · exact same_strs (by omega)
      · exact same_strs (Nat.le_trans (l2 _) (by decide))
      · exact same_strs (Nat.le_trans (l2 _) (by decide))
      · exact same_strs (by omega)
    -- as sets
    refine ws_seq (ws_asg (we_lst (wa_cons (we_op (we_var rfl (we_var rfl (wo_cmpO okx0 rfl (.ins T.y_Strikes _ _) nfS ⟨hA, hB, rfl, lA, wa_cons (we_op (we_var rfl (we_var rfl (wo_cmpO okx0 rfl (.ins T.y_Strikes _ _) nfS ⟨hA, _, rfl, wA, .inl ⟨hB, rfl, wB, wa_cons (we_op (we_var rfl (we_var rfl (wo_neOwn okx0 rfl (.ins T.y_Strikes _ _) nfS ⟨hA, _, rfl, wA, .inl ⟨hB, rfl, wB, _, rfl, ?_⟩⟩))))⟩⟩))))⟩)))))))
    refine wa_cons (we_op (we_var rfl (make_strk T okx0 (hs0 rfl ⟨hA, .inl rfl, wA, ?_⟩))))
    rw [eA]
    refine wo_cmpO okx0 rfl (.ins T.y_Strikes _ _) nfS ⟨hA, _, rfl, wA, .inl ⟨hA, rfl, wA, ?_⟩⟩
    refine wa_cons (we_op (make_strk0 T okx0 (we_var rfl (wo_cmpO (x := strkD T.c_Strikes []) okx0 rfl (.ins T.y_Strikes _ _) nfS ⟨[], hA, rfl, by decide, wa_nil ⟨le_line (by show 5 ≤ 1000000; decide), ?_⟩⟩))))
    refine ws_seq (ws_if (wt_not (wt_B (we_call okx0 (wa_cons (we_var rfl (wa_cons (we_lst (wa_cons (we_op (we_op (we_var rfl (we_c (wo_ixL (d := strsD (hA.filter fun w => !decide (w ∈ hB))) rfl (we_lst (wa_nil ⟨by decide, wo_eqStrs (ys := []) (words_ok fun w hw => wA w (List.mem_filter.mp hw).1) (fun _ z => nomatch z) ?_⟩)))))) ))))))))))
    refine wa_cons (we_op (hs0 rfl (hs1 rfl (wo_eqStrs (words_ok wA) (words_ok wB) (wa_cons (we_op (hs0 rfl (hs1 rfl (wo_neStrs (words_ok wA) (words_ok wB) (wa_cons (we_c (wa_cons (we_c (wa_nil ⟨le_line (by show 5 ≤ 1000000; decide), wa_nil ?_⟩))))))))))))))
    refine ⟨.lst [blD (hA.all fun w => decide (w ∈ hB)), blD (decide (hA = hB)), blD (!decide (hA = hB)), blD true, blD true], ?_, ?_, true, rfl, (fun z => nomatch z), fun _ => ws_next ?_⟩
    · rw [← all_filter hA fun w => decide (w ∈ hB)]
      rw [decide_eq_true (rfl : hA = hA)]
      rfl
    · refine same_lst (by show 5 ≤ 1000000; decide) fun x hx => ?_
      simp only [List.mem_cons, List.not_mem_nil, or_false] at hx
      rcases hx with rfl | rfl | rfl | rfl | rfl <;> exact same_bl
    -- an odd object
    have hpa : DT.isPath "up" = true := by decide +kernel
    refine ws_seq (ws_asg (we_call okx0 (wa_cons (we_var rfl (wa_cons (we_lst (wa_cons (we_c (wa_cons (we_c (wa_cons (we_c (wa_cons (we_c (wa_cons (we_c (wa_cons (we_c (wa_cons (we_lst (wa_cons (we_c (wa_nil ⟨le_line (by show 1 ≤ 1000000; decide), wa_cons (we_tup (wa_cons (we_c (wa_nil ⟨le_line (by show 1 ≤ 1000000; decide), wa_cons (we_dnew (wa_cons (we_c (wa_cons (make_path T (we_c ⟨"up", rfl, hpa, by decide +kernel, wa_nil ⟨le_line (by show 11 ≤ 1000000; decide), wa_nil ⟨p, _, _, rfl, hst _, by show 100 * i + 10 < _; omega, rfl, by simp, by show 11 ≤ 1000000; decide, fun od hod => ?_⟩⟩⟩))))))⟩))))⟩)))))))))))))))))))))))
    have hodd : OddOk T od := by
      have f1 : FrzOk T.c_Path 3 (.lst [strD "dot"]) := by
        unfold FrzOk
        refine ⟨by show 1 ≤ 1000000; decide, fun x hx => ?_⟩
        simp only [List.mem_cons, List.not_mem_nil, or_false] at hx
        subst hx
        unfold FrzOk
        trivial
      have f2 : FrzOk T.c_Path 3 (.tup [strD "up"]) := by
        unfold FrzOk
        refine ⟨by show 1 ≤ 1000000; decide, fun x hx => ?_⟩
        simp only [List.mem_cons, List.not_mem_nil, or_false] at hx
        subst hx
        unfold FrzOk
        trivial
      have strz : ∀ z : Str, z ∉ wordsAll → OddOk T (strD z) := fun z hz => ⟨fun _ => .inl ⟨z, rfl, hz⟩, by unfold FrzOk; trivial, ⟨_, fun _ => .str z, T.kx_str_Strikes, T.nf_Strikes_str⟩, .inl trivial⟩
      simp only [List.mem_cons, List.not_mem_nil, or_false] at hod
      rcases hod with rfl | rfl | rfl | rfl | rfl | rfl | rfl | rfl | rfl | rfl | rfl
      · exact strz _ (by decide +kernel)
      · exact strz _ (by decide +kernel)
      · exact strz _ (by decide +kernel)
      · exact ⟨fun _ => .inr (no_text .non (by decide +kernel)), by unfold FrzOk; trivial, ⟨_, fun _ => .non, T.kx_NoneType_Strikes, T.nf_Strikes_NoneType⟩, .inl trivial⟩
      · exact ⟨fun _ => .inr (no_text (.int _) (by decide +kernel)), by unfold FrzOk; trivial, ⟨_, fun _ => .int _, T.kx_int_Strikes, T.nf_Strikes_int⟩, .inl trivial⟩
      · exact ⟨fun _ => .inr (no_text (.bl _) (by decide +kernel)), by unfold FrzOk; trivial, ⟨_, fun _ => .bl _, T.kx_bool_Strikes, T.nf_Strikes_bool⟩, .inl trivial⟩
      · exact ⟨fun _ => .inr (no_text (.lst _) (by decide +kernel)), f1, ⟨_, fun _ => .lst _, T.kx_list_Strikes, T.nf_Strikes_list⟩, .inl trivial⟩
      · exact ⟨fun _ => .inr (no_text (.tup _) (by decide +kernel)), f2, ⟨_, fun _ => .tup _, T.kx_tuple_Strikes, T.nf_Strikes_tuple⟩, .inl trivial⟩
      · exact ⟨fun _ => .inr (no_text (.dic _ _) (by decide +kernel)), by unfold FrzOk; trivial, ⟨_, fun _ => .dic _ _, T.kx_dict_Strikes, T.nf_Strikes_dict⟩, .inl trivial⟩
      · exact strz _ (by decide +kernel)
      · exact ⟨fun _ => .inr ⟨_, .ins T.y_Path _ _, T.kt_Path_str⟩, by unfold FrzOk; exact ⟨_, rfl⟩, ⟨_, fun _ => .ins T.y_Path _ _, T.kt_Path_Strikes, T.nf_Strikes_Path⟩, .inr ⟨_, rfl⟩⟩
    obtain ⟨o1, o2, ⟨ot, o3, o4, o5⟩, o6⟩ := hodd
    have hwl : (wordsAll.map strD).length ≤ sizeLine := by decide
    have hmap : (wordsAll.map strD).map (fun d => blD (match d with | .s (.str v) => decide (v ∈ hA) | _ => false)) = wordsAll.map fun w => blD (decide (w ∈ hA)) := by
      rw [List.map_map]
      rfl
    refine ws_seq (ws_if (wt_not (wt_B (we_call okx0 (wa_cons (we_lcMap (wi_any (words ⟨_, rfl, fun d => blD (match d with | .s (.str v) => decide (v ∈ hA) | _ => false), hwl, fun F' d hd => ?_, ?_⟩))))))))
    · obtain ⟨w, hw, rfl⟩ := List.mem_map.mp hd
      exact wgw_name List.mem_cons_self ⟨rfl, we_op (we_var rfl (we_var rfl (wo_inO okx0 rfl ⟨hA, strD w, rfl, .inl ⟨w, rfl, _, rfl, rfl, rfl⟩⟩)))⟩
    refine wa_cons (we_lcMap (wi_any (words ⟨_, rfl, fun d => blD (match d with | .s (.str v) => decide (v ∈ hA) | _ => false), hwl, fun F' d hd => ?_, wa_nil ⟨_, rfl, ?_, true, rfl, (fun z => nomatch z), fun _ => ws_next ?_⟩⟩)))
    · obtain ⟨w, hw, rfl⟩ := List.mem_map.mp hd
      exact wgw_name List.mem_cons_self ⟨rfl, we_op (we_var rfl (hs0 rfl (in_words ⟨rfl, rfl⟩)))⟩
    · rw [hmap]
      refine same_lst (by rw [List.length_map]; decide) fun x hx => ?_
      obtain ⟨w, _, rfl⟩ := List.mem_map.mp hx
      exact same_bl
    -- it equals nothing
    have eq1 : ∀ {m : Mem} {Q : QD}, Q (blD false) m → φ_Strikes___eq__ T [strkD T.c_Strikes hA, od] m Q X0 := fun {m Q} q => ⟨hA, od, rfl, wA, .inr ⟨⟨ot, o3 _, o4⟩, q⟩⟩
    have go : ∀ {ρ : DD.Env} {m : Mem} {Q : Bool → Mem → Prop}, ρ[7]? = some (some (strkD T.c_Strikes hA)) → ρ[14]? = some (some od) → Q false m →
        WT K (fun _ => none) B (tOr (tTest (tOp (HO1.rCmpO K T.c_Strikes (spOf K (φ_Strikes___eq__ T)) E0) (tVar 7) (tVar 14))) (tOr (tTest (tOp (fun x y H Q => (HR1.rEqRefl K T.c_Strikes (spOf K (φ_Strikes___eq__ T)) E0) x y H Q ∨ (HO1.rCmpO K T.c_Path (spOf K (φ_Path___eq__ T)) E0) x y H Q) (tVar 14) (tVar 7))) (tNot (tTest (tOp (HO1.rNeO K T.c_Strikes (spOf K (φ_Strikes___eq__ T)) E0) (tVar 7) (tVar 14)))))) ρ m Q := fun {ρ m Q} h7 h14 q => by
      refine wt_or (wt_test (we_op (we_var h7 (we_var h14 (wo_cmpO okx0 rfl (o3 _) o5 (eq1 ⟨false, rfl, (fun _ => ?_), fun z => nomatch z⟩))))))
      refine wt_or (wt_test (we_op (we_var h14 (we_var h7 ?_))))
      have last : WT K (fun _ => none) B (tNot (tTest (tOp (HO1.rNeO K T.c_Strikes (spOf K (φ_Strikes___eq__ T)) E0) (tVar 7) (tVar 14)))) ρ m Q :=
        wt_not (wt_test (we_op (we_var h7 (we_var h14 (wo_neOwn okx0 rfl (o3 _) o5 (eq1 ⟨false, rfl, true, rfl, q⟩))))))
      rcases o6 with hb | ⟨z, rfl⟩
      · exact fun Hb H vx vy R hB r hx hy k => .inl (wo_eqRefl (x := od) (y := strkD T.c_Strikes hA) okx0 hb rfl (eq1 ⟨false, rfl, (fun _ => last), fun z => nomatch z⟩) Hb H vx vy R hB r hx hy k)
      · exact fun Hb H vx vy R hB r hx hy k => .inr (wo_cmpO (x := pathD T.c_Path z) okx0 rfl (.ins T.y_Strikes _ _) T.nf_Path_Strikes ⟨z, _, rfl, .inr ⟨⟨_, .ins T.y_Strikes _ _, T.kt_Strikes_Path⟩, false, rfl, (fun _ => last), fun z => nomatch z⟩⟩ Hb H vx vy R hB r hx hy k)
    have oin : ∀ {ρ : DD.Env} {m : Mem} {Q : Bool → Mem → Prop}, ρ[7]? = some (some (strkD T.c_Strikes hA)) → ρ[14]? = some (some od) → Q false m → WT K (fun _ => none) B (tTest (tOp (HO1.rInO T.c_Strikes (spOf K (φ_Strikes___contains__ T)) E0 false) (tVar 14) (tVar 7))) ρ m Q := fun {ρ m Q} h7 h14 q => by
      refine wt_test (we_op (we_var h14 (we_var h7 (wo_inO okx0 rfl ⟨hA, od, rfl, ?_⟩))))
      rcases o1 m with ⟨z, e, hz⟩ | hz
      · refine .inl ⟨z, e, ?_⟩
        rw [decide_eq_false (fun q => hz (wA z q))]
        exact ⟨false, rfl, false, rfl, q⟩
      · exact .inr ⟨hz, false, rfl, false, rfl, q⟩
    refine ws_seq (ws_if (wt_or (oin rfl rfl ⟨(fun _ => go rfl rfl ⟨(fun z => nomatch z), fun _ => ws_next ?_⟩), fun z => nomatch z⟩)))
    -- it is refused
    refine ws_seq (ws_if (wt_not (wt_B (we_call okx0 (wa_cons (we_call okx0 (wa_cons (we_op (we_op (we_var rfl (we_c (wo_ixL (d := strsD L0) rfl (we_lst (wa_cons (we_var rfl (wa_cons (we_c (wa_nil ⟨len2 _ _, wo_addL ?_ ?_⟩))))))))))))))))))
    · rw [List.length_map]
      exact le_line (by show L0.length + 2 ≤ _; omega)
    refine wa_nil ⟨_, rfl, .inr ⟨od, .inr ⟨L0, [strD "none"], w0, o1 _, .inl rfl⟩, o2, ?_⟩⟩
    have hsame : SameH T.c_Path 4 (.tup [strD "word", frz 3 od]) := same_tup (by show 2 ≤ 1000000; decide) fun x hx => by
      simp only [List.mem_cons, List.not_mem_nil, or_false] at hx
      rcases hx with rfl | rfl
      · exact same_str
      · exact frz_same 3 od o2
    refine wa_cons (we_tup (wa_cons (we_c (wa_cons (we_call okx0 (wa_cons (we_var rfl (wa_nil ⟨od, rfl, o2, wa_nil ⟨len2 _ _, wa_nil ⟨_, rfl, hsame, true, rfl, (fun z => nomatch z), fun _ => ws_next ?_⟩⟩⟩))))))))
    -- what is no list
    refine ws_count (n := 100 * i + 99) ?_ (by show 100 * i + 10 + 1 ≤ _; omega)
    refine ws_seq (ws_asg (we_call okx0 (wa_cons (we_var rfl (wa_cons (we_lst (wa_cons (we_c (wa_cons (we_c (wa_cons (we_c (wa_cons (we_dnew (wa_cons (we_c (wa_nil ⟨le_line (by show 5 ≤ 1000000; decide), wa_nil ⟨p, _, _, rfl, hst _, by show 100 * i + 99 < _; omega, rfl, by simp, by show 5 ≤ 1000000; decide, fun bd hbd => ?_⟩⟩)))))))))))))))))
    obtain ⟨b1, b2, b3⟩ : (∀ m, NoSeq K m bd) ∧ FrzOk T.c_Path 3 bd ∧ frz 3 bd = bd := by
      simp only [List.mem_cons, List.not_mem_nil, or_false] at hbd
      rcases hbd with rfl | rfl | rfl | rfl | rfl
      · exact ⟨fun _ => ⟨_, .non, kit_any (by decide +kernel)⟩, by unfold FrzOk; trivial, rfl⟩
      · exact ⟨fun _ => ⟨_, .int _, kit_any (by decide +kernel)⟩, by unfold FrzOk; trivial, rfl⟩
      · exact ⟨fun _ => ⟨_, .str _, kit_any (by decide +kernel)⟩, by unfold FrzOk; trivial, rfl⟩
      · exact ⟨fun _ => ⟨_, .dic _ _, kit_any (by decide +kernel)⟩, by unfold FrzOk; trivial, rfl⟩
      · exact ⟨fun _ => ⟨_, .bl _, kit_any (by decide +kernel)⟩, by unfold FrzOk; trivial, rfl⟩
    have hsb : SameH T.c_Path 2 bd := by
      simp only [List.mem_cons, List.not_mem_nil, or_false] at hbd
      rcases hbd with rfl | rfl | rfl | rfl | rfl <;> (unfold SameH; trivial)
    refine ws_if (wt_not (wt_B (we_call okx0 (wa_cons (we_lst (wa_cons (we_call okx0 (wa_cons (we_var rfl (wa_nil ⟨_, rfl, .inr ⟨bd, .inl ⟨b1 _, rfl⟩, b2, ?_⟩⟩))))))))))
    rw [b3]
    refine wa_cons (we_call okx0 (wa_cons (we_op (we_var rfl (we_c (wo_ixL (d := strsD L1) rfl (wa_nil ⟨_, rfl, .inl ⟨L1, .inl rfl, w1, ?_⟩⟩)))))))
    rw [hB0]
    refine wa_nil ⟨len2 _ _, wa_cons (we_lst (wa_cons (we_tup (wa_cons (we_c (wa_cons (we_var rfl (wa_nil ⟨len2 _ _, wa_cons (we_tup (wa_cons (we_c (wa_cons (hs1 rfl (wa_nil ⟨len2 _ _, wa_nil ⟨len2 _ _, wa_nil ⟨_, rfl, ?_, true, rfl, (fun z => nomatch z), fun _ => ws_next ⟨?_, _, _, _, _, _, _, _, _, _, _, _, _, _, _, rfl⟩⟩⟩⟩))))))⟩))))))))⟩
    · refine same_lst (by show 2 ≤ 1000000; decide) fun x hx => ?_
      simp only [List.mem_cons, List.not_mem_nil, or_false] at hx
      rcases hx with rfl | rfl
      · refine same_tup (by show 2 ≤ 1000000; decide) fun x hx => ?_
        simp only [List.mem_cons, List.not_mem_nil, or_false] at hx
        rcases hx with rfl | rfl
        · exact same_str
        · exact hsb
      · refine same_tup (by show 2 ≤ 1000000; decide) fun x hx => ?_
        simp only [List.mem_cons, List.not_mem_nil, or_false] at hx
        rcases hx with rfl | rfl
        · exact same_str
        · exact same_strs (by omega)
    · show (⟨100 * i + 100, own⟩ : Mem) = _
      rw [Nat.mul_succ]
  · rintro ρ1 m1 ⟨rfl, x2, x3, x4, x5, x6, x7, x8, x9, x10, x11, x12, x13, x14, x15, rfl⟩
    have nil_ok : ∀ z ∈ ([] : List Str), PyData.strOk z = true := fun _ z => nomatch z
    refine ws_ret (we_andV (we_op (we_meth okx0 (make_strk0 T okx0 ⟨⟨rfl, by decide +kernel⟩, wa_nil ⟨[], rfl, .inl (we_lst (wa_nil ⟨le_line (by show 0 ≤ 1000000; decide), wo_eqStrs (xs := []) (ys := []) nil_ok nil_ok ⟨true, rfl, (fun _ => ?_), fun z => nomatch z⟩⟩))⟩⟩))))
    refine we_op (make_strk T okx0 (we_tup (wa_nil ⟨le_line (by show 0 ≤ 1000000; decide), [], .inr (.inl rfl), (fun _ z => nomatch z), make_strk T okx0 (we_lst (wa_nil ⟨le_line (by show 0 ≤ 1000000; decide), [], .inl rfl, (fun _ z => nomatch z), wo_cmpO okx0 rfl (.ins T.y_Strikes _ _) nfS ⟨heldOf [], _, rfl, held_words _, .inl ⟨heldOf [], rfl, held_words _, ?_⟩⟩⟩))⟩)))
    rw [decide_eq_true rfl]
end My

namespace My
open PySem L2 DD
open PySem.Spec PyProof.Rows
theorem len_is_name {K : PySem.W.Frag} {mg : Str → Option Value} (T : Txt K mg) : ∀ ds m nx X, φ_is_name T ds m nx X → ds.length = (["thing"] : List Str).length := fun ds m nx X h => by
  unfold φ_is_name at h
  first | (rcases h with ⟨_, _, rfl, _⟩ | ⟨_, _, rfl, _⟩ <;> rfl) | (rcases h with ⟨_, _, _, rfl, _⟩ | ⟨_, _, _, rfl, _⟩ <;> rfl) | (obtain ⟨_, rfl, _⟩ := h; rfl) | (obtain ⟨_, _, rfl, _⟩ := h; rfl) | (obtain ⟨_, _, _, rfl, _⟩ := h; rfl) | (obtain ⟨_, _, _, _, rfl, _⟩ := h; rfl) | (obtain ⟨rfl, _⟩ := h; rfl)
theorem len_is_path_text {K : PySem.W.Frag} {mg : Str → Option Value} (T : Txt K mg) : ∀ ds m nx X, φ_is_path_text T ds m nx X → ds.length = (["thing"] : List Str).length := fun ds m nx X h => by
  unfold φ_is_path_text at h
  first | (rcases h with ⟨_, _, rfl, _⟩ | ⟨_, _, rfl, _⟩ <;> rfl) | (rcases h with ⟨_, _, _, rfl, _⟩ | ⟨_, _, _, rfl, _⟩ <;> rfl) | (obtain ⟨_, rfl, _⟩ := h; rfl) | (obtain ⟨_, _, rfl, _⟩ := h; rfl) | (obtain ⟨_, _, _, rfl, _⟩ := h; rfl) | (obtain ⟨_, _, _, _, rfl, _⟩ := h; rfl) | (obtain ⟨rfl, _⟩ := h; rfl)
theorem len_Path___init__ {K : PySem.W.Frag} {mg : Str → Option Value} (T : Txt K mg) : ∀ ds m nx X, φ_Path___init__ T ds m nx X → ds.length = (["self", "text"] : List Str).length := fun ds m nx X h => by
  unfold φ_Path___init__ at h
  first | (rcases h with ⟨_, _, rfl, _⟩ | ⟨_, _, rfl, _⟩ <;> rfl) | (rcases h with ⟨_, _, _, rfl, _⟩ | ⟨_, _, _, rfl, _⟩ <;> rfl) | (obtain ⟨_, rfl, _⟩ := h; rfl) | (obtain ⟨_, _, rfl, _⟩ := h; rfl) | (obtain ⟨_, _, _, rfl, _⟩ := h; rfl) | (obtain ⟨_, _, _, _, rfl, _⟩ := h; rfl) | (obtain ⟨rfl, _⟩ := h; rfl)
theorem len_Path___eq__ {K : PySem.W.Frag} {mg : Str → Option Value} (T : Txt K mg) : ∀ ds m nx X, φ_Path___eq__ T ds m nx X → ds.length = (["self", "other"] : List Str).length := fun ds m nx X h => by
  unfold φ_Path___eq__ at h
  first | (rcases h with ⟨_, _, rfl, _⟩ | ⟨_, _, rfl, _⟩ <;> rfl) | (rcases h with ⟨_, _, _, rfl, _⟩ | ⟨_, _, _, rfl, _⟩ <;> rfl) | (obtain ⟨_, rfl, _⟩ := h; rfl) | (obtain ⟨_, _, rfl, _⟩ := h; rfl) | (obtain ⟨_, _, _, rfl, _⟩ := h; rfl) | (obtain ⟨_, _, _, _, rfl, _⟩ := h; rfl) | (obtain ⟨rfl, _⟩ := h; rfl)
theorem len_Strikes___init__ {K : PySem.W.Frag} {mg : Str → Option Value} (T : Txt K mg) : ∀ ds m nx X, φ_Strikes___init__ T ds m nx X → ds.length = (["self", "words"] : List Str).length := fun ds m nx X h => by
  unfold φ_Strikes___init__ at h
  first | (rcases h with ⟨_, _, rfl, _⟩ | ⟨_, _, rfl, _⟩ <;> rfl) | (rcases h with ⟨_, _, _, rfl, _⟩ | ⟨_, _, _, rfl, _⟩ <;> rfl) | (obtain ⟨_, rfl, _⟩ := h; rfl) | (obtain ⟨_, _, rfl, _⟩ := h; rfl) | (obtain ⟨_, _, _, rfl, _⟩ := h; rfl) | (obtain ⟨_, _, _, _, rfl, _⟩ := h; rfl) | (obtain ⟨rfl, _⟩ := h; rfl)
theorem len_Strikes___eq__ {K : PySem.W.Frag} {mg : Str → Option Value} (T : Txt K mg) : ∀ ds m nx X, φ_Strikes___eq__ T ds m nx X → ds.length = (["self", "other"] : List Str).length := fun ds m nx X h => by
  unfold φ_Strikes___eq__ at h
  first | (rcases h with ⟨_, _, rfl, _⟩ | ⟨_, _, rfl, _⟩ <;> rfl) | (rcases h with ⟨_, _, _, rfl, _⟩ | ⟨_, _, _, rfl, _⟩ <;> rfl) | (obtain ⟨_, rfl, _⟩ := h; rfl) | (obtain ⟨_, _, rfl, _⟩ := h; rfl) | (obtain ⟨_, _, _, rfl, _⟩ := h; rfl) | (obtain ⟨_, _, _, _, rfl, _⟩ := h; rfl) | (obtain ⟨rfl, _⟩ := h; rfl)
theorem len_Strikes___len__ {K : PySem.W.Frag} {mg : Str → Option Value} (T : Txt K mg) : ∀ ds m nx X, φ_Strikes___len__ T ds m nx X → ds.length = (["self"] : List Str).length := fun ds m nx X h => by
  unfold φ_Strikes___len__ at h
  first | (rcases h with ⟨_, _, rfl, _⟩ | ⟨_, _, rfl, _⟩ <;> rfl) | (rcases h with ⟨_, _, _, rfl, _⟩ | ⟨_, _, _, rfl, _⟩ <;> rfl) | (obtain ⟨_, rfl, _⟩ := h; rfl) | (obtain ⟨_, _, rfl, _⟩ := h; rfl) | (obtain ⟨_, _, _, rfl, _⟩ := h; rfl) | (obtain ⟨_, _, _, _, rfl, _⟩ := h; rfl) | (obtain ⟨rfl, _⟩ := h; rfl)
theorem len_Strikes___contains__ {K : PySem.W.Frag} {mg : Str → Option Value} (T : Txt K mg) : ∀ ds m nx X, φ_Strikes___contains__ T ds m nx X → ds.length = (["self", "thing"] : List Str).length := fun ds m nx X h => by
  unfold φ_Strikes___contains__ at h
  first | (rcases h with ⟨_, _, rfl, _⟩ | ⟨_, _, rfl, _⟩ <;> rfl) | (rcases h with ⟨_, _, _, rfl, _⟩ | ⟨_, _, _, rfl, _⟩ <;> rfl) | (obtain ⟨_, rfl, _⟩ := h; rfl) | (obtain ⟨_, _, rfl, _⟩ := h; rfl) | (obtain ⟨_, _, _, rfl, _⟩ := h; rfl) | (obtain ⟨_, _, _, _, rfl, _⟩ := h; rfl) | (obtain ⟨rfl, _⟩ := h; rfl)
theorem len_Strikes___or__ {K : PySem.W.Frag} {mg : Str → Option Value} (T : Txt K mg) : ∀ ds m nx X, φ_Strikes___or__ T ds m nx X → ds.length = (["self", "other"] : List Str).length := fun ds m nx X h => by
  unfold φ_Strikes___or__ at h
  first | (rcases h with ⟨_, _, rfl, _⟩ | ⟨_, _, rfl, _⟩ <;> rfl) | (rcases h with ⟨_, _, _, rfl, _⟩ | ⟨_, _, _, rfl, _⟩ <;> rfl) | (obtain ⟨_, rfl, _⟩ := h; rfl) | (obtain ⟨_, _, rfl, _⟩ := h; rfl) | (obtain ⟨_, _, _, rfl, _⟩ := h; rfl) | (obtain ⟨_, _, _, _, rfl, _⟩ := h; rfl) | (obtain ⟨rfl, _⟩ := h; rfl)
theorem len_Strikes___and__ {K : PySem.W.Frag} {mg : Str → Option Value} (T : Txt K mg) : ∀ ds m nx X, φ_Strikes___and__ T ds m nx X → ds.length = (["self", "other"] : List Str).length := fun ds m nx X h => by
  unfold φ_Strikes___and__ at h
  first | (rcases h with ⟨_, _, rfl, _⟩ | ⟨_, _, rfl, _⟩ <;> rfl) | (rcases h with ⟨_, _, _, rfl, _⟩ | ⟨_, _, _, rfl, _⟩ <;> rfl) | (obtain ⟨_, rfl, _⟩ := h; rfl) | (obtain ⟨_, _, rfl, _⟩ := h; rfl) | (obtain ⟨_, _, _, rfl, _⟩ := h; rfl) | (obtain ⟨_, _, _, _, rfl, _⟩ := h; rfl) | (obtain ⟨rfl, _⟩ := h; rfl)
theorem len_Strikes___sub__ {K : PySem.W.Frag} {mg : Str → Option Value} (T : Txt K mg) : ∀ ds m nx X, φ_Strikes___sub__ T ds m nx X → ds.length = (["self", "other"] : List Str).length := fun ds m nx X h => by
  unfold φ_Strikes___sub__ at h
  first | (rcases h with ⟨_, _, rfl, _⟩ | ⟨_, _, rfl, _⟩ <;> rfl) | (rcases h with ⟨_, _, _, rfl, _⟩ | ⟨_, _, _, rfl, _⟩ <;> rfl) | (obtain ⟨_, rfl, _⟩ := h; rfl) | (obtain ⟨_, _, rfl, _⟩ := h; rfl) | (obtain ⟨_, _, _, rfl, _⟩ := h; rfl) | (obtain ⟨_, _, _, _, rfl, _⟩ := h; rfl) | (obtain ⟨rfl, _⟩ := h; rfl)
theorem len_Strikes___le__ {K : PySem.W.Frag} {mg : Str → Option Value} (T : Txt K mg) : ∀ ds m nx X, φ_Strikes___le__ T ds m nx X → ds.length = (["self", "other"] : List Str).length := fun ds m nx X h => by
  unfold φ_Strikes___le__ at h
  first | (rcases h with ⟨_, _, rfl, _⟩ | ⟨_, _, rfl, _⟩ <;> rfl) | (rcases h with ⟨_, _, _, rfl, _⟩ | ⟨_, _, _, rfl, _⟩ <;> rfl) | (obtain ⟨_, rfl, _⟩ := h; rfl) | (obtain ⟨_, _, rfl, _⟩ := h; rfl) | (obtain ⟨_, _, _, rfl, _⟩ := h; rfl) | (obtain ⟨_, _, _, _, rfl, _⟩ := h; rfl) | (obtain ⟨rfl, _⟩ := h; rfl)
theorem len_Strikes_words {K : PySem.W.Frag} {mg : Str → Option Value} (T : Txt K mg) : ∀ ds m nx X, φ_Strikes_words T ds m nx X → ds.length = (["self"] : List Str).length := fun ds m nx X h => by
  unfold φ_Strikes_words at h
  first | (rcases h with ⟨_, _, rfl, _⟩ | ⟨_, _, rfl, _⟩ <;> rfl) | (rcases h with ⟨_, _, _, rfl, _⟩ | ⟨_, _, _, rfl, _⟩ <;> rfl) | (obtain ⟨_, rfl, _⟩ := h; rfl) | (obtain ⟨_, _, rfl, _⟩ := h; rfl) | (obtain ⟨_, _, _, rfl, _⟩ := h; rfl) | (obtain ⟨_, _, _, _, rfl, _⟩ := h; rfl) | (obtain ⟨rfl, _⟩ := h; rfl)
theorem len__law_draw {K : PySem.W.Frag} {mg : Str → Option Value} (T : Txt K mg) : ∀ ds m nx X, φ__law_draw T ds m nx X → ds.length = (["_law_stream", "_law_many"] : List Str).length := fun ds m nx X h => by
  unfold φ__law_draw at h
  first | (rcases h with ⟨_, _, rfl, _⟩ | ⟨_, _, rfl, _⟩ <;> rfl) | (rcases h with ⟨_, _, _, rfl, _⟩ | ⟨_, _, _, rfl, _⟩ <;> rfl) | (obtain ⟨_, rfl, _⟩ := h; rfl) | (obtain ⟨_, _, rfl, _⟩ := h; rfl) | (obtain ⟨_, _, _, rfl, _⟩ := h; rfl) | (obtain ⟨_, _, _, _, rfl, _⟩ := h; rfl) | (obtain ⟨rfl, _⟩ := h; rfl)
theorem len__law_pick {K : PySem.W.Frag} {mg : Str → Option Value} (T : Txt K mg) : ∀ ds m nx X, φ__law_pick T ds m nx X → ds.length = (["_law_stream", "_law_some"] : List Str).length := fun ds m nx X h => by
  unfold φ__law_pick at h
  first | (rcases h with ⟨_, _, rfl, _⟩ | ⟨_, _, rfl, _⟩ <;> rfl) | (rcases h with ⟨_, _, _, rfl, _⟩ | ⟨_, _, _, rfl, _⟩ <;> rfl) | (obtain ⟨_, rfl, _⟩ := h; rfl) | (obtain ⟨_, _, rfl, _⟩ := h; rfl) | (obtain ⟨_, _, _, rfl, _⟩ := h; rfl) | (obtain ⟨_, _, _, _, rfl, _⟩ := h; rfl) | (obtain ⟨rfl, _⟩ := h; rfl)
theorem len__law_same {K : PySem.W.Frag} {mg : Str → Option Value} (T : Txt K mg) (n : Nat) : ∀ ds m nx X, φ__law_same T n ds m nx X → ds.length = (["_law_found", "_law_due"] : List Str).length := fun ds m nx X h => by
  unfold φ__law_same at h
  first | (rcases h with ⟨_, _, rfl, _⟩ | ⟨_, _, rfl, _⟩ <;> rfl) | (rcases h with ⟨_, _, _, rfl, _⟩ | ⟨_, _, _, rfl, _⟩ <;> rfl) | (obtain ⟨_, rfl, _⟩ := h; rfl) | (obtain ⟨_, _, rfl, _⟩ := h; rfl) | (obtain ⟨_, _, _, rfl, _⟩ := h; rfl) | (obtain ⟨_, _, _, _, rfl, _⟩ := h; rfl) | (obtain ⟨rfl, _⟩ := h; rfl)
theorem len__law_frozen {K : PySem.W.Frag} {mg : Str → Option Value} (T : Txt K mg) (n : Nat) : ∀ ds m nx X, φ__law_frozen T n ds m nx X → ds.length = (["_law_thing"] : List Str).length := fun ds m nx X h => by
  unfold φ__law_frozen at h
  first | (rcases h with ⟨_, _, rfl, _⟩ | ⟨_, _, rfl, _⟩ <;> rfl) | (rcases h with ⟨_, _, _, rfl, _⟩ | ⟨_, _, _, rfl, _⟩ <;> rfl) | (obtain ⟨_, rfl, _⟩ := h; rfl) | (obtain ⟨_, _, rfl, _⟩ := h; rfl) | (obtain ⟨_, _, _, rfl, _⟩ := h; rfl) | (obtain ⟨_, _, _, _, rfl, _⟩ := h; rfl) | (obtain ⟨rfl, _⟩ := h; rfl)
theorem len__law_all_words {K : PySem.W.Frag} {mg : Str → Option Value} (T : Txt K mg) : ∀ ds m nx X, φ__law_all_words T ds m nx X → ds.length = ([] : List Str).length := fun ds m nx X h => by
  unfold φ__law_all_words at h
  first | (rcases h with ⟨_, _, rfl, _⟩ | ⟨_, _, rfl, _⟩ <;> rfl) | (rcases h with ⟨_, _, _, rfl, _⟩ | ⟨_, _, _, rfl, _⟩ <;> rfl) | (obtain ⟨_, rfl, _⟩ := h; rfl) | (obtain ⟨_, _, rfl, _⟩ := h; rfl) | (obtain ⟨_, _, _, rfl, _⟩ := h; rfl) | (obtain ⟨_, _, _, _, rfl, _⟩ := h; rfl) | (obtain ⟨rfl, _⟩ := h; rfl)
theorem len__law_tried {K : PySem.W.Frag} {mg : Str → Option Value} (T : Txt K mg) : ∀ ds m nx X, φ__law_tried T ds m nx X → ds.length = (["_law_thing"] : List Str).length := fun ds m nx X h => by
  unfold φ__law_tried at h
  first | (rcases h with ⟨_, _, rfl, _⟩ | ⟨_, _, rfl, _⟩ <;> rfl) | (rcases h with ⟨_, _, _, rfl, _⟩ | ⟨_, _, _, rfl, _⟩ <;> rfl) | (obtain ⟨_, rfl, _⟩ := h; rfl) | (obtain ⟨_, _, rfl, _⟩ := h; rfl) | (obtain ⟨_, _, _, rfl, _⟩ := h; rfl) | (obtain ⟨_, _, _, _, rfl, _⟩ := h; rfl) | (obtain ⟨rfl, _⟩ := h; rfl)
theorem ok_BadWord___init__ {P : Program} {w : World} {K : PySem.W.Frag} {mg : Str → Option Value} {base : Heap} (T : Txt K mg) : FnOk P w K mg base (L2N.CX P w) 1 T.a_BadWord___init__ T.d_BadWord___init__ ["self", "word"] (HX1.spExc T.c_BadWord "word") :=
  okC T.F_BadWord___init__ sc_BadWord___init__ (fun vs H Q E h => by obtain ⟨_, _, rfl, _⟩ := h; rfl) fun cdv A outer s H vs Q E hr h => ⟨t_BadWord___init__ T E,
    (pss_cons (ps_expr (HX1.pe_peinit rfl T.g_PathError T.er_PathError T.ea_PathError T.ev_PathError (pa_cons (pv 0) (pa_cons pe_str pa_nil))))
    (pss_one (ps_ost (pv 0) (pv 1)))),
    HX1.exc_init T.oe_BadWord T.ef_BadWord rfl h⟩
theorem ok_is_name {P : Program} {w : World} {K : PySem.W.Frag} {mg : Str → Option Value} {base : Heap} (T : Txt K mg)  : FnOk P w K mg base (L2N.CX P w) 1 T.a_is_name T.d_is_name ["thing"] (spOf K (φ_is_name T)) :=
  ok_D (k := 0) T.F_is_name sc_is_name (len_is_name T) fun cdv A outer s H E hr => ⟨t_is_name T E,
    (pss_one (ps_ret (pe_and (pe_callB call_isiA (by rfl) T.z_isinstance (by decide +kernel) (pa_cons (pv 0) (pa_cons (pe_bltn (v := .ty "str") (by rfl) T.z_str (by decide +kernel) rfl) pa_nil))) (pe_and (pe_chain op_le op_le pe_int (pe_callB call_lenA (by rfl) T.z_len (by decide +kernel) (pa_cons (pv 0) pa_nil)) (pe_glob rfl T.g_LONGEST T.r_LONGEST)) (pe_one (pe_callB (cr_all rfl) (by rfl) T.z_all (by decide +kernel) (pa_cons (pe_lc (own := [("sign", 1)]) rfl sc_is_name.nd (pi_any (pv 0)) (blkOk_by (own := [("sign", 1)]) (N := N_is_name) (sc := defScope s_is_name) (by decide +kernel)) (fun _ _ _ _ _ => (pg_name (i := 1) sc_is_name.nd rfl (Or.inl rfl))) (fun _ _ _ _ _ => pts_nil) (fun _ _ _ _ _ => (pe_cmpR op_inA (pv 1) (pe_glob rfl T.g_LETTERS T.r_LETTERS) (by rfl)))) pa_nil))))))),
    rd_is_name T E⟩
theorem ok_is_path_text {P : Program} {w : World} {K : PySem.W.Frag} {mg : Str → Option Value} {base : Heap} (T : Txt K mg) (G_is_name : FnOk P w K mg base (L2N.CX P w) 1 T.a_is_name T.d_is_name ["thing"] (spOf K (φ_is_name T))) : FnOk P w K mg base (L2N.CX P w) 2 T.a_is_path_text T.d_is_path_text ["thing"] (spOf K (φ_is_path_text T)) :=
  ok_D (k := 1) T.F_is_path_text sc_is_path_text (len_is_path_text T) fun cdv A outer s H E hr => ⟨t_is_path_text T E,
    (pss_cons (ps_if (PW.pt (pw_or (pt_not (pt_val (pe_callB call_isiA (by rfl) T.z_isinstance (by decide +kernel) (pa_cons (pv 0) (pa_cons (pe_bltn (v := .ty "str") (by rfl) T.z_str (by decide +kernel) rfl) pa_nil))))) (pw_or1 (pt_cmpR (op_eqA hr.units) (pv 0) pe_str (nomark _))))) (pss_one (ps_ret pe_bl)) pss_nil)
    (pss_one (ps_ret (pe_callB (cr_all rfl) (by rfl) T.z_all (by decide +kernel) (pa_cons (pe_lc (own := [("piece", 1)]) rfl sc_is_path_text.nd (pi_any (pe_m1 PySem.F.slot_str_split PySem.F.type_str_split mt_splitA (pv 0) pe_str)) (blkOk_by (own := [("piece", 1)]) (N := N_is_path_text) (sc := defScope s_is_path_text) (by decide +kernel)) (fun _ _ _ _ _ => (pg_name (i := 1) sc_is_path_text.nd rfl (Or.inl rfl))) (fun _ _ _ _ _ => pts_nil) (fun _ _ _ _ _ => (pe_or (pe_cmpR op_inA (pv 1) (pe_tup (pa_cons pe_str (pa_cons pe_str (pa_cons pe_str pa_nil)))) (by rfl)) (pe_one (pe_call G_is_name (hr.mono (by decide)) rfl T.g_is_name T.F_is_name.kp T.b_is_name .nil HH1.passN (pa_cons (pv 1) pa_nil)))))) pa_nil))))),
    rd_is_path_text T E⟩
theorem ok_Path___init__ {P : Program} {w : World} {K : PySem.W.Frag} {mg : Str → Option Value} {base : Heap} (T : Txt K mg) (G_is_path_text : FnOk P w K mg base (L2N.CX P w) 2 T.a_is_path_text T.d_is_path_text ["thing"] (spOf K (φ_is_path_text T))) : FnOk P w K mg base (L2N.CX P w) 3 T.a_Path___init__ T.d_Path___init__ ["self", "text"] (spOf K (φ_Path___init__ T)) :=
  ok_D (k := 2) T.F_Path___init__ sc_Path___init__ (len_Path___init__ T) fun cdv A outer s H E hr => ⟨t_Path___init__ T E,
    (pss_cons (ps_if (pt_not (pt_val (pe_call G_is_path_text (hr.mono (by decide)) rfl T.g_is_path_text T.F_is_path_text.kp T.b_is_path_text .nil HH1.passN (pa_cons (pv 1) pa_nil)))) pss_never pss_nil)
    (pss_cons (ps_fld (pv 0) (pv 1) rfl)
    (pss_cons (ps_fld (pv 0) (pe_cmpR (op_eqA hr.units) (pe_ix ix_seq (pv 1) pe_int (fun _ _ => rfl)) pe_str (nomark _)) rfl)
    (pss_one (ps_fld (pv 0) (pe_cmpR op_inA (pe_ix ix_seq (pe_m1 PySem.F.slot_str_split PySem.F.type_str_split mt_splitA (pv 1) pe_str) (pe_un un_neg pe_int) (fun _ _ => rfl)) (pe_tup (pa_cons pe_str (pa_cons pe_str (pa_cons pe_str pa_nil)))) (by rfl)) rfl))))),
    rd_Path___init__ T E⟩
theorem ok_Path___eq__ {P : Program} {w : World} {K : PySem.W.Frag} {mg : Str → Option Value} {base : Heap} (T : Txt K mg)  : FnOk P w K mg base (L2N.CX P w) 1 T.a_Path___eq__ T.d_Path___eq__ ["self", "other"] (spOf K (φ_Path___eq__ T)) :=
  ok_D (k := 0) T.F_Path___eq__ sc_Path___eq__ (len_Path___eq__ T) fun cdv A outer s H E hr => ⟨t_Path___eq__ T E,
    (pss_one (ps_ret (pe_and (pe_callB call_isiA (by rfl) T.z_isinstance (by decide +kernel) (pa_cons (pv 1) (pa_cons (pe_glob rfl T.g_Path (RelV_ref _)) pa_nil))) (pe_one (pe_cmpR (op_eqA hr.units) (pe_fld (pv 0) rfl) (pe_fld (pv 1) rfl) (nomark _)))))),
    rd_Path___eq__ T E⟩
theorem ok_Strikes___init__ {P : Program} {w : World} {K : PySem.W.Frag} {mg : Str → Option Value} {base : Heap} (T : Txt K mg) (G_BadWord___init__ : FnOk P w K mg base (L2N.CX P w) 1 T.a_BadWord___init__ T.d_BadWord___init__ ["self", "word"] (HX1.spExc T.c_BadWord "word")) : FnOk P w K mg base (L2N.CX P w) 3 T.a_Strikes___init__ T.d_Strikes___init__ ["self", "words"] (spOf K (φ_Strikes___init__ T)) :=
  ok_DD (k := 2) T.F_Strikes___init__ sc_Strikes___init__ (len_Strikes___init__ T) fun cdv A outer s H E hr => ⟨t_Strikes___init__ T E,
    (pss_cons (ps_if (pt_not (pt_val (pe_callB call_isiA (by rfl) T.z_isinstance (by decide +kernel) (pa_cons (pv 1) (pa_cons (pe_tup (pa_cons (pe_bltn (v := .ty "list") (by rfl) T.z_list (by decide +kernel) rfl) (pa_cons (pe_bltn (v := .ty "tuple") (by rfl) T.z_tuple (by decide +kernel) rfl) pa_nil))) pa_nil))))) (pss_one (L2N.ps_raise rfl (L2N.takes_of rfl rfl rfl rfl) (HH1.pmkN_oex T.oe_BadWord T.ei_BadWord T.et_BadWord G_BadWord___init__ (hr.mono (by decide)) T.b_BadWord___init__ .nil HH1.passN rfl T.g_BadWord (pa_cons (pv 1) pa_nil)))) pss_nil)
    (pss_cons (ps_for (passes_of rfl) rfl (pi_any (pv 1)) (pg_name (i := 2) sc_Strikes___init__.nd rfl (Or.inl rfl)) (pss_one (ps_if (PW.pt (pw_or (pt_not (pt_val (pe_callB call_isiA (by rfl) T.z_isinstance (by decide +kernel) (pa_cons (pv 2) (pa_cons (pe_bltn (v := .ty "str") (by rfl) T.z_str (by decide +kernel) rfl) pa_nil))))) (pw_or1 (pt_cmpR op_ninA (pv 2) (pe_glob rfl T.g_WORDS (RelV_ref _)) (by rfl))))) (pss_one (L2N.ps_raise rfl (L2N.takes_of rfl rfl rfl rfl) (HH1.pmkN_oex T.oe_BadWord T.ei_BadWord T.et_BadWord G_BadWord___init__ (hr.mono (by decide)) T.b_BadWord___init__ .nil HH1.passN rfl T.g_BadWord (pa_cons (pv 2) pa_nil)))) pss_nil)))
    (pss_one (ps_fld (pv 0) (pe_lc (own := [("word", 2)]) rfl sc_Strikes___init__.nd (pi_any (pe_glob rfl T.g_WORDS (RelV_ref _))) (blkOk_by (own := [("word", 2)]) (N := N_Strikes___init__) (sc := defScope s_Strikes___init__) (by decide +kernel)) (fun _ _ _ _ _ => (pg_name (i := 2) sc_Strikes___init__.nd rfl (Or.inl rfl))) (fun _ _ _ _ _ => (pts_one (pt_cmpR op_inA (pv 2) (pv 1) (by rfl)))) (fun _ _ _ _ _ => (pv 2))) rfl)))),
    rd_Strikes___init__ T E⟩
theorem ok_Strikes___eq__ {P : Program} {w : World} {K : PySem.W.Frag} {mg : Str → Option Value} {base : Heap} (T : Txt K mg)  : FnOk P w K mg base (L2N.CX P w) 1 T.a_Strikes___eq__ T.d_Strikes___eq__ ["self", "other"] (spOf K (φ_Strikes___eq__ T)) :=
  ok_D (k := 0) T.F_Strikes___eq__ sc_Strikes___eq__ (len_Strikes___eq__ T) fun cdv A outer s H E hr => ⟨t_Strikes___eq__ T E,
    (pss_one (ps_ret (pe_and (pe_callB call_isiA (by rfl) T.z_isinstance (by decide +kernel) (pa_cons (pv 1) (pa_cons (pe_glob rfl T.g_Strikes (RelV_ref _)) pa_nil))) (pe_one (pe_cmpR (op_eqA hr.units) (pe_fld (pv 0) rfl) (pe_fld (pv 1) rfl) (nomark _)))))),
    rd_Strikes___eq__ T E⟩
theorem ok_Strikes___len__ {P : Program} {w : World} {K : PySem.W.Frag} {mg : Str → Option Value} {base : Heap} (T : Txt K mg)  : FnOk P w K mg base (L2N.CX P w) 1 T.a_Strikes___len__ T.d_Strikes___len__ ["self"] (spOf K (φ_Strikes___len__ T)) :=
  ok_D (k := 0) T.F_Strikes___len__ sc_Strikes___len__ (len_Strikes___len__ T) fun cdv A outer s H E hr => ⟨t_Strikes___len__ T E,
    (pss_one (ps_ret (pe_callB call_lenA (by rfl) T.z_len (by decide +kernel) (pa_cons (pe_fld (pv 0) rfl) pa_nil)))),
    rd_Strikes___len__ T E⟩
theorem ok_Strikes___contains__ {P : Program} {w : World} {K : PySem.W.Frag} {mg : Str → Option Value} {base : Heap} (T : Txt K mg)  : FnOk P w K mg base (L2N.CX P w) 1 T.a_Strikes___contains__ T.d_Strikes___contains__ ["self", "thing"] (spOf K (φ_Strikes___contains__ T)) :=
  ok_D (k := 0) T.F_Strikes___contains__ sc_Strikes___contains__ (len_Strikes___contains__ T) fun cdv A outer s H E hr => ⟨t_Strikes___contains__ T E,
    (pss_one (ps_ret (pe_and (pe_callB call_isiA (by rfl) T.z_isinstance (by decide +kernel) (pa_cons (pv 1) (pa_cons (pe_bltn (v := .ty "str") (by rfl) T.z_str (by decide +kernel) rfl) pa_nil))) (pe_one (pe_cmpR op_inA (pv 1) (pe_fld (pv 0) rfl) (by rfl)))))),
    rd_Strikes___contains__ T E⟩
theorem ok_Strikes___or__ {P : Program} {w : World} {K : PySem.W.Frag} {mg : Str → Option Value} {base : Heap} (T : Txt K mg) (G_Strikes___init__ : FnOk P w K mg base (L2N.CX P w) 3 T.a_Strikes___init__ T.d_Strikes___init__ ["self", "words"] (spOf K (φ_Strikes___init__ T))) : FnOk P w K mg base (L2N.CX P w) 5 T.a_Strikes___or__ T.d_Strikes___or__ ["self", "other"] (spOf K (φ_Strikes___or__ T)) :=
  ok_D (k := 4) T.F_Strikes___or__ sc_Strikes___or__ (len_Strikes___or__ T) fun cdv A outer s H E hr => ⟨t_Strikes___or__ T E,
    (pss_one (ps_ret (pe_make T.mk_Strikes G_Strikes___init__ (hr.mono (by decide)) rfl T.g_Strikes T.b_Strikes___init__ .nil HH1.passN (pa_cons (pe_op op_addA (pe_fld (pv 0) rfl) (pe_fld (pv 1) rfl)) pa_nil)))),
    rd_Strikes___or__ T E⟩
theorem ok_Strikes___and__ {P : Program} {w : World} {K : PySem.W.Frag} {mg : Str → Option Value} {base : Heap} (T : Txt K mg) (G_Strikes___init__ : FnOk P w K mg base (L2N.CX P w) 3 T.a_Strikes___init__ T.d_Strikes___init__ ["self", "words"] (spOf K (φ_Strikes___init__ T))) : FnOk P w K mg base (L2N.CX P w) 5 T.a_Strikes___and__ T.d_Strikes___and__ ["self", "other"] (spOf K (φ_Strikes___and__ T)) :=
  ok_D (k := 4) T.F_Strikes___and__ sc_Strikes___and__ (len_Strikes___and__ T) fun cdv A outer s H E hr => ⟨t_Strikes___and__ T E,
    (pss_one (ps_ret (pe_make T.mk_Strikes G_Strikes___init__ (hr.mono (by decide)) rfl T.g_Strikes T.b_Strikes___init__ .nil HH1.passN (pa_cons (pe_lc (own := [("word", 2)]) rfl sc_Strikes___and__.nd (pi_any (pe_fld (pv 0) rfl)) (blkOk_by (own := [("word", 2)]) (N := N_Strikes___and__) (sc := defScope s_Strikes___and__) (by decide +kernel)) (fun _ _ _ _ _ => (pg_name (i := 2) sc_Strikes___and__.nd rfl (Or.inl rfl))) (fun _ _ _ _ _ => (pts_one (pt_cmpR op_inA (pv 2) (pe_fld (pv 1) rfl) (by rfl)))) (fun _ _ _ _ _ => (pv 2))) pa_nil)))),
    rd_Strikes___and__ T E⟩
theorem ok_Strikes___sub__ {P : Program} {w : World} {K : PySem.W.Frag} {mg : Str → Option Value} {base : Heap} (T : Txt K mg) (G_Strikes___init__ : FnOk P w K mg base (L2N.CX P w) 3 T.a_Strikes___init__ T.d_Strikes___init__ ["self", "words"] (spOf K (φ_Strikes___init__ T))) : FnOk P w K mg base (L2N.CX P w) 5 T.a_Strikes___sub__ T.d_Strikes___sub__ ["self", "other"] (spOf K (φ_Strikes___sub__ T)) :=
  ok_D (k := 4) T.F_Strikes___sub__ sc_Strikes___sub__ (len_Strikes___sub__ T) fun cdv A outer s H E hr => ⟨t_Strikes___sub__ T E,
    (pss_one (ps_ret (pe_make T.mk_Strikes G_Strikes___init__ (hr.mono (by decide)) rfl T.g_Strikes T.b_Strikes___init__ .nil HH1.passN (pa_cons (pe_lc (own := [("word", 2)]) rfl sc_Strikes___sub__.nd (pi_any (pe_fld (pv 0) rfl)) (blkOk_by (own := [("word", 2)]) (N := N_Strikes___sub__) (sc := defScope s_Strikes___sub__) (by decide +kernel)) (fun _ _ _ _ _ => (pg_name (i := 2) sc_Strikes___sub__.nd rfl (Or.inl rfl))) (fun _ _ _ _ _ => (pts_one (pt_cmpR op_ninA (pv 2) (pe_fld (pv 1) rfl) (by rfl)))) (fun _ _ _ _ _ => (pv 2))) pa_nil)))),
    rd_Strikes___sub__ T E⟩
theorem ok_Strikes___le__ {P : Program} {w : World} {K : PySem.W.Frag} {mg : Str → Option Value} {base : Heap} (T : Txt K mg)  : FnOk P w K mg base (L2N.CX P w) 1 T.a_Strikes___le__ T.d_Strikes___le__ ["self", "other"] (spOf K (φ_Strikes___le__ T)) :=
  ok_D (k := 0) T.F_Strikes___le__ sc_Strikes___le__ (len_Strikes___le__ T) fun cdv A outer s H E hr => ⟨t_Strikes___le__ T E,
    (pss_one (ps_ret (pe_callB (cr_all rfl) (by rfl) T.z_all (by decide +kernel) (pa_cons (pe_lc (own := [("word", 2)]) rfl sc_Strikes___le__.nd (pi_any (pe_fld (pv 0) rfl)) (blkOk_by (own := [("word", 2)]) (N := N_Strikes___le__) (sc := defScope s_Strikes___le__) (by decide +kernel)) (fun _ _ _ _ _ => (pg_name (i := 2) sc_Strikes___le__.nd rfl (Or.inl rfl))) (fun _ _ _ _ _ => pts_nil) (fun _ _ _ _ _ => (pe_cmpR op_inA (pv 2) (pe_fld (pv 1) rfl) (by rfl)))) pa_nil)))),
    rd_Strikes___le__ T E⟩
theorem ok_Strikes_words {P : Program} {w : World} {K : PySem.W.Frag} {mg : Str → Option Value} {base : Heap} (T : Txt K mg)  : FnOk P w K mg base (L2N.CX P w) 1 T.a_Strikes_words T.d_Strikes_words ["self"] (spOf K (φ_Strikes_words T)) :=
  ok_D (k := 0) T.F_Strikes_words sc_Strikes_words (len_Strikes_words T) fun cdv A outer s H E hr => ⟨t_Strikes_words T E,
    (pss_one (ps_ret (pe_callTy call_listA (by rfl) T.z_list (by decide +kernel) (pa_cons (pe_fld (pv 0) rfl) pa_nil)))),
    rd_Strikes_words T E⟩
theorem ok__law_start {P : Program} {w : World} {K : PySem.W.Frag} {mg : Str → Option Value} {base : Heap} (T : Txt K mg)  : FnOk P w K mg base (L2N.CX P w) 1 T.a__law_start T.d__law_start ["_law_script"] (spStart K) := by
  refine okC T.F__law_start sc__law_start (fun vs H Q E h => by obtain ⟨a, ns, rfl, _⟩ := h; rfl) fun cdv A outer s H vs Q E hr h => ⟨t__law_start T E,
    (pss_one (ps_ret (pe_lst (pa_cons (pe_callTy call_listA (by rfl) T.z_list (by decide +kernel) (pa_cons (pv 0) pa_nil)) (pa_cons pe_int (pa_cons pe_int (pa_cons pe_int pa_nil))))))), ?_⟩
  obtain ⟨a, ns, rfl, hS, hl, q⟩ := h
  exact ⟨_, rfl, a, _, rfl, .inl hS, fun c hc => ⟨(by show 4 ≤ sizeLine; decide), fun p hp => q c p hc hp⟩⟩

theorem ok__law_draw {P : Program} {w : World} {K : PySem.W.Frag} {mg : Str → Option Value} {base : Heap} (T : Txt K mg)  : FnOk P w K mg base (L2N.CX P w) 1 T.a__law_draw T.d__law_draw ["_law_stream", "_law_many"] (spOf K (φ__law_draw T)) :=
  ok_D (k := 0) T.F__law_draw sc__law_draw (len__law_draw T) fun cdv A outer s H E hr => ⟨t__law_draw T E,
    (pss_cons (ps_asg (pe_op op_addA (pe_ix ix_seq (pv 0) pe_int (fun _ _ => rfl)) pe_int) (pg_sub (pv 0) pe_int set_list))
    (pss_cons (ps_if (PW.pt (pw_and (pt_cmpR (op_eqA hr.units) (pe_ix ix_seq (pv 0) pe_int (fun _ _ => rfl)) pe_int (nomark _)) (pw_and1 (pt_cmpR (op_neA hr.units) (pe_ix ix_seq (pv 0) pe_int (fun _ _ => rfl)) (pe_lst pa_nil) (nomark _))))) (pss_cons (ps_set (i := 2) sc__law_draw.nd rfl (Or.inl rfl) (pe_bm PySem.F.plainAttrs_list PySem.F.slot_list_pop PySem.F.type_list_pop mt_popAt (pe_ix ix_seq (pv 0) pe_int (fun _ _ => rfl)) (pa_cons pe_int pa_nil)))
    (pss_cons (ps_asg (pe_op op_mod (pe_callTy call_intA (by rfl) T.z_int (by decide +kernel) (pa_cons (pe_op op_addA (pe_op op_addA (pe_op op_mulA (pe_ix ix_seq (pv 0) pe_int (fun _ _ => rfl)) pe_int) (pv 2)) pe_int) pa_nil)) pe_int) (pg_sub (pv 0) pe_int set_list))
    (pss_one (ps_asg (pe_ifExp (pt_cmpR op_ge (pv 2) (pe_op op_pow pe_int pe_int) (nomark _)) (pv 2) pe_int) (pg_sub (pv 0) pe_int set_list))))) pss_nil)
    (pss_cons (ps_if (pt_cmpR op_gt (pe_ix ix_seq (pv 0) pe_int (fun _ _ => rfl)) pe_int (nomark _)) (pss_cons (ps_set (i := 3) sc__law_draw.nd rfl (Or.inl rfl) (pe_op op_mod (pe_callTy call_intA (by rfl) T.z_int (by decide +kernel) (pa_cons (pe_ix ix_seq (pv 0) pe_int (fun _ _ => rfl)) pa_nil)) (pv 1)))
    (pss_cons (ps_asg (pe_op op_fdiv (pe_ix ix_seq (pv 0) pe_int (fun _ _ => rfl)) (pv 1)) (pg_sub (pv 0) pe_int set_list))
    (pss_one (ps_ret (pv 3))))) pss_nil)
    (pss_cons (ps_set (i := 4) sc__law_draw.nd rfl (Or.inl rfl) (pe_op op_mod (pe_callTy call_intA (by rfl) T.z_int (by decide +kernel) (pa_cons (pe_op op_pow (pe_op op_addA (pe_op op_addA (pe_ix ix_seq (pv 0) pe_int (fun _ _ => rfl)) (pe_op op_mulA pe_int (pe_ix ix_seq (pv 0) pe_int (fun _ _ => rfl)))) pe_int) pe_int) pa_nil)) pe_int))
    (pss_one (ps_ret (pe_op op_mod (pe_op op_mod (pe_callTy call_intA (by rfl) T.z_int (by decide +kernel) (pa_cons (pe_op op_pow (pe_op op_addA (pe_op op_addA (pe_op op_mulA (pv 4) pe_int) (pe_op op_mulA pe_int (pe_ix ix_seq (pv 0) pe_int (fun _ _ => rfl)))) pe_int) pe_int) pa_nil)) pe_int) (pv 1)))))))),
    rd__law_draw T E⟩
theorem ok__law_pick {P : Program} {w : World} {K : PySem.W.Frag} {mg : Str → Option Value} {base : Heap} (T : Txt K mg) (G__law_draw : FnOk P w K mg base (L2N.CX P w) 1 T.a__law_draw T.d__law_draw ["_law_stream", "_law_many"] (spOf K (φ__law_draw T))) : FnOk P w K mg base (L2N.CX P w) 2 T.a__law_pick T.d__law_pick ["_law_stream", "_law_some"] (spOf K (φ__law_pick T)) :=
  ok_D (k := 1) T.F__law_pick sc__law_pick (len__law_pick T) fun cdv A outer s H E hr => ⟨t__law_pick T E,
    (pss_one (ps_ret (pe_ix ix_seq (pv 1) (pe_call G__law_draw (hr.mono (by decide)) rfl T.g__law_draw T.F__law_draw.kp T.b__law_draw .nil HH1.passN (pa_cons (pv 0) (pa_cons (pe_callB call_lenA (by rfl) T.z_len (by decide +kernel) (pa_cons (pv 1) pa_nil)) pa_nil))) (fun _ _ => rfl)))),
    rd__law_pick T E⟩
theorem ok0__law_same {P : Program} {w : World} {K : PySem.W.Frag} {mg : Str → Option Value} {base : Heap} (T : Txt K mg) (G_Path___eq__ : FnOk P w K mg base (L2N.CX P w) 1 T.a_Path___eq__ T.d_Path___eq__ ["self", "other"] (spOf K (φ_Path___eq__ T))) (k n : Nat) (hk : 1 ≤ k) (φ : Phi) (IH : FnOk P w K mg base (L2N.CX P w) k T.a__law_same T.d__law_same ["_law_found", "_law_due"] (spOf K φ))
    (hφ : ∀ x ds m nx X, (∃ j, n = j + 1 ∧ SameH T.c_Path j x) → ds = [x, x] → nx (blD true) m → φ ds m nx X) : FnOk P w K mg base (L2N.CX P w) (k + 1) T.a__law_same T.d__law_same ["_law_found", "_law_due"] (spOf K (φ__law_same T n)) :=
  ok_D (k := k) T.F__law_same sc__law_same (len__law_same T n) fun cdv A outer s H E hrI => have hr := hrI.mono hk; ⟨t__law_same T φ E,
    (pss_cons (ps_if (pt_val (pe_callB call_isiA (by rfl) T.z_isinstance (by decide +kernel) (pa_cons (pv 1) (pa_cons (pe_tup (pa_cons (pe_bltn (v := .ty "list") (by rfl) T.z_list (by decide +kernel) rfl) (pa_cons (pe_bltn (v := .ty "tuple") (by rfl) T.z_tuple (by decide +kernel) rfl) pa_nil))) pa_nil)))) (pss_cons (ps_if (PW.pt (pw_or (pt_cmpR (op_neA hr.units) (pe_callB call_isiA (by rfl) T.z_isinstance (by decide +kernel) (pa_cons (pv 0) (pa_cons (pe_bltn (v := .ty "list") (by rfl) T.z_list (by decide +kernel) rfl) pa_nil))) (pe_callB call_isiA (by rfl) T.z_isinstance (by decide +kernel) (pa_cons (pv 1) (pa_cons (pe_bltn (v := .ty "list") (by rfl) T.z_list (by decide +kernel) rfl) pa_nil))) (nomark _)) (pw_or1 (pt_cmpR (op_neA hr.units) (pe_callB call_isiA (by rfl) T.z_isinstance (by decide +kernel) (pa_cons (pv 0) (pa_cons (pe_bltn (v := .ty "tuple") (by rfl) T.z_tuple (by decide +kernel) rfl) pa_nil))) (pe_callB call_isiA (by rfl) T.z_isinstance (by decide +kernel) (pa_cons (pv 1) (pa_cons (pe_bltn (v := .ty "tuple") (by rfl) T.z_tuple (by decide +kernel) rfl) pa_nil))) (nomark _))))) (pss_one (ps_ret pe_bl)) pss_nil)
    (pss_one (ps_ret (pe_and (pe_cmpR (op_eqA hr.units) (pe_callB call_lenA (by rfl) T.z_len (by decide +kernel) (pa_cons (pv 0) pa_nil)) (pe_callB call_lenA (by rfl) T.z_len (by decide +kernel) (pa_cons (pv 1) pa_nil)) (nomark _)) (pe_one (pe_callB (cr_all rfl) (by rfl) T.z_all (by decide +kernel) (pa_cons (pe_lc (own := [("_law_x", 2), ("_law_y", 3)]) rfl sc__law_same.nd (RZ.pi_zipA (by rfl) T.z_zip (pa_cons (pv 0) (pa_cons (pv 1) pa_nil))) (blkOk_by (own := [("_law_x", 2), ("_law_y", 3)]) (N := N__law_same) (sc := defScope s__law_same) (by decide +kernel)) (fun _ _ _ _ _ => (pg_tup rfl (pgs_cons (pg_name (i := 2) sc__law_same.nd rfl (Or.inl rfl)) (pgs_cons (pg_name (i := 3) sc__law_same.nd rfl (Or.inl rfl)) pgs_nil)))) (fun _ _ _ _ _ => pts_nil) (fun _ _ _ _ _ => (pe_call IH hrI rfl T.g__law_same T.F__law_same.kp T.b__law_same .nil HH1.passN (pa_cons (pv 2) (pa_cons (pv 3) pa_nil))))) pa_nil))))))) pss_nil)
    (pss_cons (ps_if (pt_val (pe_callB call_isiA (by rfl) T.z_isinstance (by decide +kernel) (pa_cons (pv 1) (pa_cons (pe_bltn (v := .ty "int") (by rfl) T.z_int (by decide +kernel) rfl) pa_nil)))) (pss_one (ps_ret (pe_and (pe_callB call_isiA (by rfl) T.z_isinstance (by decide +kernel) (pa_cons (pv 0) (pa_cons (pe_bltn (v := .ty "int") (by rfl) T.z_int (by decide +kernel) rfl) pa_nil))) (pe_and (pe_cmpR (op_eqA hr.units) (pe_callB call_isiA (by rfl) T.z_isinstance (by decide +kernel) (pa_cons (pv 0) (pa_cons (pe_bltn (v := .ty "bool") (by rfl) T.z_bool (by decide +kernel) rfl) pa_nil))) (pe_callB call_isiA (by rfl) T.z_isinstance (by decide +kernel) (pa_cons (pv 1) (pa_cons (pe_bltn (v := .ty "bool") (by rfl) T.z_bool (by decide +kernel) rfl) pa_nil))) (nomark _)) (pe_one (pe_cmpR (OpR.or (op_eqA hr.units) (OpR.or (op_eqE hr.units0) (HO1.op_cmpO (hop := fun _ _ => rfl) (F := G_Path___eq__) (hr := hr.mono (by decide)) (hb := T.b_Path___eq__) (hx := HH1.passN) (hs := T.op_Path___eq__) (hf := T.m_Path___eq__.fn)))) (pv 0) (pv 1) (nomark _))))))) pss_nil)
    (pss_one (ps_ret (pe_and (pe_cmpR op_isBl (pe_callB call_isiA (by rfl) T.z_isinstance (by decide +kernel) (pa_cons (pv 0) (pa_cons (pe_tup (pa_cons (pe_bltn (v := .ty "int") (by rfl) T.z_int (by decide +kernel) rfl) (pa_cons (pe_bltn (v := .ty "list") (by rfl) T.z_list (by decide +kernel) rfl) (pa_cons (pe_bltn (v := .ty "tuple") (by rfl) T.z_tuple (by decide +kernel) rfl) pa_nil)))) pa_nil))) pe_bl (nomark _)) (pe_one (pe_cmpR (OpR.or (op_eqA hr.units) (OpR.or (op_eqE hr.units0) (HO1.op_cmpO (hop := fun _ _ => rfl) (F := G_Path___eq__) (hr := hr.mono (by decide)) (hb := T.b_Path___eq__) (hx := HH1.passN) (hs := T.op_Path___eq__) (hf := T.m_Path___eq__.fn)))) (pv 0) (pv 1) (nomark _)))))))),
    rd__law_same T E n φ hφ⟩
theorem ok__law_same {P : Program} {w : World} {K : PySem.W.Frag} {mg : Str → Option Value} {base : Heap} (T : Txt K mg) (G_Path___eq__ : FnOk P w K mg base (L2N.CX P w) 1 T.a_Path___eq__ T.d_Path___eq__ ["self", "other"] (spOf K (φ_Path___eq__ T))) : ∀ n : Nat, FnOk P w K mg base (L2N.CX P w) (n + 2) T.a__law_same T.d__law_same ["_law_found", "_law_due"] (spOf K (φ__law_same T n))
  | 0 => ok0__law_same T G_Path___eq__ 1 0 (by decide) (fun _ _ _ _ => False) ⟨fun vs H Q E h => by obtain ⟨_, _, _, _, _, _, _, _, z, _⟩ := h; exact z.elim, fun A outer s H args us vs Q E hr e0 hb r h => by obtain ⟨_, _, _, _, _, _, _, _, z, _⟩ := h; exact z.elim⟩ fun x ds m nx X h => by obtain ⟨j, z, _⟩ := h; cases z
  | n + 1 => ok0__law_same T G_Path___eq__ (n + 2) (n + 1) (by omega) _ (ok__law_same T G_Path___eq__ n) fun x ds m nx X h e q => by
      obtain ⟨j, z, h⟩ := h
      cases z
      exact ⟨x, e, h, q⟩

theorem ok0__law_frozen {P : Program} {w : World} {K : PySem.W.Frag} {mg : Str → Option Value} {base : Heap} (T : Txt K mg) (k n : Nat) (φ : Phi) (IH : FnOk P w K mg base (L2N.CX P w) k T.a__law_frozen T.d__law_frozen ["_law_thing"] (spOf K φ))
    (hφ : ∀ j x ds m nx X, n = j + 1 → FrzOk T.c_Path j x → ds = [x] → nx (frz j x) m → φ ds m nx X) : FnOk P w K mg base (L2N.CX P w) (k + 1) T.a__law_frozen T.d__law_frozen ["_law_thing"] (spOf K (φ__law_frozen T n)) :=
  ok_D (k := k) T.F__law_frozen sc__law_frozen (len__law_frozen T n) fun cdv A outer s H E hr => have hrI := hr; ⟨t__law_frozen T φ E,
    (pss_cons (ps_if (pt_val (pe_callB call_isiA (by rfl) T.z_isinstance (by decide +kernel) (pa_cons (pv 0) (pa_cons (pe_bltn (v := .ty "dict") (by rfl) T.z_dict (by decide +kernel) rfl) pa_nil)))) (pss_one (ps_ret (pe_callTy (HH1.call_dictE rfl) (by rfl) T.z_dict (by decide +kernel) (pa_cons (pe_lc (own := [("_law_key", 1)]) rfl sc__law_frozen.nd (HH1.pi_ky (pv 0)) (blkOk_by (own := [("_law_key", 1)]) (N := N__law_frozen) (sc := defScope s__law_frozen) (by decide +kernel)) (fun _ _ _ _ _ => (pg_name (i := 1) sc__law_frozen.nd rfl (Or.inl rfl))) (fun _ _ _ _ _ => pts_nil) (fun _ _ _ _ _ => (pe_tup (pa_cons (pv 1) (pa_cons (pe_call IH hrI rfl T.g__law_frozen T.F__law_frozen.kp T.b__law_frozen .nil HH1.passN (pa_cons (pe_ix ix_seq (pv 0) (pv 1) (fun _ _ => rfl)) pa_nil)) pa_nil))))) pa_nil)))) pss_nil)
    (pss_one (ps_ret (pe_ifExp (pt_val (pe_callB call_isiA (by rfl) T.z_isinstance (by decide +kernel) (pa_cons (pv 0) (pa_cons (pe_tup (pa_cons (pe_bltn (v := .ty "list") (by rfl) T.z_list (by decide +kernel) rfl) (pa_cons (pe_bltn (v := .ty "tuple") (by rfl) T.z_tuple (by decide +kernel) rfl) pa_nil))) pa_nil)))) (pe_callTy call_tupA (by rfl) T.z_tuple (by decide +kernel) (pa_cons (pe_lc (own := [("_law_part", 2)]) rfl sc__law_frozen.nd (HH1.pi_LT (pv 0)) (blkOk_by (own := [("_law_part", 2)]) (N := N__law_frozen) (sc := defScope s__law_frozen) (by decide +kernel)) (fun _ _ _ _ _ => (pg_name (i := 2) sc__law_frozen.nd rfl (Or.inl rfl))) (fun _ _ _ _ _ => pts_nil) (fun _ _ _ _ _ => (pe_call IH hrI rfl T.g__law_frozen T.F__law_frozen.kp T.b__law_frozen .nil HH1.passN (pa_cons (pv 2) pa_nil)))) pa_nil)) (pv 0))))),
    rd__law_frozen T E n φ hφ⟩
theorem ok__law_frozen {P : Program} {w : World} {K : PySem.W.Frag} {mg : Str → Option Value} {base : Heap} (T : Txt K mg) : ∀ n : Nat, FnOk P w K mg base (L2N.CX P w) (n + 2) T.a__law_frozen T.d__law_frozen ["_law_thing"] (spOf K (φ__law_frozen T n))
  | 0 => ok0__law_frozen T 1 0 (fun _ _ _ _ => False) ⟨fun vs H Q E h => by obtain ⟨_, _, _, _, _, _, _, _, z, _⟩ := h; exact z.elim, fun A outer s H args us vs Q E hr e0 hb r h => by obtain ⟨_, _, _, _, _, _, _, _, z, _⟩ := h; exact z.elim⟩ fun j x ds m nx X z => by cases z
  | n + 1 => ok0__law_frozen T (n + 2) (n + 1) _ (ok__law_frozen T n) fun j x ds m nx X z h e q => by
      cases z
      exact ⟨x, e, h, q⟩
theorem okH0__law_frozen {P : Program} {w : World} {K : PySem.W.Frag} {mg : Str → Option Value} {base : Heap} (T : Txt K mg) (k n : Nat) (φ : Phi) (IH : L2H.FnH P w K mg base (L2N.CX P w) k T.a__law_frozen T.d__law_frozen ["_law_thing"] (spOf K φ))
    (hφ : ∀ j x ds m nx X, n = j + 1 → FrzOk T.c_Path j x → ds = [x] → nx (frz j x) m → φ ds m nx X) : L2H.FnH P w K mg base (L2N.CX P w) (k + 1) T.a__law_frozen T.d__law_frozen ["_law_thing"] (spOf K (φ__law_frozen T n)) :=
  ok_DH (k := k) T.F__law_frozen sc__law_frozen (len__law_frozen T n) fun cdv A outer s H E p hc hr => have hrI := hr; ⟨t__law_frozen T φ E,
    (pss_cons (ps_if (pt_val (pe_callB call_isiA (by rfl) T.z_isinstance (by decide +kernel) (pa_cons (pv 0) (pa_cons (pe_bltn (v := .ty "dict") (by rfl) T.z_dict (by decide +kernel) rfl) pa_nil)))) (pss_one (ps_ret (pe_callTy (HH1.call_dictEH hc) (by rfl) T.z_dict (by decide +kernel) (pa_cons (HH1.pe_lcH (own := [("_law_key", 1)]) hc sc__law_frozen.nd (HH1.pi_kyH (pv 0)) (blkOk_by (own := [("_law_key", 1)]) (N := N__law_frozen) (sc := defScope s__law_frozen) (by decide +kernel)) (fun _ _ _ _ _ => (pg_name (i := 1) sc__law_frozen.nd rfl (Or.inl rfl))) (fun _ _ _ _ _ => pts_nil) (fun _ _ _ _ _ => (pe_tup (pa_cons (pv 1) (pa_cons (HH1.pe_callH0 IH hrI hc rfl T.g__law_frozen T.F__law_frozen.kp T.b__law_frozen HH1.passN (pa_cons (pe_ix ix_seq (pv 0) (pv 1) (fun _ _ => rfl)) pa_nil)) pa_nil))))) pa_nil)))) pss_nil)
    (pss_one (ps_ret (pe_ifExp (pt_val (pe_callB call_isiA (by rfl) T.z_isinstance (by decide +kernel) (pa_cons (pv 0) (pa_cons (pe_tup (pa_cons (pe_bltn (v := .ty "list") (by rfl) T.z_list (by decide +kernel) rfl) (pa_cons (pe_bltn (v := .ty "tuple") (by rfl) T.z_tuple (by decide +kernel) rfl) pa_nil))) pa_nil)))) (pe_callTy call_tupA (by rfl) T.z_tuple (by decide +kernel) (pa_cons (HH1.pe_lcH (own := [("_law_part", 2)]) hc sc__law_frozen.nd (HH1.pi_LTH (pv 0)) (blkOk_by (own := [("_law_part", 2)]) (N := N__law_frozen) (sc := defScope s__law_frozen) (by decide +kernel)) (fun _ _ _ _ _ => (pg_name (i := 2) sc__law_frozen.nd rfl (Or.inl rfl))) (fun _ _ _ _ _ => pts_nil) (fun _ _ _ _ _ => (HH1.pe_callH0 IH hrI hc rfl T.g__law_frozen T.F__law_frozen.kp T.b__law_frozen HH1.passN (pa_cons (pv 2) pa_nil)))) pa_nil)) (pv 0))))),
    rd__law_frozen T E n φ hφ⟩
theorem okH__law_frozen {P : Program} {w : World} {K : PySem.W.Frag} {mg : Str → Option Value} {base : Heap} (T : Txt K mg) : ∀ n : Nat, L2H.FnH P w K mg base (L2N.CX P w) (n + 2) T.a__law_frozen T.d__law_frozen ["_law_thing"] (spOf K (φ__law_frozen T n))
  | 0 => okH0__law_frozen T 1 0 (fun _ _ _ _ => False) ⟨fun vs H Q E h => by obtain ⟨_, _, _, _, _, _, _, _, z, _⟩ := h; exact z.elim, fun A outer s H args us vs Q E p hr hot hpin e0 hb r h => by obtain ⟨_, _, _, _, _, _, _, _, z, _⟩ := h; exact z.elim⟩ fun j x ds m nx X z => by cases z
  | n + 1 => okH0__law_frozen T (n + 2) (n + 1) _ (okH__law_frozen T n) fun j x ds m nx X z h e q => by
      cases z
      exact ⟨x, e, h, q⟩

theorem ok__law_all_words {P : Program} {w : World} {K : PySem.W.Frag} {mg : Str → Option Value} {base : Heap} (T : Txt K mg)  : FnOk P w K mg base (L2N.CX P w) 1 T.a__law_all_words T.d__law_all_words [] (spOf K (φ__law_all_words T)) :=
  ok_D (k := 0) T.F__law_all_words sc__law_all_words (len__law_all_words T) fun cdv A outer s H E hr => ⟨t__law_all_words T E,
    (pss_one (ps_ret (pe_lst (pa_cons pe_str (pa_cons pe_str (pa_cons pe_str (pa_cons pe_str pa_nil))))))),
    rd__law_all_words T E⟩
theorem ok__law_tried {P : Program} {w : World} {K : PySem.W.Frag} {mg : Str → Option Value} {base : Heap} (T : Txt K mg) (G_Strikes___init__ : FnOk P w K mg base (L2N.CX P w) 3 T.a_Strikes___init__ T.d_Strikes___init__ ["self", "words"] (spOf K (φ_Strikes___init__ T))) (G_Strikes_words : FnOk P w K mg base (L2N.CX P w) 1 T.a_Strikes_words T.d_Strikes_words ["self"] (spOf K (φ_Strikes_words T))) (GH__law_frozen : L2H.FnH P w K mg base (L2N.CX P w) 5 T.a__law_frozen T.d__law_frozen ["_law_thing"] (spOf K (φ__law_frozen T 3))) : FnOk P w K mg base (L2N.CX P w) 6 T.a__law_tried T.d__law_tried ["_law_thing"] (spOf K (φ__law_tried T)) :=
  ok_D (k := 5) T.F__law_tried sc__law_tried (len__law_tried T) fun cdv A outer s H E hr => ⟨t__law_tried T E,
    (pss_cons (ps_set (i := 1) sc__law_tried.nd rfl (Or.inl rfl) (pe_tup (pa_cons pe_str pa_nil)))
    (pss_cons (HH1.ps_tryN (i := 2) rfl rfl sc__law_tried.nd rfl rfl ⟨rfl, by decide, .inl T.g_BadWord⟩ (fun EX pn xe hp po => (pss_one (ps_set (i := 1) sc__law_tried.nd rfl (Or.inl rfl) (pe_tup (pa_cons pe_str (pa_cons (pe_meth0 (pe_make T.mk_Strikes G_Strikes___init__ (hr.mono (by decide)) rfl T.g_Strikes T.b_Strikes___init__ .nil hp (pa_cons (pv 0) pa_nil)) T.y_Strikes.cl T.m_Strikes_words G_Strikes_words (hr.mono (by decide)) T.b_Strikes_words .nil HH1.passN) pa_nil)))))) (fun ea oe cls ed pn hz hd => (pss_one (ps_set (i := 1) sc__law_tried.nd rfl (Or.inl rfl) (pe_tup (pa_cons pe_str (pa_cons (HH1.pe_callH0 GH__law_frozen ((L2H.roomH_mark hr _).mono (by decide)) (HH1.hot_suite hz hd) rfl T.g__law_frozen T.F__law_frozen.kp T.b__law_frozen HH1.passN (pa_cons (pe_xf T.ex_BadWord T.ef_BadWord hz.zc hd (pv 2)) pa_nil)) pa_nil)))))))
    (pss_one (ps_ret (pv 1))))),
    rd__law_tried T E⟩
theorem ok_law {P : Program} {w : World} {K : PySem.W.Frag} {mg : Str → Option Value} {base : Heap} (T : Txt K mg) (G_Path___eq__ : FnOk P w K mg base (L2N.CX P w) 1 T.a_Path___eq__ T.d_Path___eq__ ["self", "other"] (spOf K (φ_Path___eq__ T))) (G_Path___init__ : FnOk P w K mg base (L2N.CX P w) 3 T.a_Path___init__ T.d_Path___init__ ["self", "text"] (spOf K (φ_Path___init__ T))) (G_Strikes___and__ : FnOk P w K mg base (L2N.CX P w) 5 T.a_Strikes___and__ T.d_Strikes___and__ ["self", "other"] (spOf K (φ_Strikes___and__ T))) (G_Strikes___contains__ : FnOk P w K mg base (L2N.CX P w) 1 T.a_Strikes___contains__ T.d_Strikes___contains__ ["self", "thing"] (spOf K (φ_Strikes___contains__ T))) (G_Strikes___eq__ : FnOk P w K mg base (L2N.CX P w) 1 T.a_Strikes___eq__ T.d_Strikes___eq__ ["self", "other"] (spOf K (φ_Strikes___eq__ T))) (G_Strikes___init__ : FnOk P w K mg base (L2N.CX P w) 3 T.a_Strikes___init__ T.d_Strikes___init__ ["self", "words"] (spOf K (φ_Strikes___init__ T))) (G_Strikes___le__ : FnOk P w K mg base (L2N.CX P w) 1 T.a_Strikes___le__ T.d_Strikes___le__ ["self", "other"] (spOf K (φ_Strikes___le__ T))) (G_Strikes___len__ : FnOk P w K mg base (L2N.CX P w) 1 T.a_Strikes___len__ T.d_Strikes___len__ ["self"] (spOf K (φ_Strikes___len__ T))) (G_Strikes___or__ : FnOk P w K mg base (L2N.CX P w) 5 T.a_Strikes___or__ T.d_Strikes___or__ ["self", "other"] (spOf K (φ_Strikes___or__ T))) (G_Strikes___sub__ : FnOk P w K mg base (L2N.CX P w) 5 T.a_Strikes___sub__ T.d_Strikes___sub__ ["self", "other"] (spOf K (φ_Strikes___sub__ T))) (G_Strikes_words : FnOk P w K mg base (L2N.CX P w) 1 T.a_Strikes_words T.d_Strikes_words ["self"] (spOf K (φ_Strikes_words T))) (G__law_all_words : FnOk P w K mg base (L2N.CX P w) 1 T.a__law_all_words T.d__law_all_words [] (spOf K (φ__law_all_words T))) (G__law_draw : FnOk P w K mg base (L2N.CX P w) 1 T.a__law_draw T.d__law_draw ["_law_stream", "_law_many"] (spOf K (φ__law_draw T))) (G__law_frozen : FnOk P w K mg base (L2N.CX P w) 5 T.a__law_frozen T.d__law_frozen ["_law_thing"] (spOf K (φ__law_frozen T 3))) (G__law_pick : FnOk P w K mg base (L2N.CX P w) 2 T.a__law_pick T.d__law_pick ["_law_stream", "_law_some"] (spOf K (φ__law_pick T))) (G__law_same : FnOk P w K mg base (L2N.CX P w) 6 T.a__law_same T.d__law_same ["_law_found", "_law_due"] (spOf K (φ__law_same T 4))) (G__law_start : FnOk P w K mg base (L2N.CX P w) 1 T.a__law_start T.d__law_start ["_law_script"] (spStart K)) (G__law_tried : FnOk P w K mg base (L2N.CX P w) 6 T.a__law_tried T.d__law_tried ["_law_thing"] (spOf K (φ__law_tried T))) : FnOk P w K mg base (L2N.CX P w) 7 T.a_law T.d_law ["_law_script"] (spLaw K) :=
  ok_lawD (k := 6) T.F_law sc_law fun cdv A outer s H E hr => ⟨t_law T E,
    (pss_cons (ps_set (i := 1) sc_law.nd rfl (Or.inr rfl) (pe_call G__law_start (hr.mono (by decide)) rfl T.g__law_start T.F__law_start.kp T.b__law_start .nil HH1.passN (pa_cons (pv 0) pa_nil)))
    (pss_cons (ps_for (passes_of rfl) rfl (pi_range1 rfl T.z_range (pa_cons pe_int pa_nil)) (pg_name (i := 2) sc_law.nd rfl (Or.inl rfl)) (pss_cons (ps_setLc (own := [("_law_j", 5)]) (i := 3) rfl sc_law.nd rfl rfl (sw_true rfl rfl rfl (by decide +kernel)) (pi_range1 rfl T.z_range (pa_cons pe_int pa_nil)) (blkOk_by (own := [("_law_j", 5)]) (N := N_law) (sc := defScope s_law) (by decide +kernel)) (fun _ _ _ _ _ => (pg_name (i := 5) sc_law.nd rfl (Or.inl rfl))) (fun _ _ _ _ _ => pts_nil) (fun _ _ _ _ _ => (pe_lc (own := [("_law_k", 4)]) rfl sc_law.nd (pi_range1 rfl T.z_range (pa_cons (pe_call G__law_draw (hr.mono (by decide)) rfl T.g__law_draw T.F__law_draw.kp T.b__law_draw .nil HH1.passN (pa_cons (pv 1) (pa_cons pe_int pa_nil))) pa_nil)) (blkOk_by (own := [("_law_k", 4)]) (by rfl)) (fun _ _ _ _ _ => (pg_name (i := 4) sc_law.nd rfl (Or.inl rfl))) (fun _ _ _ _ _ => pts_nil) (fun _ _ _ _ _ => (pe_call G__law_pick (hr.mono (by decide)) rfl T.g__law_pick T.F__law_pick.kp T.b__law_pick .nil HH1.passN (pa_cons (pv 1) (pa_cons (pe_call0 G__law_all_words (hr.mono (by decide)) rfl T.g__law_all_words T.F__law_all_words.kp T.b__law_all_words .nil HH1.passN) pa_nil)))))))
    (pss_cons (ps_set (i := 6) sc_law.nd rfl (Or.inl rfl) (pe_callTy call_listA (by rfl) T.z_list (by decide +kernel) (pa_cons (pe_ix ix_seq (pv 3) pe_int (fun _ _ => rfl)) pa_nil)))
    (pss_cons (ps_asg (pe_tup (pa_cons (pe_make T.mk_Strikes G_Strikes___init__ (hr.mono (by decide)) rfl T.g_Strikes T.b_Strikes___init__ .nil HH1.passN (pa_cons (pv 6) pa_nil)) (pa_cons (pe_make T.mk_Strikes G_Strikes___init__ (hr.mono (by decide)) rfl T.g_Strikes T.b_Strikes___init__ .nil HH1.passN (pa_cons (pe_callTy call_tupA (by rfl) T.z_tuple (by decide +kernel) (pa_cons (pe_ix ix_seq (pv 3) pe_int (fun _ _ => rfl)) pa_nil)) pa_nil)) pa_nil))) (pg_tup rfl (pgs_cons (pg_name (i := 7) sc_law.nd rfl (Or.inr rfl)) (pgs_cons (pg_name (i := 8) sc_law.nd rfl (Or.inl rfl)) pgs_nil))))
    (pss_cons (ps_expr (pe_bm PySem.F.plainAttrs_list PySem.F.slot_list_extend PySem.F.type_list_extend mt_extend (pv 6) (pa_cons (pe_call0 G__law_all_words (hr.mono (by decide)) rfl T.g__law_all_words T.F__law_all_words.kp T.b__law_all_words .nil HH1.passN) pa_nil)))
    (pss_cons (ps_set (i := 9) sc_law.nd rfl (Or.inr rfl) (pe_lc (own := [("_law_some", 11)]) rfl sc_law.nd (pi_any (pv 3)) (blkOk_by (own := [("_law_some", 11)]) (N := N_law) (sc := defScope s_law) (by decide +kernel)) (fun _ _ _ _ _ => (pg_name (i := 11) sc_law.nd rfl (Or.inr rfl))) (fun _ _ _ _ _ => pts_nil) (fun _ _ _ _ _ => (pe_lc (own := [("_law_word", 10)]) rfl sc_law.nd (pi_any (pe_call0 G__law_all_words (hr.mono (by decide)) rfl T.g__law_all_words T.F__law_all_words.kp T.b__law_all_words .nil HH1.passN)) (blkOk_by (own := [("_law_word", 10)]) (by rfl)) (fun _ _ _ _ _ => (pg_name (i := 10) sc_law.nd rfl (Or.inl rfl))) (fun _ _ _ _ _ => (pts_one (pt_cmpR op_inA (pv 10) (pv 11) (by rfl)))) (fun _ _ _ _ _ => (pv 10))))))
    (pss_cons (ps_if (pt_not (pt_val (pe_call G__law_same (hr.mono (by decide)) rfl T.g__law_same T.F__law_same.kp T.b__law_same .nil HH1.passN (pa_cons (pe_lst (pa_cons (pe_meth0 (pv 7) T.y_Strikes.cl T.m_Strikes_words G_Strikes_words (hr.mono (by decide)) T.b_Strikes_words .nil HH1.passN) (pa_cons (pe_meth0 (pv 8) T.y_Strikes.cl T.m_Strikes_words G_Strikes_words (hr.mono (by decide)) T.b_Strikes_words .nil HH1.passN) (pa_cons (pe_callB (HO1.call_lenO (F := G_Strikes___len__) (hr := hr.mono (by decide)) (hb := T.b_Strikes___len__) (hx := HH1.passN) (hs := T.op_Strikes___len__) (hf := T.m_Strikes___len__.fn)) (by rfl) T.z_len (by decide +kernel) (pa_cons (pv 7) pa_nil)) pa_nil)))) (pa_cons (pe_op op_addA (pv 9) (pe_lst (pa_cons (pe_callB call_lenA (by rfl) T.z_len (by decide +kernel) (pa_cons (pe_ix ix_seq (pv 9) pe_int (fun _ _ => rfl)) pa_nil)) pa_nil))) pa_nil))))) (pss_one (ps_ret pe_bl)) pss_nil)
    (pss_cons (ps_expr (pe_bm PySem.F.plainAttrs_list PySem.F.slot_list_append PySem.F.type_list_append mt_append (pe_meth0 (pv 7) T.y_Strikes.cl T.m_Strikes_words G_Strikes_words (hr.mono (by decide)) T.b_Strikes_words .nil HH1.passN) (pa_cons pe_str pa_nil)))
    (pss_cons (ps_set (i := 12) sc_law.nd rfl (Or.inl rfl) (pe_lst (pa_cons (pe_meth0 (pe_op (HO1.op_binO (F := G_Strikes___or__) (hr := hr.mono (by decide)) (hb := T.b_Strikes___or__) (hx := HH1.passN) (hc := T.sf_Strikes) (hs := T.op_Strikes___or__) (hf := T.m_Strikes___or__.fn)) (pv 7) (pv 8)) T.y_Strikes.cl T.m_Strikes_words G_Strikes_words (hr.mono (by decide)) T.b_Strikes_words .nil HH1.passN) (pa_cons (pe_meth0 (pe_op (HO1.op_binO (F := G_Strikes___and__) (hr := hr.mono (by decide)) (hb := T.b_Strikes___and__) (hx := HH1.passN) (hc := T.sf_Strikes) (hs := T.op_Strikes___and__) (hf := T.m_Strikes___and__.fn)) (pv 7) (pv 8)) T.y_Strikes.cl T.m_Strikes_words G_Strikes_words (hr.mono (by decide)) T.b_Strikes_words .nil HH1.passN) (pa_cons (pe_meth0 (pe_op (HO1.op_binO (F := G_Strikes___sub__) (hr := hr.mono (by decide)) (hb := T.b_Strikes___sub__) (hx := HH1.passN) (hc := T.sf_Strikes) (hs := T.op_Strikes___sub__) (hf := T.m_Strikes___sub__.fn)) (pv 7) (pv 8)) T.y_Strikes.cl T.m_Strikes_words G_Strikes_words (hr.mono (by decide)) T.b_Strikes_words .nil HH1.passN) (pa_cons (pe_meth0 (pv 7) T.y_Strikes.cl T.m_Strikes_words G_Strikes_words (hr.mono (by decide)) T.b_Strikes_words .nil HH1.passN) pa_nil))))))
    (pss_cons (ps_set (i := 13) sc_law.nd rfl (Or.inl rfl) (pe_lst (pa_cons (pe_lc (own := [("_law_word", 10)]) rfl sc_law.nd (pi_any (pe_call0 G__law_all_words (hr.mono (by decide)) rfl T.g__law_all_words T.F__law_all_words.kp T.b__law_all_words .nil HH1.passN)) (blkOk_by (own := [("_law_word", 10)]) (N := N_law) (sc := defScope s_law) (by decide +kernel)) (fun _ _ _ _ _ => (pg_name (i := 10) sc_law.nd rfl (Or.inl rfl))) (fun _ _ _ _ _ => (pts_one (pt_cmpR op_inA (pv 10) (pe_op op_addA (pe_ix ix_seq (pv 9) pe_int (fun _ _ => rfl)) (pe_ix ix_seq (pv 9) pe_int (fun _ _ => rfl))) (by rfl)))) (fun _ _ _ _ _ => (pv 10))) pa_nil)))
    (pss_cons (ps_expr (pe_bm PySem.F.plainAttrs_list PySem.F.slot_list_append PySem.F.type_list_append mt_append (pv 13) (pa_cons (pe_lc (own := [("_law_word", 10)]) rfl sc_law.nd (pi_any (pe_ix ix_seq (pv 9) pe_int (fun _ _ => rfl))) (blkOk_by (own := [("_law_word", 10)]) (N := N_law) (sc := defScope s_law) (by decide +kernel)) (fun _ _ _ _ _ => (pg_name (i := 10) sc_law.nd rfl (Or.inl rfl))) (fun _ _ _ _ _ => (pts_one (pt_cmpR op_inA (pv 10) (pe_ix ix_seq (pv 9) pe_int (fun _ _ => rfl)) (by rfl)))) (fun _ _ _ _ _ => (pv 10))) pa_nil)))
    (pss_cons (ps_set (i := 13) sc_law.nd rfl (Or.inl rfl) (pe_op op_addA (pv 13) (pe_lst (pa_cons (pe_lc (own := [("_law_word", 10)]) rfl sc_law.nd (pi_any (pe_ix ix_seq (pv 9) pe_int (fun _ _ => rfl))) (blkOk_by (own := [("_law_word", 10)]) (N := N_law) (sc := defScope s_law) (by decide +kernel)) (fun _ _ _ _ _ => (pg_name (i := 10) sc_law.nd rfl (Or.inl rfl))) (fun _ _ _ _ _ => (pts_one (pt_cmpR op_ninA (pv 10) (pe_ix ix_seq (pv 9) pe_int (fun _ _ => rfl)) (by rfl)))) (fun _ _ _ _ _ => (pv 10))) (pa_cons (pe_ix ix_seq (pv 9) pe_int (fun _ _ => rfl)) pa_nil)))))
    (pss_cons (ps_if (pt_not (pt_val (pe_call G__law_same (hr.mono (by decide)) rfl T.g__law_same T.F__law_same.kp T.b__law_same .nil HH1.passN (pa_cons (pv 12) (pa_cons (pv 13) pa_nil))))) (pss_one (ps_ret pe_bl)) pss_nil)
    (pss_cons (ps_set (i := 12) sc_law.nd rfl (Or.inl rfl) (pe_lst (pa_cons (pe_cmpR (HO1.op_cmpO (hop := fun _ _ => rfl) (F := G_Strikes___le__) (hr := hr.mono (by decide)) (hb := T.b_Strikes___le__) (hx := HH1.passN) (hs := T.op_Strikes___le__) (hf := T.m_Strikes___le__.fn)) (pv 7) (pv 8) (nomark _)) (pa_cons (pe_cmpR (HO1.op_cmpO (hop := fun _ _ => rfl) (F := G_Strikes___eq__) (hr := hr.mono (by decide)) (hb := T.b_Strikes___eq__) (hx := HH1.passN) (hs := T.op_Strikes___eq__) (hf := T.m_Strikes___eq__.fn)) (pv 7) (pv 8) (nomark _)) (pa_cons (pe_cmpR (HO1.op_neO (F := G_Strikes___eq__) (hr := hr.mono (by decide)) (hb := T.b_Strikes___eq__) (hx := HH1.passN) (hs := T.op_Strikes___eq__) (hf := T.m_Strikes___eq__.fn) (hne := T.ne_Strikes) (ho := T.ob_Strikes)) (pv 7) (pv 8) (nomark _)) (pa_cons (pe_cmpR (HO1.op_cmpO (hop := fun _ _ => rfl) (F := G_Strikes___eq__) (hr := hr.mono (by decide)) (hb := T.b_Strikes___eq__) (hx := HH1.passN) (hs := T.op_Strikes___eq__) (hf := T.m_Strikes___eq__.fn)) (pv 7) (pe_make T.mk_Strikes G_Strikes___init__ (hr.mono (by decide)) rfl T.g_Strikes T.b_Strikes___init__ .nil HH1.passN (pa_cons (pe_ix ix_seq (pv 9) pe_int (fun _ _ => rfl)) pa_nil)) (nomark _)) (pa_cons (pe_cmpR (HO1.op_cmpO (hop := fun _ _ => rfl) (F := G_Strikes___le__) (hr := hr.mono (by decide)) (hb := T.b_Strikes___le__) (hx := HH1.passN) (hs := T.op_Strikes___le__) (hf := T.m_Strikes___le__.fn)) (pe_make0 T.mk_Strikes G_Strikes___init__ (hr.mono (by decide)) rfl T.g_Strikes T.bd1_Strikes___init__ (.cons rfl (.nil)) HH1.passN) (pv 7) (nomark _)) pa_nil)))))))
    (pss_cons (ps_if (pt_not (pt_val (pe_call G__law_same (hr.mono (by decide)) rfl T.g__law_same T.F__law_same.kp T.b__law_same .nil HH1.passN (pa_cons (pv 12) (pa_cons (pe_lst (pa_cons (pe_cmpR (op_eqA hr.units) (pe_ix ix_seq (pv 13) pe_int (fun _ _ => rfl)) (pe_lst pa_nil) (nomark _)) (pa_cons (pe_cmpR (op_eqA hr.units) (pe_ix ix_seq (pv 9) pe_int (fun _ _ => rfl)) (pe_ix ix_seq (pv 9) pe_int (fun _ _ => rfl)) (nomark _)) (pa_cons (pe_cmpR (op_neA hr.units) (pe_ix ix_seq (pv 9) pe_int (fun _ _ => rfl)) (pe_ix ix_seq (pv 9) pe_int (fun _ _ => rfl)) (nomark _)) (pa_cons pe_bl (pa_cons pe_bl pa_nil)))))) pa_nil))))) (pss_one (ps_ret pe_bl)) pss_nil)
    (pss_cons (ps_set (i := 14) sc_law.nd rfl (Or.inl rfl) (pe_call G__law_pick (hr.mono (by decide)) rfl T.g__law_pick T.F__law_pick.kp T.b__law_pick .nil HH1.passN (pa_cons (pv 1) (pa_cons (pe_lst (pa_cons pe_str (pa_cons pe_str (pa_cons pe_str (pa_cons pe_non (pa_cons pe_int (pa_cons pe_bl (pa_cons (pe_lst (pa_cons pe_str pa_nil)) (pa_cons (pe_tup (pa_cons pe_str pa_nil)) (pa_cons pe_dnewF (pa_cons pe_str (pa_cons (pe_make T.mk_Path G_Path___init__ (hr.mono (by decide)) rfl T.g_Path T.b_Path___init__ .nil HH1.passN (pa_cons pe_str pa_nil)) pa_nil)))))))))))) pa_nil))))
    (pss_cons (ps_if (pt_not (pt_val (pe_call G__law_same (hr.mono (by decide)) rfl T.g__law_same T.F__law_same.kp T.b__law_same .nil HH1.passN (pa_cons (pe_lc (own := [("_law_word", 10)]) rfl sc_law.nd (pi_any (pe_call0 G__law_all_words (hr.mono (by decide)) rfl T.g__law_all_words T.F__law_all_words.kp T.b__law_all_words .nil HH1.passN)) (blkOk_by (own := [("_law_word", 10)]) (N := N_law) (sc := defScope s_law) (by decide +kernel)) (fun _ _ _ _ _ => (pg_name (i := 10) sc_law.nd rfl (Or.inl rfl))) (fun _ _ _ _ _ => pts_nil) (fun _ _ _ _ _ => (pe_cmpR (HO1.op_inO (F := G_Strikes___contains__) (hr := hr.mono (by decide)) (hb := T.b_Strikes___contains__) (hx := HH1.passN) (hs := T.op_Strikes___contains__) (hf := T.m_Strikes___contains__.fn)) (pv 10) (pv 7) (by rfl)))) (pa_cons (pe_lc (own := [("_law_word", 10)]) rfl sc_law.nd (pi_any (pe_call0 G__law_all_words (hr.mono (by decide)) rfl T.g__law_all_words T.F__law_all_words.kp T.b__law_all_words .nil HH1.passN)) (blkOk_by (own := [("_law_word", 10)]) (N := N_law) (sc := defScope s_law) (by decide +kernel)) (fun _ _ _ _ _ => (pg_name (i := 10) sc_law.nd rfl (Or.inl rfl))) (fun _ _ _ _ _ => pts_nil) (fun _ _ _ _ _ => (pe_cmpR op_inA (pv 10) (pe_ix ix_seq (pv 9) pe_int (fun _ _ => rfl)) (by rfl)))) pa_nil))))) (pss_one (ps_ret pe_bl)) pss_nil)
    (pss_cons (ps_if (PW.pt (pw_or (pt_cmpR (HO1.op_inO (F := G_Strikes___contains__) (hr := hr.mono (by decide)) (hb := T.b_Strikes___contains__) (hx := HH1.passN) (hs := T.op_Strikes___contains__) (hf := T.m_Strikes___contains__.fn)) (pv 14) (pv 7) (by rfl)) (pw_or (pt_cmpR (HO1.op_cmpO (hop := fun _ _ => rfl) (F := G_Strikes___eq__) (hr := hr.mono (by decide)) (hb := T.b_Strikes___eq__) (hx := HH1.passN) (hs := T.op_Strikes___eq__) (hf := T.m_Strikes___eq__.fn)) (pv 7) (pv 14) (nomark _)) (pw_or (pt_cmpR (OpR.or (HR1.op_eqRefl (F0 := G_Strikes___eq__) (hr := hr.mono (by decide)) (hb := T.b_Strikes___eq__) (hx := HH1.passN) (hs := T.op_Strikes___eq__) (hf := T.m_Strikes___eq__.fn) (al := T.al_Strikes)) (HO1.op_cmpO (hop := fun _ _ => rfl) (F := G_Path___eq__) (hr := hr.mono (by decide)) (hb := T.b_Path___eq__) (hx := HH1.passN) (hs := T.op_Path___eq__) (hf := T.m_Path___eq__.fn))) (pv 14) (pv 7) (nomark _)) (pw_or1 (pt_not (pt_cmpR (HO1.op_neO (F := G_Strikes___eq__) (hr := hr.mono (by decide)) (hb := T.b_Strikes___eq__) (hx := HH1.passN) (hs := T.op_Strikes___eq__) (hf := T.m_Strikes___eq__.fn) (hne := T.ne_Strikes) (ho := T.ob_Strikes)) (pv 7) (pv 14) (nomark _)))))))) (pss_one (ps_ret pe_bl)) pss_nil)
    (pss_cons (ps_if (pt_not (pt_val (pe_call G__law_same (hr.mono (by decide)) rfl T.g__law_same T.F__law_same.kp T.b__law_same .nil HH1.passN (pa_cons (pe_call G__law_tried (hr.mono (by decide)) rfl T.g__law_tried T.F__law_tried.kp T.b__law_tried .nil HH1.passN (pa_cons (pe_op op_addA (pe_ix ix_seq (pv 3) pe_int (fun _ _ => rfl)) (pe_lst (pa_cons (pv 14) (pa_cons pe_str pa_nil)))) pa_nil)) (pa_cons (pe_tup (pa_cons pe_str (pa_cons (pe_call G__law_frozen (hr.mono (by decide)) rfl T.g__law_frozen T.F__law_frozen.kp T.b__law_frozen .nil HH1.passN (pa_cons (pv 14) pa_nil)) pa_nil))) pa_nil))))) (pss_one (ps_ret pe_bl)) pss_nil)
    (pss_cons (ps_set (i := 15) sc_law.nd rfl (Or.inl rfl) (pe_call G__law_pick (hr.mono (by decide)) rfl T.g__law_pick T.F__law_pick.kp T.b__law_pick .nil HH1.passN (pa_cons (pv 1) (pa_cons (pe_lst (pa_cons pe_non (pa_cons pe_int (pa_cons pe_str (pa_cons pe_dnewF (pa_cons pe_bl pa_nil)))))) pa_nil))))
    (pss_one (ps_if (pt_not (pt_val (pe_call G__law_same (hr.mono (by decide)) rfl T.g__law_same T.F__law_same.kp T.b__law_same .nil HH1.passN (pa_cons (pe_lst (pa_cons (pe_call G__law_tried (hr.mono (by decide)) rfl T.g__law_tried T.F__law_tried.kp T.b__law_tried .nil HH1.passN (pa_cons (pv 15) pa_nil)) (pa_cons (pe_call G__law_tried (hr.mono (by decide)) rfl T.g__law_tried T.F__law_tried.kp T.b__law_tried .nil HH1.passN (pa_cons (pe_ix ix_seq (pv 3) pe_int (fun _ _ => rfl)) pa_nil)) pa_nil))) (pa_cons (pe_lst (pa_cons (pe_tup (pa_cons pe_str (pa_cons (pv 15) pa_nil))) (pa_cons (pe_tup (pa_cons pe_str (pa_cons (pe_ix ix_seq (pv 9) pe_int (fun _ _ => rfl)) pa_nil))) pa_nil))) pa_nil))))) (pss_one (ps_ret pe_bl)) pss_nil))))))))))))))))))))))
    (pss_one (ps_ret (pe_and (pe_cmpR (op_eqA hr.units) (pe_meth0 (pe_make0 T.mk_Strikes G_Strikes___init__ (hr.mono (by decide)) rfl T.g_Strikes T.bd1_Strikes___init__ (.cons rfl (.nil)) HH1.passN) T.y_Strikes.cl T.m_Strikes_words G_Strikes_words (hr.mono (by decide)) T.b_Strikes_words .nil HH1.passN) (pe_lst pa_nil) (nomark _)) (pe_one (pe_cmpR (HO1.op_cmpO (hop := fun _ _ => rfl) (F := G_Strikes___eq__) (hr := hr.mono (by decide)) (hb := T.b_Strikes___eq__) (hx := HH1.passN) (hs := T.op_Strikes___eq__) (hf := T.m_Strikes___eq__.fn)) (pe_make T.mk_Strikes G_Strikes___init__ (hr.mono (by decide)) rfl T.g_Strikes T.b_Strikes___init__ .nil HH1.passN (pa_cons (pe_tup pa_nil) pa_nil)) (pe_make T.mk_Strikes G_Strikes___init__ (hr.mono (by decide)) rfl T.g_Strikes T.b_Strikes___init__ .nil HH1.passN (pa_cons (pe_lst pa_nil) pa_nil)) (nomark _)))))))),
    rd_law T E⟩

end My

namespace My
open PySem L2 DD
open PySem.Spec PyProof.Rows

theorem all_mk {l : PySem.W.OpenLaw} {w : World} {K : PySem.W.Frag} {h : Heap} {mg : Str → Option Value} {fa : Addr} (X : K.In h) (G : h.Ns mainGlobals mg) (hfa : mg "law" = some (.ref fa))
    {f_BadWord___init__ : Addr} {od_BadWord___init__ an_BadWord___init__ : Option Addr} {sl_BadWord___init__ : Array (Option Value)} {oc_BadWord___init__ kV_BadWord___init__ dc_BadWord___init__ pm_BadWord___init__ cd_BadWord___init__ ct_BadWord___init__ : Value}
    {f_is_name : Addr} {od_is_name an_is_name : Option Addr} {sl_is_name : Array (Option Value)} {oc_is_name kV_is_name dc_is_name pm_is_name cd_is_name ct_is_name : Value}
    {f_is_path_text : Addr} {od_is_path_text an_is_path_text : Option Addr} {sl_is_path_text : Array (Option Value)} {oc_is_path_text kV_is_path_text dc_is_path_text pm_is_path_text cd_is_path_text ct_is_path_text : Value}
    {f_Path___init__ : Addr} {od_Path___init__ an_Path___init__ : Option Addr} {sl_Path___init__ : Array (Option Value)} {oc_Path___init__ kV_Path___init__ dc_Path___init__ pm_Path___init__ cd_Path___init__ ct_Path___init__ : Value}
    {f_Path___eq__ : Addr} {od_Path___eq__ an_Path___eq__ : Option Addr} {sl_Path___eq__ : Array (Option Value)} {oc_Path___eq__ kV_Path___eq__ dc_Path___eq__ pm_Path___eq__ cd_Path___eq__ ct_Path___eq__ : Value}
    {x0_Strikes___init__ : Addr}
    {T_Strikes___init__ : Addr} {To_Strikes___init__ : Value} {Td_Strikes___init__ : Option Addr} {Tn_Strikes___init__ : Nat} {Ts_Strikes___init__ : Array (Option Value)}
    {f_Strikes___init__ : Addr} {od_Strikes___init__ an_Strikes___init__ : Option Addr} {sl_Strikes___init__ : Array (Option Value)} {oc_Strikes___init__ kV_Strikes___init__ dc_Strikes___init__ pm_Strikes___init__ cd_Strikes___init__ ct_Strikes___init__ : Value}
    {dy0_Strikes___init__ : Option Addr} {ny0_Strikes___init__ : Nat} {sy0_Strikes___init__ : Array (Option Value)}
    {f_Strikes___eq__ : Addr} {od_Strikes___eq__ an_Strikes___eq__ : Option Addr} {sl_Strikes___eq__ : Array (Option Value)} {oc_Strikes___eq__ kV_Strikes___eq__ dc_Strikes___eq__ pm_Strikes___eq__ cd_Strikes___eq__ ct_Strikes___eq__ : Value}
    {f_Strikes___len__ : Addr} {od_Strikes___len__ an_Strikes___len__ : Option Addr} {sl_Strikes___len__ : Array (Option Value)} {oc_Strikes___len__ kV_Strikes___len__ dc_Strikes___len__ pm_Strikes___len__ cd_Strikes___len__ ct_Strikes___len__ : Value}
    {f_Strikes___contains__ : Addr} {od_Strikes___contains__ an_Strikes___contains__ : Option Addr} {sl_Strikes___contains__ : Array (Option Value)} {oc_Strikes___contains__ kV_Strikes___contains__ dc_Strikes___contains__ pm_Strikes___contains__ cd_Strikes___contains__ ct_Strikes___contains__ : Value}
    {f_Strikes___or__ : Addr} {od_Strikes___or__ an_Strikes___or__ : Option Addr} {sl_Strikes___or__ : Array (Option Value)} {oc_Strikes___or__ kV_Strikes___or__ dc_Strikes___or__ pm_Strikes___or__ cd_Strikes___or__ ct_Strikes___or__ : Value}
    {f_Strikes___and__ : Addr} {od_Strikes___and__ an_Strikes___and__ : Option Addr} {sl_Strikes___and__ : Array (Option Value)} {oc_Strikes___and__ kV_Strikes___and__ dc_Strikes___and__ pm_Strikes___and__ cd_Strikes___and__ ct_Strikes___and__ : Value}
    {f_Strikes___sub__ : Addr} {od_Strikes___sub__ an_Strikes___sub__ : Option Addr} {sl_Strikes___sub__ : Array (Option Value)} {oc_Strikes___sub__ kV_Strikes___sub__ dc_Strikes___sub__ pm_Strikes___sub__ cd_Strikes___sub__ ct_Strikes___sub__ : Value}
    {f_Strikes___le__ : Addr} {od_Strikes___le__ an_Strikes___le__ : Option Addr} {sl_Strikes___le__ : Array (Option Value)} {oc_Strikes___le__ kV_Strikes___le__ dc_Strikes___le__ pm_Strikes___le__ cd_Strikes___le__ ct_Strikes___le__ : Value}
    {f_Strikes_words : Addr} {od_Strikes_words an_Strikes_words : Option Addr} {sl_Strikes_words : Array (Option Value)} {oc_Strikes_words kV_Strikes_words dc_Strikes_words pm_Strikes_words cd_Strikes_words ct_Strikes_words : Value}
    {f__law_start : Addr} {od__law_start an__law_start : Option Addr} {sl__law_start : Array (Option Value)} {oc__law_start kV__law_start dc__law_start pm__law_start cd__law_start ct__law_start : Value}
    {f__law_draw : Addr} {od__law_draw an__law_draw : Option Addr} {sl__law_draw : Array (Option Value)} {oc__law_draw kV__law_draw dc__law_draw pm__law_draw cd__law_draw ct__law_draw : Value}
    {f__law_pick : Addr} {od__law_pick an__law_pick : Option Addr} {sl__law_pick : Array (Option Value)} {oc__law_pick kV__law_pick dc__law_pick pm__law_pick cd__law_pick ct__law_pick : Value}
    {f__law_same : Addr} {od__law_same an__law_same : Option Addr} {sl__law_same : Array (Option Value)} {oc__law_same kV__law_same dc__law_same pm__law_same cd__law_same ct__law_same : Value}
    {f__law_frozen : Addr} {od__law_frozen an__law_frozen : Option Addr} {sl__law_frozen : Array (Option Value)} {oc__law_frozen kV__law_frozen dc__law_frozen pm__law_frozen cd__law_frozen ct__law_frozen : Value}
    {f__law_all_words : Addr} {od__law_all_words an__law_all_words : Option Addr} {sl__law_all_words : Array (Option Value)} {oc__law_all_words kV__law_all_words dc__law_all_words pm__law_all_words cd__law_all_words ct__law_all_words : Value}
    {f__law_tried : Addr} {od__law_tried an__law_tried : Option Addr} {sl__law_tried : Array (Option Value)} {oc__law_tried kV__law_tried dc__law_tried pm__law_tried cd__law_tried ct__law_tried : Value}
    {f_law : Addr} {od_law an_law : Option Addr} {sl_law : Array (Option Value)} {oc_law kV_law dc_law pm_law cd_law ct_law : Value}
    {C_Path : Addr}
    {C_Strikes : Addr}
    {C_PathError : Addr}
    {C_BadWord xN_BadWord : Addr} {xm_BadWord xq_BadWord : Str} {xb_BadWord : List Value} {xs_BadWord : List Str} {xu_BadWord : List Value} {xa_BadWord : Bool} {xc_BadWord : Option Bool} {xd_BadWord : Option Addr} {x0_BadWord x1_BadWord x2_BadWord x3_BadWord x5_BadWord : Option Value}
    {t_LETTERS : Tok}
    {t_LONGEST : Tok}
    {f_WORDS : Addr} {dd_WORDS : Option Addr} {n_WORDS : Nat} {sl_WORDS : Array (Option Value)} {t0_WORDS : Tok} {t1_WORDS : Tok} {t2_WORDS : Tok} {t3_WORDS : Tok}
    (a_BadWord___init__ : PySem.W.findIn K (.ref C_BadWord) "__init__" = some (some (.ref f_BadWord___init__)))
    (i_BadWord___init__ : PySem.W.isFn K (.ref f_BadWord___init__) = true)
    (l_BadWord___init__ : K.lookup f_BadWord___init__ = some ⟨oc_BadWord___init__, od_BadWord___init__, .func (PySem.W.fnOf "__init__" "BadWord.__init__" (defArgs s_BadWord___init__) (defBody s_BadWord___init__) (defScope s_BadWord___init__) .none kV_BadWord___init__ dc_BadWord___init__ pm_BadWord___init__ an_BadWord___init__ cd_BadWord___init__ ct_BadWord___init__), sl_BadWord___init__⟩)
    (c_BadWord___init__ : PySem.W.codeIn K cd_BadWord___init__ "BadWord.__init__" = true)
    (k_BadWord___init__ : PySem.W.keepIn K (.ref f_BadWord___init__) = true)
    (a_is_name : PySem.W.nsIn K mainGlobals "is_name" = some (some (.ref f_is_name)))
    (l_is_name : K.lookup f_is_name = some ⟨oc_is_name, od_is_name, .func (PySem.W.fnOf "is_name" "is_name" (defArgs s_is_name) (defBody s_is_name) (defScope s_is_name) .none kV_is_name dc_is_name pm_is_name an_is_name cd_is_name ct_is_name), sl_is_name⟩)
    (c_is_name : PySem.W.codeIn K cd_is_name "is_name" = true)
    (k_is_name : PySem.W.keepIn K (.ref f_is_name) = true)
    (a_is_path_text : PySem.W.nsIn K mainGlobals "is_path_text" = some (some (.ref f_is_path_text)))
    (l_is_path_text : K.lookup f_is_path_text = some ⟨oc_is_path_text, od_is_path_text, .func (PySem.W.fnOf "is_path_text" "is_path_text" (defArgs s_is_path_text) (defBody s_is_path_text) (defScope s_is_path_text) .none kV_is_path_text dc_is_path_text pm_is_path_text an_is_path_text cd_is_path_text ct_is_path_text), sl_is_path_text⟩)
    (c_is_path_text : PySem.W.codeIn K cd_is_path_text "is_path_text" = true)
    (k_is_path_text : PySem.W.keepIn K (.ref f_is_path_text) = true)
    (a_Path___init__ : PySem.W.findIn K (.ref C_Path) "__init__" = some (some (.ref f_Path___init__)))
    (i_Path___init__ : PySem.W.isFn K (.ref f_Path___init__) = true)
    (l_Path___init__ : K.lookup f_Path___init__ = some ⟨oc_Path___init__, od_Path___init__, .func (PySem.W.fnOf "__init__" "Path.__init__" (defArgs s_Path___init__) (defBody s_Path___init__) (defScope s_Path___init__) .none kV_Path___init__ dc_Path___init__ pm_Path___init__ an_Path___init__ cd_Path___init__ ct_Path___init__), sl_Path___init__⟩)
    (c_Path___init__ : PySem.W.codeIn K cd_Path___init__ "Path.__init__" = true)
    (k_Path___init__ : PySem.W.keepIn K (.ref f_Path___init__) = true)
    (a_Path___eq__ : PySem.W.findIn K (.ref C_Path) "__eq__" = some (some (.ref f_Path___eq__)))
    (i_Path___eq__ : PySem.W.isFn K (.ref f_Path___eq__) = true)
    (l_Path___eq__ : K.lookup f_Path___eq__ = some ⟨oc_Path___eq__, od_Path___eq__, .func (PySem.W.fnOf "__eq__" "Path.__eq__" (defArgs s_Path___eq__) (defBody s_Path___eq__) (defScope s_Path___eq__) .none kV_Path___eq__ dc_Path___eq__ pm_Path___eq__ an_Path___eq__ cd_Path___eq__ ct_Path___eq__), sl_Path___eq__⟩)
    (c_Path___eq__ : PySem.W.codeIn K cd_Path___eq__ "Path.__eq__" = true)
    (k_Path___eq__ : PySem.W.keepIn K (.ref f_Path___eq__) = true)
    (dt_Strikes___init__ : K.lookup T_Strikes___init__ = some ⟨To_Strikes___init__, Td_Strikes___init__, .seq #[.ref x0_Strikes___init__] Tn_Strikes___init__, Ts_Strikes___init__⟩)
    (a_Strikes___init__ : PySem.W.findIn K (.ref C_Strikes) "__init__" = some (some (.ref f_Strikes___init__)))
    (i_Strikes___init__ : PySem.W.isFn K (.ref f_Strikes___init__) = true)
    (l_Strikes___init__ : K.lookup f_Strikes___init__ = some ⟨oc_Strikes___init__, od_Strikes___init__, .func (PySem.W.fnOf "__init__" "Strikes.__init__" (defArgs s_Strikes___init__) (defBody s_Strikes___init__) (defScope s_Strikes___init__) (.ref T_Strikes___init__) kV_Strikes___init__ dc_Strikes___init__ pm_Strikes___init__ an_Strikes___init__ cd_Strikes___init__ ct_Strikes___init__), sl_Strikes___init__⟩)
    (c_Strikes___init__ : PySem.W.codeIn K cd_Strikes___init__ "Strikes.__init__" = true)
    (k_Strikes___init__ : PySem.W.keepIn K (.ref f_Strikes___init__) = true)
    (xt0_Strikes___init__ : K.lookup x0_Strikes___init__ = some ⟨.type "tuple", dy0_Strikes___init__, .seq #[] ny0_Strikes___init__, sy0_Strikes___init__⟩)
    (a_Strikes___eq__ : PySem.W.findIn K (.ref C_Strikes) "__eq__" = some (some (.ref f_Strikes___eq__)))
    (i_Strikes___eq__ : PySem.W.isFn K (.ref f_Strikes___eq__) = true)
    (l_Strikes___eq__ : K.lookup f_Strikes___eq__ = some ⟨oc_Strikes___eq__, od_Strikes___eq__, .func (PySem.W.fnOf "__eq__" "Strikes.__eq__" (defArgs s_Strikes___eq__) (defBody s_Strikes___eq__) (defScope s_Strikes___eq__) .none kV_Strikes___eq__ dc_Strikes___eq__ pm_Strikes___eq__ an_Strikes___eq__ cd_Strikes___eq__ ct_Strikes___eq__), sl_Strikes___eq__⟩)
    (c_Strikes___eq__ : PySem.W.codeIn K cd_Strikes___eq__ "Strikes.__eq__" = true)
    (k_Strikes___eq__ : PySem.W.keepIn K (.ref f_Strikes___eq__) = true)
    (a_Strikes___len__ : PySem.W.findIn K (.ref C_Strikes) "__len__" = some (some (.ref f_Strikes___len__)))
    (i_Strikes___len__ : PySem.W.isFn K (.ref f_Strikes___len__) = true)
    (l_Strikes___len__ : K.lookup f_Strikes___len__ = some ⟨oc_Strikes___len__, od_Strikes___len__, .func (PySem.W.fnOf "__len__" "Strikes.__len__" (defArgs s_Strikes___len__) (defBody s_Strikes___len__) (defScope s_Strikes___len__) .none kV_Strikes___len__ dc_Strikes___len__ pm_Strikes___len__ an_Strikes___len__ cd_Strikes___len__ ct_Strikes___len__), sl_Strikes___len__⟩)
    (c_Strikes___len__ : PySem.W.codeIn K cd_Strikes___len__ "Strikes.__len__" = true)
    (k_Strikes___len__ : PySem.W.keepIn K (.ref f_Strikes___len__) = true)
    (a_Strikes___contains__ : PySem.W.findIn K (.ref C_Strikes) "__contains__" = some (some (.ref f_Strikes___contains__)))
    (i_Strikes___contains__ : PySem.W.isFn K (.ref f_Strikes___contains__) = true)
    (l_Strikes___contains__ : K.lookup f_Strikes___contains__ = some ⟨oc_Strikes___contains__, od_Strikes___contains__, .func (PySem.W.fnOf "__contains__" "Strikes.__contains__" (defArgs s_Strikes___contains__) (defBody s_Strikes___contains__) (defScope s_Strikes___contains__) .none kV_Strikes___contains__ dc_Strikes___contains__ pm_Strikes___contains__ an_Strikes___contains__ cd_Strikes___contains__ ct_Strikes___contains__), sl_Strikes___contains__⟩)
    (c_Strikes___contains__ : PySem.W.codeIn K cd_Strikes___contains__ "Strikes.__contains__" = true)
    (k_Strikes___contains__ : PySem.W.keepIn K (.ref f_Strikes___contains__) = true)
    (a_Strikes___or__ : PySem.W.findIn K (.ref C_Strikes) "__or__" = some (some (.ref f_Strikes___or__)))
    (i_Strikes___or__ : PySem.W.isFn K (.ref f_Strikes___or__) = true)
    (l_Strikes___or__ : K.lookup f_Strikes___or__ = some ⟨oc_Strikes___or__, od_Strikes___or__, .func (PySem.W.fnOf "__or__" "Strikes.__or__" (defArgs s_Strikes___or__) (defBody s_Strikes___or__) (defScope s_Strikes___or__) .none kV_Strikes___or__ dc_Strikes___or__ pm_Strikes___or__ an_Strikes___or__ cd_Strikes___or__ ct_Strikes___or__), sl_Strikes___or__⟩)
    (c_Strikes___or__ : PySem.W.codeIn K cd_Strikes___or__ "Strikes.__or__" = true)
    (k_Strikes___or__ : PySem.W.keepIn K (.ref f_Strikes___or__) = true)
    (a_Strikes___and__ : PySem.W.findIn K (.ref C_Strikes) "__and__" = some (some (.ref f_Strikes___and__)))
    (i_Strikes___and__ : PySem.W.isFn K (.ref f_Strikes___and__) = true)
    (l_Strikes___and__ : K.lookup f_Strikes___and__ = some ⟨oc_Strikes___and__, od_Strikes___and__, .func (PySem.W.fnOf "__and__" "Strikes.__and__" (defArgs s_Strikes___and__) (defBody s_Strikes___and__) (defScope s_Strikes___and__) .none kV_Strikes___and__ dc_Strikes___and__ pm_Strikes___and__ an_Strikes___and__ cd_Strikes___and__ ct_Strikes___and__), sl_Strikes___and__⟩)
    (c_Strikes___and__ : PySem.W.codeIn K cd_Strikes___and__ "Strikes.__and__" = true)
    (k_Strikes___and__ : PySem.W.keepIn K (.ref f_Strikes___and__) = true)
    (a_Strikes___sub__ : PySem.W.findIn K (.ref C_Strikes) "__sub__" = some (some (.ref f_Strikes___sub__)))
    (i_Strikes___sub__ : PySem.W.isFn K (.ref f_Strikes___sub__) = true)
    (l_Strikes___sub__ : K.lookup f_Strikes___sub__ = some ⟨oc_Strikes___sub__, od_Strikes___sub__, .func (PySem.W.fnOf "__sub__" "Strikes.__sub__" (defArgs s_Strikes___sub__) (defBody s_Strikes___sub__) (defScope s_Strikes___sub__) .none kV_Strikes___sub__ dc_Strikes___sub__ pm_Strikes___sub__ an_Strikes___sub__ cd_Strikes___sub__ ct_Strikes___sub__), sl_Strikes___sub__⟩)
    (c_Strikes___sub__ : PySem.W.codeIn K cd_Strikes___sub__ "Strikes.__sub__" = true)
    (k_Strikes___sub__ : PySem.W.keepIn K (.ref f_Strikes___sub__) = true)
    (a_Strikes___le__ : PySem.W.findIn K (.ref C_Strikes) "__le__" = some (some (.ref f_Strikes___le__)))
    (i_Strikes___le__ : PySem.W.isFn K (.ref f_Strikes___le__) = true)
    (l_Strikes___le__ : K.lookup f_Strikes___le__ = some ⟨oc_Strikes___le__, od_Strikes___le__, .func (PySem.W.fnOf "__le__" "Strikes.__le__" (defArgs s_Strikes___le__) (defBody s_Strikes___le__) (defScope s_Strikes___le__) .none kV_Strikes___le__ dc_Strikes___le__ pm_Strikes___le__ an_Strikes___le__ cd_Strikes___le__ ct_Strikes___le__), sl_Strikes___le__⟩)
    (c_Strikes___le__ : PySem.W.codeIn K cd_Strikes___le__ "Strikes.__le__" = true)
    (k_Strikes___le__ : PySem.W.keepIn K (.ref f_Strikes___le__) = true)
    (a_Strikes_words : PySem.W.findIn K (.ref C_Strikes) "words" = some (some (.ref f_Strikes_words)))
    (i_Strikes_words : PySem.W.isFn K (.ref f_Strikes_words) = true)
    (l_Strikes_words : K.lookup f_Strikes_words = some ⟨oc_Strikes_words, od_Strikes_words, .func (PySem.W.fnOf "words" "Strikes.words" (defArgs s_Strikes_words) (defBody s_Strikes_words) (defScope s_Strikes_words) .none kV_Strikes_words dc_Strikes_words pm_Strikes_words an_Strikes_words cd_Strikes_words ct_Strikes_words), sl_Strikes_words⟩)
    (c_Strikes_words : PySem.W.codeIn K cd_Strikes_words "Strikes.words" = true)
    (k_Strikes_words : PySem.W.keepIn K (.ref f_Strikes_words) = true)
    (a__law_start : PySem.W.nsIn K mainGlobals "_law_start" = some (some (.ref f__law_start)))
    (l__law_start : K.lookup f__law_start = some ⟨oc__law_start, od__law_start, .func (PySem.W.fnOf "_law_start" "_law_start" (defArgs s__law_start) (defBody s__law_start) (defScope s__law_start) .none kV__law_start dc__law_start pm__law_start an__law_start cd__law_start ct__law_start), sl__law_start⟩)
    (c__law_start : PySem.W.codeIn K cd__law_start "_law_start" = true)
    (k__law_start : PySem.W.keepIn K (.ref f__law_start) = true)
    (a__law_draw : PySem.W.nsIn K mainGlobals "_law_draw" = some (some (.ref f__law_draw)))
    (l__law_draw : K.lookup f__law_draw = some ⟨oc__law_draw, od__law_draw, .func (PySem.W.fnOf "_law_draw" "_law_draw" (defArgs s__law_draw) (defBody s__law_draw) (defScope s__law_draw) .none kV__law_draw dc__law_draw pm__law_draw an__law_draw cd__law_draw ct__law_draw), sl__law_draw⟩)
    (c__law_draw : PySem.W.codeIn K cd__law_draw "_law_draw" = true)
    (k__law_draw : PySem.W.keepIn K (.ref f__law_draw) = true)
    (a__law_pick : PySem.W.nsIn K mainGlobals "_law_pick" = some (some (.ref f__law_pick)))
    (l__law_pick : K.lookup f__law_pick = some ⟨oc__law_pick, od__law_pick, .func (PySem.W.fnOf "_law_pick" "_law_pick" (defArgs s__law_pick) (defBody s__law_pick) (defScope s__law_pick) .none kV__law_pick dc__law_pick pm__law_pick an__law_pick cd__law_pick ct__law_pick), sl__law_pick⟩)
    (c__law_pick : PySem.W.codeIn K cd__law_pick "_law_pick" = true)
    (k__law_pick : PySem.W.keepIn K (.ref f__law_pick) = true)
    (a__law_same : PySem.W.nsIn K mainGlobals "_law_same" = some (some (.ref f__law_same)))
    (l__law_same : K.lookup f__law_same = some ⟨oc__law_same, od__law_same, .func (PySem.W.fnOf "_law_same" "_law_same" (defArgs s__law_same) (defBody s__law_same) (defScope s__law_same) .none kV__law_same dc__law_same pm__law_same an__law_same cd__law_same ct__law_same), sl__law_same⟩)
    (c__law_same : PySem.W.codeIn K cd__law_same "_law_same" = true)
    (k__law_same : PySem.W.keepIn K (.ref f__law_same) = true)
    (a__law_frozen : PySem.W.nsIn K mainGlobals "_law_frozen" = some (some (.ref f__law_frozen)))
    (l__law_frozen : K.lookup f__law_frozen = some ⟨oc__law_frozen, od__law_frozen, .func (PySem.W.fnOf "_law_frozen" "_law_frozen" (defArgs s__law_frozen) (defBody s__law_frozen) (defScope s__law_frozen) .none kV__law_frozen dc__law_frozen pm__law_frozen an__law_frozen cd__law_frozen ct__law_frozen), sl__law_frozen⟩)
    (c__law_frozen : PySem.W.codeIn K cd__law_frozen "_law_frozen" = true)
    (k__law_frozen : PySem.W.keepIn K (.ref f__law_frozen) = true)
    (a__law_all_words : PySem.W.nsIn K mainGlobals "_law_all_words" = some (some (.ref f__law_all_words)))
    (l__law_all_words : K.lookup f__law_all_words = some ⟨oc__law_all_words, od__law_all_words, .func (PySem.W.fnOf "_law_all_words" "_law_all_words" (defArgs s__law_all_words) (defBody s__law_all_words) (defScope s__law_all_words) .none kV__law_all_words dc__law_all_words pm__law_all_words an__law_all_words cd__law_all_words ct__law_all_words), sl__law_all_words⟩)
    (c__law_all_words : PySem.W.codeIn K cd__law_all_words "_law_all_words" = true)
    (k__law_all_words : PySem.W.keepIn K (.ref f__law_all_words) = true)
    (a__law_tried : PySem.W.nsIn K mainGlobals "_law_tried" = some (some (.ref f__law_tried)))
    (l__law_tried : K.lookup f__law_tried = some ⟨oc__law_tried, od__law_tried, .func (PySem.W.fnOf "_law_tried" "_law_tried" (defArgs s__law_tried) (defBody s__law_tried) (defScope s__law_tried) .none kV__law_tried dc__law_tried pm__law_tried an__law_tried cd__law_tried ct__law_tried), sl__law_tried⟩)
    (c__law_tried : PySem.W.codeIn K cd__law_tried "_law_tried" = true)
    (k__law_tried : PySem.W.keepIn K (.ref f__law_tried) = true)
    (a_law : PySem.W.nsIn K mainGlobals "law" = some (some (.ref f_law)))
    (l_law : K.lookup f_law = some ⟨oc_law, od_law, .func (PySem.W.fnOf "law" "law" (defArgs s_law) (defBody s_law) (defScope s_law) .none kV_law dc_law pm_law an_law cd_law ct_law), sl_law⟩)
    (c_law : PySem.W.codeIn K cd_law "law" = true)
    (k_law : PySem.W.keepIn K (.ref f_law) = true)
    (aC_Path : PySem.W.nsIn K mainGlobals "Path" = some (some (.ref C_Path)))
    (pg_Path : PySem.W.plainGet K C_Path Str.empty = true)
    (hd_Path : PySem.W.hasDictIn K C_Path = true)
    (po_Path : PySem.W.plainOver K C_Path = true)
    (sa_Path : PySem.W.findIn K (.ref C_Path) "__setattr__" = some (some (.builtin "object.__setattr__")))
    (ha_Path : PySem.W.findIn K (.ref C_Path) "__class__" = some (some (.builtin "object.__class__")))
    (hn_Path : PySem.W.specialIn K (.builtin "object.__class__") "__get__" = some (some (.builtin "getset_descriptor.__get__")))
    (ht_Path : PySem.W.takesIn K (.builtin "object.__class__") = some true)
    (hm_Path : PySem.W.mroIn K C_Path (.type "object") = some true)
    (mi_Path : PySem.W.makesIn K C_Path = true)
    (kc_Path : PySem.W.keepIn K (.ref C_Path) = true)
    (n_Path_text : PySem.W.findIn K (.ref C_Path) "text" = some none)
    (n_Path_rooted : PySem.W.findIn K (.ref C_Path) "rooted" = some none)
    (n_Path_ended : PySem.W.findIn K (.ref C_Path) "ended" = some none)
    (kt_Path_Path : PySem.W.kitOne K (.ref C_Path) (.ref C_Path) = some true)
    (kt_Path_list : PySem.W.kitOne K (.ref C_Path) (.type "list") = some false)
    (kt_Path_tuple : PySem.W.kitOne K (.ref C_Path) (.type "tuple") = some false)
    (kt_Path_int : PySem.W.kitOne K (.ref C_Path) (.type "int") = some false)
    (kt_Path_str : PySem.W.kitOne K (.ref C_Path) (.type "str") = some false)
    (kt_Path_dict : PySem.W.kitOne K (.ref C_Path) (.type "dict") = some false)
    (kt_Path_Strikes : PySem.W.kitOne K (.ref C_Path) (.ref C_Strikes) = some false)
    (nf_Path_Strikes : PySem.W.notFirst K C_Path (.ref C_Strikes) = true)
    (aC_Strikes : PySem.W.nsIn K mainGlobals "Strikes" = some (some (.ref C_Strikes)))
    (pg_Strikes : PySem.W.plainGet K C_Strikes Str.empty = true)
    (hd_Strikes : PySem.W.hasDictIn K C_Strikes = true)
    (po_Strikes : PySem.W.plainOver K C_Strikes = true)
    (sa_Strikes : PySem.W.findIn K (.ref C_Strikes) "__setattr__" = some (some (.builtin "object.__setattr__")))
    (ha_Strikes : PySem.W.findIn K (.ref C_Strikes) "__class__" = some (some (.builtin "object.__class__")))
    (hn_Strikes : PySem.W.specialIn K (.builtin "object.__class__") "__get__" = some (some (.builtin "getset_descriptor.__get__")))
    (ht_Strikes : PySem.W.takesIn K (.builtin "object.__class__") = some true)
    (hm_Strikes : PySem.W.mroIn K C_Strikes (.type "object") = some true)
    (mi_Strikes : PySem.W.makesIn K C_Strikes = true)
    (kc_Strikes : PySem.W.keepIn K (.ref C_Strikes) = true)
    (n_Strikes_held : PySem.W.findIn K (.ref C_Strikes) "held" = some none)
    (sf_Strikes : PySem.W.selfFirst K C_Strikes = true)
    (ne_Strikes : PySem.W.findIn K (.ref C_Strikes) "__ne__" = some (some (.builtin "object.__ne__")))
    (ob_Strikes : PySem.W.subIn K (.ref C_Strikes) (.type "object") = some true)
    (al_Strikes_NoneType : PySem.W.subIn K (.ref C_Strikes) (.type "NoneType") = some false)
    (al_Strikes_bool : PySem.W.subIn K (.ref C_Strikes) (.type "bool") = some false)
    (al_Strikes_int : PySem.W.subIn K (.ref C_Strikes) (.type "int") = some false)
    (al_Strikes_str : PySem.W.subIn K (.ref C_Strikes) (.type "str") = some false)
    (al_Strikes_list : PySem.W.subIn K (.ref C_Strikes) (.type "list") = some false)
    (al_Strikes_tuple : PySem.W.subIn K (.ref C_Strikes) (.type "tuple") = some false)
    (al_Strikes_dict : PySem.W.subIn K (.ref C_Strikes) (.type "dict") = some false)
    (kt_Strikes_Strikes : PySem.W.kitOne K (.ref C_Strikes) (.ref C_Strikes) = some true)
    (kt_Strikes_Path : PySem.W.kitOne K (.ref C_Strikes) (.ref C_Path) = some false)
    (kx_NoneType_Strikes : PySem.W.kitOne K (.type "NoneType") (.ref C_Strikes) = some false)
    (kx_int_Strikes : PySem.W.kitOne K (.type "int") (.ref C_Strikes) = some false)
    (kx_bool_Strikes : PySem.W.kitOne K (.type "bool") (.ref C_Strikes) = some false)
    (kx_dict_Strikes : PySem.W.kitOne K (.type "dict") (.ref C_Strikes) = some false)
    (kx_str_Strikes : PySem.W.kitOne K (.type "str") (.ref C_Strikes) = some false)
    (kx_list_Strikes : PySem.W.kitOne K (.type "list") (.ref C_Strikes) = some false)
    (kx_tuple_Strikes : PySem.W.kitOne K (.type "tuple") (.ref C_Strikes) = some false)
    (nf_Strikes_NoneType : PySem.W.notFirst K C_Strikes (.type "NoneType") = true)
    (nf_Strikes_int : PySem.W.notFirst K C_Strikes (.type "int") = true)
    (nf_Strikes_bool : PySem.W.notFirst K C_Strikes (.type "bool") = true)
    (nf_Strikes_dict : PySem.W.notFirst K C_Strikes (.type "dict") = true)
    (nf_Strikes_str : PySem.W.notFirst K C_Strikes (.type "str") = true)
    (nf_Strikes_list : PySem.W.notFirst K C_Strikes (.type "list") = true)
    (nf_Strikes_tuple : PySem.W.notFirst K C_Strikes (.type "tuple") = true)
    (nf_Strikes_Path : PySem.W.notFirst K C_Strikes (.ref C_Path) = true)
    (aC_PathError : PySem.W.nsIn K mainGlobals "PathError" = some (some (.ref C_PathError)))
    (er_PathError : PySem.W.readsIn K C_PathError (.type "type") = true)
    (ea_PathError : PySem.W.specialIn K (.ref C_PathError) "__getattribute__" = some (some (.builtin "type.__getattribute__")))
    (ev_PathError : PySem.W.findCls K (.ref C_PathError) (.type "type") "__init__" = some (.val (.builtin "ValueError.__init__")))
    (aC_BadWord : PySem.W.nsIn K mainGlobals "BadWord" = some (some (.ref C_BadWord)))
    (xl_BadWord : K.lookup C_BadWord = some (excClassObj xm_BadWord xq_BadWord C_BadWord xN_BadWord xb_BadWord [.ref C_PathError, .type "ValueError", .type "Exception", .type "BaseException", .type "object"] true xs_BadWord xu_BadWord xa_BadWord xc_BadWord xd_BadWord x0_BadWord x1_BadWord x2_BadWord x3_BadWord x5_BadWord "ValueError.__new__"))
    (xsa_BadWord : PySem.W.findIn K (.ref C_BadWord) "__setattr__" = some (some (.builtin "object.__setattr__")))
    (xeb_BadWord : PySem.W.subIn K (.ref C_BadWord) (.type "BaseException") = some true)
    (xty_BadWord : PySem.W.typeIn K (.ref C_BadWord) = some (.type "type"))
    (xkc_BadWord : PySem.W.keepIn K (.ref C_BadWord) = true)
    (xga_BadWord : PySem.W.findIn K (.ref C_BadWord) "__getattribute__" = some (some (.builtin "BaseException.__getattribute__")))
    (xgg_BadWord : PySem.W.findIn K (.ref C_BadWord) "__getattr__" = some none)
    (xhd_BadWord : PySem.W.hasDictIn K C_BadWord = true)
    (xic_BadWord : PySem.W.isClsIn K C_BadWord = true)
    (xss_BadWord : PySem.W.subIn K (.ref C_BadWord) (.ref C_BadWord) = some true)
    (xno_BadWord : PySem.W.findIn K (.ref C_BadWord) "word" = some none)
    (xti_BadWord : PySem.W.typeIn K (.ref f_BadWord___init__) = some (.type "function"))
    (op_Path___eq__ : PySem.W.findIn K (.ref C_Path) ("__eq__") = some (some (.ref f_Path___eq__)))
    (op_Strikes___and__ : PySem.W.findIn K (.ref C_Strikes) (PySem.dunder "and") = some (some (.ref f_Strikes___and__)))
    (op_Strikes___contains__ : PySem.W.findIn K (.ref C_Strikes) ("__contains__") = some (some (.ref f_Strikes___contains__)))
    (op_Strikes___eq__ : PySem.W.findIn K (.ref C_Strikes) ("__eq__") = some (some (.ref f_Strikes___eq__)))
    (op_Strikes___le__ : PySem.W.findIn K (.ref C_Strikes) ("__le__") = some (some (.ref f_Strikes___le__)))
    (op_Strikes___len__ : PySem.W.findIn K (.ref C_Strikes) ("__len__") = some (some (.ref f_Strikes___len__)))
    (op_Strikes___or__ : PySem.W.findIn K (.ref C_Strikes) (PySem.dunder "or") = some (some (.ref f_Strikes___or__)))
    (op_Strikes___sub__ : PySem.W.findIn K (.ref C_Strikes) (PySem.dunder "sub") = some (some (.ref f_Strikes___sub__)))
    (z_all : PySem.W.nsIn K mainGlobals "all" = some none)
    (z_bool : PySem.W.nsIn K mainGlobals "bool" = some none)
    (z_dict : PySem.W.nsIn K mainGlobals "dict" = some none)
    (z_int : PySem.W.nsIn K mainGlobals "int" = some none)
    (z_isinstance : PySem.W.nsIn K mainGlobals "isinstance" = some none)
    (z_len : PySem.W.nsIn K mainGlobals "len" = some none)
    (z_list : PySem.W.nsIn K mainGlobals "list" = some none)
    (z_range : PySem.W.nsIn K mainGlobals "range" = some none)
    (z_str : PySem.W.nsIn K mainGlobals "str" = some none)
    (z_tuple : PySem.W.nsIn K mainGlobals "tuple" = some none)
    (z_zip : PySem.W.nsIn K mainGlobals "zip" = some none)
    (a_LETTERS : PySem.W.nsIn K mainGlobals "LETTERS" = some (some (.str "abcdefghijklmnopqrstuvwxyz" t_LETTERS)))
    (a_LONGEST : PySem.W.nsIn K mainGlobals "LONGEST" = some (some (.int 8 t_LONGEST)))
    (a_WORDS : PySem.W.nsIn K mainGlobals "WORDS" = some (some (.ref f_WORDS)))
    (l_WORDS : K.lookup f_WORDS = some ⟨.type "tuple", dd_WORDS, .seq #[.str "dot" t0_WORDS, .str "up" t1_WORDS, .str "root up" t2_WORDS, .str "end bar" t3_WORDS] n_WORDS, sl_WORDS⟩) :
    ∃ fd : FuncData, (∀ (s : Shared) (v : Value), BindsTo s fd ⟨[v], []⟩ [("_law_script", v)]) ∧ ∀ base : Heap, K.In base → base.Ns mainGlobals mg → FnOk l.prog w K mg base (L2N.CX l.prog w) 7 fa fd ["_law_script"] (spLaw K) := by
  have e : f_law = fa := Value.ref.inj (Option.some.inj ((PySem.W.mg_of X G a_law).symm.trans hfa))
  subst e
  let T : Txt K mg := { m_BadWord___init__ := ⟨a_BadWord___init__, i_BadWord___init__, k_BadWord___init__⟩, a_BadWord___init__ := f_BadWord___init__, d_BadWord___init__ := PySem.W.fnOf "__init__" "BadWord.__init__" (defArgs s_BadWord___init__) (defBody s_BadWord___init__) (defScope s_BadWord___init__) .none kV_BadWord___init__ dc_BadWord___init__ pm_BadWord___init__ an_BadWord___init__ cd_BadWord___init__ ct_BadWord___init__, F_BadWord___init__ := fun_mk (st := s_BadWord___init__) l_BadWord___init__ c_BadWord___init__ k_BadWord___init__, b_BadWord___init__ := (fun_mk (st := s_BadWord___init__) l_BadWord___init__ c_BadWord___init__ k_BadWord___init__).binds (ps := ["self", "word"]) fun _ _ _ _ _ _ us hl => match us, hl with | [_, _], _ => rfl, g_is_name := PySem.W.mg_of X G a_is_name, a_is_name := f_is_name, d_is_name := PySem.W.fnOf "is_name" "is_name" (defArgs s_is_name) (defBody s_is_name) (defScope s_is_name) .none kV_is_name dc_is_name pm_is_name an_is_name cd_is_name ct_is_name, F_is_name := fun_mk (st := s_is_name) l_is_name c_is_name k_is_name, b_is_name := (fun_mk (st := s_is_name) l_is_name c_is_name k_is_name).binds (ps := ["thing"]) fun _ _ _ _ _ _ us hl => match us, hl with | [_], _ => rfl, g_is_path_text := PySem.W.mg_of X G a_is_path_text, a_is_path_text := f_is_path_text, d_is_path_text := PySem.W.fnOf "is_path_text" "is_path_text" (defArgs s_is_path_text) (defBody s_is_path_text) (defScope s_is_path_text) .none kV_is_path_text dc_is_path_text pm_is_path_text an_is_path_text cd_is_path_text ct_is_path_text, F_is_path_text := fun_mk (st := s_is_path_text) l_is_path_text c_is_path_text k_is_path_text, b_is_path_text := (fun_mk (st := s_is_path_text) l_is_path_text c_is_path_text k_is_path_text).binds (ps := ["thing"]) fun _ _ _ _ _ _ us hl => match us, hl with | [_], _ => rfl, m_Path___init__ := ⟨a_Path___init__, i_Path___init__, k_Path___init__⟩, a_Path___init__ := f_Path___init__, d_Path___init__ := PySem.W.fnOf "__init__" "Path.__init__" (defArgs s_Path___init__) (defBody s_Path___init__) (defScope s_Path___init__) .none kV_Path___init__ dc_Path___init__ pm_Path___init__ an_Path___init__ cd_Path___init__ ct_Path___init__, F_Path___init__ := fun_mk (st := s_Path___init__) l_Path___init__ c_Path___init__ k_Path___init__, b_Path___init__ := (fun_mk (st := s_Path___init__) l_Path___init__ c_Path___init__ k_Path___init__).binds (ps := ["self", "text"]) fun _ _ _ _ _ _ us hl => match us, hl with | [_, _], _ => rfl, m_Path___eq__ := ⟨a_Path___eq__, i_Path___eq__, k_Path___eq__⟩, a_Path___eq__ := f_Path___eq__, d_Path___eq__ := PySem.W.fnOf "__eq__" "Path.__eq__" (defArgs s_Path___eq__) (defBody s_Path___eq__) (defScope s_Path___eq__) .none kV_Path___eq__ dc_Path___eq__ pm_Path___eq__ an_Path___eq__ cd_Path___eq__ ct_Path___eq__, F_Path___eq__ := fun_mk (st := s_Path___eq__) l_Path___eq__ c_Path___eq__ k_Path___eq__, b_Path___eq__ := (fun_mk (st := s_Path___eq__) l_Path___eq__ c_Path___eq__ k_Path___eq__).binds (ps := ["self", "other"]) fun _ _ _ _ _ _ us hl => match us, hl with | [_, _], _ => rfl, x0_Strikes___init__ := x0_Strikes___init__, m_Strikes___init__ := ⟨a_Strikes___init__, i_Strikes___init__, k_Strikes___init__⟩, a_Strikes___init__ := f_Strikes___init__, d_Strikes___init__ := PySem.W.fnOf "__init__" "Strikes.__init__" (defArgs s_Strikes___init__) (defBody s_Strikes___init__) (defScope s_Strikes___init__) (.ref T_Strikes___init__) kV_Strikes___init__ dc_Strikes___init__ pm_Strikes___init__ an_Strikes___init__ cd_Strikes___init__ ct_Strikes___init__, F_Strikes___init__ := funD_mk (st := s_Strikes___init__) (its := [.ref x0_Strikes___init__]) (dvs := [.ref x0_Strikes___init__]) l_Strikes___init__ c_Strikes___init__ k_Strikes___init__ dt_Strikes___init__ (.cons rfl (.nil)) (by simp), bd1_Strikes___init__ := HB1.dflB 1 0 (funD_mk (st := s_Strikes___init__) (its := [.ref x0_Strikes___init__]) (dvs := [.ref x0_Strikes___init__]) l_Strikes___init__ c_Strikes___init__ k_Strikes___init__ dt_Strikes___init__ (.cons rfl (.nil)) (by simp)) (by simp) (.cons rfl (.nil)) rfl rfl fun _ _ _ _ _ _ _ us its h1 h2 => match us, its, h1, h2 with | [_], [_], _, _ => ⟨_, rfl, rfl⟩, q0_Strikes___init__ := fun H => .inr ⟨_, _, _, xt0_Strikes___init__, rfl, rfl, (by show 0 ≤ sizeLine; decide), .nil⟩, b_Strikes___init__ := allB (funD_mk (st := s_Strikes___init__) (its := [.ref x0_Strikes___init__]) (dvs := [.ref x0_Strikes___init__]) l_Strikes___init__ c_Strikes___init__ k_Strikes___init__ dt_Strikes___init__ (.cons rfl (.nil)) (by simp)) (by simp) fun _ _ _ _ _ _ _ us its h1 h2 => match us, its, h1, h2 with | [_, _], [_], _, _ => ⟨_, rfl, rfl⟩, m_Strikes___eq__ := ⟨a_Strikes___eq__, i_Strikes___eq__, k_Strikes___eq__⟩, a_Strikes___eq__ := f_Strikes___eq__, d_Strikes___eq__ := PySem.W.fnOf "__eq__" "Strikes.__eq__" (defArgs s_Strikes___eq__) (defBody s_Strikes___eq__) (defScope s_Strikes___eq__) .none kV_Strikes___eq__ dc_Strikes___eq__ pm_Strikes___eq__ an_Strikes___eq__ cd_Strikes___eq__ ct_Strikes___eq__, F_Strikes___eq__ := fun_mk (st := s_Strikes___eq__) l_Strikes___eq__ c_Strikes___eq__ k_Strikes___eq__, b_Strikes___eq__ := (fun_mk (st := s_Strikes___eq__) l_Strikes___eq__ c_Strikes___eq__ k_Strikes___eq__).binds (ps := ["self", "other"]) fun _ _ _ _ _ _ us hl => match us, hl with | [_, _], _ => rfl, m_Strikes___len__ := ⟨a_Strikes___len__, i_Strikes___len__, k_Strikes___len__⟩, a_Strikes___len__ := f_Strikes___len__, d_Strikes___len__ := PySem.W.fnOf "__len__" "Strikes.__len__" (defArgs s_Strikes___len__) (defBody s_Strikes___len__) (defScope s_Strikes___len__) .none kV_Strikes___len__ dc_Strikes___len__ pm_Strikes___len__ an_Strikes___len__ cd_Strikes___len__ ct_Strikes___len__, F_Strikes___len__ := fun_mk (st := s_Strikes___len__) l_Strikes___len__ c_Strikes___len__ k_Strikes___len__, b_Strikes___len__ := (fun_mk (st := s_Strikes___len__) l_Strikes___len__ c_Strikes___len__ k_Strikes___len__).binds (ps := ["self"]) fun _ _ _ _ _ _ us hl => match us, hl with | [_], _ => rfl, m_Strikes___contains__ := ⟨a_Strikes___contains__, i_Strikes___contains__, k_Strikes___contains__⟩, a_Strikes___contains__ := f_Strikes___contains__, d_Strikes___contains__ := PySem.W.fnOf "__contains__" "Strikes.__contains__" (defArgs s_Strikes___contains__) (defBody s_Strikes___contains__) (defScope s_Strikes___contains__) .none kV_Strikes___contains__ dc_Strikes___contains__ pm_Strikes___contains__ an_Strikes___contains__ cd_Strikes___contains__ ct_Strikes___contains__, F_Strikes___contains__ := fun_mk (st := s_Strikes___contains__) l_Strikes___contains__ c_Strikes___contains__ k_Strikes___contains__, b_Strikes___contains__ := (fun_mk (st := s_Strikes___contains__) l_Strikes___contains__ c_Strikes___contains__ k_Strikes___contains__).binds (ps := ["self", "thing"]) fun _ _ _ _ _ _ us hl => match us, hl with | [_, _], _ => rfl, m_Strikes___or__ := ⟨a_Strikes___or__, i_Strikes___or__, k_Strikes___or__⟩, a_Strikes___or__ := f_Strikes___or__, d_Strikes___or__ := PySem.W.fnOf "__or__" "Strikes.__or__" (defArgs s_Strikes___or__) (defBody s_Strikes___or__) (defScope s_Strikes___or__) .none kV_Strikes___or__ dc_Strikes___or__ pm_Strikes___or__ an_Strikes___or__ cd_Strikes___or__ ct_Strikes___or__, F_Strikes___or__ := fun_mk (st := s_Strikes___or__) l_Strikes___or__ c_Strikes___or__ k_Strikes___or__, b_Strikes___or__ := (fun_mk (st := s_Strikes___or__) l_Strikes___or__ c_Strikes___or__ k_Strikes___or__).binds (ps := ["self", "other"]) fun _ _ _ _ _ _ us hl => match us, hl with | [_, _], _ => rfl, m_Strikes___and__ := ⟨a_Strikes___and__, i_Strikes___and__, k_Strikes___and__⟩, a_Strikes___and__ := f_Strikes___and__, d_Strikes___and__ := PySem.W.fnOf "__and__" "Strikes.__and__" (defArgs s_Strikes___and__) (defBody s_Strikes___and__) (defScope s_Strikes___and__) .none kV_Strikes___and__ dc_Strikes___and__ pm_Strikes___and__ an_Strikes___and__ cd_Strikes___and__ ct_Strikes___and__, F_Strikes___and__ := fun_mk (st := s_Strikes___and__) l_Strikes___and__ c_Strikes___and__ k_Strikes___and__, b_Strikes___and__ := (fun_mk (st := s_Strikes___and__) l_Strikes___and__ c_Strikes___and__ k_Strikes___and__).binds (ps := ["self", "other"]) fun _ _ _ _ _ _ us hl => match us, hl with | [_, _], _ => rfl, m_Strikes___sub__ := ⟨a_Strikes___sub__, i_Strikes___sub__, k_Strikes___sub__⟩, a_Strikes___sub__ := f_Strikes___sub__, d_Strikes___sub__ := PySem.W.fnOf "__sub__" "Strikes.__sub__" (defArgs s_Strikes___sub__) (defBody s_Strikes___sub__) (defScope s_Strikes___sub__) .none kV_Strikes___sub__ dc_Strikes___sub__ pm_Strikes___sub__ an_Strikes___sub__ cd_Strikes___sub__ ct_Strikes___sub__, F_Strikes___sub__ := fun_mk (st := s_Strikes___sub__) l_Strikes___sub__ c_Strikes___sub__ k_Strikes___sub__, b_Strikes___sub__ := (fun_mk (st := s_Strikes___sub__) l_Strikes___sub__ c_Strikes___sub__ k_Strikes___sub__).binds (ps := ["self", "other"]) fun _ _ _ _ _ _ us hl => match us, hl with | [_, _], _ => rfl, m_Strikes___le__ := ⟨a_Strikes___le__, i_Strikes___le__, k_Strikes___le__⟩, a_Strikes___le__ := f_Strikes___le__, d_Strikes___le__ := PySem.W.fnOf "__le__" "Strikes.__le__" (defArgs s_Strikes___le__) (defBody s_Strikes___le__) (defScope s_Strikes___le__) .none kV_Strikes___le__ dc_Strikes___le__ pm_Strikes___le__ an_Strikes___le__ cd_Strikes___le__ ct_Strikes___le__, F_Strikes___le__ := fun_mk (st := s_Strikes___le__) l_Strikes___le__ c_Strikes___le__ k_Strikes___le__, b_Strikes___le__ := (fun_mk (st := s_Strikes___le__) l_Strikes___le__ c_Strikes___le__ k_Strikes___le__).binds (ps := ["self", "other"]) fun _ _ _ _ _ _ us hl => match us, hl with | [_, _], _ => rfl, m_Strikes_words := ⟨a_Strikes_words, i_Strikes_words, k_Strikes_words⟩, a_Strikes_words := f_Strikes_words, d_Strikes_words := PySem.W.fnOf "words" "Strikes.words" (defArgs s_Strikes_words) (defBody s_Strikes_words) (defScope s_Strikes_words) .none kV_Strikes_words dc_Strikes_words pm_Strikes_words an_Strikes_words cd_Strikes_words ct_Strikes_words, F_Strikes_words := fun_mk (st := s_Strikes_words) l_Strikes_words c_Strikes_words k_Strikes_words, b_Strikes_words := (fun_mk (st := s_Strikes_words) l_Strikes_words c_Strikes_words k_Strikes_words).binds (ps := ["self"]) fun _ _ _ _ _ _ us hl => match us, hl with | [_], _ => rfl, g__law_start := PySem.W.mg_of X G a__law_start, a__law_start := f__law_start, d__law_start := PySem.W.fnOf "_law_start" "_law_start" (defArgs s__law_start) (defBody s__law_start) (defScope s__law_start) .none kV__law_start dc__law_start pm__law_start an__law_start cd__law_start ct__law_start, F__law_start := fun_mk (st := s__law_start) l__law_start c__law_start k__law_start, b__law_start := (fun_mk (st := s__law_start) l__law_start c__law_start k__law_start).binds (ps := ["_law_script"]) fun _ _ _ _ _ _ us hl => match us, hl with | [_], _ => rfl, g__law_draw := PySem.W.mg_of X G a__law_draw, a__law_draw := f__law_draw, d__law_draw := PySem.W.fnOf "_law_draw" "_law_draw" (defArgs s__law_draw) (defBody s__law_draw) (defScope s__law_draw) .none kV__law_draw dc__law_draw pm__law_draw an__law_draw cd__law_draw ct__law_draw, F__law_draw := fun_mk (st := s__law_draw) l__law_draw c__law_draw k__law_draw, b__law_draw := (fun_mk (st := s__law_draw) l__law_draw c__law_draw k__law_draw).binds (ps := ["_law_stream", "_law_many"]) fun _ _ _ _ _ _ us hl => match us, hl with | [_, _], _ => rfl, g__law_pick := PySem.W.mg_of X G a__law_pick, a__law_pick := f__law_pick, d__law_pick := PySem.W.fnOf "_law_pick" "_law_pick" (defArgs s__law_pick) (defBody s__law_pick) (defScope s__law_pick) .none kV__law_pick dc__law_pick pm__law_pick an__law_pick cd__law_pick ct__law_pick, F__law_pick := fun_mk (st := s__law_pick) l__law_pick c__law_pick k__law_pick, b__law_pick := (fun_mk (st := s__law_pick) l__law_pick c__law_pick k__law_pick).binds (ps := ["_law_stream", "_law_some"]) fun _ _ _ _ _ _ us hl => match us, hl with | [_, _], _ => rfl, g__law_same := PySem.W.mg_of X G a__law_same, a__law_same := f__law_same, d__law_same := PySem.W.fnOf "_law_same" "_law_same" (defArgs s__law_same) (defBody s__law_same) (defScope s__law_same) .none kV__law_same dc__law_same pm__law_same an__law_same cd__law_same ct__law_same, F__law_same := fun_mk (st := s__law_same) l__law_same c__law_same k__law_same, b__law_same := (fun_mk (st := s__law_same) l__law_same c__law_same k__law_same).binds (ps := ["_law_found", "_law_due"]) fun _ _ _ _ _ _ us hl => match us, hl with | [_, _], _ => rfl, g__law_frozen := PySem.W.mg_of X G a__law_frozen, a__law_frozen := f__law_frozen, d__law_frozen := PySem.W.fnOf "_law_frozen" "_law_frozen" (defArgs s__law_frozen) (defBody s__law_frozen) (defScope s__law_frozen) .none kV__law_frozen dc__law_frozen pm__law_frozen an__law_frozen cd__law_frozen ct__law_frozen, F__law_frozen := fun_mk (st := s__law_frozen) l__law_frozen c__law_frozen k__law_frozen, b__law_frozen := (fun_mk (st := s__law_frozen) l__law_frozen c__law_frozen k__law_frozen).binds (ps := ["_law_thing"]) fun _ _ _ _ _ _ us hl => match us, hl with | [_], _ => rfl, g__law_all_words := PySem.W.mg_of X G a__law_all_words, a__law_all_words := f__law_all_words, d__law_all_words := PySem.W.fnOf "_law_all_words" "_law_all_words" (defArgs s__law_all_words) (defBody s__law_all_words) (defScope s__law_all_words) .none kV__law_all_words dc__law_all_words pm__law_all_words an__law_all_words cd__law_all_words ct__law_all_words, F__law_all_words := fun_mk (st := s__law_all_words) l__law_all_words c__law_all_words k__law_all_words, b__law_all_words := (fun_mk (st := s__law_all_words) l__law_all_words c__law_all_words k__law_all_words).binds (ps := []) fun _ _ _ _ _ _ us hl => match us, hl with | [], _ => rfl, g__law_tried := PySem.W.mg_of X G a__law_tried, a__law_tried := f__law_tried, d__law_tried := PySem.W.fnOf "_law_tried" "_law_tried" (defArgs s__law_tried) (defBody s__law_tried) (defScope s__law_tried) .none kV__law_tried dc__law_tried pm__law_tried an__law_tried cd__law_tried ct__law_tried, F__law_tried := fun_mk (st := s__law_tried) l__law_tried c__law_tried k__law_tried, b__law_tried := (fun_mk (st := s__law_tried) l__law_tried c__law_tried k__law_tried).binds (ps := ["_law_thing"]) fun _ _ _ _ _ _ us hl => match us, hl with | [_], _ => rfl, g_law := PySem.W.mg_of X G a_law, a_law := f_law, d_law := PySem.W.fnOf "law" "law" (defArgs s_law) (defBody s_law) (defScope s_law) .none kV_law dc_law pm_law an_law cd_law ct_law, F_law := fun_mk (st := s_law) l_law c_law k_law, b_law := (fun_mk (st := s_law) l_law c_law k_law).binds (ps := ["_law_script"]) fun _ _ _ _ _ _ us hl => match us, hl with | [_], _ => rfl, c_Path := C_Path, g_Path := PySem.W.mg_of X G aC_Path, y_Path := ⟨⟨pg_Path, hd_Path, po_Path, sa_Path⟩, ha_Path, hn_Path, ht_Path, hm_Path⟩, mk_Path := ⟨mi_Path, a_Path___init__, i_Path___init__, kc_Path⟩, n_Path_text := n_Path_text, n_Path_rooted := n_Path_rooted, n_Path_ended := n_Path_ended, kt_Path_Path := kt_Path_Path, kt_Path_list := kt_Path_list, kt_Path_tuple := kt_Path_tuple, kt_Path_int := kt_Path_int, kt_Path_str := kt_Path_str, kt_Path_dict := kt_Path_dict, kt_Path_Strikes := kt_Path_Strikes, nf_Path_Strikes := nf_Path_Strikes, c_Strikes := C_Strikes, g_Strikes := PySem.W.mg_of X G aC_Strikes, y_Strikes := ⟨⟨pg_Strikes, hd_Strikes, po_Strikes, sa_Strikes⟩, ha_Strikes, hn_Strikes, ht_Strikes, hm_Strikes⟩, mk_Strikes := ⟨mi_Strikes, a_Strikes___init__, i_Strikes___init__, kc_Strikes⟩, n_Strikes_held := n_Strikes_held, sf_Strikes := sf_Strikes, ne_Strikes := ne_Strikes, ob_Strikes := ob_Strikes, al_Strikes := ⟨al_Strikes_NoneType, al_Strikes_bool, al_Strikes_int, al_Strikes_str, al_Strikes_list, al_Strikes_tuple, al_Strikes_dict⟩, kt_Strikes_Strikes := kt_Strikes_Strikes, kt_Strikes_Path := kt_Strikes_Path, kx_NoneType_Strikes := kx_NoneType_Strikes, kx_int_Strikes := kx_int_Strikes, kx_bool_Strikes := kx_bool_Strikes, kx_dict_Strikes := kx_dict_Strikes, kx_str_Strikes := kx_str_Strikes, kx_list_Strikes := kx_list_Strikes, kx_tuple_Strikes := kx_tuple_Strikes, nf_Strikes_NoneType := nf_Strikes_NoneType, nf_Strikes_int := nf_Strikes_int, nf_Strikes_bool := nf_Strikes_bool, nf_Strikes_dict := nf_Strikes_dict, nf_Strikes_str := nf_Strikes_str, nf_Strikes_list := nf_Strikes_list, nf_Strikes_tuple := nf_Strikes_tuple, nf_Strikes_Path := nf_Strikes_Path, c_PathError := C_PathError, g_PathError := PySem.W.mg_of X G aC_PathError, er_PathError := er_PathError, ea_PathError := ea_PathError, ev_PathError := ev_PathError, c_BadWord := C_BadWord, g_BadWord := PySem.W.mg_of X G aC_BadWord, oe_BadWord := ⟨⟨_, _, _, _, _, _, _, _, _, _, _, _, _, _, _, xl_BadWord, rfl⟩, xsa_BadWord, xeb_BadWord, xty_BadWord, xkc_BadWord⟩, ex_BadWord := ⟨xga_BadWord, xgg_BadWord, xeb_BadWord, xhd_BadWord⟩, ef_BadWord := xno_BadWord, ei_BadWord := a_BadWord___init__, et_BadWord := xti_BadWord, em_BadWord := HX1.exm_own xeb_BadWord xic_BadWord xty_BadWord xss_BadWord, op_Path___eq__ := op_Path___eq__, op_Strikes___and__ := op_Strikes___and__, op_Strikes___contains__ := op_Strikes___contains__, op_Strikes___eq__ := op_Strikes___eq__, op_Strikes___le__ := op_Strikes___le__, op_Strikes___len__ := op_Strikes___len__, op_Strikes___or__ := op_Strikes___or__, op_Strikes___sub__ := op_Strikes___sub__, z_all := PySem.W.mg_none_of X G z_all, z_bool := PySem.W.mg_none_of X G z_bool, z_dict := PySem.W.mg_none_of X G z_dict, z_int := PySem.W.mg_none_of X G z_int, z_isinstance := PySem.W.mg_none_of X G z_isinstance, z_len := PySem.W.mg_none_of X G z_len, z_list := PySem.W.mg_none_of X G z_list, z_range := PySem.W.mg_none_of X G z_range, z_str := PySem.W.mg_none_of X G z_str, z_tuple := PySem.W.mg_none_of X G z_tuple, z_zip := PySem.W.mg_none_of X G z_zip, u_LETTERS := .str "abcdefghijklmnopqrstuvwxyz" t_LETTERS, g_LETTERS := PySem.W.mg_of X G a_LETTERS, r_LETTERS := ⟨_, rfl⟩, u_LONGEST := .int 8 t_LONGEST, g_LONGEST := PySem.W.mg_of X G a_LONGEST, r_LONGEST := ⟨_, rfl⟩, a_WORDS := f_WORDS, g_WORDS := PySem.W.mg_of X G a_WORDS, q_WORDS := fun H => .inr ⟨_, _, _, l_WORDS, rfl, rfl, (by show 4 ≤ sizeLine; decide), .cons ⟨_, rfl⟩ (.cons ⟨_, rfl⟩ (.cons ⟨_, rfl⟩ (.cons ⟨_, rfl⟩ (.nil))))⟩ }
  exact ⟨T.d_law, fun s v => .of_eq rfl, fun base _ _ => by
    have G_BadWord___init__ : FnOk l.prog w K mg base (L2N.CX l.prog w) 1 T.a_BadWord___init__ T.d_BadWord___init__ ["self", "word"] (HX1.spExc T.c_BadWord "word") := ok_BadWord___init__ T 
    have G_is_name : FnOk l.prog w K mg base (L2N.CX l.prog w) 1 T.a_is_name T.d_is_name ["thing"] (spOf K (φ_is_name T)) := ok_is_name T 
    have G_is_path_text : FnOk l.prog w K mg base (L2N.CX l.prog w) 2 T.a_is_path_text T.d_is_path_text ["thing"] (spOf K (φ_is_path_text T)) := ok_is_path_text T G_is_name
    have G_Path___init__ : FnOk l.prog w K mg base (L2N.CX l.prog w) 3 T.a_Path___init__ T.d_Path___init__ ["self", "text"] (spOf K (φ_Path___init__ T)) := ok_Path___init__ T G_is_path_text
    have G_Path___eq__ : FnOk l.prog w K mg base (L2N.CX l.prog w) 1 T.a_Path___eq__ T.d_Path___eq__ ["self", "other"] (spOf K (φ_Path___eq__ T)) := ok_Path___eq__ T 
    have G_Strikes___init__ : FnOk l.prog w K mg base (L2N.CX l.prog w) 3 T.a_Strikes___init__ T.d_Strikes___init__ ["self", "words"] (spOf K (φ_Strikes___init__ T)) := ok_Strikes___init__ T G_BadWord___init__
    have G_Strikes___eq__ : FnOk l.prog w K mg base (L2N.CX l.prog w) 1 T.a_Strikes___eq__ T.d_Strikes___eq__ ["self", "other"] (spOf K (φ_Strikes___eq__ T)) := ok_Strikes___eq__ T 
    have G_Strikes___len__ : FnOk l.prog w K mg base (L2N.CX l.prog w) 1 T.a_Strikes___len__ T.d_Strikes___len__ ["self"] (spOf K (φ_Strikes___len__ T)) := ok_Strikes___len__ T 
    have G_Strikes___contains__ : FnOk l.prog w K mg base (L2N.CX l.prog w) 1 T.a_Strikes___contains__ T.d_Strikes___contains__ ["self", "thing"] (spOf K (φ_Strikes___contains__ T)) := ok_Strikes___contains__ T 
    have G_Strikes___or__ : FnOk l.prog w K mg base (L2N.CX l.prog w) 5 T.a_Strikes___or__ T.d_Strikes___or__ ["self", "other"] (spOf K (φ_Strikes___or__ T)) := ok_Strikes___or__ T G_Strikes___init__
    have G_Strikes___and__ : FnOk l.prog w K mg base (L2N.CX l.prog w) 5 T.a_Strikes___and__ T.d_Strikes___and__ ["self", "other"] (spOf K (φ_Strikes___and__ T)) := ok_Strikes___and__ T G_Strikes___init__
    have G_Strikes___sub__ : FnOk l.prog w K mg base (L2N.CX l.prog w) 5 T.a_Strikes___sub__ T.d_Strikes___sub__ ["self", "other"] (spOf K (φ_Strikes___sub__ T)) := ok_Strikes___sub__ T G_Strikes___init__
    have G_Strikes___le__ : FnOk l.prog w K mg base (L2N.CX l.prog w) 1 T.a_Strikes___le__ T.d_Strikes___le__ ["self", "other"] (spOf K (φ_Strikes___le__ T)) := ok_Strikes___le__ T 
    have G_Strikes_words : FnOk l.prog w K mg base (L2N.CX l.prog w) 1 T.a_Strikes_words T.d_Strikes_words ["self"] (spOf K (φ_Strikes_words T)) := ok_Strikes_words T 
    have G__law_start : FnOk l.prog w K mg base (L2N.CX l.prog w) 1 T.a__law_start T.d__law_start ["_law_script"] (spStart K) := ok__law_start T 
    have G__law_draw : FnOk l.prog w K mg base (L2N.CX l.prog w) 1 T.a__law_draw T.d__law_draw ["_law_stream", "_law_many"] (spOf K (φ__law_draw T)) := ok__law_draw T 
    have G__law_pick : FnOk l.prog w K mg base (L2N.CX l.prog w) 2 T.a__law_pick T.d__law_pick ["_law_stream", "_law_some"] (spOf K (φ__law_pick T)) := ok__law_pick T G__law_draw
    have G__law_same : FnOk l.prog w K mg base (L2N.CX l.prog w) 6 T.a__law_same T.d__law_same ["_law_found", "_law_due"] (spOf K (φ__law_same T 4)) := ok__law_same T G_Path___eq__ 4
    have G__law_frozen : FnOk l.prog w K mg base (L2N.CX l.prog w) 5 T.a__law_frozen T.d__law_frozen ["_law_thing"] (spOf K (φ__law_frozen T 3)) := ok__law_frozen T  3
    have GH__law_frozen : L2H.FnH l.prog w K mg base (L2N.CX l.prog w) 5 T.a__law_frozen T.d__law_frozen ["_law_thing"] (spOf K (φ__law_frozen T 3)) := okH__law_frozen T  3
    have G__law_all_words : FnOk l.prog w K mg base (L2N.CX l.prog w) 1 T.a__law_all_words T.d__law_all_words [] (spOf K (φ__law_all_words T)) := ok__law_all_words T 
    have G__law_tried : FnOk l.prog w K mg base (L2N.CX l.prog w) 6 T.a__law_tried T.d__law_tried ["_law_thing"] (spOf K (φ__law_tried T)) := ok__law_tried T G_Strikes___init__ G_Strikes_words GH__law_frozen
    have G_law : FnOk l.prog w K mg base (L2N.CX l.prog w) 7 T.a_law T.d_law ["_law_script"] (spLaw K) := ok_law T G_Path___eq__ G_Path___init__ G_Strikes___and__ G_Strikes___contains__ G_Strikes___eq__ G_Strikes___init__ G_Strikes___le__ G_Strikes___len__ G_Strikes___or__ G_Strikes___sub__ G_Strikes_words G__law_all_words G__law_draw G__law_frozen G__law_pick G__law_same G__law_start G__law_tried
    exact G_law⟩
theorem cx_false {P : Program} {w : World} {outer : List PySem.Env} {H : Hp} {s : Shared} {u : Value} {s' : Shared} (h : L2N.CX P w outer H s (fun _ _ _ => False) u s') : False := by
  obtain ⟨_, _, _, _, _, _, _, _, _, _, _, _, z⟩ := h
  exact z
theorem walk {l : PySem.W.OpenLaw} {q : Program} {loose : List Str} {XP : (Str → Option Value) → Heap → Prop} {YP : World → Heap → Prop} {d : DefRec} {K : Params → PySem.W.Frag} (hn : l.most = some 63) (hdf : d.params.defaults = [])
    (hY : ∀ (w : World) (h : Heap), YP w h → (K w.params).In h)
    (F : ∀ (w : World) (mg : Str → Option Value) (fa : Addr) (h : Heap), (K w.params).In h → h.Ns mainGlobals mg → mg d.name = some (.ref fa) →
      ∃ fd : FuncData, (∀ (s : Shared) (u : Value), BindsTo s fd ⟨[u], []⟩ [("_law_script", u)]) ∧ ∀ base : Heap, (K w.params).In base → base.Ns mainGlobals mg → FnOk l.prog w (K w.params) mg base (L2N.CX l.prog w) 7 fa fd ["_law_script"] (spLaw (K w.params))) :
    PySem.W.WalkO q loose XP YP l.row.toRowW d [] (fun f vs => PySem.call f vs) :=
  L2.walk_of (n := 63) (k := 7) (x := "_law_script") (CX := fun w => L2N.CX l.prog w) (sp := fun w => spLaw (K w.params)) hn (by decide) hdf ⟨rfl, by decide, by decide⟩ hY F (fun _ _ a ns hl _ hS => ⟨a, ns, rfl, hS, hl, fun _ => rfl⟩) fun _ _ _ _ _ z => cx_false z
end My
open PySem PySem.W PyProof.Rows in
set_option maxRecDepth 100000 in
set_option maxHeartbeats 0 in
theorem PySem.Challenge.cw_unwalked_k51_strikes_told_holds : PySem.Challenge.rw_unwalked_k51_strikes_told.Holds := by
  w_on; o_law; k_head; (case hw => w_witness2)
  k_fill
  refine My.walk (l := PySem.Challenge.rw_unwalked_k51_strikes_told) rfl rfl (fun w h Y => PySem.W.kIn_of Y) ?F
  case F =>
    intro w mg fa h KX G hmg
    refine' My.all_mk KX G hmg ?a_BadWord___init__ ?i_BadWord___init__ ?l_BadWord___init__ ?c_BadWord___init__ ?k_BadWord___init__ ?a_is_name ?l_is_name ?c_is_name ?k_is_name ?a_is_path_text ?l_is_path_text ?c_is_path_text ?k_is_path_text ?a_Path___init__ ?i_Path___init__ ?l_Path___init__ ?c_Path___init__ ?k_Path___init__ ?a_Path___eq__ ?i_Path___eq__ ?l_Path___eq__ ?c_Path___eq__ ?k_Path___eq__ ?dt_Strikes___init__ ?a_Strikes___init__ ?i_Strikes___init__ ?l_Strikes___init__ ?c_Strikes___init__ ?k_Strikes___init__ ?xt0_Strikes___init__ ?a_Strikes___eq__ ?i_Strikes___eq__ ?l_Strikes___eq__ ?c_Strikes___eq__ ?k_Strikes___eq__ ?a_Strikes___len__ ?i_Strikes___len__ ?l_Strikes___len__ ?c_Strikes___len__ ?k_Strikes___len__ ?a_Strikes___contains__ ?i_Strikes___contains__ ?l_Strikes___contains__ ?c_Strikes___contains__ ?k_Strikes___contains__ ?a_Strikes___or__ ?i_Strikes___or__ ?l_Strikes___or__ ?c_Strikes___or__ ?k_Strikes___or__ ?a_Strikes___and__ ?i_Strikes___and__ ?l_Strikes___and__ ?c_Strikes___and__ ?k_Strikes___and__ ?a_Strikes___sub__ ?i_Strikes___sub__ ?l_Strikes___sub__ ?c_Strikes___sub__ ?k_Strikes___sub__ ?a_Strikes___le__ ?i_Strikes___le__ ?l_Strikes___le__ ?c_Strikes___le__ ?k_Strikes___le__ ?a_Strikes_words ?i_Strikes_words ?l_Strikes_words ?c_Strikes_words ?k_Strikes_words ?a__law_start ?l__law_start ?c__law_start ?k__law_start ?a__law_draw ?l__law_draw ?c__law_draw ?k__law_draw ?a__law_pick ?l__law_pick ?c__law_pick ?k__law_pick ?a__law_same ?l__law_same ?c__law_same ?k__law_same ?a__law_frozen ?l__law_frozen ?c__law_frozen ?k__law_frozen ?a__law_all_words ?l__law_all_words ?c__law_all_words ?k__law_all_words ?a__law_tried ?l__law_tried ?c__law_tried ?k__law_tried ?a_law ?l_law ?c_law ?k_law ?aC_Path ?pg_Path ?hd_Path ?po_Path ?sa_Path ?ha_Path ?hn_Path ?ht_Path ?hm_Path ?mi_Path ?kc_Path ?n_Path_text ?n_Path_rooted ?n_Path_ended ?kt_Path_Path ?kt_Path_list ?kt_Path_tuple ?kt_Path_int ?kt_Path_str ?kt_Path_dict ?kt_Path_Strikes ?nf_Path_Strikes ?aC_Strikes ?pg_Strikes ?hd_Strikes ?po_Strikes ?sa_Strikes ?ha_Strikes ?hn_Strikes ?ht_Strikes ?hm_Strikes ?mi_Strikes ?kc_Strikes ?n_Strikes_held ?sf_Strikes ?ne_Strikes ?ob_Strikes ?al_Strikes_NoneType ?al_Strikes_bool ?al_Strikes_int ?al_Strikes_str ?al_Strikes_list ?al_Strikes_tuple ?al_Strikes_dict ?kt_Strikes_Strikes ?kt_Strikes_Path ?kx_NoneType_Strikes ?kx_int_Strikes ?kx_bool_Strikes ?kx_dict_Strikes ?kx_str_Strikes ?kx_list_Strikes ?kx_tuple_Strikes ?nf_Strikes_NoneType ?nf_Strikes_int ?nf_Strikes_bool ?nf_Strikes_dict ?nf_Strikes_str ?nf_Strikes_list ?nf_Strikes_tuple ?nf_Strikes_Path ?aC_PathError ?er_PathError ?ea_PathError ?ev_PathError ?aC_BadWord ?xl_BadWord ?xsa_BadWord ?xeb_BadWord ?xty_BadWord ?xkc_BadWord ?xga_BadWord ?xgg_BadWord ?xhd_BadWord ?xic_BadWord ?xss_BadWord ?xno_BadWord ?xti_BadWord ?op_Path___eq__ ?op_Strikes___and__ ?op_Strikes___contains__ ?op_Strikes___eq__ ?op_Strikes___le__ ?op_Strikes___len__ ?op_Strikes___or__ ?op_Strikes___sub__ ?z_all ?z_bool ?z_dict ?z_int ?z_isinstance ?z_len ?z_list ?z_range ?z_str ?z_tuple ?z_zip ?a_LETTERS ?a_LONGEST ?a_WORDS ?l_WORDS
    (case aC_Path => k_is)
    (case aC_Strikes => k_is)
    (case aC_PathError => k_is)
    (case aC_BadWord => k_is)
    (case a_BadWord___init__ => k_is)
    (case i_BadWord___init__ => k_is)
    (case l_BadWord___init__ => k_is)
    (case c_BadWord___init__ => k_is)
    (case k_BadWord___init__ => k_is)
    (case a_is_name => k_is)
    (case l_is_name => k_is)
    (case c_is_name => k_is)
    (case k_is_name => k_is)
    (case a_is_path_text => k_is)
    (case l_is_path_text => k_is)
    (case c_is_path_text => k_is)
    (case k_is_path_text => k_is)
    (case a_Path___init__ => k_is)
    (case i_Path___init__ => k_is)
    (case l_Path___init__ => k_is)
    (case c_Path___init__ => k_is)
    (case k_Path___init__ => k_is)
    (case a_Path___eq__ => k_is)
    (case i_Path___eq__ => k_is)
    (case l_Path___eq__ => k_is)
    (case c_Path___eq__ => k_is)
    (case k_Path___eq__ => k_is)
    (case a_Strikes___init__ => k_is)
    (case i_Strikes___init__ => k_is)
    (case l_Strikes___init__ => k_is)
    (case c_Strikes___init__ => k_is)
    (case k_Strikes___init__ => k_is)
    (case a_Strikes___eq__ => k_is)
    (case i_Strikes___eq__ => k_is)
    (case l_Strikes___eq__ => k_is)
    (case c_Strikes___eq__ => k_is)
    (case k_Strikes___eq__ => k_is)
    (case a_Strikes___len__ => k_is)
    (case i_Strikes___len__ => k_is)
    (case l_Strikes___len__ => k_is)
    (case c_Strikes___len__ => k_is)
    (case k_Strikes___len__ => k_is)
    (case a_Strikes___contains__ => k_is)
    (case i_Strikes___contains__ => k_is)
    (case l_Strikes___contains__ => k_is)
    (case c_Strikes___contains__ => k_is)
    (case k_Strikes___contains__ => k_is)
    (case a_Strikes___or__ => k_is)
    (case i_Strikes___or__ => k_is)
    (case l_Strikes___or__ => k_is)
    (case c_Strikes___or__ => k_is)
    (case k_Strikes___or__ => k_is)
    (case a_Strikes___and__ => k_is)
    (case i_Strikes___and__ => k_is)
    (case l_Strikes___and__ => k_is)
    (case c_Strikes___and__ => k_is)
    (case k_Strikes___and__ => k_is)
    (case a_Strikes___sub__ => k_is)
    (case i_Strikes___sub__ => k_is)
    (case l_Strikes___sub__ => k_is)
    (case c_Strikes___sub__ => k_is)
    (case k_Strikes___sub__ => k_is)
    (case a_Strikes___le__ => k_is)
    (case i_Strikes___le__ => k_is)
    (case l_Strikes___le__ => k_is)
    (case c_Strikes___le__ => k_is)
    (case k_Strikes___le__ => k_is)
    (case a_Strikes_words => k_is)
    (case i_Strikes_words => k_is)
    (case l_Strikes_words => k_is)
    (case c_Strikes_words => k_is)
    (case k_Strikes_words => k_is)
    (case a__law_start => k_is)
    (case l__law_start => k_is)
    (case c__law_start => k_is)
    (case k__law_start => k_is)
    (case a__law_draw => k_is)
    (case l__law_draw => k_is)
    (case c__law_draw => k_is)
    (case k__law_draw => k_is)
    (case a__law_pick => k_is)
    (case l__law_pick => k_is)
    (case c__law_pick => k_is)
    (case k__law_pick => k_is)
    (case a__law_same => k_is)
    (case l__law_same => k_is)
    (case c__law_same => k_is)
    (case k__law_same => k_is)
    (case a__law_frozen => k_is)
    (case l__law_frozen => k_is)
    (case c__law_frozen => k_is)
    (case k__law_frozen => k_is)
    (case a__law_all_words => k_is)
    (case l__law_all_words => k_is)
    (case c__law_all_words => k_is)
    (case k__law_all_words => k_is)
    (case a__law_tried => k_is)
    (case l__law_tried => k_is)
    (case c__law_tried => k_is)
    (case k__law_tried => k_is)
    (case a_law => k_is)
    (case l_law => k_is)
    (case c_law => k_is)
    (case k_law => k_is)
    (case pg_Path => k_is)
    (case hd_Path => k_is)
    (case po_Path => k_is)
    (case sa_Path => k_is)
    (case ha_Path => k_is)
    (case hn_Path => k_is)
    (case ht_Path => k_is)
    (case hm_Path => k_is)
    (case mi_Path => k_is)
    (case kc_Path => k_is)
    (case n_Path_text => k_is)
    (case n_Path_rooted => k_is)
    (case n_Path_ended => k_is)
    (case kt_Path_Path => kit_is)
    (case kt_Path_list => kit_is)
    (case kt_Path_tuple => kit_is)
    (case kt_Path_int => kit_is)
    (case kt_Path_str => kit_is)
    (case kt_Path_dict => kit_is)
    (case kt_Path_Strikes => kit_is)
    (case nf_Path_Strikes => k_is)
    (case pg_Strikes => k_is)
    (case hd_Strikes => k_is)
    (case po_Strikes => k_is)
    (case sa_Strikes => k_is)
    (case ha_Strikes => k_is)
    (case hn_Strikes => k_is)
    (case ht_Strikes => k_is)
    (case hm_Strikes => k_is)
    (case mi_Strikes => k_is)
    (case kc_Strikes => k_is)
    (case n_Strikes_held => k_is)
    (case sf_Strikes => k_is)
    (case ne_Strikes => k_is)
    (case ob_Strikes => k_is)
    (case al_Strikes_NoneType => k_is)
    (case al_Strikes_bool => k_is)
    (case al_Strikes_int => k_is)
    (case al_Strikes_str => k_is)
    (case al_Strikes_list => k_is)
    (case al_Strikes_tuple => k_is)
    (case al_Strikes_dict => k_is)
    (case kt_Strikes_Strikes => kit_is)
    (case kt_Strikes_Path => kit_is)
    (case kx_NoneType_Strikes => kit_is)
    (case kx_int_Strikes => kit_is)
    (case kx_bool_Strikes => kit_is)
    (case kx_dict_Strikes => kit_is)
    (case kx_str_Strikes => kit_is)
    (case kx_list_Strikes => kit_is)
    (case kx_tuple_Strikes => kit_is)
    (case nf_Strikes_NoneType => k_is)
    (case nf_Strikes_int => k_is)
    (case nf_Strikes_bool => k_is)
    (case nf_Strikes_dict => k_is)
    (case nf_Strikes_str => k_is)
    (case nf_Strikes_list => k_is)
    (case nf_Strikes_tuple => k_is)
    (case nf_Strikes_Path => k_is)
    (case er_PathError => k_is)
    (case ea_PathError => k_is)
    (case ev_PathError => k_is)
    (case xl_BadWord => k_is)
    (case xsa_BadWord => k_is)
    (case xeb_BadWord => k_is)
    (case xty_BadWord => k_is)
    (case xkc_BadWord => k_is)
    (case xga_BadWord => k_is)
    (case xgg_BadWord => k_is)
    (case xhd_BadWord => k_is)
    (case xic_BadWord => k_is)
    (case xss_BadWord => k_is)
    (case xno_BadWord => k_is)
    (case xti_BadWord => k_is)
    (case op_Path___eq__ => k_is)
    (case op_Strikes___and__ => k_is)
    (case op_Strikes___contains__ => k_is)
    (case op_Strikes___eq__ => k_is)
    (case op_Strikes___le__ => k_is)
    (case op_Strikes___len__ => k_is)
    (case op_Strikes___or__ => k_is)
    (case op_Strikes___sub__ => k_is)
    (case z_all => k_is)
    (case z_bool => k_is)
    (case z_dict => k_is)
    (case z_int => k_is)
    (case z_isinstance => k_is)
    (case z_len => k_is)
    (case z_list => k_is)
    (case z_range => k_is)
    (case z_str => k_is)
    (case z_tuple => k_is)
    (case z_zip => k_is)
    (case a_LETTERS => k_is)
    (case a_LONGEST => k_is)
    (case a_WORDS => k_is)
    (case l_WORDS => k_is)
    (case dt_Strikes___init__ => k_is)
    (case xt0_Strikes___init__ => k_is)
#print axioms PySem.Challenge.cw_unwalked_k51_strikes_told_holds
