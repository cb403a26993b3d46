import PyProof.Rows.All
import HandS.ForExc
import HandS.Comp
import HandS.Iter
import HandS.Style
import HandS.TupAny
import HandS.TupLe
import HandS.IsInst
import HandS.NoneIn
import HandS.Gcd
import HandS.Wide
import HandS.ExcInit
import HandS.ExcField
import HandS.ExcIs
import HandS.CallSlots
import HandS.TryMany
import HandS.Flow
import KE.KMathG
import KE.DataMinMax
import KE.KExcIs
import HandS.ExcOwn
import HandS.WordsExc
import HandS.Conv
import KE.GoesEnum
import PyProof.ReprRoads
import PyProof.CallFns
import HandS.SortInts
import HandS.EndBits
import HandS.SetBool
import HandS.Strs
import KE.KRevSl
import KE.KDictPairs
import PyProof.Rows.TupDisplay
import PySem.Challenge.RW_onlywhatvaries_k74_fewest_for_a_fence
import PyProof.FitsInt
import Wide.All
import OpenK.AllK
import Wide.FinOn
set_option Elab.async false
set_option linter.all false
set_option maxRecDepth 100000
set_option maxHeartbeats 0
/-! Den1: data trees, a small store, what stands for what (my own layer over the hand layer). -/
namespace Den
open PySem PySem.Spec PyProof.Rows L2

abbrev D := PyData
structure Exc where
  cls : Str
  fld : Str
  val : D
/-- a value: data that never changes | a list of the store | a fresh list on its way | the caught error -/
inductive AV where
  | d (x : D) | ref (n : Nat) | own (l : List D) | exc (x : Exc)
/-- a list that may change | one that is read only from here on -/
inductive AO where
  | lst (l : List D) | froz (l : List D)
abbrev AS := List AO
abbrev ASt := List (Option AV)
inductive ER where
  | ok (a : AV) (S : AS) | err (x : Exc) (S : AS) | stuck
inductive SR where
  | nx (σ : ASt) (S : AS) | rt (a : AV) (S : AS) | bk (σ : ASt) (S : AS) | ct (σ : ASt) (S : AS) | er (x : Exc) (σ : ASt) (S : AS) | stuck
abbrev Dn := ASt → AS → ER
abbrev Sn := ASt → AS → SR
abbrev VR := Option (AV × AS)

/-! ### what stands for what -/
structure Zp where
  K : PySem.W.Frag
  mg : Str → Option Value
  ex : Option (Addr × Value × Option Addr)

section mono
variable {K : PySem.W.Frag} {F F' : Hp}
theorem Same.seqT {a : Addr} {xs : List V} (e : Same F F') (h : SqT K F a xs) : SqT K F' a xs := by
  rcases h with (h | ⟨o, h⟩) | h
  · exact .inl (.inl (e _ _ h))
  · exact .inl (.inr ⟨o, e _ _ h⟩)
  · exact .inr h
mutual
theorem dp_mono (e : Same F F') : ∀ (x : D) (v : V), Dp K F v x → Dp K F' v x
  | .none, _, h => by cases h; exact .non
  | .bool _, _, h => by cases h; exact .bl _
  | .int _, _, h => by cases h; exact .int _
  | .str _, _, h => by cases h; exact .str _
  | .list l, _, h => by
    cases h with
    | lst h1 h2 => exact .lst (e.seq h1) (dpA_mono e l _ h2)
  | .tuple l, _, h => by
    cases h with
    | tup h1 h2 => exact .tup (Same.seqT e h1) (dpA_mono e l _ h2)
  | .dict _, _, h => by cases h
theorem dpA_mono (e : Same F F') : ∀ (l : List D) (vs : List V), DpAll K F vs l → DpAll K F' vs l
  | [], _, h => by cases h; exact .nil
  | x :: l, _, h => by
    cases h with
    | cons h1 h2 => exact .cons (dp_mono e x _ h1) (dpA_mono e l _ h2)
end
theorem dpA_len {vs : List V} : ∀ {l : List D}, DpAll K F vs l → vs.length = l.length := by
  induction vs with
  | nil => intro l h; cases h; rfl
  | cons v vs ih =>
    intro l h
    cases h with
    | cons h1 h2 => rw [List.length_cons, List.length_cons, ih h2]
theorem dpA_get : ∀ {vs : List V} {l : List D} {i : Nat} {x : D}, DpAll K F vs l → l[i]? = some x → ∃ v, vs[i]? = some v ∧ Dp K F v x
  | [], _, _, _, h, e => by cases h; simp at e
  | v :: vs, _, 0, x, h, e => by
    cases h with
    | cons h1 h2 =>
      have e' : _ = x := Option.some.inj e
      subst e'
      exact ⟨v, rfl, h1⟩
  | v :: vs, _, i + 1, x, h, e => by
    cases h with
    | cons h1 h2 => exact dpA_get (i := i) h2 e
theorem dpA_app : ∀ {vs ws : List V} {l m : List D}, DpAll K F vs l → DpAll K F ws m → DpAll K F (vs ++ ws) (l ++ m)
  | [], _, _, _, h, k => by cases h; exact k
  | v :: vs, _, _, _, h, k => by
    cases h with
    | cons h1 h2 => exact .cons h1 (dpA_app h2 k)
theorem dpA_take : ∀ {vs : List V} {l : List D} (n : Nat), DpAll K F vs l → DpAll K F (vs.take n) (l.take n)
  | _, _, 0, _ => .nil
  | [], _, n + 1, h => by cases h; exact .nil
  | v :: vs, _, n + 1, h => by
    cases h with
    | cons h1 h2 => exact .cons h1 (dpA_take n h2)
theorem dpA_drop : ∀ {vs : List V} {l : List D} (n : Nat), DpAll K F vs l → DpAll K F (vs.drop n) (l.drop n)
  | _, _, 0, h => h
  | [], _, n + 1, h => by cases h; exact .nil
  | v :: vs, _, n + 1, h => by
    cases h with
    | cons h1 h2 => exact dpA_drop n h2
theorem dpA_rev : ∀ {vs : List V} {l : List D}, DpAll K F vs l → DpAll K F vs.reverse l.reverse
  | [], _, h => by cases h; exact .nil
  | v :: vs, _, h => by
    cases h with
    | cons h1 h2 =>
      rw [List.reverse_cons, List.reverse_cons]
      exact dpA_app (dpA_rev h2) (.cons h1 .nil)
theorem dpA_dropLast {vs : List V} {l : List D} (h : DpAll K F vs l) : DpAll K F vs.dropLast l.dropLast := by
  rw [List.dropLast_eq_take, List.dropLast_eq_take, dpA_len h]
  exact dpA_take _ h
theorem dpA_set : ∀ {vs : List V} {l : List D} (n : Nat) {v : V} {x : D}, DpAll K F vs l → Dp K F v x → DpAll K F (vs.set n v) (l.set n x)
  | [], _, _, _, _, h, _ => by cases h; exact .nil
  | u :: vs, _, 0, _, _, h, k => by
    cases h with
    | cons h1 h2 => exact .cons k h2
  | u :: vs, _, n + 1, _, _, h, k => by
    cases h with
    | cons h1 h2 => exact .cons h1 (dpA_set n h2 k)
theorem dpA_ints : ∀ {ns : List Int} {vs : List V}, DpAll K F vs (ns.map PyData.int) → vs = ns.map V.int
  | [], _, h => by cases h; rfl
  | n :: ns, _, h => by
    cases h with
    | cons h1 h2 =>
      cases h1
      rw [dpA_ints h2]
      rfl
theorem dpA_of_ints : ∀ (ns : List Int), DpAll K F (ns.map V.int) (ns.map PyData.int)
  | [] => .nil
  | n :: ns => .cons (.int n) (dpA_of_ints ns)
end mono

/-- where the store's lists lie; what is pinned beside them -/
structure Rh where
  l : List Addr
  G : Hp
def ObK (K : PySem.W.Frag) (F H : Hp) (p : Addr) : AO → Prop
  | .lst l => F p = none ∧ ∃ vs, H p = some (.lst vs) ∧ DpAll K F vs l
  | .froz l => ∃ vs, F p = some (.lst vs) ∧ DpAll K F vs l
structure RS (K : PySem.W.Frag) (F : Hp) (ρ : Rh) (S : AS) (H : Hp) : Prop where
  sub : Same F H
  len : ρ.l.length = S.length
  nd : ρ.l.Nodup
  ob : ∀ (n : Nat) (p : Addr) (o : AO), ρ.l[n]? = some p → S[n]? = some o → ObK K F H p o
  pin : ∀ (p : Addr) (o : HO), ρ.G p = some o → H p = some o ∧ F p = none ∧ p ∉ ρ.l
def RepX (Z : Zp) (F : Hp) (x : Exc) (cls : Value) (d : Option Addr) : Prop :=
  ∃ C dd v, cls = Value.ref C ∧ Z.mg x.cls = some (.ref C) ∧ d = some dd ∧ F dd = some (.xd [(x.fld, v)]) ∧ Dp Z.K F v x.val
def RepV (Z : Zp) (F : Hp) (ρ : Rh) : AV → V → Prop
  | .d x, v => Dp Z.K F v x
  | .ref n, v => ∃ p, ρ.l[n]? = some p ∧ v = .ref p
  | .own _, _ => False
  | .exc x, v => ∃ a cls d, Z.ex = some (a, cls, d) ∧ v = .ref a ∧ RepX Z F x cls d
def RepW (Z : Zp) (F : Hp) (ρ : Rh) (H : Hp) : AV → V → Prop
  | .own l, v => ∃ p vs, v = .ref p ∧ p ∉ ρ.l ∧ F p = none ∧ ρ.G p = none ∧ H p = some (.lst vs) ∧ DpAll Z.K F vs l
  | a, v => RepV Z F ρ a v
structure RSt (Z : Zp) (F : Hp) (ρ : Rh) (aσ : ASt) (σ : L2.St) : Prop where
  len : aσ.length = σ.length
  at_ : ∀ (i : Nat) (a : AV), aσ[i]? = some (some a) → ∃ v, σ[i]? = some (some v) ∧ RepV Z F ρ a v
structure Tr (F : Hp) (ρ : Rh) (F' : Hp) (ρ' : Rh) : Prop where
  same : Same F F'
  pre : ρ.l <+: ρ'.l
  g : ρ'.G = ρ.G
theorem Tr.refl {F : Hp} {ρ : Rh} : Tr F ρ F ρ := ⟨Same.refl F, List.prefix_refl ρ.l, rfl⟩
theorem Tr.sam {F F' : Hp} {ρ : Rh} (h : Same F F') : Tr F ρ F' ρ := ⟨h, List.prefix_refl ρ.l, rfl⟩
theorem Tr.trans {F F1 F2 : Hp} {ρ ρ1 ρ2 : Rh} (a : Tr F ρ F1 ρ1) (b : Tr F1 ρ1 F2 ρ2) : Tr F ρ F2 ρ2 := ⟨a.same.trans b.same, a.pre.trans b.pre, b.g.trans a.g⟩
theorem pre_get {ρ ρ' : List Addr} {n : Nat} {p : Addr} (h : ρ <+: ρ') (e : ρ[n]? = some p) : ρ'[n]? = some p := by
  obtain ⟨t, rfl⟩ := h
  rw [List.getElem?_append_left (List.getElem?_eq_some_iff.mp e).1]
  exact e

section rel
variable {Z : Zp} {F F' H H' : Hp} {ρ ρ' : Rh} {S : AS} {a : AV} {v : V} {aσ : ASt} {σ : L2.St}
theorem RepX.mono {x : Exc} {cls : Value} {d : Option Addr} (e : Same F F') (h : RepX Z F x cls d) : RepX Z F' x cls d := by
  obtain ⟨C, dd, v, h1, h2, h3, h4, h5⟩ := h
  exact ⟨C, dd, v, h1, h2, h3, e _ _ h4, dp_mono e _ _ h5⟩
theorem RepV.mono (t : Tr F ρ F' ρ') (h : RepV Z F ρ a v) : RepV Z F' ρ' a v := by
  cases a with
  | d x => exact dp_mono t.same x v h
  | ref n =>
    obtain ⟨p, h1, h2⟩ := h
    exact ⟨p, pre_get t.pre h1, h2⟩
  | own l => exact h
  | exc x =>
    obtain ⟨a, cls, d, h1, h2, h3⟩ := h
    exact ⟨a, cls, d, h1, h2, h3.mono t.same⟩
theorem RepV.w (h : RepV Z F ρ a v) : RepW Z F ρ H a v := by
  cases a with
  | own l => exact h.elim
  | _ => exact h
theorem RSt.mono (t : Tr F ρ F' ρ') (h : RSt Z F ρ aσ σ) : RSt Z F' ρ' aσ σ := ⟨h.len, fun i a e => by
  obtain ⟨v, h1, h2⟩ := h.at_ i a e
  exact ⟨v, h1, h2.mono t⟩⟩
theorem RSt.set {i : Nat} (h : RSt Z F ρ aσ σ) (r : RepV Z F ρ a v) : RSt Z F ρ (aσ.set i (some a)) (σ.set i (some v)) := by
  refine ⟨by rw [List.length_set, List.length_set, h.len], fun j b e => ?_⟩
  by_cases hj : i = j
  · subst hj
    by_cases hl : i < aσ.length
    · rw [List.getElem?_set_self hl] at e
      cases e
      exact ⟨v, List.getElem?_set_self (by rw [← h.len]; exact hl), r⟩
    · rw [List.getElem?_eq_none (by rw [List.length_set]; omega)] at e
      cases e
  · rw [List.getElem?_set_ne hj] at e ⊢
    exact h.at_ j b e
theorem RSt.clear {i : Nat} (h : RSt Z F ρ aσ σ) : RSt Z F ρ (aσ.set i none) (σ.set i none) := by
  refine ⟨by rw [List.length_set, List.length_set, h.len], fun j b e => ?_⟩
  by_cases hj : i = j
  · subst hj
    by_cases hl : i < aσ.length
    · rw [List.getElem?_set_self hl] at e
      cases e
    · rw [List.getElem?_eq_none (by rw [List.length_set]; omega)] at e
      cases e
  · rw [List.getElem?_set_ne hj] at e ⊢
    exact h.at_ j b e
theorem Same.trans' {F F1 F2 : Hp} (a : Same F F1) (b : Same F1 F2) : Same F F2 := a.trans b
theorem same_upd {p : Addr} {o : HO} (h : F p = none) : Same F (upd F p o) := fun b u e => by
  rw [upd_ne (ne_of_none e h)]
  exact e
theorem ObK.monoF {p : Addr} {o : AO} (e : Same F F') (h : ObK Z.K F H p o) (hn : ∀ l, o = .lst l → F' p = none) (hk : ∀ u, H p = some u → H' p = some u) : ObK Z.K F' H' p o := by
  cases o with
  | lst l =>
    obtain ⟨h1, vs, h2, h3⟩ := h
    exact ⟨hn l rfl, vs, hk _ h2, dpA_mono e _ _ h3⟩
  | froz l =>
    obtain ⟨vs, h2, h3⟩ := h
    exact ⟨vs, e _ _ h2, dpA_mono e _ _ h3⟩
theorem RS.there (r : RS Z.K F ρ S H) {n : Nat} {p : Addr} (h : ρ.l[n]? = some p) : ∃ u, H p = some u := by
  have hn : n < S.length := by rw [← r.len]; exact (List.getElem?_eq_some_iff.mp h).1
  have q := r.ob n p S[n] h (List.getElem?_eq_getElem hn)
  cases e : S[n] with
  | lst l =>
    rw [e] at q
    obtain ⟨_, vs, h2, _⟩ := q
    exact ⟨_, h2⟩
  | froz l =>
    rw [e] at q
    obtain ⟨vs, h2, _⟩ := q
    exact ⟨_, r.sub _ _ h2⟩
theorem RS.fresh (r : RS Z.K F ρ S H) {p : Addr} (h : H p = none) : F p = none := r.sub.free h
theorem RS.gfree (r : RS Z.K F ρ S H) {p : Addr} (h : H p = none) : ρ.G p = none := by
  cases e : ρ.G p with
  | none => rfl
  | some o =>
    rw [(r.pin p o e).1] at h
    cases h
theorem RS.notin (r : RS Z.K F ρ S H) {p : Addr} (h : H p = none) : p ∉ ρ.l := fun hp => by
  obtain ⟨n, hn⟩ := List.mem_iff_getElem?.mp hp
  obtain ⟨u, e⟩ := r.there hn
  rw [h] at e
  cases e
/-- a new thing stands in the heap, nobody knows it -/
theorem RS.newH (r : RS Z.K F ρ S H) {p : Addr} {o : HO} (h : H p = none) : RS Z.K F ρ S (upd H p o) := by
  refine ⟨fun b u e => ?_, r.len, r.nd, fun n q u h1 h2 => (r.ob n q u h1 h2).monoF (Same.refl F) (fun l e => ?_) fun w e => ?_, fun q u e => ?_⟩
  · rw [upd_ne (ne_of_none (r.sub b u e) h)]
    exact r.sub b u e
  · subst e
    exact (r.ob n q _ h1 h2).1
  · rw [upd_ne (ne_of_none e h)]
    exact e
  · obtain ⟨h1, h2, h3⟩ := r.pin q u e
    exact ⟨by rw [upd_ne (ne_of_none h1 h)]; exact h1, h2, h3⟩
/-- a thing of the heap that is no list of the store is known for good -/
theorem RS.know (r : RS Z.K F ρ S H) {p : Addr} {o : HO} (h : H p = some o) (hn : F p = none) (hp : p ∉ ρ.l) (hG : ρ.G p = none) : RS Z.K (upd F p o) ρ S H := by
  refine ⟨fun b u e => ?_, r.len, r.nd, fun n q u h1 h2 => (r.ob n q u h1 h2).monoF (same_upd hn) (fun l e => ?_) fun w e => e, fun q u e => ?_⟩
  · by_cases hb : b = p
    · subst hb
      rw [upd_same] at e
      cases e
      exact h
    · rw [upd_ne hb] at e
      exact r.sub b u e
  · subst e
    have hq : q ≠ p := fun z => hp (z ▸ List.mem_of_getElem? h1)
    rw [upd_ne hq]
    exact (r.ob n q _ h1 h2).1
  · obtain ⟨h1, h2, h3⟩ := r.pin q u e
    exact ⟨h1, by rw [upd_ne (ne_of_none e hG)]; exact h2, h3⟩
theorem RS.newF (r : RS Z.K F ρ S H) {p : Addr} {o : HO} (h : H p = none) : RS Z.K (upd F p o) ρ S (upd H p o) :=
  (r.newH h).know upd_same (r.fresh h) (r.notin h) (r.gfree h)
theorem RS.push (r : RS Z.K F ρ S H) {p : Addr} {vs : List V} {l : List D} (hp : p ∉ ρ.l) (hn : F p = none) (hG : ρ.G p = none) (h : H p = some (.lst vs)) (k : DpAll Z.K F vs l) : RS Z.K F ⟨ρ.l ++ [p], ρ.G⟩ (S ++ [.lst l]) H := by
  refine ⟨r.sub, by simp [r.len], List.nodup_append.mpr ⟨r.nd, by simp, fun a ha b hb e => ?_⟩, fun n q u h1 h2 => ?_, fun q u e => ?_⟩
  · have : b = p := by simpa using hb
    subst this
    subst e
    exact hp ha
  · have h1 : (ρ.l ++ [p])[n]? = some q := h1
    by_cases hl : n < ρ.l.length
    · rw [List.getElem?_append_left hl] at h1
      rw [List.getElem?_append_left (by rw [← r.len]; exact hl)] at h2
      exact r.ob n q u h1 h2
    · rw [List.getElem?_append_right (by omega)] at h1
      rw [List.getElem?_append_right (by rw [← r.len]; omega), ← r.len] at h2
      obtain ⟨i, hi⟩ : ∃ i, n - ρ.l.length = i := ⟨_, rfl⟩
      rw [hi] at h1 h2
      cases i with
      | zero =>
        cases Option.some.inj h1
        cases Option.some.inj h2
        exact ⟨hn, vs, h, k⟩
      | succ i => simp at h1
  · obtain ⟨h1, h2, h3⟩ := r.pin q u e
    refine ⟨h1, h2, fun z => ?_⟩
    rcases List.mem_append.mp z with z | z
    · exact h3 z
    · have : q = p := by simpa using z
      subst this
      rw [hG] at e
      cases e
theorem RS.cut (r : RS Z.K F ρ S H) (h : ρ'.l <+: ρ.l) (hg : ρ'.G = ρ.G) : RS Z.K F ρ' (S.take ρ'.l.length) H := by
  obtain ⟨t, ht⟩ := h
  have hl := r.len
  have hnd := r.nd
  rw [← ht] at hnd
  rw [← ht, List.length_append] at hl
  refine ⟨r.sub, by rw [List.length_take]; omega, (List.nodup_append.mp hnd).1, fun n q u h1 h2 => ?_, fun q u e => ?_⟩
  · have hn := (List.getElem?_eq_some_iff.mp h1).1
    rw [List.getElem?_take_of_lt hn] at h2
    exact r.ob n q u (by rw [← ht, List.getElem?_append_left hn]; exact h1) h2
  · rw [hg] at e
    obtain ⟨h1, h2, h3⟩ := r.pin q u e
    exact ⟨h1, h2, fun z => h3 (by rw [← ht]; exact List.mem_append_left _ z)⟩
theorem nd_ne {l : List Addr} (nd : l.Nodup) {n m : Nat} {p q : Addr} (hp : l[n]? = some p) (hq : l[m]? = some q) (h : n ≠ m) : q ≠ p := fun z => h (by
  subst z
  obtain ⟨i1, e1⟩ := List.getElem?_eq_some_iff.mp hp
  obtain ⟨i2, e2⟩ := List.getElem?_eq_some_iff.mp hq
  exact (List.getElem_inj nd).mp (e1.trans e2.symm))
/-- a list of the store changes -/
theorem RS.mut (r : RS Z.K F ρ S H) {n : Nat} {p : Addr} {l0 l : List D} {vs : List V} (hp : ρ.l[n]? = some p) (hS : S[n]? = some (.lst l0)) (k : DpAll Z.K F vs l) : RS Z.K F ρ (S.set n (.lst l)) (upd H p (.lst vs)) := by
  have hF : F p = none := (r.ob n p _ hp hS).1
  have hn : n < S.length := (List.getElem?_eq_some_iff.mp hS).1
  refine ⟨fun b u e => ?_, by rw [List.length_set]; exact r.len, r.nd, fun m q u h1 h2 => ?_, fun q u e => ?_⟩
  · rw [upd_ne (ne_of_none e hF)]
    exact r.sub b u e
  · by_cases hm : n = m
    · subst hm
      rw [hp] at h1
      cases h1
      rw [List.getElem?_set_self hn] at h2
      cases h2
      exact ⟨hF, vs, upd_same, k⟩
    · rw [List.getElem?_set_ne hm] at h2
      have hq : q ≠ p := nd_ne r.nd hp h1 hm
      refine (r.ob m q u h1 h2).monoF (Same.refl F) (fun l e => ?_) fun w e => by rw [upd_ne hq]; exact e
      subst e
      exact (r.ob m q _ h1 h2).1
  · obtain ⟨h1, h2, h3⟩ := r.pin q u e
    exact ⟨by rw [upd_ne (fun z : q = p => h3 (by rw [z]; exact List.mem_of_getElem? hp))]; exact h1, h2, h3⟩
/-- a list of the store is frozen where it stands -/
theorem RS.frz (r : RS Z.K F ρ S H) {n : Nat} {p : Addr} {l : List D} (hp : ρ.l[n]? = some p) (hS : S[n]? = some (.lst l)) :
    ∃ vs, F p = none ∧ H p = some (.lst vs) ∧ DpAll Z.K F vs l ∧ RS Z.K (upd F p (.lst vs)) ρ (S.set n (.froz l)) H := by
  obtain ⟨hF, vs, hH, k⟩ := r.ob n p _ hp hS
  have hn : n < S.length := (List.getElem?_eq_some_iff.mp hS).1
  refine ⟨vs, hF, hH, k, fun b u e => ?_, by rw [List.length_set]; exact r.len, r.nd, fun m q u h1 h2 => ?_, fun q u e => ?_⟩
  · by_cases hb : b = p
    · subst hb
      rw [upd_same] at e
      cases e
      exact hH
    · rw [upd_ne hb] at e
      exact r.sub b u e
  · by_cases hm : n = m
    · subst hm
      rw [hp] at h1
      cases h1
      rw [List.getElem?_set_self hn] at h2
      cases h2
      exact ⟨vs, upd_same, dpA_mono (same_upd hF) _ _ k⟩
    · rw [List.getElem?_set_ne hm] at h2
      have hq : q ≠ p := nd_ne r.nd hp h1 hm
      refine (r.ob m q u h1 h2).monoF (same_upd hF) (fun l e => ?_) fun w e => e
      subst e
      rw [upd_ne hq]
      exact (r.ob m q _ h1 h2).1
  · obtain ⟨h1, h2, h3⟩ := r.pin q u e
    exact ⟨h1, by rw [upd_ne (fun z : q = p => h3 (by rw [z]; exact List.mem_of_getElem? hp))]; exact h2, h3⟩
/-! pins -/
theorem RS.pinUp (r : RS Z.K F ρ S H) {p : Addr} {o : HO} (h : H p = some o) (hn : F p = none) (hp : p ∉ ρ.l) : RS Z.K F ⟨ρ.l, upd ρ.G p o⟩ S H := by
  refine ⟨r.sub, r.len, r.nd, r.ob, fun q u e => ?_⟩
  have e : upd ρ.G p o q = some u := e
  by_cases hq : q = p
  · subst hq
    rw [upd_same] at e
    cases e
    exact ⟨h, hn, hp⟩
  · rw [upd_ne hq] at e
    exact r.pin q u e
theorem RS.unpin {G : Hp} (r : RS Z.K F ρ S H) (h : ∀ q o, G q = some o → ρ.G q = some o) : RS Z.K F ⟨ρ.l, G⟩ S H := ⟨r.sub, r.len, r.nd, r.ob, fun q u e => r.pin q u (h q u e)⟩
theorem RS.pinSet (r : RS Z.K F ρ S H) {p : Addr} {o : HO} (e : ρ.G p = some o) (o' : HO) : RS Z.K F ⟨ρ.l, upd ρ.G p o'⟩ S (upd H p o') := by
  obtain ⟨h1, h2, h3⟩ := r.pin p o e
  refine ⟨fun b u e => ?_, r.len, r.nd, fun n q u h1 k2 => (r.ob n q u h1 k2).monoF (Same.refl F) (fun l e => ?_) fun w e => ?_, fun q u e => ?_⟩
  · rw [upd_ne (ne_of_none e h2)]
    exact r.sub b u e
  · subst e
    exact (r.ob n q _ h1 k2).1
  · rw [upd_ne (fun z : q = p => h3 (by rw [← z]; exact List.mem_of_getElem? h1))]
    exact e
  · have e : upd ρ.G p o' q = some u := e
    by_cases hq : q = p
    · subst hq
      rw [upd_same] at e ⊢
      cases e
      exact ⟨rfl, h2, h3⟩
    · rw [upd_ne hq] at e ⊢
      exact r.pin q u e
end rel

/-! ### results -/
def AV.fz : AV → AV
  | .own l => .d (.list l)
  | a => a
def ER.bind (r : ER) (f : AV → AS → ER) : ER := match r with
  | .ok a S => f a.fz S
  | .err x S => .err x S
  | .stuck => .stuck
def liftV : VR → ER
  | some (a, S) => .ok a S
  | none => .stuck
section post
variable {Z : Zp} {W : WX} {σ : L2.St} {F F1 H : Hp} {ρ ρ1 : Rh} {S : AS} {Q Q' : VK} {r : ER} {a : AV} {v : V}
theorem fzW (rs : RS Z.K F ρ S H) (h : RepW Z F ρ H a v) : ∃ F', Same F F' ∧ RS Z.K F' ρ S H ∧ RepV Z F' ρ a.fz v := by
  cases a with
  | d x => exact ⟨F, Same.refl F, rs, h⟩
  | ref n => exact ⟨F, Same.refl F, rs, h⟩
  | exc x => exact ⟨F, Same.refl F, rs, h⟩
  | own l =>
    obtain ⟨p, vs, rfl, hp, hn, hG, hH, k⟩ := h
    refine ⟨upd F p (.lst vs), same_upd hn, rs.know hH hn hp hG, ?_⟩
    exact Dp.lst (SqL.of upd_same) (dpA_mono (same_upd hn) _ _ k)
def Ewish (Z : Zp) (W : WX) (σ : L2.St) (F : Hp) (ρ : Rh) (x : Exc) (S' : AS) : Prop := ∀ F' ρ' H' cls d, Tr F ρ F' ρ' → RS Z.K F' ρ' S' H' → RepX Z F' x cls d → W cls d σ H'
def EPost (Z : Zp) (W : WX) (σ : L2.St) (F : Hp) (ρ : Rh) (Q : VK) : ER → Prop
  | .ok a S' => ∀ F' ρ' H' v, Tr F ρ F' ρ' → RS Z.K F' ρ' S' H' → RepW Z F' ρ' H' a v → Q v H'
  | .err x S' => Ewish Z W σ F ρ x S'
  | .stuck => False
def VPost (Z : Zp) (F : Hp) (ρ : Rh) (Q : VK) : VR → Prop
  | some (a, S') => ∀ F' ρ' H' v, Tr F ρ F' ρ' → RS Z.K F' ρ' S' H' → RepW Z F' ρ' H' a v → Q v H'
  | none => False
theorem VPost.of {o : VR} (h : EPost Z W σ F ρ Q (liftV o)) : VPost Z F ρ Q o := by
  cases o with
  | none => exact h
  | some p => exact h
theorem EPost.tr (t : Tr F ρ F1 ρ1) (h : EPost Z W σ F ρ Q r) : EPost Z W σ F1 ρ1 Q r := by
  cases r with
  | ok a S => exact fun F' ρ' H' v t' => h F' ρ' H' v (t.trans t')
  | err x S => exact fun F' ρ' H' cls d t' => h F' ρ' H' cls d (t.trans t')
  | stuck => exact h
theorem EPost.imp (h : EPost Z W σ F ρ Q r) (q : ∀ v H, Q v H → Q' v H) : EPost Z W σ F ρ Q' r := by
  cases r with
  | ok a S => exact fun F' ρ' H' v t' rs rw => q _ _ (h F' ρ' H' v t' rs rw)
  | err x S => exact h
  | stuck => exact h
theorem EPost.bind {f : AV → AS → ER} (h : EPost Z W σ F ρ Q (r.bind f)) :
    EPost Z W σ F ρ (fun v H1 => ∃ F1 ρ1 S1 a, Tr F ρ F1 ρ1 ∧ RS Z.K F1 ρ1 S1 H1 ∧ RepV Z F1 ρ1 a v ∧ EPost Z W σ F1 ρ1 Q (f a S1)) r := by
  cases r with
  | ok a S =>
    intro F' ρ' H' v t rs rw
    obtain ⟨F2, e, rs2, rv⟩ := fzW rs rw
    have t2 : Tr F ρ F2 ρ' := t.trans (Tr.sam e)
    have h' : EPost Z W σ F ρ Q (f a.fz S) := h
    exact ⟨F2, ρ', S, a.fz, t2, rs2, rv, h'.tr t2⟩
  | err x S => exact h
  | stuck => exact h
theorem VPost.here {S' : AS} (h : VPost Z F ρ Q (some (a, S'))) (rs : RS Z.K F ρ S' H) (rv : RepW Z F ρ H a v) : Q v H := h F ρ H v Tr.refl rs rv
/-- a result that is plain data over the heap as it stands -/
theorem VPost.dat {S' : AS} {x : D} (h : VPost Z F ρ Q (some (.d x, S'))) (rs : RS Z.K F ρ S' H) (k : Dp Z.K F v x) : Q v H := h F ρ H v Tr.refl rs k
/-- a new tuple -/
theorem VPost.tup {S' : AS} {l : List D} {vs : List V} (h : VPost Z F ρ Q (some (.d (.tuple l), S'))) (rs : RS Z.K F ρ S' H) (k : DpAll Z.K F vs l) (p : Addr) (hp : H p = none) : Q (.ref p) (upd H p (.tup vs)) :=
  h _ ρ _ _ (Tr.sam (same_upd (rs.fresh hp))) (rs.newF hp) (show Dp _ _ _ _ from .tup (SqT.of upd_same) (dpA_mono (same_upd (rs.fresh hp)) _ _ k))
/-- a new list -/
theorem VPost.own {S' : AS} {l : List D} {vs : List V} (h : VPost Z F ρ Q (some (.own l, S'))) (rs : RS Z.K F ρ S' H) (k : DpAll Z.K F vs l) (p : Addr) (hp : H p = none) : Q (.ref p) (upd H p (.lst vs)) :=
  h F ρ _ _ Tr.refl (rs.newH hp) ⟨p, vs, rfl, rs.notin hp, rs.fresh hp, rs.gfree hp, upd_same, k⟩
end post

/-! ### the readings -/
def tE (Z : Zp) (W : WX) (c : Dn) : TE := fun σ H Q => ∃ F ρ S aσ, RS Z.K F ρ S H ∧ RSt Z F ρ aσ σ ∧ EPost Z W σ F ρ Q (c aσ S)
/-- tests: the result is a bool -/
def tB2 (Q : Bool → Hp → Prop) : VK := fun v H => ∃ b, v = .bl b ∧ Q b H
def tT (Z : Zp) (W : WX) (c : Dn) : TT := fun σ H Q => tE Z W c σ H (tB2 Q)
/-- argument lists -/
inductive LR where
  | ok (as : List AV) (S : AS) | err (x : Exc) (S : AS) | stuck
abbrev Ln := ASt → AS → LR
def LR.bind (r : LR) (f : List AV → AS → ER) : ER := match r with
  | .ok as S => f as S
  | .err x S => .err x S
  | .stuck => .stuck
def RepVs (Z : Zp) (F : Hp) (ρ : Rh) : List AV → List V → Prop := Paired (RepV Z F ρ)
theorem RepVs.mono {Z : Zp} {F F' : Hp} {ρ ρ' : Rh} (t : Tr F ρ F' ρ') : ∀ {as : List AV} {vs : List V}, RepVs Z F ρ as vs → RepVs Z F' ρ' as vs
  | _, _, .nil => .nil
  | _, _, .cons r k => .cons (r.mono t) (RepVs.mono t k)
def LPost (Z : Zp) (W : WX) (σ : L2.St) (F : Hp) (ρ : Rh) (Q : List V → Hp → Prop) : LR → Prop
  | .ok as S' => ∀ F' ρ' H' vs, Tr F ρ F' ρ' → RS Z.K F' ρ' S' H' → RepVs Z F' ρ' as vs → Q vs H'
  | .err x S' => Ewish Z W σ F ρ x S'
  | .stuck => False
def tL (Z : Zp) (W : WX) (c : Ln) : TA := fun σ H Q => ∃ F ρ S aσ, RS Z.K F ρ S H ∧ RSt Z F ρ aσ σ ∧ LPost Z W σ F ρ Q (c aσ S)
theorem LPost.tr {Z : Zp} {W : WX} {σ : L2.St} {F F1 : Hp} {ρ ρ1 : Rh} {Q : List V → Hp → Prop} {r : LR} (t : Tr F ρ F1 ρ1) (h : LPost Z W σ F ρ Q r) : LPost Z W σ F1 ρ1 Q r := by
  cases r with
  | ok a S => exact fun F' ρ' H' v t' => h F' ρ' H' v (t.trans t')
  | err x S => exact fun F' ρ' H' cls d t' => h F' ρ' H' cls d (t.trans t')
  | stuck => exact h
theorem LPost.bind {Z : Zp} {W : WX} {σ : L2.St} {F : Hp} {ρ : Rh} {Q : VK} {r : LR} {f : List AV → AS → ER} (h : EPost Z W σ F ρ Q (r.bind f)) :
    LPost Z W σ F ρ (fun vs H1 => ∃ F1 ρ1 S1 as, Tr F ρ F1 ρ1 ∧ RS Z.K F1 ρ1 S1 H1 ∧ RepVs Z F1 ρ1 as vs ∧ EPost Z W σ F1 ρ1 Q (f as S1)) r := by
  cases r with
  | ok as S =>
    intro F' ρ' H' vs t rs rv
    have h' : EPost Z W σ F ρ Q (f as S) := h
    exact ⟨F', ρ', S, as, t, rs, rv, h'.tr t⟩
  | err x S => exact h
  | stuck => exact h
end Den
/-! Den2: the operations on values, and that the machine's own do the same. -/
namespace Den
open PySem PySem.Spec PyProof.Rows L2

abbrev zp (X : Cx) (ex : Option (Addr × Value × Option Addr)) : Zp := ⟨X.K, X.mg, ex⟩
def cap : Nat := 1000000
theorem cap_le : cap ≤ sizeLine := by rw [sizeLine_eq]; decide
theorem cap_lt : cap < sizeLine := by rw [sizeLine_eq]; decide

/-! ### reading a list or a tuple -/
def rdSeq (S : AS) : AV → Option (Bool × List D)
  | .d (.list l) => some (true, l)
  | .d (.tuple l) => some (false, l)
  | .ref n => match S[n]? with
    | some (.lst l) => some (true, l)
    | some (.froz l) => some (true, l)
    | none => none
  | _ => none
/-- the value as data -/
def toD (S : AS) : AV → Option D
  | .d x => some x
  | .ref n => match S[n]? with
    | some (.lst l) => some (.list l)
    | some (.froz l) => some (.list l)
    | none => none
  | _ => none
section
variable {Z : Zp} {F H : Hp} {ρ : Rh} {S : AS} {a : AV} {v : V}
theorem ref_ob (rs : RS Z.K F ρ S H) {n : Nat} (rv : RepV Z F ρ (.ref n) v) {o : AO} (h : S[n]? = some o) : ∃ p, v = .ref p ∧ ρ.l[n]? = some p ∧ ObK Z.K F H p o := by
  obtain ⟨p, h1, h2⟩ := rv
  exact ⟨p, h2, h1, rs.ob n p o h1 h⟩
/-- the items stand for data that is known for good -/
theorem rdSeq_F (rs : RS Z.K F ρ S H) (rv : RepV Z F ρ a v) {b : Bool} {l : List D} (h : rdSeq S a = some (b, l)) :
    ∃ p vs, v = .ref p ∧ DpAll Z.K F vs l ∧ (b = true → SqL Z.K H p vs) ∧ (b = false → SqT Z.K H p vs) := by
  cases a with
  | d x =>
    cases x with
    | list m =>
      have rv : Dp Z.K F v (.list m) := rv
      cases Option.some.inj h
      cases rv with
      | lst h1 h2 => exact ⟨_, _, rfl, h2, fun _ => rs.sub.seq h1, (fun z => nomatch z)⟩
    | tuple m =>
      have rv : Dp Z.K F v (.tuple m) := rv
      cases Option.some.inj h
      cases rv with
      | tup h1 h2 => exact ⟨_, _, rfl, h2, (fun z => nomatch z), fun _ => Same.seqT rs.sub h1⟩
    | _ => cases h
  | ref n =>
    cases e : S[n]? with
    | none => simp only [rdSeq, e] at h; cases h
    | some o =>
      obtain ⟨p, rfl, _, k⟩ := ref_ob rs rv e
      cases o with
      | lst m =>
        simp only [rdSeq, e] at h
        cases Option.some.inj h
        obtain ⟨_, vs, h2, h3⟩ := k
        exact ⟨p, vs, rfl, h3, fun _ => SqL.of h2, fun z => nomatch z⟩
      | froz m =>
        simp only [rdSeq, e] at h
        cases Option.some.inj h
        obtain ⟨vs, h2, h3⟩ := k
        exact ⟨p, vs, rfl, h3, fun _ => SqL.of (rs.sub _ _ h2), fun z => nomatch z⟩
  | own m => cases h
  | exc x => cases h
theorem toD_ok (rs : RS Z.K F ρ S H) (rv : RepV Z F ρ a v) {x : D} (h : toD S a = some x) : Dp Z.K H v x := by
  cases a with
  | d y =>
    cases Option.some.inj h
    exact dp_mono rs.sub _ _ rv
  | ref n =>
    cases e : S[n]? with
    | none => simp only [toD, e] at h; cases h
    | some o =>
      obtain ⟨p, rfl, _, k⟩ := ref_ob rs rv e
      cases o with
      | lst m =>
        simp only [toD, e] at h
        cases Option.some.inj h
        obtain ⟨_, vs, h2, h3⟩ := k
        exact .lst (SqL.of h2) (dpA_mono rs.sub _ _ h3)
      | froz m =>
        simp only [toD, e] at h
        cases Option.some.inj h
        obtain ⟨vs, h2, h3⟩ := k
        exact .lst (SqL.of (rs.sub _ _ h2)) (dpA_mono rs.sub _ _ h3)
  | own m => cases h
  | exc x => cases h
end

/-! ### operators -/
def catV (S : AS) : Option (Bool × List D) → Option (Bool × List D) → VR
  | some (true, l), some (true, m) => if l.length + m.length ≤ cap then some (.own (l ++ m), S) else none
  | some (false, l), some (false, m) => if l.length + m.length ≤ cap then some (.d (.tuple (l ++ m)), S) else none
  | _, _ => none
def ints2 : AV → AV → Option (Int × Int)
  | .d (.int i), .d (.int j) => some (i, j)
  | _, _ => none
def bAdd (a b : AV) (S : AS) : VR := match a, b with
  | .d (.int i), .d (.int j) => some (.d (.int (i + j)), S)
  | .d (.str i), .d (.str j) => if i.length + j.length ≤ cap then some (.d (.str (i ++ j)), S) else none
  | a, b => catV S (rdSeq S a) (rdSeq S b)
def bSub (a b : AV) (S : AS) : VR := match ints2 a b with
  | some (i, j) => some (.d (.int (i - j)), S)
  | none => none
def bMul (a b : AV) (S : AS) : VR := match ints2 a b with
  | some (i, j) => if i.natAbs.log2 + j.natAbs.log2 < 100000000 then some (.d (.int (i * j)), S) else none
  | none => none
def bFdiv (a b : AV) (S : AS) : VR := match ints2 a b with
  | some (i, j) => if 0 < j ∧ j.natAbs.log2 < 9000 then some (.d (.int (i / j)), S) else none
  | none => none
def bMod (a b : AV) (S : AS) : VR := match ints2 a b with
  | some (i, j) => if 0 < j then some (.d (.int (i % j)), S) else none
  | none => none
def bPow (a b : AV) (S : AS) : VR := match ints2 a b with
  | some (i, j) => if 0 ≤ j ∧ j ≤ 1000 ∧ i.natAbs < 18446744073709551616 then some (.d (.int (i ^ j.toNat)), S) else none
  | none => none
def bop : Operator → Option (AV → AV → AS → VR)
  | .Add => some bAdd | .Sub => some bSub | .Mult => some bMul | .FloorDiv => some bFdiv | .Mod => some bMod | .Pow => some bPow
  | _ => none

/-- a two-place operation, by what stands for its values -/
def rB (Z : Zp) (g : AV → AV → AS → VR) : R2 := fun x y H Q => ∃ F ρ S a b, RS Z.K F ρ S H ∧ RepV Z F ρ a x ∧ RepV Z F ρ b y ∧ VPost Z F ρ Q (g a b S)

theorem dint {K : PySem.W.Frag} {F : Hp} {v : V} {i : Int} (h : Dp K F v (.int i)) : v = .int i := by cases h; rfl
theorem dstr {K : PySem.W.Frag} {F : Hp} {v : V} {i : Str} (h : Dp K F v (.str i)) : v = .str i := by cases h; rfl
theorem dbool {K : PySem.W.Frag} {F : Hp} {v : V} {i : Bool} (h : Dp K F v (.bool i)) : v = .bl i := by cases h; rfl
theorem dnone {K : PySem.W.Frag} {F : Hp} {v : V} (h : Dp K F v .none) : v = .non := by cases h; rfl

section
variable {X : Cx} {ex : Option (Addr × Value × Option Addr)}
/-- lists that are read, put one behind the other -/
def rCatL (K : PySem.W.Frag) : R2 := fun x y H Q => ∃ a b xs ys, x = .ref a ∧ y = .ref b ∧ SqL K H a xs ∧ SqL K H b ys ∧ xs.length + ys.length ≤ sizeLine ∧ ∀ p, H p = none → Q (.ref p) (upd H p (.lst (xs ++ ys)))
theorem op_catL : OpR X (binaryOp .Add) (rCatL X.K) := by
  intro pins s σ H x y v u Q I rx ry h
  obtain ⟨a, b, xs, ys, rfl, rfl, ha, hb, hz, q⟩ := h
  cases rx
  cases ry
  obtain ⟨its, r, ⟨⟨c1, d1, t1, s1⟩, n1, e1, k1, _, m1⟩, _⟩ := I.list ha
  obtain ⟨its2, r2, ⟨⟨c2, d2, t2, s2⟩, n2, e2, k2, _, m2⟩, _⟩ := I.list hb
  simp only at k1 m1 k2 m2
  subst k1 m1 k2 m2
  have hl := r.length
  have hl2 := r2.length
  refine concat_meets ⟨_, e1, rfl⟩ ⟨_, e2, rfl⟩ noFill_list_add seq_list_add PySem.F.slot_list_add PySem.F.entry_list_add (PySem.F.args_list_add_2 _ _)
    (list_addW a b its.toArray its2.toArray n1 n2 d1 d2 s1 s2 (by rw [List.size_toArray, List.size_toArray]; omega)) ⟨e1, e2, ?_⟩
  have ea : its.toArray ++ its2.toArray = (its ++ its2).toArray := by simp
  rw [ea]
  have hn : H s.heap.objs.size = none := I.hok.fresh (Nat.le_refl _)
  refine ⟨.ref s.heap.objs.size, _, I.laid (o := .lst (xs ++ ys)) (fun b o e => Heap.get?_push_of_some _ e) (Nat.le_refl _) ⟨by rw [List.length_append]; omega, _, 0, r.append r2, ?_⟩, rfl, q _ hn⟩
  exact Heap.get?_push_size s.heap rfl

theorem rdSeq_tup {S : AS} {a : AV} {l : List D} (h : rdSeq S a = some (false, l)) : a = .d (.tuple l) := by
  cases a with
  | d x =>
    cases x with
    | tuple m => cases Option.some.inj h; rfl
    | list m => cases Option.some.inj h
    | _ => cases h
  | ref n =>
    cases e : S[n]? with
    | none => simp only [rdSeq, e] at h; cases h
    | some o => cases o <;> (simp only [rdSeq, e] at h; cases Option.some.inj h)
  | own m => cases h
  | exc x => cases h
theorem catV_ok {pins : List (Addr × Obj)} {s : Shared} {σ : L2.St} {F H : Hp} {ρ : Rh} {S : AS} {a b : AV} {x y : V} {v u : Value} {Q : VK} (I : Inv X pins σ H s) (rx : RelV x v) (ry : RelV y u)
    (rs : RS X.K F ρ S H) (ra : RepV (zp X ex) F ρ a x) (rb : RepV (zp X ex) F ρ b y) (h : VPost (zp X ex) F ρ Q (catV S (rdSeq S a) (rdSeq S b))) : wpAny (model X.prog X.w) X.A (binaryOp .Add v u) (EP X pins σ Q) X.xe s := by
  cases e1 : rdSeq S a with
  | none => rw [e1] at h; exact h.elim
  | some p1 =>
    obtain ⟨b1, l⟩ := p1
    cases e2 : rdSeq S b with
    | none =>
      rw [e1, e2] at h
      cases b1 <;> exact h.elim
    | some p2 =>
      obtain ⟨b2, m⟩ := p2
      rw [e1, e2] at h
      obtain ⟨p, vs, rfl, k1, L1, T1⟩ := rdSeq_F (Z := zp X ex) rs ra e1
      obtain ⟨q, ws, rfl, k2, L2', T2⟩ := rdSeq_F (Z := zp X ex) rs rb e2
      have n1 := dpA_len k1
      have n2 := dpA_len k2
      have hc := cap_le
      cases b1 <;> cases b2
      · have h2 : VPost (zp X ex) F ρ Q (if l.length + m.length ≤ cap then some (.d (.tuple (l ++ m)), S) else none) := h
        by_cases z : l.length + m.length ≤ cap
        · rw [if_pos z] at h2
          have ea := rdSeq_tup e1
          have eb := rdSeq_tup e2
          subst ea eb
          refine op_catA pins s σ H _ _ v u Q I rx ry ⟨p, q, vs, ws, rfl, rfl, T1 rfl, T2 rfl, by omega, fun e => ?_, fun _ e => ?_, fun _ _ r hr => h2.tup rs (dpA_app k1 k2) r hr⟩
          · subst e
            cases k1
            exact h2.dat rs rb
          · subst e
            cases k2
            rw [List.append_nil] at h2
            exact h2.dat rs ra
        · rw [if_neg z] at h2
          exact h2.elim
      · exact h.elim
      · exact h.elim
      · have h2 : VPost (zp X ex) F ρ Q (if l.length + m.length ≤ cap then some (.own (l ++ m), S) else none) := h
        by_cases z : l.length + m.length ≤ cap
        · rw [if_pos z] at h2
          exact op_catL pins s σ H _ _ v u Q I rx ry ⟨p, q, vs, ws, rfl, rfl, L1 rfl, L2' rfl, by omega, fun r hr => h2.own rs (dpA_app k1 k2) r hr⟩
        · rw [if_neg z] at h2
          exact h2.elim
theorem op_bAdd : OpR X (binaryOp .Add) (rB (zp X ex) bAdd) := by
  intro pins s σ H x y v u Q I rx ry h
  obtain ⟨F, ρ, S, a, b, rs, ra, rb, h⟩ := h
  have gen := fun h => catV_ok (Q := Q) I rx ry rs ra rb h
  cases a with
  | d x1 =>
    cases x1 with
    | int i =>
      cases b with
      | d y1 =>
        cases y1 with
        | int j =>
          cases dint ra
          cases dint rb
          exact op_add pins s σ H _ _ v u Q I rx ry ⟨i, j, rfl, rfl, VPost.dat h rs (.int _)⟩
        | _ => exact gen h
      | _ => exact gen h
    | str i =>
      cases b with
      | d y1 =>
        cases y1 with
        | str j =>
          cases dstr ra
          cases dstr rb
          have h2 : VPost (zp X ex) F ρ Q (if i.length + j.length ≤ cap then some (.d (.str (i ++ j)), S) else none) := h
          by_cases z : i.length + j.length ≤ cap
          · rw [if_pos z] at h2
            exact op_add_str pins s σ H _ _ v u Q I rx ry ⟨i, j, rfl, rfl, Nat.le_trans z cap_le, VPost.dat h2 rs (.str _)⟩
          · rw [if_neg z] at h2
            exact h2.elim
        | _ => exact gen h
      | _ => exact gen h
    | _ => cases b <;> first | exact gen h | (rename_i y1; cases y1 <;> exact gen h)
  | _ => cases b <;> first | exact gen h | (rename_i y1; cases y1 <;> exact gen h)
theorem ints2_ok {a b : AV} {i j : Int} (h : ints2 a b = some (i, j)) : a = .d (.int i) ∧ b = .d (.int j) := by
  cases a with
  | d x =>
    cases x with
    | int i' =>
      cases b with
      | d y =>
        cases y with
        | int j' => cases Option.some.inj h; exact ⟨rfl, rfl⟩
        | _ => cases h
      | _ => cases h
    | _ => cases b <;> first | cases h | (rename_i y; cases y <;> cases h)
  | _ => cases b <;> first | cases h | (rename_i y; cases y <;> cases h)
/-- two ints alone -/
theorem op_ints {f : Value → Value → Sem Value} {g : AV → AV → AS → VR} {r : R2} (hr : OpR X f r) (hn : ∀ a b S, ints2 a b = none → g a b S = none)
    (hi : ∀ (i j : Int) S F ρ H (Q : VK), RS X.K F ρ S H → VPost (zp X ex) F ρ Q (g (.d (.int i)) (.d (.int j)) S) → r (.int i) (.int j) H Q) : OpR X f (rB (zp X ex) g) := by
  intro pins s σ H x y v u Q I rx ry h
  obtain ⟨F, ρ, S, a, b, rs, ra, rb, h⟩ := h
  cases e : ints2 a b with
  | none =>
    rw [hn a b S e] at h
    exact h.elim
  | some p =>
    obtain ⟨i, j⟩ := p
    obtain ⟨rfl, rfl⟩ := ints2_ok e
    cases dint ra
    cases dint rb
    exact hr pins s σ H _ _ v u Q I rx ry (hi i j S F ρ H Q rs h)
theorem op_bSub : OpR X (binaryOp .Sub) (rB (zp X ex) bSub) :=
  op_ints op_sub (fun a b S h => by simp only [bSub, h]) fun i j S F ρ H Q rs h => ⟨i, j, rfl, rfl, VPost.dat h rs (.int _)⟩
def CMulX (i j : Int) : Prop := i.natAbs.log2 + j.natAbs.log2 < 100000000
theorem mulX_ok {i j : Int} (h : CMulX i j) : IntMulOk i j := by
  have bd : ∀ y : Int, Builtin.Int.intBits y ≤ y.natAbs.log2 + 1 := fun y => by
    unfold Builtin.Int.intBits
    split <;> omega
  have b1 := bd i
  have b2 := bd j
  have b3 : i.natAbs.log2 + j.natAbs.log2 < 100000000 := h
  have line : bitsLine = 134217728 := by decide
  intro big
  rw [Bool.and_eq_true] at big
  have big2 := big.2
  unfold Builtin.Int.intTooBig at big2
  have big3 := of_decide_eq_true big2
  rw [line] at big3
  omega
theorem op_mulX : OpR X (binaryOp .Mult) (rI CMulX fun i j => .int (i * j)) := opI fun _ _ _ _ _ _ _ hc q => mul_int q (mulX_ok hc)
theorem op_bMul : OpR X (binaryOp .Mult) (rB (zp X ex) bMul) :=
  op_ints op_mulX (fun a b S h => by simp only [bMul, h]) fun i j S F ρ H Q rs h => by
    have h2 : VPost (zp X ex) F ρ Q (if i.natAbs.log2 + j.natAbs.log2 < 100000000 then some (.d (.int (i * j)), S) else none) := h
    by_cases z : i.natAbs.log2 + j.natAbs.log2 < 100000000
    · rw [if_pos z] at h2
      exact ⟨i, j, rfl, rfl, z, VPost.dat h2 rs (.int _)⟩
    · rw [if_neg z] at h2
      exact h2.elim
theorem op_bFdiv : OpR X (binaryOp .FloorDiv) (rB (zp X ex) bFdiv) :=
  op_ints op_fdivW (fun a b S h => by simp only [bFdiv, h]) fun i j S F ρ H Q rs h => by
    have h2 : VPost (zp X ex) F ρ Q (if 0 < j ∧ j.natAbs.log2 < 9000 then some (.d (.int (i / j)), S) else none) := h
    by_cases z : 0 < j ∧ j.natAbs.log2 < 9000
    · rw [if_pos z] at h2
      exact ⟨i, j, rfl, rfl, z, VPost.dat h2 rs (.int _)⟩
    · rw [if_neg z] at h2
      exact h2.elim
theorem op_bMod : OpR X (binaryOp .Mod) (rB (zp X ex) bMod) :=
  op_ints op_mod (fun a b S h => by simp only [bMod, h]) fun i j S F ρ H Q rs h => by
    have h2 : VPost (zp X ex) F ρ Q (if 0 < j then some (.d (.int (i % j)), S) else none) := h
    by_cases z : 0 < j
    · rw [if_pos z] at h2
      exact ⟨i, j, rfl, rfl, z, VPost.dat h2 rs (.int _)⟩
    · rw [if_neg z] at h2
      exact h2.elim
theorem op_bPow : OpR X (binaryOp .Pow) (rB (zp X ex) bPow) :=
  op_ints op_pow (fun a b S h => by simp only [bPow, h]) fun i j S F ρ H Q rs h => by
    have h2 : VPost (zp X ex) F ρ Q (if 0 ≤ j ∧ j ≤ 1000 ∧ i.natAbs < 18446744073709551616 then some (.d (.int (i ^ j.toNat)), S) else none) := h
    by_cases z : 0 ≤ j ∧ j ≤ 1000 ∧ i.natAbs < 18446744073709551616
    · rw [if_pos z] at h2
      exact ⟨i, j, rfl, rfl, ⟨z.1, by omega, z.2.2⟩, VPost.dat h2 rs (.int _)⟩
    · rw [if_neg z] at h2
      exact h2.elim
theorem op_bop {op : Operator} {g : AV → AV → AS → VR} (h : bop op = some g) : OpR X (binaryOp op) (rB (zp X ex) g) := by
  cases op <;> first
    | (cases Option.some.inj h; first | exact op_bAdd | exact op_bSub | exact op_bMul | exact op_bFdiv | exact op_bMod | exact op_bPow)
    | cases h

/-! ### comparisons -/
def flatD : D → Bool
  | .none => true | .bool _ => true | .int _ => true | .str _ => true | _ => false
def eqD (x y : Option D) : Option Bool := match x, y with
  | some d, some e => if SeqAt.shaped d && SeqAt.shaped e then some (PyData.eqv d e) else none
  | _, _ => none
def strs2 : AV → AV → Option (Str × Str)
  | .d (.str i), .d (.str j) => some (i, j)
  | _, _ => none
theorem strs2_ok {a b : AV} {i j : Str} (h : strs2 a b = some (i, j)) : a = .d (.str i) ∧ b = .d (.str j) := by
  unfold strs2 at h
  split at h
  · cases Option.some.inj h
    exact ⟨rfl, rfl⟩
  · cases h
def cEq0 (a b : AV) (S : AS) : VR := match eqD (toD S a) (toD S b) with
  | some k => some (.d (.bool k), S)
  | none => none
def cEq (a b : AV) (S : AS) : VR := match strs2 a b with
  | some (i, j) => some (.d (.bool (decide (i = j))), S)
  | none => cEq0 a b S
def cNe0 (a b : AV) (S : AS) : VR := match eqD (toD S a) (toD S b) with
  | some k => some (.d (.bool (!k)), S)
  | none => none
def cNe (a b : AV) (S : AS) : VR := match strs2 a b with
  | some (i, j) => some (.d (.bool (!decide (i = j))), S)
  | none => cNe0 a b S
def cLt (a b : AV) (S : AS) : VR := match ints2 a b with
  | some (i, j) => some (.d (.bool (decide (i < j))), S)
  | none => none
def cLe (a b : AV) (S : AS) : VR := match ints2 a b with
  | some (i, j) => some (.d (.bool (decide (i ≤ j))), S)
  | none => none
def cGt (a b : AV) (S : AS) : VR := match ints2 a b with
  | some (i, j) => some (.d (.bool (decide (j < i))), S)
  | none => none
def cGe (a b : AV) (S : AS) : VR := match ints2 a b with
  | some (i, j) => some (.d (.bool (decide (j ≤ i))), S)
  | none => none
def inD (S : AS) (a b : AV) : Option Bool := match a, rdSeq S b with
  | .d x, some (_, l) => if flatD x && l.all flatD then some (l.any fun y => PyData.eqv y x) else none
  | _, _ => none
def cIn (a b : AV) (S : AS) : VR := match inD S a b with
  | some k => some (.d (.bool k), S)
  | none => none
def cNotIn (a b : AV) (S : AS) : VR := match inD S a b with
  | some k => some (.d (.bool (!k)), S)
  | none => none
def isNoneAV : AV → Bool
  | .d .none => true
  | _ => false
def isV (a b : AV) : Option Bool := match a, b with
  | .d (.bool i), .d (.bool j) => some (decide (i = j))
  | a, .d .none => some (isNoneAV a)
  | _, _ => none
def cIs (a b : AV) (S : AS) : VR := match isV a b with
  | some k => some (.d (.bool k), S)
  | none => none
def cIsNot (a b : AV) (S : AS) : VR := match isV a b with
  | some k => some (.d (.bool (!k)), S)
  | none => none
def cop : CmpOp → AV → AV → AS → VR
  | .Eq => cEq | .NotEq => cNe | .Lt => cLt | .LtE => cLe | .Gt => cGt | .GtE => cGe | .In => cIn | .NotIn => cNotIn | .Is => cIs | .IsNot => cIsNot
theorem op_cEq (hu : X.A.units + 64 < cLine) : OpR X (compareOp .Eq) (rB (zp X ex) cEq) := by
  intro pins s σ H x y v u Q I rx ry h
  obtain ⟨F, ρ, S, a, b, rs, ra, rb, h⟩ := h
  unfold cEq at h
  split at h
  · rename_i i j es
    obtain ⟨rfl, rfl⟩ := strs2_ok es
    cases dstr ra
    cases dstr rb
    refine op_eq pins s σ H _ _ v u Q I rx ry ⟨rfl, ?_⟩
    have e : decide (V.str i = V.str j) = decide (i = j) := by
      by_cases c : i = j
      · rw [c]; simp
      · rw [decide_eq_false c]
        exact decide_eq_false fun z => c (V.str.inj z)
    rw [e]
    exact VPost.dat h rs (.bl _)
  unfold cEq0 at h
  cases e1 : toD S a with
  | none => rw [e1] at h; exact h.elim
  | some d =>
    cases e2 : toD S b with
    | none => rw [e1, e2] at h; exact h.elim
    | some e =>
      rw [e1, e2] at h
      by_cases z : (SeqAt.shaped d && SeqAt.shaped e) = true
      · have ee : eqD (some d) (some e) = some (PyData.eqv d e) := if_pos z
        rw [ee] at h
        rw [Bool.and_eq_true] at z
        exact op_eqD hu pins s σ H x y v u Q I rx ry ⟨d, e, toD_ok (Z := zp X ex) rs ra e1, toD_ok (Z := zp X ex) rs rb e2, z.1, z.2, VPost.dat h rs (.bl _)⟩
      · have ee : eqD (some d) (some e) = none := if_neg z
        rw [ee] at h
        exact h.elim
theorem op_cNe (hu : X.A.units + 64 < cLine) : OpR X (compareOp .NotEq) (rB (zp X ex) cNe) := by
  intro pins s σ H x y v u Q I rx ry h
  obtain ⟨F, ρ, S, a, b, rs, ra, rb, h⟩ := h
  unfold cNe at h
  split at h
  · rename_i i j es
    obtain ⟨rfl, rfl⟩ := strs2_ok es
    cases dstr ra
    cases dstr rb
    refine op_ne pins s σ H _ _ v u Q I rx ry ⟨rfl, ?_⟩
    have e : decide (V.str i = V.str j) = decide (i = j) := by
      by_cases c : i = j
      · rw [c]; simp
      · rw [decide_eq_false c]
        exact decide_eq_false fun z => c (V.str.inj z)
    rw [e]
    exact VPost.dat h rs (.bl _)
  unfold cNe0 at h
  cases e1 : toD S a with
  | none => rw [e1] at h; exact h.elim
  | some d =>
    cases e2 : toD S b with
    | none => rw [e1, e2] at h; exact h.elim
    | some e =>
      rw [e1, e2] at h
      by_cases z : (SeqAt.shaped d && SeqAt.shaped e) = true
      · have ee : eqD (some d) (some e) = some (PyData.eqv d e) := if_pos z
        rw [ee] at h
        rw [Bool.and_eq_true] at z
        exact op_neD hu pins s σ H x y v u Q I rx ry ⟨d, e, toD_ok (Z := zp X ex) rs ra e1, toD_ok (Z := zp X ex) rs rb e2, z.1, z.2, VPost.dat h rs (.bl _)⟩
      · have ee : eqD (some d) (some e) = none := if_neg z
        rw [ee] at h
        exact h.elim
theorem op_cLt : OpR X (compareOp .Lt) (rB (zp X ex) cLt) := op_ints op_lt (fun a b S h => by simp only [cLt, h]) fun i j S F ρ H Q rs h => ⟨i, j, rfl, rfl, VPost.dat h rs (.bl _)⟩
theorem op_cLe : OpR X (compareOp .LtE) (rB (zp X ex) cLe) := op_ints op_le (fun a b S h => by simp only [cLe, h]) fun i j S F ρ H Q rs h => ⟨i, j, rfl, rfl, VPost.dat h rs (.bl _)⟩
theorem op_cGt : OpR X (compareOp .Gt) (rB (zp X ex) cGt) := op_ints op_gt (fun a b S h => by simp only [cGt, h]) fun i j S F ρ H Q rs h => ⟨i, j, rfl, rfl, VPost.dat h rs (.bl _)⟩
theorem op_cGe : OpR X (compareOp .GtE) (rB (zp X ex) cGe) := op_ints op_ge (fun a b S h => by simp only [cGe, h]) fun i j S F ρ H Q rs h => ⟨i, j, rfl, rfl, VPost.dat h rs (.bl _)⟩
end
section
variable {K : PySem.W.Frag} {H : Hp}
theorem flat_ok {v : V} {x : D} (h : Dp K H v x) (f : flatD x = true) : flatV v = true := by
  cases h with
  | lst _ _ => cases f
  | tup _ _ => cases f
  | _ => rfl
theorem eqV_ok {v u : V} {x y : D} (h : Dp K H v x) (k : Dp K H u y) (f : flatD x = true) (g : flatD y = true) : eqV v u = PyData.eqv x y := by
  cases h with
  | lst _ _ => cases f
  | tup _ _ => cases f
  | _ => cases k with
    | lst _ _ => cases g
    | tup _ _ => cases g
    | _ => rfl
theorem flats_ok : ∀ {vs : List V} {l : List D}, DpAll K H vs l → l.all flatD = true → vs.all flatV = true
  | [], _, h, _ => rfl
  | v :: vs, _, h, f => by
    cases h with
    | cons h1 h2 =>
      rw [List.all_cons, Bool.and_eq_true] at f
      rw [List.all_cons, Bool.and_eq_true]
      exact ⟨flat_ok h1 f.1, flats_ok h2 f.2⟩
theorem any_ok {u : V} {x : D} (k : Dp K H u x) (g : flatD x = true) : ∀ {vs : List V} {l : List D}, DpAll K H vs l → l.all flatD = true → inV u vs = l.any fun y => PyData.eqv y x
  | [], _, h, _ => by cases h; rfl
  | v :: vs, _, h, f => by
    cases h with
    | cons h1 h2 =>
      rw [List.all_cons, Bool.and_eq_true] at f
      have ih := any_ok k g h2 f.2
      unfold inV at ih ⊢
      rw [List.any_cons, List.any_cons, ih, eqV_ok h1 k f.1 g]
end
section
variable {X : Cx} {ex : Option (Addr × Value × Option Addr)}
theorem inD_ok {F H : Hp} {ρ : Rh} {S : AS} {a b : AV} {x y : V} {k : Bool} (rs : RS X.K F ρ S H) (ra : RepV (zp X ex) F ρ a x) (rb : RepV (zp X ex) F ρ b y) (h : inD S a b = some k) :
    ∃ p xs, y = .ref p ∧ (SqL X.K H p xs ∨ SqT X.K H p xs) ∧ flatV x = true ∧ xs.all flatV = true ∧ inV x xs = k := by
  cases a with
  | d x1 =>
    cases e : rdSeq S b with
    | none => simp only [inD, e] at h; cases h
    | some q =>
      obtain ⟨b1, l⟩ := q
      obtain ⟨p, vs, rfl, k1, L, T⟩ := rdSeq_F (Z := zp X ex) rs rb e
      by_cases z : (flatD x1 && l.all flatD) = true
      · have e2 : inD S (.d x1) b = some (l.any fun y => PyData.eqv y x1) := by simp only [inD, e, z, if_true]
        rw [e2] at h
        rw [Bool.and_eq_true] at z
        refine ⟨p, vs, rfl, ?_, flat_ok ra z.1, flats_ok k1 z.2, ?_⟩
        · cases b1 with
          | true => exact .inl (L rfl)
          | false => exact .inr (T rfl)
        · rw [any_ok ra z.1 k1 z.2]
          exact Option.some.inj h
      · have e2 : inD S (.d x1) b = none := by simp only [inD, e, z, if_false]; rfl
        rw [e2] at h
        cases h
  | _ => cases h
theorem op_cIn : OpR X (compareOp .In) (rB (zp X ex) cIn) := by
  intro pins s σ H x y v u Q I rx ry h
  obtain ⟨F, ρ, S, a, b, rs, ra, rb, h⟩ := h
  unfold cIn at h
  cases e : inD S a b with
  | none => rw [e] at h; exact h.elim
  | some k =>
    rw [e] at h
    obtain ⟨p, xs, h1, h2, h3, h4, h5⟩ := inD_ok rs ra rb e
    refine op_in_seq pins s σ H x y v u Q I rx ry ⟨p, xs, h1, h2, h3, h4, ?_⟩
    show Q (.bl (inV x xs)) H
    rw [h5]
    exact VPost.dat h rs (.bl _)
theorem op_cNotIn : OpR X (compareOp .NotIn) (rB (zp X ex) cNotIn) := by
  intro pins s σ H x y v u Q I rx ry h
  obtain ⟨F, ρ, S, a, b, rs, ra, rb, h⟩ := h
  unfold cNotIn at h
  cases e : inD S a b with
  | none => rw [e] at h; exact h.elim
  | some k =>
    rw [e] at h
    obtain ⟨p, xs, h1, h2, h3, h4, h5⟩ := inD_ok rs ra rb e
    refine op_notIn_seq pins s σ H x y v u Q I rx ry ⟨p, xs, h1, h2, h3, h4, ?_⟩
    show Q (.bl (!inV x xs)) H
    rw [h5]
    exact VPost.dat h rs (.bl _)
theorem isN_ok {F : Hp} {ρ : Rh} {a : AV} {x : V} (ra : RepV (zp X ex) F ρ a x) : decide (x = .non) = isNoneAV a := by
  cases a with
  | d d =>
    cases ra with
    | non => rfl
    | _ => rfl
  | ref n =>
    obtain ⟨p, _, rfl⟩ := ra
    rfl
  | own l => exact ra.elim
  | exc e =>
    obtain ⟨a, _, _, _, rfl, _⟩ := ra
    rfl
theorem isV_ok {F : Hp} {ρ : Rh} {a b : AV} {x y : V} {k : Bool} (ra : RepV (zp X ex) F ρ a x) (rb : RepV (zp X ex) F ρ b y) (h : isV a b = some k) :
    (y = .non ∧ decide (x = .non) = k) ∨ ∃ i j, x = .bl i ∧ y = .bl j ∧ decide (i = j) = k := by
  have gen : isV a b = some (isNoneAV a) → b = .d .none → (y = .non ∧ decide (x = .non) = k) := fun e eb => by
    rw [e] at h
    subst eb
    exact ⟨dnone rb, (isN_ok ra).trans (Option.some.inj h)⟩
  cases b with
  | d d =>
    cases d with
    | none =>
      refine .inl (gen ?_ rfl)
      cases a with
      | d d => cases d <;> rfl
      | _ => rfl
    | bool j =>
      cases a with
      | d d =>
        cases d with
        | bool i =>
          cases dbool ra
          cases dbool rb
          exact .inr ⟨i, j, rfl, rfl, Option.some.inj h⟩
        | _ => cases h
      | _ => cases h
    | _ => cases a with
      | d d => cases d <;> cases h
      | _ => cases h
  | _ => cases a with
    | d d => cases d <;> cases h
    | _ => cases h
theorem op_cIs : OpR X (compareOp .Is) (rB (zp X ex) cIs) := by
  intro pins s σ H x y v u Q I rx ry h
  obtain ⟨F, ρ, S, a, b, rs, ra, rb, h⟩ := h
  unfold cIs at h
  cases e : isV a b with
  | none => rw [e] at h; exact h.elim
  | some k =>
    rw [e] at h
    have q : Q (.bl k) H := VPost.dat h rs (.bl _)
    rcases isV_ok ra rb e with ⟨h1, h2⟩ | ⟨i, j, h1, h2, h3⟩
    · exact op_isN pins s σ H x y v u Q I rx ry ⟨h1, by rw [h2]; exact q⟩
    · exact op_isBl pins s σ H x y v u Q I rx ry ⟨i, j, h1, h2, by rw [h3]; exact q⟩
theorem op_cIsNot : OpR X (compareOp .IsNot) (rB (zp X ex) cIsNot) := by
  intro pins s σ H x y v u Q I rx ry h
  obtain ⟨F, ρ, S, a, b, rs, ra, rb, h⟩ := h
  unfold cIsNot at h
  cases e : isV a b with
  | none => rw [e] at h; exact h.elim
  | some k =>
    rw [e] at h
    have q : Q (.bl (!k)) H := VPost.dat h rs (.bl _)
    rcases isV_ok ra rb e with ⟨h1, h2⟩ | ⟨i, j, h1, h2, h3⟩
    · exact op_notN pins s σ H x y v u Q I rx ry ⟨h1, by rw [h2]; exact q⟩
    · exact op_notBl pins s σ H x y v u Q I rx ry ⟨i, j, h1, h2, by rw [h3]; exact q⟩
theorem op_cop (hu : X.A.units + 64 < cLine) (op : CmpOp) : OpR X (compareOp op) (rB (zp X ex) (cop op)) := by
  cases op
  · exact op_cEq hu
  · exact op_cNe hu
  · exact op_cLt
  · exact op_cLe
  · exact op_cGt
  · exact op_cGe
  · exact op_cIs
  · exact op_cIsNot
  · exact op_cIn
  · exact op_cNotIn
end
end Den
/-! Den3: the built-in functions, methods, subscripts on values. -/
namespace Den
open PySem PySem.Spec PyProof.Rows L2

/-- a call by values -/
def rC (Z : Zp) (g : List AV → AS → VR) : List V → Hp → VK → Prop := fun xs H Q => ∃ F ρ S as, RS Z.K F ρ S H ∧ RepVs Z F ρ as xs ∧ VPost Z F ρ Q (g as S)
def rM (Z : Zp) (g : AV → List AV → AS → VR) : V → List V → Hp → VK → Prop := fun x xs H Q => ∃ F ρ S a as, RS Z.K F ρ S H ∧ RepV Z F ρ a x ∧ RepVs Z F ρ as xs ∧ VPost Z F ρ Q (g a as S)

/-! ### freezing -/
def frzD (S : AS) : AV → Option (D × AS)
  | .d x => some (x, S)
  | .ref n => match S[n]? with
    | some (.lst l) => some (.list l, S.set n (.froz l))
    | some (.froz l) => some (.list l, S)
    | none => none
  | _ => none
def frzAll (S : AS) : List AV → Option (List D × AS)
  | [] => some ([], S)
  | a :: as => match frzD S a with
    | some (x, S1) => match frzAll S1 as with
      | some (l, S2) => some (x :: l, S2)
      | none => none
    | none => none
section
variable {Z : Zp} {H : Hp} {ρ : Rh}
theorem frzD_ok {F : Hp} {S S1 : AS} {a : AV} {v : V} {x : D} (rs : RS Z.K F ρ S H) (rv : RepV Z F ρ a v) (h : frzD S a = some (x, S1)) : ∃ F1, Same F F1 ∧ RS Z.K F1 ρ S1 H ∧ Dp Z.K F1 v x := by
  cases a with
  | d y =>
    cases Option.some.inj h
    exact ⟨F, Same.refl F, rs, rv⟩
  | ref n =>
    cases e : S[n]? with
    | none => simp only [frzD, e] at h; cases h
    | some o =>
      cases o with
      | lst l =>
        simp only [frzD, e] at h
        cases Option.some.inj h
        obtain ⟨p, hp, rfl⟩ := rv
        obtain ⟨vs, hF, hH, k, rs1⟩ := rs.frz hp e
        exact ⟨_, same_upd hF, rs1, .lst (SqL.of upd_same) (dpA_mono (same_upd hF) _ _ k)⟩
      | froz l =>
        simp only [frzD, e] at h
        cases Option.some.inj h
        obtain ⟨p, rfl, _, vs, h2, h3⟩ := ref_ob rs rv e
        exact ⟨F, Same.refl F, rs, .lst (SqL.of h2) h3⟩
  | own l => cases h
  | exc e => cases h
theorem frzAll_ok : ∀ {as : List AV} {vs : List V} {F : Hp} {S S1 : AS} {l : List D}, RS Z.K F ρ S H → RepVs Z F ρ as vs → frzAll S as = some (l, S1) → ∃ F1, Same F F1 ∧ RS Z.K F1 ρ S1 H ∧ DpAll Z.K F1 vs l
  | _, _, F, _, _, _, rs, .nil, h => by
    cases Option.some.inj h
    exact ⟨F, Same.refl F, rs, .nil⟩
  | a :: as, _, F, S, S1, l, rs, .cons r k, h => by
    cases e : frzD S a with
    | none => simp only [frzAll, e] at h; cases h
    | some p =>
      obtain ⟨x, S2⟩ := p
      obtain ⟨F1, s1, rs1, d1⟩ := frzD_ok rs r e
      cases e2 : frzAll S2 as with
      | none => simp only [frzAll, e, e2] at h; cases h
      | some q =>
        obtain ⟨m, S3⟩ := q
        simp only [frzAll, e, e2] at h
        cases Option.some.inj h
        obtain ⟨F2, s2, rs2, d2⟩ := frzAll_ok rs1 (RepVs.mono (Tr.sam s1) k) e2
        exact ⟨F2, s1.trans s2, rs2, .cons (dp_mono s2 _ _ d1) d2⟩
end

/-! ### ints of a list -/
def ints? : List D → Option (List Int)
  | [] => some []
  | .int i :: l => match ints? l with
    | some ns => some (i :: ns)
    | none => none
  | _ => none
theorem ints?_ok : ∀ {l : List D} {ns : List Int}, ints? l = some ns → l = ns.map PyData.int
  | [], _, h => by cases Option.some.inj h; rfl
  | .int i :: l, ns, h => by
    cases e : ints? l with
    | none => simp only [ints?, e] at h; cases h
    | some ms =>
      simp only [ints?, e] at h
      cases Option.some.inj h
      rw [ints?_ok e]
      rfl
  | .none :: _, _, h => by cases h
  | .bool _ :: _, _, h => by cases h
  | .str _ :: _, _, h => by cases h
  | .list _ :: _, _, h => by cases h
  | .tuple _ :: _, _, h => by cases h
  | .dict _ :: _, _, h => by cases h
theorem ints?_map : ∀ ns : List Int, ints? (ns.map PyData.int) = some ns
  | [] => rfl
  | n :: ns => by
    show (match ints? (ns.map PyData.int) with | some ms => some (n :: ms) | none => none) = _
    rw [ints?_map ns]
def minI : List Int → Int
  | [] => 0
  | n :: ns => ns.foldl (fun a y => if y < a then y else a) n
def maxI : List Int → Int
  | [] => 0
  | n :: ns => ns.foldl (fun a y => if a < y then y else a) n

/-! ### functions -/
def vLen (as : List AV) (S : AS) : VR := match as with
  | [.d (.str s)] => if s.length ≤ cap then some (.d (.int s.length), S) else none
  | [a] => match rdSeq S a with
    | some (_, l) => some (.d (.int l.length), S)
    | none => none
  | _ => none
def vAbs (as : List AV) (S : AS) : VR := match as with
  | [.d (.int i)] => some (.d (.int (if i < 0 then -i else i)), S)
  | _ => none
def vInt (as : List AV) (S : AS) : VR := match as with
  | [.d (.int i)] => some (.d (.int i), S)
  | [.d (.bool b)] => some (.d (.int (if b then 1 else 0)), S)
  | _ => none
def vMin (as : List AV) (S : AS) : VR := match as with
  | [.d (.int i), .d (.int j)] => some (.d (.int (if j < i then j else i)), S)
  | [a] => match rdSeq S a with
    | some (_, l) => match ints? l with
      | some (n :: ns) => some (.d (.int (minI (n :: ns))), S)
      | _ => none
    | none => none
  | _ => none
def vMax (as : List AV) (S : AS) : VR := match as with
  | [.d (.int i), .d (.int j)] => some (.d (.int (if j > i then j else i)), S)
  | [a] => match rdSeq S a with
    | some (_, l) => match ints? l with
      | some (n :: ns) => some (.d (.int (maxI (n :: ns))), S)
      | _ => none
    | none => none
  | _ => none
def vTuple (as : List AV) (S : AS) : VR := match as with
  | [a] => match rdSeq S a with
    | some (_, l) => some (.d (.tuple l), S)
    | none => none
  | _ => none
def vList (as : List AV) (S : AS) : VR := match as with
  | [a] => match rdSeq S a with
    | some (_, l) => some (.own l, S)
    | none => none
  | _ => none
def vGcd (as : List AV) (S : AS) : VR := match as with
  | [.d (.int i), .d (.int j)] => some (.d (.int ((Nat.gcd i.natAbs j.natAbs : Nat) : Int)), S)
  | _ => none
def vLcm (as : List AV) (S : AS) : VR := match as with
  | [.d (.int i), .d (.int j)] => if i.natAbs.log2 < 10000 ∧ j.natAbs.log2 < 10000 ∧ (Nat.lcm i.natAbs j.natAbs).log2 < 100000 then some (.d (.int ((Nat.lcm i.natAbs j.natAbs : Nat) : Int)), S) else none
  | _ => none

section
variable {X : Cx} {ex : Option (Addr × Value × Option Addr)}
theorem RepVs.one {Z : Zp} {F : Hp} {ρ : Rh} {a : AV} {vs : List V} (h : RepVs Z F ρ [a] vs) : ∃ v, vs = [v] ∧ RepV Z F ρ a v := by
  cases h with
  | cons r k => cases k; exact ⟨_, rfl, r⟩
theorem RepVs.two {Z : Zp} {F : Hp} {ρ : Rh} {a b : AV} {vs : List V} (h : RepVs Z F ρ [a, b] vs) : ∃ v w, vs = [v, w] ∧ RepV Z F ρ a v ∧ RepV Z F ρ b w := by
  cases h with
  | cons r k =>
    cases k with
    | cons r2 k2 => cases k2; exact ⟨_, _, rfl, r, r2⟩
theorem vLen_ok : CallR X (.builtin "len") (rC (zp X ex) vLen) := by
  intro pins s σ H xs us Q I r h
  obtain ⟨F, ρ, S, as, rs, ra, h⟩ := h
  have gen : ∀ a, as = [a] → VPost (zp X ex) F ρ Q (match rdSeq S a with | some (_, l) => some (.d (.int l.length), S) | none => none) → wpAny (model X.prog X.w) X.A (call (.builtin "len") us) (EP X pins σ Q) X.xe s := by
    clear h
    intro a ea h
    subst ea
    obtain ⟨v, rfl, rv⟩ := ra.one
    cases e : rdSeq S a with
    | none => rw [e] at h; exact h.elim
    | some q =>
      obtain ⟨b, l⟩ := q
      rw [e] at h
      obtain ⟨p, vs, rfl, k, L, T⟩ := rdSeq_F (Z := zp X ex) rs rv e
      have q : Q (.int vs.length) H := by
        rw [dpA_len k]
        exact VPost.dat h rs (.int _)
      refine call_len_seq pins s σ H _ us Q I r ⟨p, vs, rfl, ?_, q⟩
      cases b with
      | true => exact .inl (L rfl)
      | false => exact .inr (T rfl)
  cases as with
  | nil => exact h.elim
  | cons a as =>
    cases as with
    | cons b as => cases a <;> first | exact h.elim | (rename_i x; cases x <;> exact h.elim)
    | nil =>
      cases a with
      | d x =>
        cases x with
        | str z =>
          have h2 : VPost (zp X ex) F ρ Q (if z.length ≤ cap then some (.d (.int z.length), S) else none) := h
          obtain ⟨v, rfl, rv⟩ := ra.one
          cases dstr rv
          by_cases c : z.length ≤ cap
          · rw [if_pos c] at h2
            exact call_len pins s σ H _ us Q I r ⟨_, z.length, rfl, ⟨Nat.le_trans c cap_le, rfl⟩, VPost.dat h2 rs (.int _)⟩
          · rw [if_neg c] at h2
            exact h2.elim
        | _ => exact gen _ rfl h
      | _ => exact gen _ rfl h
theorem vAbs_ok : CallR X (.builtin "abs") (rC (zp X ex) vAbs) := by
  intro pins s σ H xs us Q I r h
  obtain ⟨F, ρ, S, as, rs, ra, h⟩ := h
  unfold vAbs at h
  split at h
  · obtain ⟨v, rfl, rv⟩ := ra.one
    cases dint rv
    exact call_abs pins s σ H _ us Q I r ⟨_, rfl, VPost.dat h rs (.int _)⟩
  · exact h.elim
theorem vInt_ok : CallR X (.type "int") (rC (zp X ex) vInt) := by
  intro pins s σ H xs us Q I r h
  obtain ⟨F, ρ, S, as, rs, ra, h⟩ := h
  unfold vInt at h
  split at h
  · obtain ⟨v, rfl, rv⟩ := ra.one
    cases dint rv
    exact call_int1 pins s σ H _ us Q I r (.inl ⟨_, rfl, VPost.dat h rs (.int _)⟩)
  · obtain ⟨v, rfl, rv⟩ := ra.one
    cases dbool rv
    exact call_int1 pins s σ H _ us Q I r (.inr ⟨_, rfl, VPost.dat h rs (.int _)⟩)
  · exact h.elim
theorem vTuple_ok : CallR X (.type "tuple") (rC (zp X ex) vTuple) := by
  intro pins s σ H xs us Q I r h
  obtain ⟨F, ρ, S, as, rs, ra, h⟩ := h
  unfold vTuple at h
  split at h
  · rename_i a
    obtain ⟨v, rfl, rv⟩ := ra.one
    split at h
    · rename_i b l e
      obtain ⟨p, vs, rfl, k, L, T⟩ := rdSeq_F (Z := zp X ex) rs rv e
      refine call_tuple_of pins s σ H _ us Q I r ⟨p, vs, rfl, ?_⟩
      cases b with
      | true => exact .inl ⟨L rfl, fun q hq => VPost.tup h rs k q hq⟩
      | false =>
        have ea := rdSeq_tup e
        subst ea
        exact .inr ⟨T rfl, VPost.dat h rs rv⟩
    · exact h.elim
  · exact h.elim
theorem vList_ok : CallR X (.type "list") (rC (zp X ex) vList) := by
  intro pins s σ H xs us Q I r h
  obtain ⟨F, ρ, S, as, rs, ra, h⟩ := h
  unfold vList at h
  split at h
  · rename_i a
    obtain ⟨v, rfl, rv⟩ := ra.one
    split at h
    · rename_i b l e
      obtain ⟨p, vs, rfl, k, L, T⟩ := rdSeq_F (Z := zp X ex) rs rv e
      refine call_list_of pins s σ H _ us Q I r ⟨p, vs, rfl, ?_, fun q hq => VPost.own h rs k q hq⟩
      cases b with
      | true => exact .inl (L rfl)
      | false => exact .inr (T rfl)
    · exact h.elim
  · exact h.elim
theorem vGcd_ok : CallR X (.builtin "math.gcd") (rC (zp X ex) vGcd) := by
  intro pins s σ H xs us Q I r h
  obtain ⟨F, ρ, S, as, rs, ra, h⟩ := h
  unfold vGcd at h
  split at h
  · obtain ⟨v, w, rfl, rv, rw'⟩ := ra.two
    cases dint rv
    cases dint rw'
    exact cr_gcd pins s σ H _ us Q I r ⟨_, _, rfl, VPost.dat h rs (.int _)⟩
  · exact h.elim
theorem lcm_one (n : Nat) : Nat.lcm 1 n = n := Nat.lcm_one_left n
theorem vLcm_ok : CallR X (.builtin "math.lcm") (rC (zp X ex) vLcm) := by
  intro pins s σ H xs us Q I r h
  obtain ⟨F, ρ, S, as, rs, ra, h⟩ := h
  unfold vLcm at h
  split at h
  · rename_i i j
    obtain ⟨v, w, rfl, rv, rw'⟩ := ra.two
    cases dint rv
    cases dint rw'
    obtain ⟨t, u, rfl⟩ := Vals.int2 r
    split at h
    · rename_i c
      obtain ⟨c1, c2, c3⟩ := c
      have hb : bitsLine = 134217728 := by decide
      have m1 : (max 1 i.natAbs).log2 < 10000 := by
        rcases Nat.le_total 1 i.natAbs with z | z
        · rw [Nat.max_eq_right z]; exact c1
        · rw [Nat.max_eq_left z]; decide
      have m2 : (max i.natAbs j.natAbs).log2 < 10000 := by
        rcases Nat.le_total i.natAbs j.natAbs with z | z
        · rw [Nat.max_eq_right z]; exact c2
        · rw [Nat.max_eq_left z]; exact c1
      have e : (Nat.lcm 1 i.natAbs).lcm j.natAbs = Nat.lcm i.natAbs j.natAbs := by rw [lcm_one]
      have run := PySem.W.mg_run_lcm i t j u (by omega) (by omega) (by rw [e, Int.natAbs_natCast, hb]; omega)
      rw [e] at run
      exact call_function_meets PySem.W.MGF.kind_lcm PySem.W.MGF.plain_lcm PySem.W.MGF.entry_lcm (PySem.W.MGF.args_lcm _ _) run.meets
        (show EP X pins σ Q _ _ from ⟨.int _, H, I.tok _, ⟨_, rfl⟩, VPost.dat h rs (.int _)⟩)
    · exact h.elim
  · exact h.elim
end

/-! ### least and greatest -/
theorem minI_le : ∀ (ns : List Int) (n : Int), ns.foldl (fun a y => if y < a then y else a) n ≤ n ∧ (∀ y ∈ ns, ns.foldl (fun a y => if y < a then y else a) n ≤ y) ∧ (ns.foldl (fun a y => if y < a then y else a) n = n ∨ ns.foldl (fun a y => if y < a then y else a) n ∈ ns)
  | [], n => ⟨Int.le_refl _, fun _ h => absurd h (by simp), .inl rfl⟩
  | m :: ns, n => by
    rw [List.foldl_cons]
    obtain ⟨h1, h2, h3⟩ := minI_le ns (if m < n then m else n)
    refine ⟨?_, fun y hy => ?_, ?_⟩
    · exact Int.le_trans h1 (by split <;> omega)
    · rcases List.mem_cons.mp hy with rfl | hy
      · exact Int.le_trans h1 (by split <;> omega)
      · exact h2 y hy
    · rcases h3 with h3 | h3
      · rw [h3]
        split
        · exact .inr List.mem_cons_self
        · exact .inl rfl
      · exact .inr (List.mem_cons_of_mem _ h3)
theorem maxI_le : ∀ (ns : List Int) (n : Int), n ≤ ns.foldl (fun a y => if a < y then y else a) n ∧ (∀ y ∈ ns, y ≤ ns.foldl (fun a y => if a < y then y else a) n) ∧ (ns.foldl (fun a y => if a < y then y else a) n = n ∨ ns.foldl (fun a y => if a < y then y else a) n ∈ ns)
  | [], n => ⟨Int.le_refl _, fun _ h => absurd h (by simp), .inl rfl⟩
  | m :: ns, n => by
    rw [List.foldl_cons]
    obtain ⟨h1, h2, h3⟩ := maxI_le ns (if n < m then m else n)
    refine ⟨?_, fun y hy => ?_, ?_⟩
    · exact Int.le_trans (by split <;> omega) h1
    · rcases List.mem_cons.mp hy with rfl | hy
      · exact Int.le_trans (by split <;> omega) h1
      · exact h2 y hy
    · rcases h3 with h3 | h3
      · rw [h3]
        split
        · exact .inr List.mem_cons_self
        · exact .inl rfl
      · exact .inr (List.mem_cons_of_mem _ h3)
theorem minI_mem (n : Int) (ns : List Int) : minI (n :: ns) ∈ n :: ns := by
  rcases (minI_le ns n).2.2 with h | h
  · show ns.foldl _ n ∈ _
    rw [h]
    exact List.mem_cons_self
  · exact List.mem_cons_of_mem _ h
theorem minI_least {l : List Int} {y : Int} (h : y ∈ l) : minI l ≤ y := by
  cases l with
  | nil => cases h
  | cons n ns =>
    rcases List.mem_cons.mp h with rfl | h
    · exact (minI_le ns y).1
    · exact (minI_le ns n).2.1 y h
theorem maxI_mem (n : Int) (ns : List Int) : maxI (n :: ns) ∈ n :: ns := by
  rcases (maxI_le ns n).2.2 with h | h
  · show ns.foldl _ n ∈ _
    rw [h]
    exact List.mem_cons_self
  · exact List.mem_cons_of_mem _ h
theorem maxI_most {l : List Int} {y : Int} (h : y ∈ l) : y ≤ maxI l := by
  cases l with
  | nil => cases h
  | cons n ns =>
    rcases List.mem_cons.mp h with rfl | h
    · exact (maxI_le ns y).1
    · exact (maxI_le ns n).2.1 y h
theorem minI_is {l : List Int} {m : Int} (h : m ∈ l) (k : ∀ y ∈ l, m ≤ y) : m = minI l := by
  cases l with
  | nil => cases h
  | cons n ns => exact Int.le_antisymm (k _ (minI_mem n ns)) (minI_least h)
theorem maxI_is {l : List Int} {m : Int} (h : m ∈ l) (k : ∀ y ∈ l, y ≤ m) : m = maxI l := by
  cases l with
  | nil => cases h
  | cons n ns => exact Int.le_antisymm (maxI_most h) (k _ (maxI_mem n ns))
theorem dataLt_int (a b : Int) : PySem.W.dataLt (.int a) (.int b) = decide (a < b) := by
  unfold PySem.W.dataLt
  simp [PySem.W.keyToks, PyProof.Rows.lexLt, PyProof.Rows.itemOrd, PyProof.Rows.itemLt]
theorem minD_ints : ∀ (ns : List Int) (n : Int), PySem.W.minD (.int n) (ns.map PyData.int) = .int (ns.foldl (fun a y => if y < a then y else a) n)
  | [], n => rfl
  | m :: ns, n => by
    have ih := minD_ints ns (if m < n then m else n)
    unfold PySem.W.minD at ih ⊢
    rw [List.map_cons, List.foldl_cons, List.foldl_cons, ← ih, dataLt_int]
    by_cases c : m < n
    · rw [if_pos c, if_pos (decide_eq_true c)]
    · rw [if_neg c, if_neg (by rw [decide_eq_false c]; decide)]
theorem maxD_ints : ∀ (ns : List Int) (n : Int), PySem.W.maxD (.int n) (ns.map PyData.int) = .int (ns.foldl (fun a y => if a < y then y else a) n)
  | [], n => rfl
  | m :: ns, n => by
    have ih := maxD_ints ns (if n < m then m else n)
    unfold PySem.W.maxD at ih ⊢
    rw [List.map_cons, List.foldl_cons, List.foldl_cons, ← ih, dataLt_int]
    by_cases c : n < m
    · rw [if_pos c, if_pos (decide_eq_true c)]
    · rw [if_neg c, if_neg (by rw [decide_eq_false c]; decide)]
theorem alike_ints (ns : List Int) : PySem.W.AlikeAll (ns.map PyData.int) := by
  refine ⟨fun x hx y hy => ?_, fun x hx => ?_⟩
  · obtain ⟨i, _, rfl⟩ := List.mem_map.mp hx
    obtain ⟨j, _, rfl⟩ := List.mem_map.mp hy
    rfl
  · obtain ⟨i, _, rfl⟩ := List.mem_map.mp hx
    exact fun z => nomatch z
theorem depth_ints : ∀ ns : List Int, PyData.depthAll (ns.map PyData.int) = 0
  | [] => rfl
  | n :: ns => by
    show max 0 (PyData.depthAll (ns.map PyData.int)) = 0
    rw [depth_ints ns]
    rfl
theorem reads_int {h : Heap} {v : Value} {i : Int} {as : List Addr} (r : Reads h v (.int i) as) : ∃ t, v = .int i t := by
  cases r
  exact ⟨_, rfl⟩
section
variable {X : Cx} {ex : Option (Addr × Value × Option Addr)}
theorem vMin_ok (hc : X.calm = true) (hu : X.A.units + 64 < cLine) : CallR X (.builtin "min") (rC (zp X ex) vMin) := by
  intro pins s σ H xs us Q I r h
  obtain ⟨F, ρ, S, as, rs, ra, h⟩ := h
  unfold vMin at h
  split at h
  · obtain ⟨v, w, rfl, rv, rw'⟩ := ra.two
    cases dint rv
    cases dint rw'
    exact call_min2 hc pins s σ H _ us Q I r ⟨_, _, rfl, VPost.dat h rs (.int _)⟩
  · rename_i a
    obtain ⟨v, rfl, rv⟩ := ra.one
    split at h
    · rename_i b l e
      split at h
      · rename_i n ns e2
        obtain ⟨p, vs, rfl, k, L, T⟩ := rdSeq_F (Z := zp X ex) rs rv e
        have el := ints?_ok e2
        subst el
        have ev := dpA_ints k
        subst ev
        have q : Q (.int (minI (n :: ns))) H := VPost.dat h rs (.int _)
        cases b with
        | true => exact cr_min hc pins s σ H _ us Q I r ⟨p, n :: ns, rfl, L rfl, Nat.zero_lt_succ _, fun m h1 h2 => by rw [minI_is h1 h2]; exact q⟩
        | false =>
          obtain ⟨u, rfl, ru⟩ := vals1 r
          cases (show u = Value.ref p from ru)
          obtain ⟨its, rv2, ht, hz⟩ := I.tuple (T rfl)
          have hd : DpAll X.K H ((n :: ns).map V.int) ((n :: ns).map PyData.int) := dpA_of_ints _
          obtain ⟨as2, hr⟩ := Dp.readsAll I _ _ _ hd rv2
          have ht' : s.heap.IsTuple p its.toArray := ht
          have hr' : ReadsAll s.heap its.toArray.toList (PyData.int n :: ns.map PyData.int) as2 := by simpa using hr
          refine PySem.W.min_tuple_data (I.ok.hd hc) ht' hr' (alike_ints (n :: ns)) (by rw [show PyData.depthAll (PyData.int n :: ns.map PyData.int) = 0 from depth_ints (n :: ns)]; omega) fun i v h' tk bs hv rd hk => ?_
          rw [minD_ints] at rd
          obtain ⟨t, rfl⟩ := reads_int rd
          exact ⟨.int _, H, I.kept hk, ⟨_, rfl⟩, q⟩
      · exact h.elim
    · exact h.elim
  · exact h.elim
theorem vMax_ok (hc : X.calm = true) (hu : X.A.units + 64 < cLine) : CallR X (.builtin "max") (rC (zp X ex) vMax) := by
  intro pins s σ H xs us Q I r h
  obtain ⟨F, ρ, S, as, rs, ra, h⟩ := h
  unfold vMax at h
  split at h
  · obtain ⟨v, w, rfl, rv, rw'⟩ := ra.two
    cases dint rv
    cases dint rw'
    exact call_max2 hc pins s σ H _ us Q I r ⟨_, _, rfl, VPost.dat h rs (.int _)⟩
  · rename_i a
    obtain ⟨v, rfl, rv⟩ := ra.one
    split at h
    · rename_i b l e
      split at h
      · rename_i n ns e2
        obtain ⟨p, vs, rfl, k, L, T⟩ := rdSeq_F (Z := zp X ex) rs rv e
        have el := ints?_ok e2
        subst el
        have ev := dpA_ints k
        subst ev
        have q : Q (.int (maxI (n :: ns))) H := VPost.dat h rs (.int _)
        cases b with
        | true => exact cr_max hc pins s σ H _ us Q I r ⟨p, n :: ns, rfl, L rfl, Nat.zero_lt_succ _, fun m h1 h2 => by rw [maxI_is h1 h2]; exact q⟩
        | false =>
          obtain ⟨u, rfl, ru⟩ := vals1 r
          cases (show u = Value.ref p from ru)
          obtain ⟨its, rv2, ht, hz⟩ := I.tuple (T rfl)
          have hd : DpAll X.K H ((n :: ns).map V.int) ((n :: ns).map PyData.int) := dpA_of_ints _
          obtain ⟨as2, hr⟩ := Dp.readsAll I _ _ _ hd rv2
          have ht' : s.heap.IsTuple p its.toArray := ht
          have hr' : ReadsAll s.heap its.toArray.toList (PyData.int n :: ns.map PyData.int) as2 := by simpa using hr
          refine PySem.W.max_tuple_data (I.ok.hd hc) ht' hr' (alike_ints (n :: ns)) (by rw [show PyData.depthAll (PyData.int n :: ns.map PyData.int) = 0 from depth_ints (n :: ns)]; omega) fun i v h' tk bs hv rd hk => ?_
          rw [maxD_ints] at rd
          obtain ⟨t, rfl⟩ := reads_int rd
          exact ⟨.int _, H, I.kept hk, ⟨_, rfl⟩, q⟩
      · exact h.elim
    · exact h.elim
  · exact h.elim
end

/-! ### places, slices -/
def atD (l : List D) (k : Int) : Option D := (ixN l.length k).bind fun j => l[j]?
def vIx (a i : AV) (S : AS) : VR := match a, i with
  | .d (.str z), .d (.int k) => if z.length ≤ cap then match atI z.cps.toList k with
      | some c => some (.d (.str ⟨#[c]⟩), S)
      | none => none
    else none
  | a, .d (.int k) => match rdSeq S a with
    | some (_, l) => match atD l k with
      | some x => some (.d x, S)
      | none => none
    | none => none
  | _, _ => none
def cutD (l : List D) (lo hi : Option Int) : List D := (l.drop (HT.sIx l.length 0 lo)).take (HT.sIx l.length l.length hi - HT.sIx l.length 0 lo)
def vSl (a : AV) (lo hi : Option Int) (S : AS) : VR := match rdSeq S a with
  | some (true, l) => some (.own (cutD l lo hi), S)
  | some (false, l) => some (.d (.tuple (cutD l lo hi)), S)
  | none => none
section
variable {X : Cx} {ex : Option (Addr × Value × Option Addr)}
theorem atD_ok {K : PySem.W.Frag} {F : Hp} {vs : List V} {l : List D} {k : Int} {x : D} (h : DpAll K F vs l) (e : atD l k = some x) : ∃ v, atI vs k = some v ∧ Dp K F v x := by
  unfold atD at e
  cases q : ixN l.length k with
  | none => rw [q] at e; cases e
  | some j =>
    rw [q] at e
    obtain ⟨v, h1, h2⟩ := dpA_get (i := j) h e
    refine ⟨v, ?_, h2⟩
    unfold atI
    rw [dpA_len h, q]
    exact h1
theorem vIx_ok : IxR X (rB (zp X ex) vIx) := by
  intro value slice pins s σ H x y v u Q I rx ry h hs
  obtain ⟨F, ρ, S, a, b, rs, ra, rb, h⟩ := h
  unfold vIx at h
  split at h
  · rename_i z k
    cases dstr ra
    cases dint rb
    split at h
    · rename_i c
      split at h
      · rename_i c2 e
        exact ix_str value slice pins s σ H _ _ v u Q I rx ry ⟨z, k, c2, rfl, rfl, Nat.le_trans c cap_le, e, VPost.dat h rs (.str _)⟩ hs
      · exact h.elim
    · exact h.elim
  · rename_i k _
    cases dint rb
    split at h
    · rename_i b l e
      obtain ⟨p, vs, rfl, kk, L, T⟩ := rdSeq_F (Z := zp X ex) rs ra e
      split at h
      · rename_i x e2
        obtain ⟨w, h1, h2⟩ := atD_ok kk e2
        have q : Q w H := VPost.dat h rs h2
        cases b with
        | true => exact ix_list value slice pins s σ H _ _ v u Q I rx ry ⟨p, vs, k, w, rfl, rfl, L rfl, h1, q⟩ hs
        | false => exact ix_tup value slice pins s σ H _ _ v u Q I rx ry ⟨p, vs, k, w, rfl, rfl, T rfl, h1, q⟩ hs
      · exact h.elim
    · exact h.elim
  · exact h.elim
def rSl (Z : Zp) : V → Option Int → Option Int → Hp → VK → Prop := fun x lo hi H Q => ∃ F ρ S a, RS Z.K F ρ S H ∧ RepV Z F ρ a x ∧ VPost Z F ρ Q (vSl a lo hi S)
theorem cut_ok {K : PySem.W.Frag} {F : Hp} {vs : List V} {l : List D} {lo hi : Option Int} (h : DpAll K F vs l) : DpAll K F (cutV vs lo hi) (cutD l lo hi) := by
  unfold cutV cutD
  rw [dpA_len h]
  exact dpA_take _ (dpA_drop _ h)
theorem cut_whole {K : PySem.W.Frag} {F : Hp} {vs : List V} {l : List D} {lo hi : Option Int} (h : DpAll K F vs l) (e : HT.sIx vs.length 0 lo = 0 ∧ HT.sIx vs.length vs.length hi = vs.length) : cutD l lo hi = l := by
  unfold cutD
  rw [dpA_len h] at e
  rw [e.1, e.2, List.drop_zero, Nat.sub_zero, List.take_length]
theorem vSl_ok : SlR X (rSl (zp X ex)) := by
  intro pins s σ H x v vl vu lo hi sl Q I rx hs pl pu h
  obtain ⟨F, ρ, S, a, rs, ra, h⟩ := h
  unfold vSl at h
  split at h
  · rename_i l e
    obtain ⟨p, vs, rfl, kk, L, T⟩ := rdSeq_F (Z := zp X ex) rs ra e
    exact sl_list pins s σ H _ v vl vu lo hi sl Q I rx hs pl pu ⟨p, vs, rfl, L rfl, fun q hq => VPost.own h rs (cut_ok kk) q hq⟩
  · rename_i l e
    obtain ⟨p, vs, rfl, kk, L, T⟩ := rdSeq_F (Z := zp X ex) rs ra e
    have ea := rdSeq_tup e
    subst ea
    refine sl_tupA pins s σ H _ v vl vu lo hi sl Q I rx hs pl pu ⟨p, vs, rfl, T rfl, fun w => ?_, fun _ q hq => VPost.tup h rs (cut_ok kk) q hq⟩
    rw [cut_whole kk w] at h
    exact VPost.dat h rs ra
  · exact h.elim
end

/-! ### methods of lists -/
def mAppend (a : AV) (as : List AV) (S : AS) : VR := match a, as with
  | .ref n, [y] => match frzD S y with
    | some (x, S1) => match S1[n]? with
      | some (.lst l) => if l.length < cap then some (.d .none, S1.set n (.lst (l ++ [x]))) else none
      | _ => none
    | none => none
  | _, _ => none
def mPop (a : AV) (as : List AV) (S : AS) : VR := match a, as with
  | .ref n, [] => match S[n]? with
    | some (.lst l) => match l[l.length - 1]? with
      | some x => some (.d x, S.set n (.lst l.dropLast))
      | none => none
    | _ => none
  | _, _ => none
def mReverse (a : AV) (as : List AV) (S : AS) : VR := match a, as with
  | .ref n, [] => match S[n]? with
    | some (.lst l) => some (.d .none, S.set n (.lst l.reverse))
    | _ => none
  | _, _ => none
/-- is it a list? -/
def isL (S : AS) (a : AV) : Bool := match rdSeq S a with
  | some (true, _) => true
  | _ => false
section
variable {X : Cx} {ex : Option (Addr × Value × Option Addr)}
theorem RS.lstM {K : PySem.W.Frag} {F H : Hp} {ρ : Rh} {S : AS} (rs : RS K F ρ S H) {n : Nat} {p : Addr} {l : List D} (hp : ρ.l[n]? = some p) (hS : S[n]? = some (.lst l)) : F p = none ∧ ∃ vs, H p = some (.lst vs) ∧ DpAll K F vs l := rs.ob n p _ hp hS
theorem mAppend_ok : MtR X "list.append" (rM (zp X ex) mAppend) := by
  intro pins s σ H x xs v us Q I rx rs' h
  obtain ⟨F, ρ, S, a, as, rs, ra, ras, h⟩ := h
  unfold mAppend at h
  split at h
  · rename_i n y
    obtain ⟨p, hp, rfl⟩ := ra
    obtain ⟨w, rfl, rw'⟩ := ras.one
    split at h
    · rename_i x1 S1 e
      obtain ⟨F1, s1, rs1, d1⟩ := frzD_ok rs rw' e
      split at h
      · rename_i l e2
        split at h
        · rename_i c
          obtain ⟨hF, vs, hH, k⟩ := rs1.lstM hp e2
          have hl := dpA_len k
          refine mt_append pins s σ H _ _ v us Q I rx rs' ⟨p, vs, w, rfl, rfl, hH, Nat.lt_trans (by omega) cap_lt, ?_⟩
          exact h F1 ρ _ _ (Tr.sam s1) (rs1.mut hp e2 (dpA_app k (.cons d1 .nil))) (show Dp _ _ _ _ from .non)
        · exact h.elim
      · exact h.elim
    · exact h.elim
  · exact h.elim
theorem mPop_ok : MtR X "list.pop" (rM (zp X ex) mPop) := by
  intro pins s σ H x xs v us Q I rx rs' h
  obtain ⟨F, ρ, S, a, as, rs, ra, ras, h⟩ := h
  unfold mPop at h
  split at h
  · rename_i n
    obtain ⟨p, hp, rfl⟩ := ra
    cases ras
    split at h
    · rename_i l e2
      split at h
      · rename_i x1 e3
        obtain ⟨hF, vs, hH, k⟩ := rs.lstM hp e2
        have hl := dpA_len k
        obtain ⟨w, h1, h2⟩ := dpA_get k e3
        refine mt_pop pins s σ H _ _ v us Q I rx rs' ⟨p, vs, w, rfl, rfl, hH, by rw [hl]; exact h1, ?_⟩
        exact h F ρ _ _ Tr.refl (rs.mut hp e2 (dpA_dropLast k)) (show Dp _ _ _ _ from h2)
      · exact h.elim
    · exact h.elim
  · exact h.elim
theorem mReverse_ok : MtR X "list.reverse" (rM (zp X ex) mReverse) := by
  intro pins s σ H x xs v us Q I rx rs' h
  obtain ⟨F, ρ, S, a, as, rs, ra, ras, h⟩ := h
  unfold mReverse at h
  split at h
  · rename_i n
    obtain ⟨p, hp, rfl⟩ := ra
    cases ras
    split at h
    · rename_i l e2
      obtain ⟨hF, vs, hH, k⟩ := rs.lstM hp e2
      refine mt_reverse pins s σ H _ _ v us Q I rx rs' ⟨p, vs, rfl, rfl, hH, ?_⟩
      exact h F ρ _ _ Tr.refl (rs.mut hp e2 (dpA_rev k)) (show Dp _ _ _ _ from .non)
    · exact h.elim
  · exact h.elim
theorem isL_ok {F H : Hp} {ρ : Rh} {S : AS} {a : AV} {x : V} (rs : RS X.K F ρ S H) (ra : RepV (zp X ex) F ρ a x) (h : isL S a = true) : tyV X.K "list" x H := by
  unfold isL at h
  split at h
  · rename_i l e
    obtain ⟨p, vs, rfl, kk, L, T⟩ := rdSeq_F (Z := zp X ex) rs ra e
    exact .inl ⟨rfl, vs, L rfl⟩
  · cases h
end

/-! ### isinstance of built-in types -/
def tyName (S : AS) : AV → Option String
  | .d .none => some "NoneType"
  | .d (.bool _) => some "bool"
  | .d (.int _) => some "int"
  | .d (.str _) => some "str"
  | .d (.list _) => some "list"
  | .d (.tuple _) => some "tuple"
  | .ref n => match S[n]? with
    | some _ => some "list"
    | none => none
  | _ => none
def kitS (t u : String) : Bool := t == u || (t == "bool" && u == "int")
theorem kitS_ok : (["NoneType", "bool", "int", "str", "list", "tuple"].all fun t => ["bool", "int", "str", "list", "tuple", "dict"].all fun u => decide (kitB t u = some (kitS t u))) = true := by decide +kernel
theorem kit_of_names {K : PySem.W.Frag} {t u : String} (ht : t ∈ ["NoneType", "bool", "int", "str", "list", "tuple"]) (hu : u ∈ ["bool", "int", "str", "list", "tuple", "dict"]) : PySem.W.kitOne K (.type t) (.type u) = some (kitS t u) := by
  have h := kitS_ok
  rw [List.all_eq_true] at h
  have h2 := h t ht
  rw [List.all_eq_true] at h2
  exact kit_ty (of_decide_eq_true (h2 u hu))
section
variable {X : Cx} {ex : Option (Addr × Value × Option Addr)}
theorem tyX_list {K : PySem.W.Frag} {H : Hp} {p : Addr} {xs : List V} (h : SqL K H p xs) : TyX K H (.ref p) (.type "list") := by
  rcases h with (h | ⟨o, h⟩) | ⟨o, its, n, h1, h2, _⟩
  · exact .base (.lst h)
  · exact .base (.frz h)
  · exact .kList h1 h2
theorem tyX_tup {K : PySem.W.Frag} {H : Hp} {p : Addr} {xs : List V} (h : SqT K H p xs) : TyX K H (.ref p) (.type "tuple") := by
  rcases h with (h | ⟨o, h⟩) | ⟨o, its, n, h1, h2, _⟩
  · exact .base (.tup h)
  · exact .fTuple h
  · exact .kTuple h1 h2
theorem tyName_ok {F H : Hp} {ρ : Rh} {S : AS} {a : AV} {x : V} {t : String} (rs : RS X.K F ρ S H) (ra : RepV (zp X ex) F ρ a x) (h : tyName S a = some t) :
    TyX X.K H x (.type t) ∧ t ∈ ["NoneType", "bool", "int", "str", "list", "tuple"] := by
  cases a with
  | d y =>
    have ra : Dp X.K F x y := ra
    cases y with
    | none => cases Option.some.inj h; cases ra; exact ⟨.base .non, by simp⟩
    | bool b => cases Option.some.inj h; cases ra; exact ⟨.base (.bl _), by simp⟩
    | int b => cases Option.some.inj h; cases ra; exact ⟨.base (.int _), by simp⟩
    | str b => cases Option.some.inj h; cases ra; exact ⟨.base (.str _), by simp⟩
    | list b =>
      cases Option.some.inj h
      cases ra with
      | lst h1 h2 => exact ⟨tyX_list (rs.sub.seq h1), by simp⟩
    | tuple b =>
      cases Option.some.inj h
      cases ra with
      | tup h1 h2 => exact ⟨tyX_tup (Same.seqT rs.sub h1), by simp⟩
    | dict b => cases h
  | ref n =>
    cases e : S[n]? with
    | none => simp only [tyName, e] at h; cases h
    | some o =>
      simp only [tyName, e] at h
      cases Option.some.inj h
      obtain ⟨p, rfl, _, k⟩ := ref_ob rs ra e
      cases o with
      | lst l =>
        obtain ⟨_, vs, h2, _⟩ := k
        exact ⟨tyX_list (SqL.of h2), by simp⟩
      | froz l =>
        obtain ⟨vs, h2, _⟩ := k
        exact ⟨tyX_list (SqL.of (rs.sub _ _ h2)), by simp⟩
  | own l => cases h
  | exc e => cases h
end
end Den
/-! Den4: expressions. -/
namespace Den
open PySem PySem.Spec PyProof.Rows L2

/-! ### what an expression comes to -/
def dC (x : D) : Dn := fun _ S => .ok (.d x) S
def dVar (i : Nat) : Dn := fun σ S => match σ[i]? with
  | some (some a) => .ok a S
  | _ => .stuck
def dBin (g : AV → AV → AS → VR) (ca cb : Dn) : Dn := fun σ S => (ca σ S).bind fun a S1 => (cb σ S1).bind fun b S2 => liftV (g a b S2)
def vNeg (a : AV) (S : AS) : VR := match a with
  | .d (.int i) => some (.d (.int (-i)), S)
  | _ => none
def dNeg (ca : Dn) : Dn := fun σ S => (ca σ S).bind fun a S1 => liftV (vNeg a S1)
def bAnd (cb : Dn) (σ : ASt) (a : AV) (S : AS) : ER := match a with
  | .d (.bool true) => cb σ S
  | .d (.bool false) => .ok (.d (.bool false)) S
  | _ => .stuck
def bOr (cb : Dn) (σ : ASt) (a : AV) (S : AS) : ER := match a with
  | .d (.bool false) => cb σ S
  | .d (.bool true) => .ok (.d (.bool true)) S
  | _ => .stuck
def bIf (cb cc : Dn) (σ : ASt) (a : AV) (S : AS) : ER := match a with
  | .d (.bool true) => cb σ S
  | .d (.bool false) => cc σ S
  | _ => .stuck
def dAnd (ca cb : Dn) : Dn := fun σ S => (ca σ S).bind fun a S1 => bAnd cb σ a S1
def dOr (ca cb : Dn) : Dn := fun σ S => (ca σ S).bind fun a S1 => bOr cb σ a S1
def dIf (ct ca cb : Dn) : Dn := fun σ S => (ct σ S).bind fun a S1 => bIf ca cb σ a S1
def vNot (a : AV) (S : AS) : VR := match a with
  | .d (.bool b) => some (.d (.bool (!b)), S)
  | _ => none
def dNot (ca : Dn) : Dn := fun σ S => (ca σ S).bind fun a S1 => liftV (vNot a S1)
def truD (S : AS) (a : AV) : Option Bool := match a with
  | .d .none => some false
  | .d (.bool b) => some b
  | .d (.int i) => some (i != 0)
  | .d (.str s) => if s.length ≤ cap then some ((s.length : Int) != 0) else none
  | a => match rdSeq S a with
    | some (_, l) => some (!l.isEmpty)
    | none => none
def vTru (a : AV) (S : AS) : VR := match truD S a with
  | some k => some (.d (.bool k), S)
  | none => none
def dTru (ca : Dn) : Dn := fun σ S => (ca σ S).bind fun a S1 => liftV (vTru a S1)
/-- a op b op' c -/
def dChain (g g' : AV → AV → AS → VR) (ca cb cc : Dn) : Dn := fun σ S => (ca σ S).bind fun a S1 => (cb σ S1).bind fun b S2 => (liftV (g a b S2)).bind fun k S3 =>
  bAnd (fun σ S => (cc σ S).bind fun c S4 => liftV (g' b c S4)) σ k S3
def lNil : Ln := fun _ S => .ok [] S
def LR.cons (a : AV) (r : LR) : LR := match r with
  | .ok as S => .ok (a :: as) S
  | .err x S => .err x S
  | .stuck => .stuck
def ER.bindL (r : ER) (f : AV → AS → LR) : LR := match r with
  | .ok a S => f a.fz S
  | .err x S => .err x S
  | .stuck => .stuck
def lCons (c : Dn) (l : Ln) : Ln := fun σ S => (c σ S).bindL fun a S1 => (l σ S1).cons a
def dCallV (g : List AV → AS → VR) (l : Ln) : Dn := fun σ S => (l σ S).bind fun as S1 => liftV (g as S1)
def dCall (f : List AV → AS → ER) (l : Ln) : Dn := fun σ S => (l σ S).bind f
def bMeth (g : AV → List AV → AS → VR) (l : Ln) (σ : ASt) (a : AV) (S : AS) : ER := if isL S a then (l σ S).bind fun as S2 => liftV (g a as S2) else .stuck
def dMeth (g : AV → List AV → AS → VR) (co : Dn) (l : Ln) : Dn := fun σ S => (co σ S).bind fun a S1 => bMeth g l σ a S1
def vTupD (as : List AV) (S : AS) : VR := match frzAll S as with
  | some (l, S1) => if l.length ≤ cap then some (.d (.tuple l), S1) else none
  | none => none
def vLstD (as : List AV) (S : AS) : VR := match frzAll S as with
  | some (l, S1) => if l.length ≤ cap then some (.own l, S1) else none
  | none => none
def vIsi (tys : List String) (a : AV) (S : AS) : VR := match tyName S a with
  | some t => some (.d (.bool (tys.any (kitS t))), S)
  | none => none
def dIsi (tys : List String) (ca : Dn) : Dn := fun σ S => (ca σ S).bind fun a S1 => liftV (vIsi tys a S1)
def bPart (c : Option Dn) (σ : ASt) (S : AS) (k : Option Int → AS → ER) : ER := match c with
  | none => k none S
  | some c => (c σ S).bind fun b S1 => match b with
    | .d (.int i) => k (some i) S1
    | _ => .stuck
def dSl (ca : Dn) (lo hi : Option Dn) : Dn := fun σ S => (ca σ S).bind fun a S1 => bPart lo σ S1 fun l S2 => bPart hi σ S2 fun u S3 => liftV (vSl a l u S3)

/-! ### judgements weakened -/
theorem _root_.L2.PE.impD {X : Cx} {e : Expr} {t t' : TE} (h : PE X e t) (k : ∀ σ H Q, t' σ H Q → t σ H Q) : PE X e t' := ⟨fun pins s σ H Q I q => h.run pins s σ H Q I (k σ H Q q)⟩
theorem _root_.L2.PT.impD {X : Cx} {e : Expr} {t t' : TT} (h : PT X e t) (k : ∀ σ H Q, t' σ H Q → t σ H Q) : PT X e t' := ⟨fun pins s σ H Q I q => h.run pins s σ H Q I (k σ H Q q)⟩
theorem _root_.L2.PW.impD {X : Cx} {e : Expr} {t t' : TT} (h : PW X e t) (k : ∀ σ H Q, t' σ H Q → t σ H Q) : PW X e t' := ⟨fun w pins s σ H Q I q => h.run w pins s σ H Q I (k σ H Q q)⟩
theorem _root_.L2.PA.impD {X : Cx} {e : List Expr} {t t' : TA} (h : PA X e t) (k : ∀ σ H Q, t' σ H Q → t σ H Q) : PA X e t' := ⟨fun p pins s σ H Q I q => h.run p pins s σ H Q I (k σ H Q q)⟩

section
variable {Z : Zp} {W : WX} {σ : L2.St} {H : Hp} {Q : VK}
/-- the first part of an expression -/
theorem tE.bind {c : Dn} {f : ASt → AV → AS → ER} (h : tE Z W (fun σ S => (c σ S).bind (f σ)) σ H Q) :
    tE Z W c σ H fun v H1 => ∃ F ρ S a aσ, RS Z.K F ρ S H1 ∧ RepV Z F ρ a v ∧ RSt Z F ρ aσ σ ∧ EPost Z W σ F ρ Q (f aσ a S) := by
  obtain ⟨F, ρ, S, aσ, rs, st, p⟩ := h
  refine ⟨F, ρ, S, aσ, rs, st, (EPost.bind p).imp fun v H1 q => ?_⟩
  obtain ⟨F1, ρ1, S1, a, t, rs1, rv, p1⟩ := q
  exact ⟨F1, ρ1, S1, a, aσ, rs1, rv, st.mono t, p1⟩
theorem tL.bind {c : Ln} {f : ASt → List AV → AS → ER} (h : tE Z W (fun σ S => (c σ S).bind (f σ)) σ H Q) :
    tL Z W c σ H fun v H1 => ∃ F ρ S a aσ, RS Z.K F ρ S H1 ∧ RepVs Z F ρ a v ∧ RSt Z F ρ aσ σ ∧ EPost Z W σ F ρ Q (f aσ a S) := by
  obtain ⟨F, ρ, S, aσ, rs, st, p⟩ := h
  refine ⟨F, ρ, S, aσ, rs, st, ?_⟩
  have p2 := LPost.bind p
  cases e : c aσ S with
  | ok as S1 =>
    rw [e] at p2
    intro F' ρ' H' vs t rs' rv
    obtain ⟨F1, ρ1, S1, a, t1, rs1, rv1, p1⟩ := p2 F' ρ' H' vs t rs' rv
    exact ⟨F1, ρ1, S1, a, aσ, rs1, rv1, st.mono t1, p1⟩
  | err x S1 =>
    rw [e] at p2
    exact p2
  | stuck =>
    rw [e] at p2
    exact p2
theorem tE.imp {c : Dn} {Q' : VK} (h : tE Z W c σ H Q) (k : ∀ v H, Q v H → Q' v H) : tE Z W c σ H Q' := by
  obtain ⟨F, ρ, S, aσ, rs, st, p⟩ := h
  exact ⟨F, ρ, S, aσ, rs, st, p.imp k⟩
theorem tL.imp {c : Ln} {Q Q' : List V → Hp → Prop} (h : tL Z W c σ H Q) (k : ∀ v H, Q v H → Q' v H) : tL Z W c σ H Q' := by
  obtain ⟨F, ρ, S, aσ, rs, st, p⟩ := h
  refine ⟨F, ρ, S, aσ, rs, st, ?_⟩
  cases e : c aσ S with
  | ok as S1 =>
    rw [e] at p
    exact fun F' ρ' H' vs t rs' rv => k _ _ (p F' ρ' H' vs t rs' rv)
  | err x S1 => rw [e] at p; exact p
  | stuck => rw [e] at p; exact p
theorem LPost.imp {F : Hp} {ρ : Rh} {r : LR} {Q Q' : List V → Hp → Prop} (h : LPost Z W σ F ρ Q r) (k : ∀ v H, Q v H → Q' v H) : LPost Z W σ F ρ Q' r := by
  cases r with
  | ok as S1 => exact fun F' ρ' H' vs t rs' rv => k _ _ (h F' ρ' H' vs t rs' rv)
  | err x S1 => exact h
  | stuck => exact h
/-- a whole reading again, from what stands for what -/
theorem tE.mk {F : Hp} {ρ : Rh} {S : AS} {aσ : ASt} {c : Dn} (rs : RS Z.K F ρ S H) (st : RSt Z F ρ aσ σ) (p : EPost Z W σ F ρ Q (c aσ S)) : tE Z W c σ H Q := ⟨F, ρ, S, aσ, rs, st, p⟩
end

section
variable {X : Cx} {ex : Option (Addr × Value × Option Addr)} {W : WX} {pos : Pos} {a b c e : Expr} {ca cb cc : Dn}

theorem sE_C {e : Expr} {v : V} {x : D} (h : PE X e (tC v)) (k : ∀ F, Dp X.K F v x) : PE X e (tE (zp X ex) W (dC x)) := h.impD fun σ H Q q => by
  obtain ⟨F, ρ, S, aσ, rs, st, p⟩ := q
  exact p F ρ H v Tr.refl rs (k F)
theorem sE_int {i : Int} {j : Nat} : PE X (.Constant (.int i) j pos) (tE (zp X ex) W (dC (.int i))) := sE_C pe_int fun _ => .int _
theorem sE_bool {i : Bool} {j : Nat} : PE X (.Constant (.bool i) j pos) (tE (zp X ex) W (dC (.bool i))) := sE_C pe_bl fun _ => .bl _
theorem sE_str {i : Str} {j : Nat} : PE X (.Constant (.str i) j pos) (tE (zp X ex) W (dC (.str i))) := sE_C pe_str fun _ => .str _
theorem sE_none {j : Nat} : PE X (.Constant .none j pos) (tE (zp X ex) W (dC .none)) := sE_C pe_non fun _ => .non
theorem sE_var {i : Nat} {x : Str} (hN : X.N[i]? = some x) (hv : Vis X.env.scope x) (hd : (x == ("__debug__" : Str)) = false) (hcd : (x == ("__classdict__" : Str)) = false) : PE X (.Name x pos) (tE (zp X ex) W (dVar i)) :=
  (pe_var hN hv hd hcd).impD fun σ H Q q => by
    obtain ⟨F, ρ, S, aσ, rs, st, p⟩ := q
    unfold dVar at p
    split at p
    · rename_i a e
      obtain ⟨v, h1, h2⟩ := st.at_ i a e
      exact ⟨v, h1, p F ρ H v Tr.refl rs h2.w⟩
    · exact p.elim
theorem bin_imp {g : AV → AV → AS → VR} {Z : Zp} {σ : L2.St} {H : Hp} {Q : VK} (h : tE Z W (dBin g ca cb) σ H Q) : tOp (rB Z g) (tE Z W ca) (tE Z W cb) σ H Q := by
  refine (tE.bind (f := fun σ a S1 => (cb σ S1).bind fun b S2 => liftV (g a b S2)) h).imp fun v H1 q => ?_
  obtain ⟨F, ρ, S, a, aσ, rs, rv, st, p⟩ := q
  refine ⟨F, ρ, S, aσ, rs, st, (EPost.bind p).imp fun w H2 q2 => ?_⟩
  obtain ⟨F1, ρ1, S1, b, t, rs1, rw', p1⟩ := q2
  exact ⟨F1, ρ1, S1, a, b, rs1, rv.mono t, rw', VPost.of p1⟩
theorem sE_bin {op : Operator} {g : AV → AV → AS → VR} (ho : bop op = some g) (ha : PE X a (tE (zp X ex) W ca)) (hb : PE X b (tE (zp X ex) W cb)) : PE X (.BinOp a op b pos) (tE (zp X ex) W (dBin g ca cb)) :=
  (pe_op (op_bop ho) ha hb).impD fun σ H Q q => bin_imp q
theorem sE_cmp {op : CmpOp} (hu : X.A.units + 64 < cLine) (ha : PE X a (tE (zp X ex) W ca)) (hb : PE X b (tE (zp X ex) W cb)) (hm : behindInMarks op b = false) : PE X (.Compare a [op] [b] pos) (tE (zp X ex) W (dBin (cop op) ca cb)) :=
  (pe_cmpR (op_cop hu op) ha hb hm).impD fun σ H Q q => bin_imp q
theorem sT_cmp {op : CmpOp} (hu : X.A.units + 64 < cLine) (ha : PE X a (tE (zp X ex) W ca)) (hb : PE X b (tE (zp X ex) W cb)) (hm : behindInMarks op b = false) : PT X (.Compare a [op] [b] pos) (tT (zp X ex) W (dBin (cop op) ca cb)) :=
  (pt_cmpR (op_cop hu op) ha hb hm).impD fun σ H Q q => bin_imp q
theorem chain_imp {g g' : AV → AV → AS → VR} {Z : Zp} {σ : L2.St} {H : Hp} {Q : VK} (hg : ∀ a b S, (g a b S = none) ∨ ∃ k S', g a b S = some (.d (.bool k), S')) (h : tE Z W (dChain g g' ca cb cc) σ H Q) :
    tChain (rB Z g) (rB Z g') (tE Z W ca) (tE Z W cb) (tE Z W cc) σ H Q := by
  refine (tE.bind (f := fun σ a S1 => (cb σ S1).bind fun b S2 => (liftV (g a b S2)).bind fun k S3 => bAnd (fun σ S => (cc σ S).bind fun c S4 => liftV (g' b c S4)) σ k S3) h).imp fun v H1 q => ?_
  obtain ⟨F, ρ, S, a, aσ, rs, rv, st, p⟩ := q
  refine ⟨F, ρ, S, aσ, rs, st, (EPost.bind p).imp fun w H2 q2 => ?_⟩
  obtain ⟨F1, ρ1, S1, b, t, rs1, rw', p1⟩ := q2
  refine ⟨F1, ρ1, S1, a, b, rs1, rv.mono t, rw', ?_⟩
  rcases hg a b S1 with e | ⟨k, S2, e⟩
  · rw [e] at p1
    exact p1.elim
  · rw [e] at p1 ⊢
    intro F2 ρ2 H3 x t2 rs2 rx
    cases dbool (show Dp Z.K F2 x (.bool k) from rx)
    refine ⟨k, rfl, ?_⟩
    have st2 := (st.mono t).mono t2
    have p2 := EPost.tr t2 p1
    cases k with
    | true =>
      rw [if_pos rfl]
      have p3 : EPost Z W σ F2 ρ2 Q ((cc aσ S2).bind fun c S4 => liftV (g' b c S4)) := p2
      refine ⟨F2, ρ2, S2, aσ, rs2, st2, (EPost.bind p3).imp fun y H4 q3 => ?_⟩
      obtain ⟨F3, ρ3, S3, c, t3, rs3, ry, p3⟩ := q3
      exact ⟨F3, ρ3, S3, b, c, rs3, (rw'.mono t2).mono t3, ry, VPost.of p3⟩
    | false =>
      rw [if_neg Bool.false_ne_true]
      exact p2 F2 ρ2 H3 _ Tr.refl rs2 (show Dp _ _ _ _ from .bl false)
theorem cop_bool (op : CmpOp) (a b : AV) (S : AS) : (cop op a b S = none) ∨ ∃ k S', cop op a b S = some (.d (.bool k), S') := by
  cases op <;> simp only [cop, cEq, cNe, cEq0, cNe0, cLt, cLe, cGt, cGe, cIn, cNotIn, cIs, cIsNot] <;> split <;> first | exact .inl rfl | exact .inr ⟨_, _, rfl⟩ | (split <;> first | exact .inl rfl | exact .inr ⟨_, _, rfl⟩)
theorem sE_chain {op op' : CmpOp} (hu : X.A.units + 64 < cLine) (ha : PE X a (tE (zp X ex) W ca)) (hb : PE X b (tE (zp X ex) W cb)) (hc : PE X c (tE (zp X ex) W cc)) (hm : lastMarks [op, op'] [b, c] = false) :
    PE X (.Compare a [op, op'] [b, c] pos) (tE (zp X ex) W (dChain (cop op) (cop op') ca cb cc)) :=
  (pe_chain (op_cop hu op) (op_cop hu op') ha hb hc hm).impD fun σ H Q q => chain_imp (cop_bool op) q
theorem sT_chain {op op' : CmpOp} (hu : X.A.units + 64 < cLine) (ha : PE X a (tE (zp X ex) W ca)) (hb : PE X b (tE (zp X ex) W cb)) (hc : PE X c (tE (zp X ex) W cc)) (hm : lastMarks [op, op'] [b, c] = false) :
    PT X (.Compare a [op, op'] [b, c] pos) (tT (zp X ex) W (dChain (cop op) (cop op') ca cb cc)) :=
  (pt_chain (op_cop hu op) (op_cop hu op') ha hb hc hm).impD fun σ H Q q => chain_imp (cop_bool op) q
theorem sE_neg (ha : PE X a (tE (zp X ex) W ca)) : PE X (.UnaryOp .USub a pos) (tE (zp X ex) W (dNeg ca)) :=
  (pe_un un_neg ha).impD fun σ H Q q => by
    refine (tE.bind (f := fun σ a S1 => liftV (vNeg a S1)) q).imp fun v H1 q => ?_
    obtain ⟨F, ρ, S, a, aσ, rs, rv, st, p⟩ := q
    have p := VPost.of p
    unfold vNeg at p
    split at p
    · cases dint (show Dp X.K F v _ from rv)
      exact ⟨_, rfl, VPost.dat p rs (.int _)⟩
    · exact p.elim
theorem and_imp {Z : Zp} {σ : L2.St} {H : Hp} {Q : VK} (h : tE Z W (dAnd ca cb) σ H Q) : tE Z W ca σ H fun x H1 => ∃ k, x = .bl k ∧ if k = true then tE Z W cb σ H1 Q else Q (.bl false) H1 := by
  refine (tE.bind (f := fun σ a S1 => bAnd cb σ a S1) h).imp fun v H1 q => ?_
  obtain ⟨F, ρ, S, a, aσ, rs, rv, st, p⟩ := q
  unfold bAnd at p
  split at p
  · cases dbool (show Dp Z.K F v _ from rv)
    exact ⟨true, rfl, by rw [if_pos rfl]; exact ⟨F, ρ, S, aσ, rs, st, p⟩⟩
  · cases dbool (show Dp Z.K F v _ from rv)
    exact ⟨false, rfl, by rw [if_neg Bool.false_ne_true]; exact p F ρ H1 _ Tr.refl rs (show Dp _ _ _ _ from .bl false)⟩
  · exact p.elim
theorem or_imp {Z : Zp} {σ : L2.St} {H : Hp} {Q : VK} (h : tE Z W (dOr ca cb) σ H Q) : tE Z W ca σ H fun x H1 => ∃ k, x = .bl k ∧ if k = true then Q (.bl true) H1 else tE Z W cb σ H1 Q := by
  refine (tE.bind (f := fun σ a S1 => bOr cb σ a S1) h).imp fun v H1 q => ?_
  obtain ⟨F, ρ, S, a, aσ, rs, rv, st, p⟩ := q
  unfold bOr at p
  split at p
  · cases dbool (show Dp Z.K F v _ from rv)
    exact ⟨false, rfl, by rw [if_neg Bool.false_ne_true]; exact ⟨F, ρ, S, aσ, rs, st, p⟩⟩
  · cases dbool (show Dp Z.K F v _ from rv)
    exact ⟨true, rfl, by rw [if_pos rfl]; exact p F ρ H1 _ Tr.refl rs (show Dp _ _ _ _ from .bl true)⟩
  · exact p.elim
theorem if_imp {Z : Zp} {σ : L2.St} {H : Hp} {Q : VK} (h : tE Z W (dIf ca cb cc) σ H Q) : tE Z W ca σ H fun x H1 => ∃ k, x = .bl k ∧ if k = true then tE Z W cb σ H1 Q else tE Z W cc σ H1 Q := by
  refine (tE.bind (f := fun σ a S1 => bIf cb cc σ a S1) h).imp fun v H1 q => ?_
  obtain ⟨F, ρ, S, a, aσ, rs, rv, st, p⟩ := q
  unfold bIf at p
  split at p
  · cases dbool (show Dp Z.K F v _ from rv)
    exact ⟨true, rfl, by rw [if_pos rfl]; exact ⟨F, ρ, S, aσ, rs, st, p⟩⟩
  · cases dbool (show Dp Z.K F v _ from rv)
    exact ⟨false, rfl, by rw [if_neg Bool.false_ne_true]; exact ⟨F, ρ, S, aσ, rs, st, p⟩⟩
  · exact p.elim
theorem sE_one {op : BoolOp} (ha : PE X a (tE (zp X ex) W ca)) : PE X (.BoolOp op [a] pos) (tE (zp X ex) W ca) := pe_one ha
theorem sE_and {r : List Expr} (ha : PE X a (tE (zp X ex) W ca)) (hb : PE X (.BoolOp .And (b :: r) pos) (tE (zp X ex) W cb)) : PE X (.BoolOp .And (a :: b :: r) pos) (tE (zp X ex) W (dAnd ca cb)) :=
  (pe_and ha hb).impD fun σ H Q q => and_imp q
theorem sE_or {r : List Expr} (ha : PE X a (tE (zp X ex) W ca)) (hb : PE X (.BoolOp .Or (b :: r) pos) (tE (zp X ex) W cb)) : PE X (.BoolOp .Or (a :: b :: r) pos) (tE (zp X ex) W (dOr ca cb)) :=
  (pe_or ha hb).impD fun σ H Q q => or_imp q
theorem not_imp {Z : Zp} {σ : L2.St} {H : Hp} {Q : VK} (h : tE Z W (dNot ca) σ H Q) : tE Z W ca σ H fun x H1 => ∃ k, x = .bl k ∧ Q (.bl (!k)) H1 := by
  refine (tE.bind (f := fun σ a S1 => liftV (vNot a S1)) h).imp fun v H1 q => ?_
  obtain ⟨F, ρ, S, a, aσ, rs, rv, st, p⟩ := q
  have p := VPost.of p
  unfold vNot at p
  split at p
  · cases dbool (show Dp Z.K F v _ from rv)
    exact ⟨_, rfl, VPost.dat p rs (.bl _)⟩
  · exact p.elim
theorem sE_not (ha : PE X a (tE (zp X ex) W ca)) : PE X (.UnaryOp .Not a pos) (tE (zp X ex) W (dNot ca)) := (pe_not ha).impD fun σ H Q q => not_imp q
/-! tests -/
theorem tB2_bl {Q : Bool → Hp → Prop} {k : Bool} {H : Hp} (h : tB2 Q (.bl k) H) : Q k H := by
  obtain ⟨b, e, q⟩ := h
  cases e
  exact q
theorem sT_not (ha : PT X a (tT (zp X ex) W ca)) : PT X (.UnaryOp .Not a pos) (tT (zp X ex) W (dNot ca)) := (pt_not ha).impD fun σ H Q q => by
  refine (not_imp q).imp fun v H1 h => ?_
  obtain ⟨k, rfl, h⟩ := h
  exact ⟨k, rfl, tB2_bl h⟩
theorem sW_and1 (ha : PT X a (tT (zp X ex) W ca)) : PW X (.BoolOp .And [a] pos) (tT (zp X ex) W ca) := pw_and1 ha
theorem sW_or1 (ha : PT X a (tT (zp X ex) W ca)) : PW X (.BoolOp .Or [a] pos) (tT (zp X ex) W ca) := pw_or1 ha
theorem sW_and {r : List Expr} (ha : PT X a (tT (zp X ex) W ca)) (hb : PW X (.BoolOp .And (b :: r) pos) (tT (zp X ex) W cb)) : PW X (.BoolOp .And (a :: b :: r) pos) (tT (zp X ex) W (dAnd ca cb)) :=
  (pw_and ha hb).impD fun σ H Q q => by
    refine (and_imp q).imp fun v H1 h => ?_
    obtain ⟨k, rfl, h⟩ := h
    refine ⟨k, rfl, ?_⟩
    cases k with
    | true => exact h
    | false => exact tB2_bl h
theorem sW_or {r : List Expr} (ha : PT X a (tT (zp X ex) W ca)) (hb : PW X (.BoolOp .Or (b :: r) pos) (tT (zp X ex) W cb)) : PW X (.BoolOp .Or (a :: b :: r) pos) (tT (zp X ex) W (dOr ca cb)) :=
  (pw_or ha hb).impD fun σ H Q q => by
    refine (or_imp q).imp fun v H1 h => ?_
    obtain ⟨k, rfl, h⟩ := h
    refine ⟨k, rfl, ?_⟩
    cases k with
    | true => exact tB2_bl h
    | false => exact h
theorem sE_if (ht : PT X c (tT (zp X ex) W cc)) (ha : PE X a (tE (zp X ex) W ca)) (hb : PE X b (tE (zp X ex) W cb)) : PE X (.IfExp c a b pos) (tE (zp X ex) W (dIf cc ca cb)) :=
  (pe_ifExp ht ha hb).impD fun σ H Q q => if_imp q
theorem truD_ok {F H : Hp} {ρ : Rh} {S : AS} {a : AV} {x : V} {k : Bool} (rs : RS X.K F ρ S H) (ra : RepV (zp X ex) F ρ a x) (h : truD S a = some k) : TruV X.K x H k := by
  have gen : ∀ {l : List D} {b : Bool}, rdSeq S a = some (b, l) → k = !l.isEmpty → TruV X.K x H k := fun {l b} e ek => by
    obtain ⟨p, vs, rfl, kk, L, T⟩ := rdSeq_F (Z := zp X ex) rs ra e
    have e2 : (!vs.isEmpty) = !l.isEmpty := by
      cases kk <;> rfl
    cases b with
    | true => exact .inl ⟨vs, L rfl, by rw [ek, e2]⟩
    | false => exact .inr (.inl ⟨vs, T rfl, by rw [ek, e2]⟩)
  unfold truD at h
  split at h
  · cases dnone (show Dp X.K F x _ from ra)
    exact (Option.some.inj h).symm
  · cases dbool (show Dp X.K F x _ from ra)
    exact (Option.some.inj h).symm
  · cases dint (show Dp X.K F x _ from ra)
    exact (Option.some.inj h).symm
  · cases dstr (show Dp X.K F x _ from ra)
    split at h
    · rename_i c
      exact ⟨Nat.le_trans c cap_le, (Option.some.inj h).symm⟩
    · cases h
  · split at h
    · rename_i b l e
      exact gen e (Option.some.inj h).symm
    · cases h
theorem sT_tru (ha : PE X a (tE (zp X ex) W ca)) (he : ∀ whole, isTrue a X.env whole = (do let v ← whole; standAt a.pos; holding [v] (truthy v))) : PT X a (tT (zp X ex) W (dTru ca)) :=
  (pt_truth ha he).impD fun σ H Q q => by
    refine (tE.bind (f := fun σ a S1 => liftV (vTru a S1)) q).imp fun v H1 q => ?_
    obtain ⟨F, ρ, S, a, aσ, rs, rv, st, p⟩ := q
    have p := VPost.of p
    unfold vTru at p
    split at p
    · rename_i k e
      exact ⟨k, truD_ok rs rv e, tB2_bl (VPost.dat p rs (.bl _))⟩
    · exact p.elim

/-! ### argument lists, calls -/
theorem sL_nil : PA X [] (tL (zp X ex) W lNil) := pa_nil.impD fun σ H Q q => by
  obtain ⟨F, ρ, S, aσ, rs, st, p⟩ := q
  exact p F ρ H [] Tr.refl rs .nil
theorem lcons_imp {Z : Zp} {σ : L2.St} {H : Hp} {l : Ln} {Q : List V → Hp → Prop} (h : tL Z W (lCons ca l) σ H Q) : tE Z W ca σ H fun x H1 => tL Z W l σ H1 fun xs H2 => Q (x :: xs) H2 := by
  obtain ⟨F, ρ, S, aσ, rs, st, p⟩ := h
  refine ⟨F, ρ, S, aσ, rs, st, ?_⟩
  unfold lCons at p
  cases e : ca aσ S with
  | err x S1 => rw [e] at p; exact p
  | stuck => rw [e] at p; exact p
  | ok a S1 =>
    rw [e] at p
    intro F1 ρ1 H1 v t rs1 rw1
    obtain ⟨F2, s2, rs2, rv⟩ := fzW rs1 rw1
    have t2 : Tr F ρ F2 ρ1 := t.trans (Tr.sam s2)
    refine ⟨F2, ρ1, S1, aσ, rs2, st.mono t2, ?_⟩
    have p : LPost Z W σ F ρ Q ((l aσ S1).cons a.fz) := p
    cases e2 : l aσ S1 with
    | err x S2 =>
      rw [e2] at p
      exact fun F' ρ' H' cls d t' => p F' ρ' H' cls d (t2.trans t')
    | stuck => rw [e2] at p; exact p
    | ok as S2 =>
      rw [e2] at p
      intro F3 ρ3 H3 vs t3 rs3 rvs
      exact p F3 ρ3 H3 (v :: vs) (t2.trans t3) rs3 (.cons (rv.mono t3) rvs)
theorem sL_cons {es : List Expr} {l : Ln} (ha : PE X e (tE (zp X ex) W ca)) (hr : PA X es (tL (zp X ex) W l)) (hs : starEach (e :: es) X.env = (false, eval e X.env) :: starEach es X.env) : PA X (e :: es) (tL (zp X ex) W (lCons ca l)) :=
  (pa_cons ha hr hs).impD fun σ H Q q => lcons_imp q
theorem callV_imp {g : List AV → AS → VR} {Z : Zp} {σ : L2.St} {H : Hp} {Q : VK} {l : Ln} (h : tE Z W (dCallV g l) σ H Q) : tL Z W l σ H fun vs H1 => rC Z g vs H1 Q := by
  refine (tL.bind (f := fun σ as S1 => liftV (g as S1)) h).imp fun v H1 q => ?_
  obtain ⟨F, ρ, S, as, aσ, rs, rv, st, p⟩ := q
  exact ⟨F, ρ, S, as, rs, rv, VPost.of p⟩
theorem sE_callB {x : Str} {p : Pos} {es : List Expr} {l : Ln} {id : String} {g : List AV → AS → VR} (hc : CallR X (.builtin id) (rC (zp X ex) g)) (hg : Gl X x) (hm : X.mg x = none) (hv : bootBuiltins x = some (.builtin id)) (ha : PA X (e :: es) (tL (zp X ex) W l))
    (hn : x ≠ "__name__") (hdb : (x == ("__debug__" : Str)) = false) (he : starEach (e :: es) X.env = (false, eval e X.env) :: starEach es X.env) (hpl : (backTo pos (starEach es X.env)).any (·.1) = false) :
    PE X (.Call (.Name x p) (e :: es) [] pos) (tE (zp X ex) W (dCallV g l)) := (pe_callB hc hg hm hv ha hn hdb he hpl).impD fun σ H Q q => callV_imp q
theorem sE_callTy {x : Str} {p : Pos} {es : List Expr} {l : Ln} {T : String} {g : List AV → AS → VR} (hc : CallR X (.type T) (rC (zp X ex) g)) (hg : Gl X x) (hm : X.mg x = none) (hv : bootBuiltins x = some (.type T)) (ha : PA X (e :: es) (tL (zp X ex) W l))
    (hn : x ≠ "__name__") (hdb : (x == ("__debug__" : Str)) = false) (he : starEach (e :: es) X.env = (false, eval e X.env) :: starEach es X.env) (hpl : (backTo pos (starEach es X.env)).any (·.1) = false) :
    PE X (.Call (.Name x p) (e :: es) [] pos) (tE (zp X ex) W (dCallV g l)) := (pe_callTy hc hg hm hv ha hn hdb he hpl).impD fun σ H Q q => callV_imp q
theorem sE_callF {x : Str} {p : Pos} {es : List Expr} {l : Ln} {id : String} {g : List AV → AS → VR} (hc : CallR X (.builtin id) (rC (zp X ex) g)) (hg : Gl X x) (hm : X.mg x = some (.builtin id)) (ha : PA X (e :: es) (tL (zp X ex) W l))
    (hdb : (x == ("__debug__" : Str)) = false) (he : starEach (e :: es) X.env = (false, eval e X.env) :: starEach es X.env) (hpl : (backTo pos (starEach es X.env)).any (·.1) = false) :
    PE X (.Call (.Name x p) (e :: es) [] pos) (tE (zp X ex) W (dCallV g l)) := (pe_callBfun hc hg hm ha hdb he hpl).impD fun σ H Q q => callV_imp q
/-- a def's promise -/
def spOf (K : PySem.W.Frag) (mg : Str → Option Value) (np : Nat) (f : List AV → AS → ER) : Sp := fun vs H Q E => vs.length = np ∧ ∃ F ρ S as, RS K F ρ S H ∧ RepVs ⟨K, mg, none⟩ F ρ as vs ∧ EPost ⟨K, mg, none⟩ (fun cls d _ H => E cls d H) [] F ρ Q (f as S)
theorem RepVs.len {Z : Zp} {F : Hp} {ρ : Rh} {as : List AV} {vs : List V} (h : RepVs Z F ρ as vs) : as.length = vs.length := Paired.length h
def arity (np : Nat) (f : List AV → AS → ER) : List AV → AS → ER := fun as S => if as.length = np then f as S else .stuck
theorem EPost.wish {Z : Zp} {σ : L2.St} {F : Hp} {ρ : Rh} {Q : VK} {r : ER} (h : EPost Z W σ F ρ Q r) : EPost Z (fun cls d _ H => WE W σ cls d H) [] F ρ Q r := by
  cases r <;> exact h
theorem call_imp {np : Nat} {f : List AV → AS → ER} {σ : L2.St} {H : Hp} {Q : VK} {l : Ln} (h : tE (zp X none) W (dCall (arity np f) l) σ H Q) : tL (zp X none) W l σ H fun vs H1 => spOf X.K X.mg np f vs H1 Q (WE W σ) := by
  refine (tL.bind (f := fun σ as S1 => arity np f as S1) h).imp fun v H1 q => ?_
  obtain ⟨F, ρ, S, as, aσ, rs, rv, st, p⟩ := q
  unfold arity at p
  split at p
  · rename_i hl
    exact ⟨by rw [← RepVs.len rv]; exact hl, F, ρ, S, as, rs, rv, p.wish⟩
  · exact p.elim
theorem sE_call {k np : Nat} {g : Addr} {fd : FuncData} {ps : List Str} {f : List AV → AS → ER} {x : Str} {p : Pos} {es : List Expr} {l : Ln} (F : FnOk X.prog X.w X.K X.mg X.base (L2.CX X.prog X.w) k g fd ps (spOf X.K X.mg np f)) (hr : Room k X.A) (hg : Gl X x) (hm : X.mg x = some (.ref g))
    (hk : PySem.W.keepIn X.K (.ref g) = true) (hb : Binds X.K fd ps []) (tk : Takes X W) (ha : PA X (e :: es) (tL (zp X none) W l))
    (hdb : (x == ("__debug__" : Str)) = false) (he : starEach (e :: es) X.env = (false, eval e X.env) :: starEach es X.env) (hpl : (backTo pos (starEach es X.env)).any (·.1) = false) :
    PE X (.Call (.Name x p) (e :: es) [] pos) (tE (zp X none) W (dCall (arity np f) l)) := (pe_callS F hr hg hm hk hb (fun σ => passAt tk σ) ha hdb he hpl).impD fun σ H Q q => call_imp q
theorem sE_call0 {k : Nat} {g : Addr} {fd : FuncData} {f : List AV → AS → ER} {x : Str} {p : Pos} (F : FnOk X.prog X.w X.K X.mg X.base (L2.CX X.prog X.w) k g fd [] (spOf X.K X.mg 0 f)) (hr : Room k X.A) (hg : Gl X x) (hm : X.mg x = some (.ref g))
    (hk : PySem.W.keepIn X.K (.ref g) = true) (hb : Binds X.K fd [] []) (tk : Takes X W) (hdb : (x == ("__debug__" : Str)) = false) :
    PE X (.Call (.Name x p) [] [] pos) (tE (zp X none) W (dCall (arity 0 f) lNil)) := by
  refine ⟨fun pins s σ H Q I h => ?_⟩
  refine wpAny_Call_Name_kw (ld_glob I hg hm ?_ hdb)
  obtain ⟨F1, ρ, S, aσ, rs, st, q⟩ := call_imp h
  have q2 := q F1 ρ H [] Tr.refl rs .nil
  exact PySem.W.callWith_K0 I.kIn hk (run_fnS (us := []) (vs := []) F hr hb (passAt tk σ) I .nil q2)

/-! ### displays, subscripts, methods -/
theorem sE_tup {es : List Expr} {l : Ln} {k : Nat} (h : PA X es (tL (zp X ex) W l)) : PE X (.Tuple es k pos) (tE (zp X ex) W (dCallV vTupD l)) := (pe_tup h).impD fun σ H Q q => by
  refine (tL.bind (f := fun σ as S1 => liftV (vTupD as S1)) q).imp fun vs H1 q => ?_
  obtain ⟨F, ρ, S, as, aσ, rs, rv, st, p⟩ := q
  have p := VPost.of p
  unfold vTupD at p
  split at p
  · rename_i l2 S1 e
    obtain ⟨F1, s1, rs1, d1⟩ := frzAll_ok rs rv e
    split at p
    · rename_i hc
      refine ⟨by rw [dpA_len d1]; exact Nat.le_trans hc cap_le, fun r hr => ?_⟩
      have p1 : VPost (zp X ex) F1 ρ Q (some (.d (.tuple l2), S1)) := fun F' ρ' H' v t => p F' ρ' H' v ((Tr.sam s1).trans t)
      exact p1.tup rs1 d1 r hr
    · exact p.elim
  · exact p.elim
theorem sE_lst {es : List Expr} {l : Ln} (h : PA X es (tL (zp X ex) W l)) : PE X (.List es pos) (tE (zp X ex) W (dCallV vLstD l)) := (pe_lst h).impD fun σ H Q q => by
  refine (tL.bind (f := fun σ as S1 => liftV (vLstD as S1)) q).imp fun vs H1 q => ?_
  obtain ⟨F, ρ, S, as, aσ, rs, rv, st, p⟩ := q
  have p := VPost.of p
  unfold vLstD at p
  split at p
  · rename_i l2 S1 e
    obtain ⟨F1, s1, rs1, d1⟩ := frzAll_ok rs rv e
    split at p
    · rename_i hc
      refine ⟨by rw [dpA_len d1]; exact Nat.le_trans hc cap_le, fun r hr => ?_⟩
      have p1 : VPost (zp X ex) F1 ρ Q (some (.own l2, S1)) := fun F' ρ' H' v t => p F' ρ' H' v ((Tr.sam s1).trans t)
      exact p1.own rs1 d1 r hr
    · exact p.elim
  · exact p.elim
theorem sE_ix (ha : PE X a (tE (zp X ex) W ca)) (hb : PE X b (tE (zp X ex) W cb)) (hs : PlainIx b) : PE X (.Subscript a b pos) (tE (zp X ex) W (dBin vIx ca cb)) :=
  (pe_ix vIx_ok ha hb hs).impD fun σ H Q q => bin_imp q
theorem part_imp {Z : Zp} {σ : L2.St} {H : Hp} {F : Hp} {ρ : Rh} {S : AS} {aσ : ASt} {Q : VK} {c : Dn} {k : Option Int → AS → ER} {R : Option Int → Hp → Prop} (rs : RS Z.K F ρ S H) (st : RSt Z F ρ aσ σ) (p : EPost Z W σ F ρ Q (bPart (some c) aσ S k))
    (hk : ∀ o F1 ρ1 S1 H1, Tr F ρ F1 ρ1 → RS Z.K F1 ρ1 S1 H1 → EPost Z W σ F1 ρ1 Q (k o S1) → R o H1) : tPart (tE Z W c) σ H R := by
  refine ⟨F, ρ, S, aσ, rs, st, (EPost.bind (show EPost Z W σ F ρ Q ((c aσ S).bind fun b S1 => match b with
    | .d (.int i) => k (some i) S1
    | _ => .stuck) from p)).imp fun w H2 q2 => ?_⟩
  obtain ⟨F1, ρ1, S1, b, t, rs1, rw', p1⟩ := q2
  split at p1
  · cases dint (show Dp Z.K F1 w _ from rw')
    exact ⟨_, rfl, hk _ _ _ _ _ t rs1 p1⟩
  · exact p1.elim
theorem sE_slice {lo hi : Option Expr} {cl ch : Option Dn} {p2 : Pos} (ha : PE X a (tE (zp X ex) W ca)) (hl : ∀ e, lo = some e → ∃ c, cl = some c ∧ PE X e (tE (zp X ex) W c)) (hl0 : lo = none → cl = none)
    (hh : ∀ e, hi = some e → ∃ c, ch = some c ∧ PE X e (tE (zp X ex) W c)) (hh0 : hi = none → ch = none) : PE X (.Subscript a (.Slice lo hi none p2) pos) (tE (zp X ex) W (dSl ca cl ch)) := by
  have first : ∀ {σ : L2.St} {H : Hp} {Q : VK}, tE (zp X ex) W (dSl ca cl ch) σ H Q → tE (zp X ex) W ca σ H fun v H1 => ∃ F ρ S a aσ, RS X.K F ρ S H1 ∧ RepV (zp X ex) F ρ a v ∧ RSt (zp X ex) F ρ aσ σ ∧ EPost (zp X ex) W σ F ρ Q (bPart cl aσ S fun l S2 => bPart ch aσ S2 fun u S3 => liftV (vSl a l u S3)) :=
    fun {σ H Q} q => tE.bind (f := fun σ a S1 => bPart cl σ S1 fun l S2 => bPart ch σ S2 fun u S3 => liftV (vSl a l u S3)) q
  cases lo with
  | none =>
    cases hl0 rfl
    cases hi with
    | none =>
      cases hh0 rfl
      refine (pe_slice (vSl_ok (ex := ex)) ha po_none po_none).impD fun σ H Q q => (first q).imp fun v H1 q => ?_
      obtain ⟨F, ρ, S, a, aσ, rs, rv, st, p⟩ := q
      exact ⟨F, ρ, S, a, rs, rv, VPost.of p⟩
    | some h =>
      obtain ⟨c2, rfl, h2⟩ := hh h rfl
      refine (pe_slice (vSl_ok (ex := ex)) ha po_none (po_some h2)).impD fun σ H Q q => (first q).imp fun v H1 q => ?_
      obtain ⟨F, ρ, S, a, aσ, rs, rv, st, p⟩ := q
      show tPart (tE (zp X ex) W c2) σ H1 fun u H3 => rSl (zp X ex) v none u H3 Q
      exact part_imp (k := fun u S3 => liftV (vSl a none u S3)) rs st p fun o F1 ρ1 S1 H2 t rs1 p1 => ⟨F1, ρ1, S1, a, rs1, rv.mono t, VPost.of p1⟩
  | some l =>
    obtain ⟨c1, rfl, h1⟩ := hl l rfl
    cases hi with
    | none =>
      cases hh0 rfl
      refine (pe_slice (vSl_ok (ex := ex)) ha (po_some h1) po_none).impD fun σ H Q q => (first q).imp fun v H1 q => ?_
      obtain ⟨F, ρ, S, a, aσ, rs, rv, st, p⟩ := q
      exact part_imp rs st p fun o F1 ρ1 S1 H2 t rs1 p1 => ⟨F1, ρ1, S1, a, rs1, rv.mono t, VPost.of p1⟩
    | some h =>
      obtain ⟨c2, rfl, h2⟩ := hh h rfl
      refine (pe_slice (vSl_ok (ex := ex)) ha (po_some h1) (po_some h2)).impD fun σ H Q q => (first q).imp fun v H1 q => ?_
      obtain ⟨F, ρ, S, a, aσ, rs, rv, st, p⟩ := q
      exact part_imp rs st p fun o F1 ρ1 S1 H2 t rs1 p1 => part_imp (k := fun u S3 => liftV (vSl a o u S3)) rs1 (st.mono t) p1 fun o2 F2 ρ2 S2 H3 t2 rs2 p2 => ⟨F2, ρ2, S2, a, rs2, (rv.mono t).mono t2, VPost.of p2⟩
theorem meth_imp {g : AV → List AV → AS → VR} {l : Ln} {σ : L2.St} {H : Hp} {Q : VK} (h : tE (zp X ex) W (dMeth g ca l) σ H Q) : tBM X.K "list" (rM (zp X ex) g) (tE (zp X ex) W ca) (tL (zp X ex) W l) σ H Q := by
  refine (tE.bind (f := fun σ a S1 => bMeth g l σ a S1) h).imp fun v H1 q => ?_
  obtain ⟨F, ρ, S, a, aσ, rs, rv, st, p⟩ := q
  unfold bMeth at p
  split at p
  · rename_i c
    refine ⟨isL_ok rs rv c, ?_⟩
    refine ⟨F, ρ, S, aσ, rs, st, (LPost.bind p).imp fun vs H2 q2 => ?_⟩
    obtain ⟨F1, ρ1, S1, as, t, rs1, rvs, p1⟩ := q2
    exact ⟨F1, ρ1, S1, a, as, rs1, rv.mono t, rvs, VPost.of p1⟩
  · exact p.elim
theorem meth0_imp {g : AV → List AV → AS → VR} {σ : L2.St} {H : Hp} {Q : VK} (h : tE (zp X ex) W (dMeth g ca lNil) σ H Q) : tBM0 X.K "list" (rM (zp X ex) g) (tE (zp X ex) W ca) σ H Q := by
  refine (tE.bind (f := fun σ a S1 => bMeth g lNil σ a S1) h).imp fun v H1 q => ?_
  obtain ⟨F, ρ, S, a, aσ, rs, rv, st, p⟩ := q
  unfold bMeth at p
  split at p
  · rename_i c
    exact ⟨isL_ok rs rv c, F, ρ, S, a, [], rs, rv, .nil, VPost.of (show EPost (zp X ex) W σ F ρ Q (liftV (g a [] S)) from p)⟩
  · exact p.elim
theorem sE_meth {o : Expr} {es : List Expr} {l : Ln} {name : Str} {id : String} {g : AV → List AV → AS → VR} {apos cpos : Pos} (slot : Slot "list" name id) (hty : typeOf (.builtin id) = pure (.type "method_descriptor")) (hm : MtR X id (rM (zp X ex) g))
    (ho : PE X o (tE (zp X ex) W ca)) (ha : PA X (e :: es) (tL (zp X ex) W l)) (hbase : attributeBase o name X.env (eval o X.env) = eval o X.env)
    (hfew : ((backTo cpos (starEach (e :: es) X.env)).all (fun x => !x.1) && (backToKw cpos (keywordEach [] X.env)).all (fun x => x.1.isSome)
      && decide ((e :: es).length + ([] : List Keyword).length + (if ([] : List Keyword).isEmpty then 0 else 1) < 30)) = true)
    (hline : (apos.endLine == cpos.line) = true) (hs : starEach (e :: es) X.env = (false, eval e X.env) :: starEach es X.env) (hplain : (backTo cpos (starEach es X.env)).any (·.1) = false) :
    PE X (.Call (.Attribute o name apos) (e :: es) [] cpos) (tE (zp X ex) W (dMeth g ca l)) := (pe_bm PySem.F.plainAttrs_list slot hty hm ho ha hbase hfew hline hs hplain).impD fun σ H Q q => meth_imp q
theorem sE_meth0 {o : Expr} {name : Str} {id : String} {g : AV → List AV → AS → VR} {apos cpos : Pos} (slot : Slot "list" name id) (hty : typeOf (.builtin id) = pure (.type "method_descriptor")) (hm : MtR X id (rM (zp X ex) g))
    (ho : PE X o (tE (zp X ex) W ca)) (hbase : attributeBase o name X.env (eval o X.env) = eval o X.env) (hline : (apos.endLine == cpos.line) = true) :
    PE X (.Call (.Attribute o name apos) [] [] cpos) (tE (zp X ex) W (dMeth g ca lNil)) := (pe_bm0 PySem.F.plainAttrs_list slot hty hm ho hbase hline).impD fun σ H Q q => meth0_imp q
/-- isinstance(e, T), isinstance(e, (T, ..)) -/
theorem isi_one {x tn : Str} {p p2 : Pos} {T : String} (hg : Gl X x) (hm : X.mg x = none) (hgt : Gl X tn) (hmt : X.mg tn = none) (hvt : bootBuiltins tn = some (.type T)) (hT : T ∈ ["bool", "int", "str", "list", "tuple", "dict"]) (hx : x = "isinstance") (ha : PE X a (tE (zp X ex) W ca))
    (hnt : tn ≠ "__name__") (hdt : (tn == ("__debug__" : Str)) = false) (he : starEach [a, .Name tn p2] X.env = (false, eval a X.env) :: starEach [.Name tn p2] X.env) : PE X (.Call (.Name x p) [a, .Name tn p2] [] pos) (tE (zp X ex) W (dIsi [T] ca)) := by
  subst hx
  refine (pe_callB call_isi hg hm PyProof.Rows.boot_isinstance (pa_cons ha (pa_cons (pe_bltn (v := .ty T) (u := .type T) hgt hmt hvt rfl hnt hdt) pa_nil rfl) he) (by decide) (by decide) he rfl).impD fun σ H Q q => ?_
  refine (tE.bind (f := fun σ a S1 => liftV (vIsi [T] a S1)) q).imp fun v H1 q => ?_
  obtain ⟨F, ρ, S, a, aσ, rs, rv, st, p⟩ := q
  have p := VPost.of p
  unfold vIsi at p
  split at p
  · rename_i t e
    obtain ⟨ty, ht⟩ := tyName_ok rs rv e
    refine ⟨v, .ty T, _, _, kitS t T, rfl, .ty T, ty, kit_of_names ht hT, ?_⟩
    have q2 := VPost.dat p rs (v := .bl ([T].any (kitS t))) (.bl _)
    simpa using q2
  · exact p.elim
/-- class names as values -/
inductive TyNames (X : Cx) : List Expr → List String → Prop
  | nil : TyNames X [] []
  | cons {tn : Str} {p : Pos} {T : String} {es : List Expr} {Ts : List String} (hg : Gl X tn) (hm : X.mg tn = none) (hv : bootBuiltins tn = some (.type T)) (hT : T ∈ ["bool", "int", "str", "list", "tuple", "dict"]) (hn : tn ≠ "__name__") (hd : (tn == ("__debug__" : Str)) = false)
      (r : TyNames X es Ts) : TyNames X (.Name tn p :: es) (T :: Ts)
def tTys : List String → TA
  | [] => tNil
  | T :: Ts => tCons (tC (.ty T)) (tTys Ts)
theorem tys_pa {es : List Expr} {Ts : List String} (h : TyNames X es Ts) : PA X es (tTys Ts) := by
  induction h with
  | nil => exact pa_nil
  | cons hg hm hv hT hn hd r ih => exact pa_cons (pe_bltn hg hm hv rfl hn hd) ih rfl
theorem tys_run {σ : L2.St} : ∀ {Ts : List String} {H : Hp} {Q : List V → Hp → Prop}, Q (Ts.map V.ty) H → tTys Ts σ H Q
  | [], _, _, q => q
  | T :: Ts, _, _, q => tys_run (Ts := Ts) q
theorem tys_cls : ∀ (Ts : List String), Paired ClsV (Ts.map V.ty) (Ts.map Value.type)
  | [] => .nil
  | T :: Ts => .cons (.ty T) (tys_cls Ts)
theorem tys_kit {K : PySem.W.Frag} {t : String} (ht : t ∈ ["NoneType", "bool", "int", "str", "list", "tuple"]) : ∀ {Ts : List String}, (∀ T ∈ Ts, T ∈ ["bool", "int", "str", "list", "tuple", "dict"]) → PySem.W.kitAny K (.type t) (Ts.map Value.type) = some (Ts.any (kitS t))
  | [], _ => rfl
  | T :: Ts, h => by
    have ih := tys_kit (K := K) ht (Ts := Ts) fun T hT => h T (List.mem_cons_of_mem _ hT)
    refine kitAny_cons (kit_of_names ht (h T List.mem_cons_self)) (fun e => ?_) fun e => ?_
    · rw [List.any_cons, e, Bool.false_or]
      exact ih
    · rw [List.any_cons, e, Bool.true_or]
theorem TyNames.mem {es : List Expr} {Ts : List String} (h : TyNames X es Ts) : ∀ T ∈ Ts, T ∈ ["bool", "int", "str", "list", "tuple", "dict"] := by
  induction h with
  | nil => exact fun _ h => by cases h
  | cons hg hm hv hT hn hd r ih =>
    intro T h
    rcases List.mem_cons.mp h with rfl | h
    · exact hT
    · exact ih T h
theorem isi_many {x : Str} {p p2 : Pos} {k : Nat} {es : List Expr} {Ts : List String} (hg : Gl X x) (hm : X.mg x = none) (hx : x = "isinstance") (hts : TyNames X es Ts) (hl : Ts.length ≤ 100) (ha : PE X a (tE (zp X ex) W ca))
    (he : starEach [a, .Tuple es k p2] X.env = (false, eval a X.env) :: starEach [.Tuple es k p2] X.env) : PE X (.Call (.Name x p) [a, .Tuple es k p2] [] pos) (tE (zp X ex) W (dIsi Ts ca)) := by
  subst hx
  refine (pe_callB call_isiT hg hm PyProof.Rows.boot_isinstance (pa_cons ha (pa_cons (pe_tup (tys_pa hts)) pa_nil rfl) he) (by decide) (by decide) he rfl).impD fun σ H Q q => ?_
  refine (tE.bind (f := fun σ a S1 => liftV (vIsi Ts a S1)) q).imp fun v H1 q => ?_
  obtain ⟨F, ρ, S, a, aσ, rs, rv, st, p⟩ := q
  have p := VPost.of p
  unfold vIsi at p
  split at p
  · rename_i t e
    obtain ⟨ty, ht⟩ := tyName_ok rs rv e
    refine tys_run ⟨by rw [List.length_map]; exact Nat.le_trans hl (by rw [sizeLine_eq]; decide), fun r hr => ?_⟩
    have rs2 := rs.newH (o := .tup (Ts.map V.ty)) hr
    obtain ⟨ty2, _⟩ := tyName_ok (ex := ex) rs2 rv e
    exact ⟨v, r, Ts.map V.ty, _, _, Ts.any (kitS t), rfl, upd_same, tys_cls Ts, ty2, tys_kit ht hts.mem, VPost.dat p rs2 (.bl _)⟩
  · exact p.elim
end
end Den
/-! Den5: targets, statements, loops. -/
namespace Den
open PySem PySem.Spec PyProof.Rows L2

/-! ### targets -/
mutual
inductive Pat where
  | nm (i : Nat) | tp (ps : Pats)
inductive Pats where
  | nil | cons (p : Pat) (ps : Pats)
end
def Pats.len : Pats → Nat
  | .nil => 0
  | .cons _ ps => ps.len + 1
mutual
def bindP (S : AS) : Pat → AV → ASt → Option ASt
  | .nm i, a, σ => some (σ.set i (some a))
  | .tp ps, a, σ => match rdSeq S a with
    | some (_, l) => bindPs S ps l σ
    | none => none
def bindPs (S : AS) : Pats → List D → ASt → Option ASt
  | .nil, [], σ => some σ
  | .cons p ps, x :: l, σ => match bindP S p (.d x) σ with
    | some σ1 => bindPs S ps l σ1
    | none => none
  | .nil, _ :: _, _ => none
  | .cons _ _, [], _ => none
end
theorem bindPs_len {S : AS} : ∀ {ps : Pats} {l : List D} {σ σ' : ASt}, bindPs S ps l σ = some σ' → l.length = ps.len
  | .nil, [], _, _, _ => rfl
  | .nil, _ :: _, _, _, h => by simp only [bindPs] at h; cases h
  | .cons _ _, [], _, _, h => by simp only [bindPs] at h; cases h
  | .cons p ps, x :: l, σ, σ', h => by
    cases e : bindP S p (.d x) σ with
    | none => simp only [bindPs, e] at h; cases h
    | some σ1 =>
      simp only [bindPs, e] at h
      rw [List.length_cons, bindPs_len h]
      rfl
mutual
def Pat.slots : Pat → List Nat
  | .nm i => [i]
  | .tp ps => ps.slots
def Pats.slots : Pats → List Nat
  | .nil => []
  | .cons p ps => p.slots ++ ps.slots
end
/-- nothing but these slots differs -/
def Wip (is : List Nat) (σ σ' : L2.St) : Prop := ∀ vs : List Nat, (∀ i ∈ is, i ∈ vs) → wipe σ' vs = wipe σ vs
theorem wip_refl (σ : L2.St) : Wip [] σ σ := fun _ _ => rfl
theorem Wip.trans {is js : List Nat} {σ σ1 σ2 : L2.St} (a : Wip is σ σ1) (b : Wip js σ1 σ2) : Wip (is ++ js) σ σ2 := fun vs h =>
  (b vs fun i hi => h i (List.mem_append_right _ hi)).trans (a vs fun i hi => h i (List.mem_append_left _ hi))
theorem wipe_set_out {σ : L2.St} {i : Nat} {x : Option V} : ∀ vs : List Nat, i ∉ vs → wipe (σ.set i x) vs = (wipe σ vs).set i x
  | [], _ => rfl
  | v :: vs, h => by
    show (wipe (σ.set i x) vs).set v none = ((wipe σ vs).set v none).set i x
    rw [wipe_set_out vs fun z => h (List.mem_cons_of_mem _ z), List.set_comm _ _ (fun z : i = v => h (by rw [z]; exact List.mem_cons_self))]
theorem wip_set (σ : L2.St) (i : Nat) (x : Option V) : Wip [i] σ (σ.set i x) := fun vs h0 => by
  have h : i ∈ vs := h0 i List.mem_cons_self
  clear h0
  induction vs with
  | nil => cases h
  | cons v vs ih =>
    show (wipe (σ.set i x) vs).set v none = (wipe σ vs).set v none
    by_cases hi : i ∈ vs
    · rw [ih hi]
    · have e : i = v := by
        rcases List.mem_cons.mp h with e | e
        · exact e
        · exact absurd e hi
      subst e
      rw [wipe_set_out vs hi, List.set_set]
def tG (Z : Zp) (p : Pat) : TG := fun v σ H Q => ∃ F ρ S a aσ aσ', RS Z.K F ρ S H ∧ RSt Z F ρ aσ σ ∧ RepV Z F ρ a v ∧ bindP S p a aσ = some aσ' ∧ ∀ σ', RSt Z F ρ aσ' σ' → Wip p.slots σ σ' → Q σ' H
def tGs (Z : Zp) (ps : Pats) : TGs := fun vs σ H Q => ∃ F ρ S l aσ aσ', RS Z.K F ρ S H ∧ RSt Z F ρ aσ σ ∧ DpAll Z.K F vs l ∧ bindPs S ps l aσ = some aσ' ∧ ∀ σ', RSt Z F ρ aσ' σ' → Wip ps.slots σ σ' → Q σ' H
def notStar : Expr → Bool
  | .Starred _ _ => false
  | _ => true
theorem assignEach_cons {e : Expr} {es : List Expr} {env : Env} (h : notStar e = true) : assignEach (e :: es) env = (false, assign e env) :: assignEach es env := by
  cases e <;> first | rfl | cases h
theorem starEach_cons {e : Expr} {es : List Expr} {env : Env} (h : notStar e = true) : starEach (e :: es) env = (false, eval e env) :: starEach es env := by
  cases e <;> first | rfl | cases h
section
variable {X : Cx} {ex : Option (Addr × Value × Option Addr)} {pos : Pos}
theorem PG.orD {e : Expr} {t u : TG} (h : PG X e t) (k : PG X e u) : PG X e (fun v σ H Q => t v σ H Q ∨ u v σ H Q) := ⟨fun pins s σ H v w Q I r q => by
  rcases q with q | q
  · exact h.run pins s σ H v w Q I r q
  · exact k.run pins s σ H v w Q I r q⟩
theorem PG.impD {e : Expr} {t t' : TG} (h : PG X e t) (k : ∀ v σ H Q, t' v σ H Q → t v σ H Q) : PG X e t' := ⟨fun pins s σ H v w Q I r q => h.run pins s σ H v w Q I r (k v σ H Q q)⟩
theorem sG_name {i : Nat} {x : Str} (hN : X.N.Nodup) (hi : X.N[i]? = some x) (hx : Loc X.env.scope x) (hf : X.fn x = true ∨ X.env.scope.names.lookup x = some .local) : PG X (.Name x pos) (tG (zp X ex) (.nm i)) :=
  PG.impD (pg_name hN hi hx hf) fun v σ H Q h => by
    obtain ⟨F, ρ, S, a, aσ, aσ', rs, st, rv, e, k⟩ := h
    have e : some (aσ.set i (some a)) = some aσ' := by simpa only [bindP] using e
    cases Option.some.inj e
    exact k _ (st.set rv) (by unfold Pat.slots; exact wip_set σ i _)
theorem sGs_nil : PGs X [] (tGs (zp X ex) .nil) := ⟨fun pins s σ H vs us Q I r h => by
  obtain ⟨F, ρ, S, l, aσ, aσ', rs, st, k, e, q⟩ := h
  have hl := bindPs_len e
  cases k with
  | cons _ _ => cases hl
  | nil =>
    have e : some aσ = some aσ' := by simpa only [bindPs] using e
    cases Option.some.inj e
    exact pgs_nil.run pins s σ H [] us Q I r ⟨rfl, q σ st (by unfold Pats.slots; exact wip_refl σ)⟩⟩
theorem sGs_cons {e : Expr} {es : List Expr} {p : Pat} {ps : Pats} (h1 : PG X e (tG (zp X ex) p)) (h2 : PGs X es (tGs (zp X ex) ps)) (hs : notStar e = true) : PGs X (e :: es) (tGs (zp X ex) (.cons p ps)) :=
  ⟨fun pins s σ H vs us Q I r h => by
    obtain ⟨F, ρ, S, l, aσ, aσ', rs, st, k, e1, q⟩ := h
    have hl := bindPs_len e1
    cases k with
    | nil => cases hl
    | @cons v vr x l k1 k2 =>
      cases e2 : bindP S p (.d x) aσ with
      | none => simp only [bindPs, e2] at e1; cases e1
      | some σ1 =>
        simp only [bindPs, e2] at e1
        refine (pgs_cons h1 h2 (by rw [assignEach_cons hs]; rfl)).run pins s σ H _ us Q I r ⟨v, vr, rfl, ?_⟩
        exact ⟨F, ρ, S, .d x, aσ, σ1, rs, st, k1, e2, fun σ' st' w1 => ⟨F, ρ, S, l, σ1, aσ', rs, st', k2, e1, fun σ2 st2 w2 => q σ2 st2 (by unfold Pats.slots; exact w1.trans w2)⟩⟩⟩
theorem sG_tup {es : List Expr} {k : Nat} {ps : Pats} (hc : X.calm = true) (h : PGs X es (tGs (zp X ex) ps)) (hn : (assignEach es X.env).length = ps.len) (hst : (assignEach es X.env).findIdx? (·.1) = none) : PG X (.Tuple es k pos) (tG (zp X ex) (.tp ps)) :=
  PG.impD (PG.orD (pg_tup hc h hn hst) (pg_unl hc h hn hst)) fun v σ H Q q => by
    obtain ⟨F, ρ, S, a, aσ, aσ', rs, st, rv, e, q⟩ := q
    cases e2 : rdSeq S a with
    | none => simp only [bindP, e2] at e; cases e
    | some y =>
      obtain ⟨b, l⟩ := y
      simp only [bindP, e2] at e
      obtain ⟨p, vs, rfl, kk, L, T⟩ := rdSeq_F (Z := zp X ex) rs rv e2
      have hl : vs.length = ps.len := (dpA_len kk).trans (bindPs_len e)
      have q : ∀ σ', RSt (zp X ex) F ρ aσ' σ' → Wip ps.slots σ σ' → Q σ' H := fun σ' st' w => q σ' st' (by unfold Pat.slots; exact w)
      cases b with
      | true => exact .inr ⟨p, vs, rfl, L rfl, hl, F, ρ, S, l, aσ, aσ', rs, st, kk, e, q⟩
      | false => exact .inl ⟨p, vs, rfl, T rfl, hl, F, ρ, S, l, aσ, aσ', rs, st, kk, e, q⟩
end

/-! ### statements -/
def ER.then (r : ER) (σ : ASt) (f : AV → AS → SR) : SR := match r with
  | .ok a S => f a S
  | .err x S => .er x σ S
  | .stuck => .stuck
def sSkip : Sn := fun σ S => .nx σ S
def sSeq (c1 c2 : Sn) : Sn := fun σ S => match c1 σ S with
  | .nx σ1 S1 => c2 σ1 S1
  | r => r
def sIf (ct : Dn) (c1 c2 : Sn) : Sn := fun σ S => (ct σ S).then σ fun a S1 => match a with
  | .d (.bool true) => c1 σ S1
  | .d (.bool false) => c2 σ S1
  | _ => .stuck
def asgV (i : Nat) (mu : Bool) (σ : ASt) (a : AV) (S : AS) : SR := match a with
  | .own l => if mu then .nx (σ.set i (some (.ref S.length))) (S ++ [.lst l]) else .nx (σ.set i (some (.d (.list l)))) S
  | a => .nx (σ.set i (some a)) S
def sAsg (i : Nat) (mu : Bool) (c : Dn) : Sn := fun σ S => (c σ S).then σ fun a S1 => asgV i mu σ a S1
def sUnp (p : Pat) (c : Dn) : Sn := fun σ S => (c σ S).then σ fun a S1 => match bindP S1 p a.fz σ with
  | some σ1 => .nx σ1 S1
  | none => .stuck
def sPar (i j : Nat) (l : Ln) : Sn := fun σ S => match l σ S with
  | .ok [a, b] S1 => .nx ((σ.set i (some a)).set j (some b)) S1
  | .ok _ _ => .stuck
  | .err x S1 => .er x σ S1
  | .stuck => .stuck
def sExpr (c : Dn) : Sn := fun σ S => (c σ S).then σ fun _ S1 => .nx σ S1
def sRet (c : Dn) : Sn := fun σ S => (c σ S).then σ fun a S1 => .rt a S1
def sRetN : Sn := fun _ S => .rt (.d .none) S
def sBreak : Sn := fun σ S => .bk σ S
def sCont : Sn := fun σ S => .ct σ S
/-! loops -/
inductive IR where
  | ok (l : List D) (S : AS) | err (x : Exc) (S : AS) | stuck
abbrev It1 := ASt → AS → IR
def forGo (p : Pat) (body : Sn) : List D → ASt → AS → SR
  | [], σ, S => .nx σ S
  | x :: r, σ, S => match bindP S p (.d x) σ with
    | none => .stuck
    | some σ1 => match body σ1 S with
      | .nx σ2 S2 => forGo p body r σ2 S2
      | .ct σ2 S2 => forGo p body r σ2 S2
      | .bk σ2 S2 => .nx σ2 S2
      | r' => r'
def sFor (it : It1) (p : Pat) (body : Sn) : Sn := fun σ S => match it σ S with
  | .ok l S1 => forGo p body l σ S1
  | .err x S1 => .er x σ S1
  | .stuck => .stuck
def whileGo (ct : Dn) (body : Sn) : Nat → ASt → AS → SR
  | 0, _, _ => .stuck
  | n + 1, σ, S => (ct σ S).then σ fun a S1 => match a with
    | .d (.bool true) => match body σ S1 with
      | .nx σ2 S2 => whileGo ct body n σ2 S2
      | .ct σ2 S2 => whileGo ct body n σ2 S2
      | .bk σ2 S2 => .nx σ2 S2
      | r' => r'
    | .d (.bool false) => .nx σ S1
    | _ => .stuck
def sWhile (fuel : ASt → AS → Nat) (ct : Dn) (body : Sn) : Sn := fun σ S => whileGo ct body (fuel σ S) σ S

def SPost (Z : Zp) (W : WX) (F : Hp) (ρ : Rh) (D : Ends) : SR → Prop
  | .nx aσ S' => ∀ F' ρ' H' σ', Tr F ρ F' ρ' → RS Z.K F' ρ' S' H' → RSt Z F' ρ' aσ σ' → D.nx σ' H'
  | .rt a S' => ∀ F' ρ' H' v, Tr F ρ F' ρ' → RS Z.K F' ρ' S' H' → RepW Z F' ρ' H' a v → D.rt v H'
  | .bk aσ S' => ∀ F' ρ' H' σ', Tr F ρ F' ρ' → RS Z.K F' ρ' S' H' → RSt Z F' ρ' aσ σ' → D.bk σ' H'
  | .ct aσ S' => ∀ F' ρ' H' σ', Tr F ρ F' ρ' → RS Z.K F' ρ' S' H' → RSt Z F' ρ' aσ σ' → D.ct σ' H'
  | .er x aσ S' => ∀ F' ρ' H' σ' cls d, Tr F ρ F' ρ' → RS Z.K F' ρ' S' H' → RSt Z F' ρ' aσ σ' → RepX Z F' x cls d → W cls d σ' H'
  | .stuck => False
def tS (Z : Zp) (W : WX) (c : Sn) : TS := fun D σ H => ∃ F ρ S aσ, RS Z.K F ρ S H ∧ RSt Z F ρ aσ σ ∧ SPost Z W F ρ D (c aσ S)
theorem _root_.L2.PS.impD {X : Cx} {e : Stmt} {t t' : TS} (h : PS X e t) (k : ∀ D σ H, t' D σ H → t D σ H) : PS X e t' := ⟨fun pins s σ H D I q => h.run pins s σ H D I (k D σ H q)⟩
theorem _root_.L2.PSs.impD {X : Cx} {e : List Stmt} {t t' : TS} (h : PSs X e t) (k : ∀ D σ H, t' D σ H → t D σ H) : PSs X e t' := ⟨fun pins s σ H D I q => h.run pins s σ H D I (k D σ H q)⟩
section
variable {Z : Zp} {W : WX} {F F1 H : Hp} {ρ ρ1 : Rh} {D D' : Ends} {r : SR} {σ : L2.St} {aσ : ASt}
theorem SPost.tr (t : Tr F ρ F1 ρ1) (h : SPost Z W F ρ D r) : SPost Z W F1 ρ1 D r := by
  cases r with
  | nx a S => exact fun F' ρ' H' v t' => h F' ρ' H' v (t.trans t')
  | rt a S => exact fun F' ρ' H' v t' => h F' ρ' H' v (t.trans t')
  | bk a S => exact fun F' ρ' H' v t' => h F' ρ' H' v (t.trans t')
  | ct a S => exact fun F' ρ' H' v t' => h F' ρ' H' v (t.trans t')
  | er x a S => exact fun F' ρ' H' σ' cls d t' => h F' ρ' H' σ' cls d (t.trans t')
  | stuck => exact h
/-- an expression at the head of a statement -/
theorem then_imp {c : Dn} {f : ASt → AV → AS → SR} (h : tS Z W (fun σ S => (c σ S).then σ (f σ)) D σ H) :
    tE Z W c σ H fun v H1 => ∃ F ρ S a aσ, RS Z.K F ρ S H1 ∧ RepW Z F ρ H1 a v ∧ RSt Z F ρ aσ σ ∧ SPost Z W F ρ D (f aσ a S) := by
  obtain ⟨F, ρ, S, aσ, rs, st, p⟩ := h
  refine ⟨F, ρ, S, aσ, rs, st, ?_⟩
  have p : SPost Z W F ρ D ((c aσ S).then aσ (f aσ)) := p
  cases e : c aσ S with
  | ok a S1 =>
    rw [e] at p
    intro F' ρ' H' v t rs' rw'
    exact ⟨F', ρ', S1, a, aσ, rs', rw', st.mono t, SPost.tr t p⟩
  | err x S1 =>
    rw [e] at p
    exact fun F' ρ' H' cls d t rs' rx => p F' ρ' H' σ cls d t rs' (st.mono t) rx
  | stuck => rw [e] at p; exact p
theorem asg_imp {c : Dn} {i : Nat} {m : Bool} (h : tS Z W (sAsg i m c) D σ H) : tE Z W c σ H fun v H1 => D.nx (σ.set i (some v)) H1 := by
  refine (then_imp (f := fun σ a S1 => asgV i m σ a S1) h).imp fun v H1 q => ?_
  obtain ⟨F, ρ, S, a, aσ, rs, rw', st, p⟩ := q
  cases a with
  | own l =>
    obtain ⟨q, vs, rfl, hq, hn, hG, hH, k⟩ := rw'
    unfold asgV at p
    cases m with
    | true =>
      refine p F ⟨ρ.l ++ [q], ρ.G⟩ H1 _ ⟨Same.refl F, List.prefix_append _ _, rfl⟩ (rs.push hq hn hG hH k) ?_
      refine RSt.set (st.mono ⟨Same.refl F, List.prefix_append _ _, rfl⟩) ⟨q, ?_, rfl⟩
      rw [← rs.len]
      simp
    | false =>
      refine p (upd F q (.lst vs)) ρ H1 _ (Tr.sam (same_upd hn)) (rs.know hH hn hq hG) ?_
      exact RSt.set (st.mono (Tr.sam (same_upd hn))) (show Dp _ _ _ _ from .lst (SqL.of upd_same) (dpA_mono (same_upd hn) _ _ k))
  | d x => exact p F ρ H1 _ Tr.refl rs (st.set rw')
  | ref n => exact p F ρ H1 _ Tr.refl rs (st.set rw')
  | exc x => exact p F ρ H1 _ Tr.refl rs (st.set rw')
theorem unp_imp {c : Dn} {p : Pat} (h : tS Z W (sUnp p c) D σ H) : tE Z W c σ H fun v H1 => tG Z p v σ H1 D.nx := by
  refine (then_imp (f := fun σ a S1 => match bindP S1 p a.fz σ with | some σ1 => .nx σ1 S1 | none => .stuck) h).imp fun v H1 q => ?_
  obtain ⟨F, ρ, S, a, aσ, rs, rw', st, q⟩ := q
  obtain ⟨F2, s2, rs2, rv⟩ := fzW rs rw'
  cases e : bindP S p a.fz aσ with
  | none => rw [e] at q; exact q.elim
  | some σ1 =>
    rw [e] at q
    exact ⟨F2, ρ, S, a.fz, aσ, σ1, rs2, st.mono (Tr.sam s2), rv, e, fun σ' st' _ => q F2 ρ H1 σ' (Tr.sam s2) rs2 st'⟩
end
section
variable {X : Cx} {ex : Option (Addr × Value × Option Addr)} {W : WX} {pos : Pos} {a b c e : Expr} {ca cb cc : Dn} {c1 c2 body : Sn} {st : Stmt} {sts : List Stmt}
theorem sS_nil : PSs X [] (tS (zp X ex) W sSkip) := pss_nil.impD fun D σ H h => by
  obtain ⟨F, ρ, S, aσ, rs, st, p⟩ := h
  exact p F ρ H σ Tr.refl rs st
theorem seq_imp {Z : Zp} {D : Ends} {σ : L2.St} {H : Hp} (h : tS Z W (sSeq c1 c2) D σ H) : tSeq (tS Z W c1) (tS Z W c2) D σ H := by
  obtain ⟨F, ρ, S, aσ, rs, st, p⟩ := h
  refine ⟨F, ρ, S, aσ, rs, st, ?_⟩
  unfold sSeq at p
  cases e : c1 aσ S with
  | nx σ1 S1 =>
    rw [e] at p
    exact fun F' ρ' H' σ' t rs' st' => ⟨F', ρ', S1, σ1, rs', st', SPost.tr t p⟩
  | rt a S1 => rw [e] at p; exact p
  | bk a S1 => rw [e] at p; exact p
  | ct a S1 => rw [e] at p; exact p
  | er x a S1 => rw [e] at p; exact p
  | stuck => rw [e] at p; exact p
theorem sS_cons (h1 : PS X st (tS (zp X ex) W c1)) (h2 : PSs X sts (tS (zp X ex) W c2)) : PSs X (st :: sts) (tS (zp X ex) W (sSeq c1 c2)) := (pss_cons h1 h2).impD fun D σ H h => seq_imp h
theorem sS_one (h1 : PS X st (tS (zp X ex) W c1)) : PSs X [st] (tS (zp X ex) W c1) := pss_one h1
theorem sS_pass : PS X (.Pass pos) (tS (zp X ex) W sSkip) := ps_pass.impD fun D σ H h => by
  obtain ⟨F, ρ, S, aσ, rs, st, p⟩ := h
  exact p F ρ H σ Tr.refl rs st
theorem sS_break : PS X (.Break pos) (tS (zp X ex) W sBreak) := ps_break.impD fun D σ H h => by
  obtain ⟨F, ρ, S, aσ, rs, st, p⟩ := h
  exact p F ρ H σ Tr.refl rs st
theorem sS_cont : PS X (.Continue pos) (tS (zp X ex) W sCont) := ps_continue.impD fun D σ H h => by
  obtain ⟨F, ρ, S, aσ, rs, st, p⟩ := h
  exact p F ρ H σ Tr.refl rs st
theorem sS_doc {x : Str} {j : Nat} {p2 : Pos} : PS X (.Expr (.Constant (.str x) j pos) p2) (tS (zp X ex) W sSkip) := ps_doc.impD fun D σ H h => by
  obtain ⟨F, ρ, S, aσ, rs, st, p⟩ := h
  exact p F ρ H σ Tr.refl rs st
theorem sS_expr (he : PE X e (tE (zp X ex) W ca)) (hs : swapsWith e none pos.line X.env = pure false) : PS X (.Expr e pos) (tS (zp X ex) W (sExpr ca)) := (ps_expr he hs).impD fun D σ H h => by
  refine (then_imp (f := fun σ _ S1 => .nx σ S1) h).imp fun v H1 q => ?_
  obtain ⟨F, ρ, S, a, aσ, rs, rw', st, p⟩ := q
  exact p F ρ H1 σ Tr.refl rs st
theorem sS_ret (he : PE X e (tE (zp X ex) W ca)) : PS X (.Return (some e) pos) (tS (zp X ex) W (sRet ca)) := (ps_ret he).impD fun D σ H h => by
  refine (then_imp (f := fun σ a S1 => .rt a S1) h).imp fun v H1 q => ?_
  obtain ⟨F, ρ, S, a, aσ, rs, rw', st, p⟩ := q
  exact p F ρ H1 v Tr.refl rs rw'
theorem sS_retN : PS X (.Return none pos) (tS (zp X ex) W sRetN) := ps_retN.impD fun D σ H h => by
  obtain ⟨F, ρ, S, aσ, rs, st, p⟩ := h
  exact p F ρ H .non Tr.refl rs (show Dp _ _ _ _ from .non)
theorem sS_if {t u : List Stmt} (hc : PT X c (tT (zp X ex) W cc)) (h1 : PSs X t (tS (zp X ex) W c1)) (h2 : PSs X u (tS (zp X ex) W c2)) : PS X (.If c t u pos) (tS (zp X ex) W (sIf cc c1 c2)) := (ps_if hc h1 h2).impD fun D σ H h => by
  refine (then_imp (f := fun σ a S1 => match a with
    | .d (.bool true) => c1 σ S1
    | .d (.bool false) => c2 σ S1
    | _ => .stuck) h).imp fun v H1 q => ?_
  obtain ⟨F, ρ, S, a, aσ, rs, rw', st, p⟩ := q
  split at p
  · cases dbool (show Dp X.K F v _ from rw')
    exact ⟨true, rfl, iteT ⟨F, ρ, S, aσ, rs, st, p⟩⟩
  · cases dbool (show Dp X.K F v _ from rw')
    exact ⟨false, rfl, iteF ⟨F, ρ, S, aσ, rs, st, p⟩⟩
  · exact p.elim
theorem sS_set {i : Nat} {x : Str} {m : Bool} {p2 : Pos} (hN : X.N.Nodup) (hi : X.N[i]? = some x) (hx : Loc X.env.scope x) (he : PE X e (tE (zp X ex) W ca)) (hs : swapsWith e (some (.Name x p2)) pos.line X.env = pure false)
    (hf : X.fn x = true ∨ X.env.scope.names.lookup x = some .local) : PS X (.Assign [.Name x p2] e pos) (tS (zp X ex) W (sAsg i m ca)) := (ps_set hN hi hx he hs hf).impD fun D σ H h => asg_imp h
theorem sS_unp {tg : Expr} {p : Pat} (he : PE X e (tE (zp X ex) W ca)) (hg : PG X tg (tG (zp X ex) p)) (hs : swapsWithSole [tg] e pos.line X.env = pure false) (hw : swappedStores [tg] e X.env = pure none) (h1 : (assignEach [tg] X.env).map (·.2) = [assign tg X.env]) :
    PS X (.Assign [tg] e pos) (tS (zp X ex) W (sUnp p ca)) := (ps_asg he hg hs hw h1).impD fun D σ H h => unp_imp h
theorem sS_par {i j : Nat} {x y : Str} {l : Ln} {px py pt : Pos} {kt k2 : Nat} {pt2 : Pos} (hc : X.calm = true) (hN : X.N.Nodup) (hi : X.N[i]? = some x) (hj : X.N[j]? = some y) (hij : i ≠ j)
    (hx : X.env.scope.names.lookup x = some .local) (hy : X.env.scope.names.lookup y = some .local) (ha : PA X [a, b] (tL (zp X ex) W l))
    (hw : swappedStores [.Tuple [.Name x px, .Name y py] kt pt] (.Tuple [a, b] k2 pt2) X.env = pure (some [x, y])) (hs : swapsWithSole [.Tuple [.Name x px, .Name y py] kt pt] (.Tuple [a, b] k2 pt2) pos.line X.env = pure false) :
    PS X (.Assign [.Tuple [.Name x px, .Name y py] kt pt] (.Tuple [a, b] k2 pt2) pos) (tS (zp X ex) W (sPar i j l)) := (ps_par hc hN hi hj hij hx hy ha hw hs).impD fun D σ H h => by
  obtain ⟨F, ρ, S, aσ, rs, st, p⟩ := h
  refine ⟨F, ρ, S, aσ, rs, st, ?_⟩
  unfold sPar at p
  cases e : l aσ S with
  | ok as S1 =>
    rw [e] at p
    intro F' ρ' H' vs t rs' rv
    match as, rv, p with
    | [a1, a2], rv, p =>
      obtain ⟨v, w, rfl, r1, r2⟩ := rv.two
      exact ⟨v, w, rfl, p F' ρ' H' _ t rs' (((st.mono t).set r1).set r2)⟩
    | [], _, p => exact p.elim
    | [_], _, p => exact p.elim
    | _ :: _ :: _ :: _, _, p => exact p.elim
  | err x S1 =>
    rw [e] at p
    exact fun F' ρ' H' cls d t rs' rx => p F' ρ' H' σ cls d t rs' (st.mono t) rx
  | stuck => rw [e] at p; exact p

/-! ### loops -/
structure ItOk (K : PySem.W.Frag) (F : Hp) (J : It) (items : List D) : Prop where
  stop : ∀ H, Same F H → J.stop items.length H
  go : ∀ i H x, Same F H → items[i]? = some x → J.go i H
  yld : ∀ i H x v H', Same F H → items[i]? = some x → J.yld i H v H' → (H' = H ∧ Dp K F v x) ∨ ∃ p vs l, H p = none ∧ H' = upd H p (.tup vs) ∧ v = .ref p ∧ x = .tuple l ∧ DpAll K F vs l
theorem ItOk.mono {K : PySem.W.Frag} {F F' : Hp} {J : It} {items : List D} (h : ItOk K F J items) (s : Same F F') : ItOk K F' J items :=
  ⟨fun H s2 => h.stop H (s.trans s2), fun i H x s2 => h.go i H x (s.trans s2), fun i H x v H' s2 e y => by
    rcases h.yld i H x v H' (s.trans s2) e y with ⟨h1, h2⟩ | ⟨p, vs, l, h1, h2, h3, h4, h5⟩
    · exact .inl ⟨h1, dp_mono s _ _ h2⟩
    · exact .inr ⟨p, vs, l, h1, h2, h3, h4, dpA_mono s _ _ h5⟩⟩
def tI (Z : Zp) (W : WX) (it : It1) : TI := fun σ H R => ∃ F ρ S aσ, RS Z.K F ρ S H ∧ RSt Z F ρ aσ σ ∧ match it aσ S with
  | .ok l S1 => ∀ F' ρ' H' J, Tr F ρ F' ρ' → RS Z.K F' ρ' S1 H' → ItOk Z.K F' J l → R J H'
  | .err x S1 => Ewish Z W σ F ρ x S1
  | .stuck => False
theorem for_run {Z : Zp} {D : Ends} {p : Pat} {F : Hp} {ρ : Rh} {S : AS} {H : Hp} {σ : L2.St} {aσ : ASt} {J : It} {items : List PyData} (hJ : ItOk Z.K F J items) (rs : RS Z.K F ρ S H) (st : RSt Z F ρ aσ σ) (q : SPost Z W F ρ D (forGo p body items aσ S)) :
    ∃ W' : Nat → Nat → L2.St → Hp → Prop, (∃ m, W' 0 m σ H) ∧ ∀ i m σ H, W' i m σ H →
      (J.stop i H ∧ D.nx σ H) ∨ (J.go i H ∧ ∃ N : L2.St → Hp → Prop, (∀ σ' H', N σ' H' → ∃ m', m' < m ∧ W' (i + 1) m' σ' H') ∧ ∀ x H', J.yld i H x H' → tG Z p x σ H' fun σ2 H2 => tS Z W body { D with nx := N, ct := N, bk := D.nx } σ2 H2) := by
  refine ⟨fun i m σ H => ∃ F' ρ' S' aσ', Tr F ρ F' ρ' ∧ RS Z.K F' ρ' S' H ∧ RSt Z F' ρ' aσ' σ ∧ i ≤ items.length ∧ m = items.length - i ∧ SPost Z W F' ρ' D (forGo p body (items.drop i) aσ' S'),
    ⟨items.length, F, ρ, S, aσ, Tr.refl, rs, st, Nat.zero_le _, rfl, q⟩, ?_⟩
  rintro i m σ1 H1 ⟨F1, ρ1, S1, aσ1, t1, rs1, st1, hi, rfl, q1⟩
  have hJ1 := hJ.mono t1.same
  by_cases hlt : i < items.length
  · have ei : items[i]? = some items[i] := List.getElem?_eq_getElem hlt
    have ed : items.drop i = items[i] :: items.drop (i + 1) := List.drop_eq_getElem_cons hlt
    rw [ed] at q1
    refine .inr ⟨hJ1.go i H1 _ rs1.sub ei, fun σ' H' => ∃ m', m' < items.length - i ∧ ∃ F' ρ' S' aσ', Tr F ρ F' ρ' ∧ RS Z.K F' ρ' S' H' ∧ RSt Z F' ρ' aσ' σ' ∧ i + 1 ≤ items.length ∧ m' = items.length - (i + 1) ∧ SPost Z W F' ρ' D (forGo p body (items.drop (i + 1)) aσ' S'),
      fun σ' H' h => h, fun v H' hy => ?_⟩
    unfold forGo at q1
    cases e2 : bindP S1 p (.d items[i]) aσ1 with
    | none => simp only [e2] at q1; exact q1.elim
    | some σ2 =>
      simp only [e2] at q1
      -- the store behind the item
      have key : ∃ F2, Same F1 F2 ∧ RS Z.K F2 ρ1 S1 H' ∧ Dp Z.K F2 v items[i] := by
        rcases hJ1.yld i H1 _ v H' rs1.sub ei hy with ⟨rfl, h2⟩ | ⟨p, vs, l, h1, rfl, rfl, h4, h5⟩
        · exact ⟨F1, Same.refl F1, rs1, h2⟩
        · rw [h4]
          exact ⟨_, same_upd (rs1.fresh h1), rs1.newF h1, .tup (SqT.of upd_same) (dpA_mono (same_upd (rs1.fresh h1)) _ _ h5)⟩
      obtain ⟨F2, s2, rs2, dv⟩ := key
      refine ⟨F2, ρ1, S1, .d items[i], aσ1, σ2, rs2, st1.mono (Tr.sam s2), dv, e2, fun σ' st' _ => ⟨F2, ρ1, S1, σ2, rs2, st', ?_⟩⟩
      have q2 := SPost.tr (Tr.sam s2) q1
      have t2 : Tr F ρ F2 ρ1 := t1.trans (Tr.sam s2)
      cases e3 : body σ2 S1 with
      | nx σ3 S3 =>
        rw [e3] at q2
        exact fun F' ρ' H' σ' t rs' st' => ⟨_, by omega, F', ρ', S3, σ3, t2.trans t, rs', st', hlt, rfl, SPost.tr t q2⟩
      | ct σ3 S3 =>
        rw [e3] at q2
        exact fun F' ρ' H' σ' t rs' st' => ⟨_, by omega, F', ρ', S3, σ3, t2.trans t, rs', st', hlt, rfl, SPost.tr t q2⟩
      | bk σ3 S3 => rw [e3] at q2; exact q2
      | rt a S3 => rw [e3] at q2; exact q2
      | er x a S3 => rw [e3] at q2; exact q2
      | stuck => rw [e3] at q2; exact q2
  · have e : i = items.length := by omega
    subst e
    rw [List.drop_length] at q1
    exact .inl ⟨hJ1.stop H1 rs1.sub, q1 F1 ρ1 H1 σ1 Tr.refl rs1 st1⟩
theorem sS_for {tg iter : Expr} {bd : List Stmt} {it : It1} {p : Pat} (hp : PassesOwn (model X.prog X.w) X.A X.env X.xe) (hc : X.calm = true) (hi : PI X tg iter (tI (zp X ex) W it)) (hg : PG X tg (tG (zp X ex) p)) (hb : PSs X bd (tS (zp X ex) W body))
    (hs : ∀ x, foldedSetIterable iter X.env x = pure x) : PS X (.For tg iter bd [] pos) (tS (zp X ex) W (sFor it p body)) := (ps_for hp hc hi hg hb hs).impD fun D σ H h => by
  obtain ⟨F, ρ, S, aσ, rs, st, q⟩ := h
  refine ⟨F, ρ, S, aσ, rs, st, ?_⟩
  unfold sFor at q
  cases e : it aσ S with
  | ok l S1 =>
    rw [e] at q
    exact fun F' ρ' H' J t rs' hJ => for_run hJ rs' (st.mono t) (SPost.tr t q)
  | err x S1 =>
    rw [e] at q
    exact fun F' ρ' H' cls d t rs' rx => q F' ρ' H' σ cls d t rs' (st.mono t) rx
  | stuck => rw [e] at q; exact q
theorem sS_while {bd : List Stmt} {n : ASt → AS → Nat} (hp : PassesOwn (model X.prog X.w) X.A X.env X.xe) (hc : PT X c (tT (zp X ex) W cc)) (hb : PSs X bd (tS (zp X ex) W body)) : PS X (.While c bd [] pos) (tS (zp X ex) W (sWhile n cc body)) := (ps_while hp hc hb).impD fun D σ H h => by
  obtain ⟨F, ρ, S, aσ, rs, st, q⟩ := h
  refine ⟨fun m σ H => ∃ F' ρ' S' aσ', RS X.K F' ρ' S' H ∧ RSt (zp X ex) F' ρ' aσ' σ ∧ SPost (zp X ex) W F' ρ' D (whileGo cc body m aσ' S'), ⟨n aσ S, F, ρ, S, aσ, rs, st, q⟩, ?_⟩
  rintro m σ1 H1 ⟨F1, ρ1, S1, aσ1, rs1, st1, q1⟩
  cases m with
  | zero => exact q1.elim
  | succ m =>
    refine (then_imp (f := fun σ a S1 => match a with
      | .d (.bool true) => match body σ S1 with
        | .nx σ2 S2 => whileGo cc body m σ2 S2
        | .ct σ2 S2 => whileGo cc body m σ2 S2
        | .bk σ2 S2 => .nx σ2 S2
        | r' => r'
      | .d (.bool false) => .nx σ S1
      | _ => .stuck) (D := D) (show tS (zp X ex) W _ D σ1 H1 from ⟨F1, ρ1, S1, aσ1, rs1, st1, q1⟩)).imp fun v H2 q2 => ?_
    obtain ⟨F2, ρ2, S2, a, aσ2, rs2, rw2, st2, p⟩ := q2
    split at p
    · cases dbool (show Dp X.K F2 v _ from rw2)
      refine ⟨true, rfl, iteT ⟨fun σ' H' => ∃ m', m' < m + 1 ∧ ∃ F' ρ' S' aσ', RS X.K F' ρ' S' H' ∧ RSt (zp X ex) F' ρ' aσ' σ' ∧ SPost (zp X ex) W F' ρ' D (whileGo cc body m' aσ' S'), fun σ' H' h => h, F2, ρ2, S2, aσ2, rs2, st2, ?_⟩⟩
      cases e3 : body aσ2 S2 with
      | nx σ3 S3 =>
        rw [e3] at p
        exact fun F' ρ' H' σ' t rs' st' => ⟨m, Nat.lt_succ_self m, F', ρ', S3, σ3, rs', st', SPost.tr t p⟩
      | ct σ3 S3 =>
        rw [e3] at p
        exact fun F' ρ' H' σ' t rs' st' => ⟨m, Nat.lt_succ_self m, F', ρ', S3, σ3, rs', st', SPost.tr t p⟩
      | bk σ3 S3 => rw [e3] at p; exact p
      | rt a S3 => rw [e3] at p; exact p
      | er x a S3 => rw [e3] at p; exact p
      | stuck => rw [e3] at p; exact p
    · cases dbool (show Dp X.K F2 v _ from rw2)
      exact ⟨false, rfl, iteF (p F2 ρ2 H2 σ1 Tr.refl rs2 st2)⟩
    · exact p.elim

/-! ### what is walked -/
def iSeq (c : Dn) : It1 := fun σ S => match c σ S with
  | .ok a S1 => match frzD S1 a.fz with
    | some (.list l, S2) => .ok l S2
    | some (.tuple l, S2) => .ok l S2
    | _ => .stuck
  | .err x S1 => .err x S1
  | .stuck => .stuck
def rngL (lo : Int) (n : Nat) (c : Int) : List D := (List.range n).map fun i => PyData.int (lo + (i : Nat) * c)
def big62 : Int := 4611686018427387904
def itL (l : Ln) (f : List AV → AS → Option (List D × AS)) : It1 := fun σ S => match l σ S with
  | .ok as S1 => match f as S1 with
    | some (m, S2) => .ok m S2
    | none => .stuck
  | .err x S1 => .err x S1
  | .stuck => .stuck
def fRng1 (as : List AV) (S : AS) : Option (List D × AS) := match as with
  | [.d (.int j)] => if -big62 ≤ j ∧ j < big62 then some (rngL 0 j.toNat 1, S) else none
  | _ => none
def fRng2 (as : List AV) (S : AS) : Option (List D × AS) := match as with
  | [.d (.int i), .d (.int j)] => if (-big62 ≤ i ∧ i < big62) ∧ (-big62 ≤ j ∧ j < big62) then some (rngL i (j - i).toNat 1, S) else none
  | _ => none
def fRng3 (as : List AV) (S : AS) : Option (List D × AS) := match as with
  | [.d (.int i), .d (.int j), .d (.int c)] => if c ≠ 0 ∧ c.natAbs < 1073741824 ∧ Builtin.Range.small i j c = true ∧ 0 ≤ Builtin.Range.rangeSize i j c then some (rngL i (Builtin.Range.rangeSize i j c).toNat c, S) else none
  | _ => none
def enumL : List D → Nat → List D
  | [], _ => []
  | x :: r, i => .tuple [.int i, x] :: enumL r (i + 1)
def fEnum (as : List AV) (S : AS) : Option (List D × AS) := match as with
  | [a] => match frzD S a with
    | some (.list l, S2) => some (enumL l 0, S2)
    | _ => none
  | _ => none
theorem enumL_len : ∀ (l : List D) (i : Nat), (enumL l i).length = l.length
  | [], _ => rfl
  | x :: r, i => by
    show (enumL r (i + 1)).length + 1 = _
    rw [enumL_len r]
    rfl
theorem enumL_get : ∀ {l : List D} {k i : Nat} {x : D}, (enumL l k)[i]? = some x → ∃ y, l[i]? = some y ∧ x = .tuple [.int ((k + i : Nat) : Int), y]
  | [], _, _, _, h => by simp [enumL] at h
  | y :: r, k, 0, x, h => ⟨y, rfl, (Option.some.inj h).symm⟩
  | y :: r, k, i + 1, x, h => by
    obtain ⟨z, h1, h2⟩ := enumL_get (l := r) (k := k + 1) (i := i) (x := x) h
    refine ⟨z, h1, ?_⟩
    rw [h2]
    have e : k + 1 + i = k + (i + 1) := by omega
    rw [e]
theorem rngL_len (lo : Int) (n : Nat) (c : Int) : (rngL lo n c).length = n := by simp [rngL]
theorem rngL_get {lo : Int} {n : Nat} {c : Int} {i : Nat} {x : D} (h : (rngL lo n c)[i]? = some x) : i < n ∧ x = .int (lo + (i : Nat) * c) := by
  unfold rngL at h
  rw [List.getElem?_map] at h
  have hi : i < n := by
    by_cases q : i < n
    · exact q
    · rw [List.getElem?_eq_none (by rw [List.length_range]; omega)] at h
      cases h
  rw [List.getElem?_range hi] at h
  exact ⟨hi, (Option.some.inj h).symm⟩
theorem _root_.L2.PI.impD {tg iter : Expr} {t t' : TI} (h : PI X tg iter t) (k : ∀ σ H R, t' σ H R → t σ H R) : PI X tg iter t' := ⟨fun pins s σ H R I q => h.run pins s σ H R I (k σ H R q)⟩
theorem itl_ok {K : PySem.W.Frag} {F : Hp} {a : Addr} {vs : List V} {l : List D} (h : SqL K F a vs) (k : DpAll K F vs l) : ItOk K F (Itl K a) l where
  stop := fun H s => ⟨vs, s.seq h, Nat.le_of_eq (dpA_len k)⟩
  go := fun i H x s e => by
    obtain ⟨v, h1, h2⟩ := dpA_get k e
    exact ⟨vs, v, s.seq h, h1⟩
  yld := fun i H x v H' s e y => by
    obtain ⟨w, h1, h2⟩ := dpA_get k e
    have e2 := y.2 vs (s.seq h)
    rw [h1] at e2
    cases e2
    exact .inl ⟨y.1, h2⟩
theorem itt_ok {K : PySem.W.Frag} {F : Hp} {a : Addr} {vs : List V} {l : List D} (h : SqT K F a vs) (k : DpAll K F vs l) : ItOk K F (Itt K a) l where
  stop := fun H s => ⟨vs, Same.seqT s h, Nat.le_of_eq (dpA_len k)⟩
  go := fun i H x s e => by
    obtain ⟨v, h1, h2⟩ := dpA_get k e
    exact ⟨vs, v, Same.seqT s h, h1⟩
  yld := fun i H x v H' s e y => by
    obtain ⟨w, h1, h2⟩ := dpA_get k e
    have e2 := y.2 vs (Same.seqT s h)
    rw [h1] at e2
    cases e2
    exact .inl ⟨y.1, h2⟩
/-- a list or a tuple -/
def iSqD (K : PySem.W.Frag) (tl : TE) : TI := fun σ H R => tl σ H fun x H1 => ∃ a, x = .ref a ∧ (((∃ xs, SqL K H1 a xs) ∧ R (Itl K a) H1) ∨ ((∃ xs, SqT K H1 a xs) ∧ R (Itt K a) H1))
theorem pi_sqD {tg l : Expr} {tl : TE} (hl : PE X l tl) : PI X tg l (iSqD X.K tl) := by
  refine ⟨fun pins s σ H R I h => ?_⟩
  refine thn (hl.run pins s σ H _ I h) fun v s1 ⟨x, H1, I1, r1, q1⟩ => ?_
  obtain ⟨a, e, q1⟩ := q1
  subst e
  cases r1
  rcases q1 with ⟨⟨xs, hq⟩, q⟩ | ⟨⟨xs, hq⟩, q⟩
  · obtain ⟨its, rv, p, hz⟩ := I1.list hq
    refine wpAny_pyIter_list p.isList ⟨s1.heap.objs.size, [s1.heap.objs.size], _, _, H1, rfl, I1.kept (t' := s1.toks) (fun b o e => Heap.get?_push_of_some _ e), turn_list a _, ⟨_, Heap.get?_push_size _ rfl, rfl, rfl⟩, fun b hb => ?_, q⟩
    cases List.mem_singleton.mp hb
    exact I1.fpOk (Nat.le_refl _) (I1.hok.fresh (Nat.le_refl _))
  · obtain ⟨its, rv, p, hz⟩ := I1.tuple hq
    refine wpAny_pyIter_tuple (show s1.heap.IsTuple a its.toArray from p) ⟨s1.heap.objs.size, [s1.heap.objs.size], _, _, H1, rfl, I1.kept (t' := s1.toks) (fun b o e => Heap.get?_push_of_some _ e), turn_tuple a _, ⟨_, Heap.get?_push_size _ rfl, rfl, rfl⟩, fun b hb => ?_, q⟩
    cases List.mem_singleton.mp hb
    exact I1.fpOk (Nat.le_refl _) (I1.hok.fresh (Nat.le_refl _))
theorem sI_seq {tg : Expr} (he : PE X e (tE (zp X ex) W ca)) : PI X tg e (tI (zp X ex) W (iSeq ca)) := (pi_sqD he).impD fun σ H R h => by
  obtain ⟨F, ρ, S, aσ, rs, st, p⟩ := h
  refine ⟨F, ρ, S, aσ, rs, st, ?_⟩
  unfold iSeq at p
  cases e1 : ca aσ S with
  | err x S1 => rw [e1] at p; exact p
  | stuck => rw [e1] at p; exact p.elim
  | ok a S1 =>
    rw [e1] at p
    intro F' ρ' H' v t rs' rw'
    obtain ⟨F2, s2, rs2, rv⟩ := fzW rs' rw'
    cases e2 : frzD S1 a.fz with
    | none => simp only [e2] at p
    | some y =>
      obtain ⟨x, S2⟩ := y
      obtain ⟨F3, s3, rs3, dx⟩ := frzD_ok rs2 rv e2
      have t3 : Tr F ρ F3 ρ' := (t.trans (Tr.sam s2)).trans (Tr.sam s3)
      simp only [e2] at p
      cases x with
      | list l =>
        cases dx with
        | lst h1 h2 => exact ⟨_, rfl, .inl ⟨⟨_, rs3.sub.seq h1⟩, p F3 ρ' H' _ t3 rs3 (itl_ok h1 h2)⟩⟩
      | tuple l =>
        cases dx with
        | tup h1 h2 => exact ⟨_, rfl, .inr ⟨⟨_, Same.seqT rs3.sub h1⟩, p F3 ρ' H' _ t3 rs3 (itt_ok h1 h2)⟩⟩
      | _ => exact p.elim
theorem itr_ok {K : PySem.W.Frag} {F : Hp} (lo : Int) (n : Nat) : ItOk K F (Itr lo n) (rngL lo n 1) where
  stop := fun H s => by
    rw [rngL_len]
    exact Nat.le_refl n
  go := fun i H x s e => (rngL_get e).1
  yld := fun i H x v H' s e y => by
    obtain ⟨h1, h2⟩ := rngL_get e
    obtain ⟨y1, y2⟩ := y
    refine .inl ⟨y1, ?_⟩
    rw [h2, y2, Int.mul_one]
    exact .int _
theorem rng_ends {i : Int} (h : -big62 ≤ i ∧ i < big62) : -(2 ^ 62) ≤ i ∧ i < 2 ^ 62 := by
  have : (2 : Int) ^ 62 = big62 := by decide
  rw [this]
  exact h
theorem itL_imp {Z : Zp} {l : Ln} {f : List AV → AS → Option (List D × AS)} {σ : L2.St} {H : Hp} {R : It → Hp → Prop} (h : tI Z W (itL l f) σ H R) :
    tL Z W l σ H fun vs H1 => ∃ F ρ S as m S2, RS Z.K F ρ S H1 ∧ RepVs Z F ρ as vs ∧ f as S = some (m, S2) ∧ ∀ F' ρ' H' J, Tr F ρ F' ρ' → RS Z.K F' ρ' S2 H' → ItOk Z.K F' J m → R J H' := by
  obtain ⟨F, ρ, S, aσ, rs, st, q⟩ := h
  refine ⟨F, ρ, S, aσ, rs, st, ?_⟩
  unfold itL at q
  cases e1 : l aσ S with
  | err x S1 => rw [e1] at q; exact q
  | stuck => rw [e1] at q; exact q
  | ok as S1 =>
    rw [e1] at q
    intro F' ρ' H' vs t rs' rv
    cases e2 : f as S1 with
    | none => simp only [e2] at q
    | some y =>
      obtain ⟨m, S2⟩ := y
      simp only [e2] at q
      exact ⟨F', ρ', S1, as, m, S2, rs', rv, e2, fun F3 ρ3 H3 J t3 => q F3 ρ3 H3 J (t.trans t3)⟩
theorem sI_rng1 {tg : Expr} {p : Pos} {l : Ln} (hg : Gl X "range") (hm : X.mg "range" = none) (ha : PA X [a] (tL (zp X ex) W l)) (hs : starEach [a] X.env = [(false, eval a X.env)]) : PI X tg (.Call (.Name "range" p) [a] [] pos) (tI (zp X ex) W (itL l fRng1)) :=
  (pi_range1 hg hm ha hs).impD fun σ H R h => (itL_imp h).imp fun vs H1 q => by
    obtain ⟨F, ρ, S, as, m, S2, rs, rv, e, k⟩ := q
    unfold fRng1 at e
    split at e
    · split at e
      · rename_i j c
        cases Option.some.inj e
        obtain ⟨v, rfl, r1⟩ := rv.one
        cases dint (show Dp X.K F v _ from r1)
        obtain ⟨c1, c2⟩ := rng_ends c
        exact ⟨j, rfl, c1, c2, k F ρ H1 _ Tr.refl rs (itr_ok 0 j.toNat)⟩
      · cases e
    · cases e
theorem sI_rng2 {tg : Expr} {p : Pos} {l : Ln} (hg : Gl X "range") (hm : X.mg "range" = none) (ha : PA X [a, b] (tL (zp X ex) W l)) (hs : starEach [a, b] X.env = [(false, eval a X.env), (false, eval b X.env)]) (hs2 : starEach [b] X.env = [(false, eval b X.env)]) :
    PI X tg (.Call (.Name "range" p) [a, b] [] pos) (tI (zp X ex) W (itL l fRng2)) :=
  (pi_range2 hg hm ha hs hs2).impD fun σ H R h => (itL_imp h).imp fun vs H1 q => by
    obtain ⟨F, ρ, S, as, m, S2, rs, rv, e, k⟩ := q
    unfold fRng2 at e
    split at e
    · split at e
      · rename_i i j c
        cases Option.some.inj e
        obtain ⟨v, w, rfl, r1, r2⟩ := rv.two
        cases dint (show Dp X.K F v _ from r1)
        cases dint (show Dp X.K F w _ from r2)
        obtain ⟨c1, c2⟩ := rng_ends c.1
        obtain ⟨c3, c4⟩ := rng_ends c.2
        exact ⟨i, j, rfl, ⟨c1, c2, c3, c4⟩, k F ρ H1 _ Tr.refl rs (itr_ok i (j - i).toNat)⟩
      · cases e
    · cases e
theorem itc_ok {K : PySem.W.Frag} {F : Hp} (lo c : Int) (n : Nat) : ItOk K F (Itc lo c n) (rngL lo n c) where
  stop := fun H s => by
    rw [rngL_len]
    exact Nat.le_refl n
  go := fun i H x s e => (rngL_get e).1
  yld := fun i H x v H' s e y => by
    obtain ⟨h1, h2⟩ := rngL_get e
    obtain ⟨y1, y2⟩ := y
    refine .inl ⟨y1, ?_⟩
    rw [h2, y2]
    exact .int _
theorem RepVs.three {Z : Zp} {F : Hp} {ρ : Rh} {a b c : AV} {vs : List V} (h : RepVs Z F ρ [a, b, c] vs) : ∃ u v w, vs = [u, v, w] ∧ RepV Z F ρ a u ∧ RepV Z F ρ b v ∧ RepV Z F ρ c w := by
  cases h with
  | cons r k =>
    obtain ⟨v, w, rfl, r1, r2⟩ := RepVs.two k
    exact ⟨_, _, _, rfl, r, r1, r2⟩
theorem sI_rng3 {tg : Expr} {p : Pos} {l : Ln} (hg : Gl X "range") (hm : X.mg "range" = none) (ha : PA X [a, b, c] (tL (zp X ex) W l)) (hs : starEach [a, b, c] X.env = (false, eval a X.env) :: starEach [b, c] X.env) (hpl : (backTo pos (starEach [b, c] X.env)).any (·.1) = false) :
    PI X tg (.Call (.Name "range" p) [a, b, c] [] pos) (tI (zp X ex) W (itL l fRng3)) :=
  (pi_range3 hg hm ha hs hpl).impD fun σ H R h => (itL_imp h).imp fun vs H1 q => by
    obtain ⟨F, ρ, S, as, m, S2, rs, rv, e, k⟩ := q
    unfold fRng3 at e
    split at e
    · split at e
      · rename_i i j c cc
        cases Option.some.inj e
        obtain ⟨u, v, w, rfl, r1, r2, r3⟩ := rv.three
        cases dint (show Dp X.K F u _ from r1)
        cases dint (show Dp X.K F v _ from r2)
        cases dint (show Dp X.K F w _ from r3)
        exact ⟨i, j, c, _, rfl, ⟨cc.1, cc.2.1, cc.2.2.1, by have := cc.2.2.2; omega⟩, k F ρ H1 _ Tr.refl rs (itc_ok i c _)⟩
      · cases e
    · cases e
theorem ite_ok {K : PySem.W.Frag} {F : Hp} {a : Addr} {vs : List V} {l : List D} (h : SqL K F a vs) (k : DpAll K F vs l) : ItOk K F (Ite K a) (enumL l 0) where
  stop := fun H s => ⟨vs, s.seq h, by rw [enumL_len]; exact Nat.le_of_eq (dpA_len k)⟩
  go := fun i H x s e => by
    obtain ⟨y, h1, h2⟩ := enumL_get e
    obtain ⟨v, h3, h4⟩ := dpA_get k h1
    exact ⟨vs, v, s.seq h, h3⟩
  yld := fun i H x v H' s e y => by
    obtain ⟨z, h1, h2⟩ := enumL_get e
    obtain ⟨w, h3, h4⟩ := dpA_get k h1
    obtain ⟨T, u, e1, e2, e3, e4⟩ := y
    have e5 := e4 vs (s.seq h)
    rw [h3] at e5
    cases e5
    refine .inr ⟨T, _, _, e2, e3, e1, h2, .cons ?_ (.cons h4 .nil)⟩
    rw [Nat.zero_add]
    exact .int _
theorem sI_enum {elts : List Expr} {kk : Nat} {tpos p : Pos} {l : Ln} (hg : Gl X "enumerate") (hm : X.mg "enumerate" = none) (ha : PA X [e] (tL (zp X ex) W l)) (hs : starEach [e] X.env = [(false, eval e X.env)]) :
    PI X (.Tuple elts kk tpos) (.Call (.Name "enumerate" p) [e] [] pos) (tI (zp X ex) W (itL l fEnum)) :=
  (pi_enum hg hm ha hs).impD fun σ H R h => (itL_imp h).imp fun vs H1 q => by
    obtain ⟨F, ρ, S, as, m, S2, rs, rv, e, k⟩ := q
    unfold fEnum at e
    split at e
    · split at e
      · rename_i a l2 S3 e2
        cases Option.some.inj e
        obtain ⟨v, rfl, r1⟩ := rv.one
        obtain ⟨F3, s3, rs3, dx⟩ := frzD_ok rs r1 e2
        cases dx with
        | lst h1 h2 => exact ⟨_, _, rfl, rs3.sub.seq h1, k F3 ρ H1 _ (Tr.sam s3) rs3 (ite_ok h1 h2)⟩
      · cases e
    · cases e
end
end Den
/-! Den6: list comprehensions; raise; try. -/
namespace Den
open PySem PySem.Spec PyProof.Rows L2

/-! ### list comprehensions -/
def wipeA (σ : ASt) : List Nat → ASt
  | [] => σ
  | v :: vs => (wipeA σ vs).set v none
theorem RSt.wipe {Z : Zp} {F : Hp} {ρ : Rh} {aσ : ASt} {σ : L2.St} (h : RSt Z F ρ aσ σ) : ∀ vs : List Nat, RSt Z F ρ (wipeA aσ vs) (wipe σ vs)
  | [] => h
  | v :: vs => (RSt.wipe h vs).clear
def lcGo (p : Pat) (ct ce : Dn) (σ : ASt) : List D → AS → List D → ER
  | [], S, acc => .ok (.own acc) S
  | x :: r, S, acc => match bindP S p (.d x) σ with
    | none => .stuck
    | some σ1 => match ct σ1 S with
      | .ok (.d (.bool true)) S1 => match ce σ1 S1 with
        | .ok a S2 => match frzD S2 a.fz with
          | some (y, S3) => if acc.length < cap then lcGo p ct ce σ r S3 (acc ++ [y]) else .stuck
          | none => .stuck
        | _ => .stuck
      | .ok (.d (.bool false)) S1 => lcGo p ct ce σ r S1 acc
      | _ => .stuck
def dLc (it : It1) (p : Pat) (ct ce : Dn) (vs : List Nat) : Dn := fun σ S => match it σ S with
  | .ok l S1 => lcGo p ct ce (wipeA σ vs) l S1 []
  | .err x S1 => .err x S1
  | .stuck => .stuck
/-- nothing may be wished for an error -/
abbrev W0 : WX := fun _ _ _ _ => False
theorem lc_imp {Z : Zp} {W : WX} {it : It1} {p : Pat} {ct ce : Dn} {vs : List Nat} {σ : L2.St} {H : Hp} {Q : VK} (hv : ∀ i ∈ p.slots, i ∈ vs) (h : tE Z W (dLc it p ct ce vs) σ H Q) : tLc (tI Z W it) (tG Z p) (tT Z W0 ct) (tE Z W0 ce) vs σ H Q := by
  obtain ⟨F, ρ, S, aσ, rs, st, q⟩ := h
  refine ⟨F, ρ, S, aσ, rs, st, ?_⟩
  unfold dLc at q
  cases e : it aσ S with
  | err x S1 => rw [e] at q; exact q
  | stuck => rw [e] at q; exact q
  | ok items S1 =>
    rw [e] at q
    intro F' ρ' H' J t rs' hJ D hD
    have st' := (st.mono t).wipe vs
    have G0 : ρ'.G D = none := rs'.gfree hD
    have rs0 : RS Z.K F' ⟨ρ'.l, upd ρ'.G D (.lst [])⟩ S1 (upd H' D (.lst [])) := (rs'.newH hD).pinUp upd_same (rs'.fresh hD) (rs'.notin hD)
    refine ⟨fun i m H => ∃ F2 l2 S2 acc vacc, Tr F' ρ' F2 ⟨l2, ρ'.G⟩ ∧ RS Z.K F2 ⟨l2, upd ρ'.G D (.lst vacc)⟩ S2 H ∧ DpAll Z.K F2 vacc acc ∧ i ≤ items.length ∧ m = items.length - i ∧ EPost Z W σ F2 ⟨l2, ρ'.G⟩ Q (lcGo p ct ce (wipeA aσ vs) (items.drop i) S2 acc),
      ⟨items.length, F', ρ'.l, S1, [], [], Tr.refl, rs0, .nil, Nat.zero_le _, rfl, EPost.tr t q⟩, ?_⟩
    rintro i m H1 ⟨F2, l2, S2, acc, vacc, t2, rs2, da, hi, rfl, q2⟩
    have hJ2 := hJ.mono t2.same
    by_cases hlt : i < items.length
    · have ei : items[i]? = some items[i] := List.getElem?_eq_getElem hlt
      rw [show items.drop i = items[i] :: items.drop (i + 1) from List.drop_eq_getElem_cons hlt] at q2
      refine .inr ⟨hJ2.go i H1 _ rs2.sub ei, fun H' => ∃ m', m' < items.length - i ∧ ∃ F2 l2 S2 acc vacc, Tr F' ρ' F2 ⟨l2, ρ'.G⟩ ∧ RS Z.K F2 ⟨l2, upd ρ'.G D (.lst vacc)⟩ S2 H' ∧ DpAll Z.K F2 vacc acc ∧ i + 1 ≤ items.length ∧ m' = items.length - (i + 1) ∧ EPost Z W σ F2 ⟨l2, ρ'.G⟩ Q (lcGo p ct ce (wipeA aσ vs) (items.drop (i + 1)) S2 acc),
        fun H' h => h, fun v H3 hy => ?_⟩
      unfold lcGo at q2
      cases e2 : bindP S2 p (.d items[i]) (wipeA aσ vs) with
      | none => simp only [e2] at q2; exact q2.elim
      | some σ2 =>
        simp only [e2] at q2
        have key : ∃ F3, Same F2 F3 ∧ RS Z.K F3 ⟨l2, upd ρ'.G D (.lst vacc)⟩ S2 H3 ∧ Dp Z.K F3 v items[i] := by
          rcases hJ2.yld i H1 _ v H3 rs2.sub ei hy with ⟨rfl, h2⟩ | ⟨p, ws, l, h1, rfl, rfl, h4, h5⟩
          · exact ⟨F2, Same.refl F2, rs2, h2⟩
          · rw [h4]
            exact ⟨_, same_upd (rs2.fresh h1), rs2.newF h1, .tup (SqT.of upd_same) (dpA_mono (same_upd (rs2.fresh h1)) _ _ h5)⟩
        obtain ⟨F3, s3, rs3, dv⟩ := key
        have q3 := EPost.tr (ρ1 := ⟨l2, ρ'.G⟩) (Tr.sam s3) q2
        have t3 : Tr F' ρ' F3 ⟨l2, ρ'.G⟩ := t2.trans (Tr.sam s3)
        have st3 : RSt Z F3 ⟨l2, upd ρ'.G D (.lst vacc)⟩ (wipeA aσ vs) (wipe σ vs) := st'.mono ⟨t3.same, t3.pre, rfl⟩ |> fun z => ⟨z.len, fun j a e => by
          obtain ⟨w, h1, h2⟩ := z.at_ j a e
          refine ⟨w, h1, ?_⟩
          cases a with
          | d x => exact h2
          | ref n => exact h2
          | own l => exact h2
          | exc x => exact h2⟩
        refine ⟨F3, ⟨l2, upd ρ'.G D (.lst vacc)⟩, S2, .d items[i], wipeA aσ vs, σ2, rs3, st3, dv, e2, fun σ' st4 w => ⟨(w vs hv).trans (by
          have : ∀ (us : List Nat) (τ : L2.St), wipe (wipe τ us) us = wipe τ us := by
            intro us τ
            have key : ∀ (as : List Nat), (∀ i ∈ as, i ∈ us) → wipe (wipe τ us) as = wipe τ us := by
              intro as
              induction as with
              | nil => intro _; rfl
              | cons a as ih =>
                intro h
                show (wipe (wipe τ us) as).set a none = wipe τ us
                rw [ih fun i hi => h i (List.mem_cons_of_mem _ hi)]
                apply List.ext_getElem?
                intro j
                by_cases hj : a = j
                · subst hj
                  have ha := h a List.mem_cons_self
                  by_cases hl : a < (wipe τ us).length
                  · rw [List.getElem?_set_self hl]
                    cases hz : (wipe τ us)[a]? with
                    | none => rw [List.getElem?_eq_none_iff] at hz; omega
                    | some z =>
                      cases z with
                      | none => rfl
                      | some z => exact absurd ha (wipe_some hz).2
                  · rw [List.getElem?_eq_none (by rw [List.length_set]; omega), List.getElem?_eq_none (by omega)]
                · rw [List.getElem?_set_ne hj]
            exact key us fun _ h => h
          exact this vs σ), ?_⟩⟩
        -- the test
        refine ⟨F3, ⟨l2, upd ρ'.G D (.lst vacc)⟩, S2, σ2, rs3, st4, ?_⟩
        cases e3 : ct σ2 S2 with
        | err x S3 => simp only [e3] at q3; exact q3.elim
        | stuck => simp only [e3] at q3; exact q3.elim
        | ok b S3 =>
          simp only [e3] at q3
          intro F4 ρ4 H4 vb t4 rs4 rb
          have g4 : ρ4 = ⟨ρ4.l, upd ρ'.G D (.lst vacc)⟩ := by
            have gg : ρ4.G = upd ρ'.G D (.lst vacc) := t4.g
            rw [← gg]
          have t34 : Tr F3 ⟨l2, ρ'.G⟩ F4 ⟨ρ4.l, ρ'.G⟩ := ⟨t4.same, t4.pre, rfl⟩
          split at q3
          · rename_i b1 S31 e4
            cases e4
            cases dbool (show Dp Z.K F4 vb _ from rb)
            refine ⟨true, rfl, iteT ?_⟩
            refine ⟨F4, ρ4, S3, σ2, rs4, st4.mono t4, ?_⟩
            cases e5 : ce σ2 S3 with
            | err x S5 => simp only [e5] at q3; exact q3.elim
            | stuck => simp only [e5] at q3; exact q3.elim
            | ok a S5 =>
              simp only [e5] at q3
              intro F5 ρ5 H5 vy t5 rs5 ry
              obtain ⟨F6, s6, rs6, rv6⟩ := fzW rs5 ry
              cases e6 : frzD S5 a.fz with
              | none => simp only [e6] at q3; exact q3.elim
              | some yy =>
                obtain ⟨y, S6⟩ := yy
                obtain ⟨F7, s7, rs7, dy⟩ := frzD_ok rs6 rv6 e6
                simp only [e6] at q3
                by_cases cc : acc.length < cap
                · rw [if_pos cc] at q3
                  have g5 : ρ5.G = upd ρ'.G D (.lst vacc) := t5.g.trans t4.g
                  have eD : ρ5.G D = some (.lst vacc) := by rw [g5, upd_same]
                  have t47 : Tr F3 ⟨l2, ρ'.G⟩ F7 ⟨ρ5.l, ρ'.G⟩ := ⟨((t4.same.trans t5.same).trans s6).trans s7, t4.pre.trans t5.pre, rfl⟩
                  have da7 : DpAll Z.K F7 vacc acc := dpA_mono (s3.trans t47.same) _ _ da
                  refine ⟨vacc, (rs7.pin D _ eD).1, by rw [dpA_len da]; exact Nat.lt_of_lt_of_le cc cap_le, _, by omega, F7, ρ5.l, S6, acc ++ [y], vacc ++ [vy], t3.trans t47, ?_, dpA_app da7 (.cons dy .nil), hlt, rfl, EPost.tr t47 q3⟩
                  have r := rs7.pinSet eD (.lst (vacc ++ [vy]))
                  have eg : upd ρ5.G D (.lst (vacc ++ [vy])) = upd ρ'.G D (.lst (vacc ++ [vy])) := by
                    rw [g5]
                    funext b
                    by_cases hb : b = D
                    · subst hb; rw [upd_same, upd_same]
                    · rw [upd_ne hb, upd_ne hb, upd_ne hb]
                  rw [eg] at r
                  exact r
                · rw [if_neg cc] at q3
                  exact q3.elim
          · rename_i b1 S31 e4
            cases e4
            cases dbool (show Dp Z.K F4 vb _ from rb)
            refine ⟨false, rfl, iteF ?_⟩
            rw [g4] at rs4
            exact ⟨_, by omega, F4, ρ4.l, S3, acc, vacc, t3.trans t34, rs4, dpA_mono (s3.trans t4.same) _ _ da, hlt, rfl, EPost.tr t34 q3⟩
          · exact q3.elim
    · have ee : i = items.length := by omega
      subst ee
      rw [List.drop_length] at q2
      have eD : H1 D = some (.lst vacc) ∧ F2 D = none ∧ D ∉ l2 := rs2.pin D _ upd_same
      have rsU : RS Z.K F2 ⟨l2, ρ'.G⟩ S2 H1 := rs2.unpin (G := ρ'.G) fun b o e => by
        show upd ρ'.G D (.lst vacc) b = some o
        rw [upd_ne (fun z : b = D => by rw [z, G0] at e; cases e)]
        exact e
      exact .inl ⟨hJ2.stop H1 rs2.sub, q2 F2 ⟨l2, ρ'.G⟩ H1 _ Tr.refl rsU ⟨D, vacc, rfl, eD.2.2, eD.2.1, G0, eD.1, da⟩⟩
section
variable {X : Cx} {ex : Option (Addr × Value × Option Addr)} {W : WX}
theorem ts_true : PTs X [] (tT (zp X ex) W0 (dC (.bool true))) := ⟨fun pins s σ H Q I h => pts_nil.run pins s σ H Q I (by
  obtain ⟨F, ρ, S, aσ, rs, st, q⟩ := h
  obtain ⟨b, e, k⟩ := q F ρ H (.bl true) Tr.refl rs (show Dp _ _ _ _ from .bl true)
  cases e
  exact k)⟩
theorem ts_one {c : Expr} {cc : Dn} (h : PT X c (tT (zp X ex) W0 cc)) : PTs X [c] (tT (zp X ex) W0 cc) := pts_one h
/-- what holds in the block of a comprehension -/
abbrev InBlk (X : Cx) (scope : Scope) (P : Cx → Prop) : Prop := ∀ (s : Shared) (H : Hp) (C : Addr) (cl : List (Str × Addr)) (fp : List Addr), P (X.blk s H scope (compEnvC scope cl C X.env) fp)
theorem sE_lc {elt tg iter : Expr} {ifs : List Expr} {scope : Scope} {own : List (Str × Nat)} {pos : Pos} {it : It1} {p : Pat} {ct ce : Dn} (hc : X.calm = true) (hN : X.N.Nodup) (hi : PI X tg iter (tI (zp X ex) W it)) (ok : BlkOk X.N X.env.scope scope own)
    (hg : InBlk X scope fun Y => PG Y tg (tG (zp X ex) p)) (ht : InBlk X scope fun Y => PTs Y ifs (tT (zp X ex) W0 ct)) (he : InBlk X scope fun Y => PE Y elt (tE (zp X ex) W0 ce)) (hs : ∀ x, foldedSetIterable iter X.env x = pure x) (hv : ∀ i ∈ p.slots, i ∈ own.map (·.2)) :
    PE X (.ListComp elt [⟨tg, iter, ifs, 0⟩] scope pos) (tE (zp X ex) W (dLc it p ct ce (own.map (·.2)))) :=
  (pe_lc hc hN hi ok hg ht he hs).impD fun σ H Q h => lc_imp hv h
theorem sS_setLc {i : Nat} {y : Str} {py : Pos} {m : Bool} {elt tg iter : Expr} {ifs : List Expr} {scope : Scope} {own : List (Str × Nat)} {pos spos : Pos} {it : It1} {p : Pat} {ct ce : Dn} (hc : X.calm = true) (hN : X.N.Nodup) (hy : X.N[i]? = some y) (hyl : X.env.scope.names.lookup y = some .local)
    (hsw : swapsWith (.ListComp elt [⟨tg, iter, ifs, 0⟩] scope pos) (some (.Name y py)) spos.line X.env = pure true) (hi : PI X tg iter (tI (zp X ex) W it)) (ok : BlkOk X.N X.env.scope scope own)
    (hg : InBlk X scope fun Y => PG Y tg (tG (zp X ex) p)) (ht : InBlk X scope fun Y => PTs Y ifs (tT (zp X ex) W0 ct)) (he : InBlk X scope fun Y => PE Y elt (tE (zp X ex) W0 ce)) (hs : ∀ x, foldedSetIterable iter X.env x = pure x) (hv : ∀ i ∈ p.slots, i ∈ own.map (·.2)) :
    PS X (.Assign [.Name y py] (.ListComp elt [⟨tg, iter, ifs, 0⟩] scope pos) spos) (tS (zp X ex) W (sAsg i m (dLc it p ct ce (own.map (·.2))))) :=
  (ps_setLc hc hN hy hyl hsw hi ok hg ht he hs).impD fun D σ H h => lc_imp hv (asg_imp h)
end
end Den
/-! Den7: raise; try with several clauses; the caught error; a def's end. -/
namespace Den
open PySem PySem.Spec PyProof.Rows L2

/-! ### an own error is made and raised -/
/-- __init__(self, fld): self.fld = fld -/
def spIni (K : PySem.W.Frag) (fld : Str) : Sp := fun vs H Q _ => ∃ (a C : Addr) (y : V), vs = [.ref a, y] ∧ OexC K C ∧ PySem.W.findIn K (.ref C) fld = some none ∧ H a = some (exo a C none) ∧
  ∀ dx, H dx = none → dx ≠ a → Q .non (upd (upd H dx (exd dx [(fld, y)])) a (exo a C (some dx)))
theorem ok_ini {P : Program} {w : World} {K : PySem.W.Frag} {mg : Str → Option Value} {base : Heap} {qual fld : Str} {st : Stmt} {fI : Addr} {fd : FuncData} {q1 q2 q3 q4 : Pos} (F : Fun K "__init__" qual st fI fd) (S : FnScope ["self", fld] ["self", fld] (defScope st))
    (h1 : (defScope st).names.lookup ("self" : Str) = some .local) (h2 : (defScope st).names.lookup fld = some .local) (hd : (fld == ("__debug__" : Str)) = false) (hcd : (fld == ("__classdict__" : Str)) = false)
    (hb : defBody st = [.Assign [.Attribute (.Name "self" q1) fld q2] (.Name fld q3) q4]) : FnOk P w K mg base (L2.CX P w) 1 fI fd ["self", fld] (spIni K fld) := by
  refine F.okX S (fun vs H Q E h => ?_) (fun cdv A outer s H vs Q E hr h => ⟨tOst K fld (tVar 0) (tVar 1), ?_, ?_⟩)
  · obtain ⟨a, C, y, rfl, _⟩ := h
    rfl
  · rw [hb]
    exact pss_one (ps_ost (pe_var (i := 0) rfl (Or.inl h1) (by decide) (by decide)) (pe_var (i := 1) rfl (Or.inl h2) hd hcd))
  · obtain ⟨a, C, y, rfl, T, hno, hH, q⟩ := h
    exact ⟨y, rfl, .ref a, rfl, a, C, rfl, T, hno, .inl ⟨hH, q⟩⟩
def sRaise (cn fld : Str) (l : Ln) : Sn := fun σ S => match l σ S with
  | .ok [a] S1 => match frzD S1 a with
    | some (x, S2) => .er ⟨cn, fld, x⟩ σ S2
    | none => .stuck
  | .ok _ _ => .stuck
  | .err x S1 => .er x σ S1
  | .stuck => .stuck
/-- what the text says of an own class of errors: its place, its __init__ -/
structure OwnE (P : Program) (w : World) (K : PySem.W.Frag) (mg : Str → Option Value) (base : Heap) (cn fld : Str) (C fI : Addr) (fd : FuncData) : Prop where
  g : mg cn = some (.ref C)
  T : OexC K C
  no : PySem.W.findIn K (.ref C) fld = some none
  iC : PySem.W.findIn K (.ref C) "__init__" = some (some (.ref fI))
  tI : PySem.W.typeIn K (.ref fI) = some (.type "function")
  F : FnOk P w K mg base (L2.CX P w) 1 fI fd ["self", fld] (spIni K fld)
  b : Binds K fd ["self", fld] []
  xf : XfC K C
section
variable {X : Cx} {W : WX} {pos : Pos} {e : Expr}
theorem raise_imp {cn fld : Str} {C fI : Addr} {fd : FuncData} {l : Ln} {D : Ends} {σ : L2.St} {H : Hp} (O : OwnE X.prog X.w X.K X.mg X.base cn fld C fI fd) (h : tS (zp X none) W (sRaise cn fld l) D σ H) :
    tMkO C (spIni X.K fld) [] (tL (zp X none) W l) σ H fun cls d H' => W cls d σ H' := by
  obtain ⟨F, ρ, S, aσ, rs, st, q⟩ := h
  refine ⟨F, ρ, S, aσ, rs, st, ?_⟩
  unfold sRaise at q
  cases e1 : l aσ S with
  | err x S1 =>
    rw [e1] at q
    exact fun F' ρ' H' cls d t rs' rx => q F' ρ' H' σ cls d t rs' (st.mono t) rx
  | stuck => rw [e1] at q; exact q
  | ok as S1 =>
    rw [e1] at q
    intro F' ρ' H' vs t rs' rv
    match as, rv, q with
    | [], _, q => exact q.elim
    | _ :: _ :: _, _, q => exact q.elim
    | [a1], rv, q =>
      obtain ⟨v, rfl, r1⟩ := rv.one
      cases e2 : frzD S1 a1 with
      | none => simp only [e2] at q; exact q.elim
      | some y =>
        obtain ⟨x, S2⟩ := y
        obtain ⟨F2, s2, rs2, dx⟩ := frzD_ok rs' r1 e2
        simp only [e2] at q
        refine ⟨by show 1 ≤ 1000; decide, fun a ha => ⟨a, C, v, rfl, O.T, O.no, upd_same, fun dd hdd hne => ⟨rfl, dd, [(fld, v)], upd_same, by rw [upd_ne hne, upd_same], by rw [upd_ne hne] at hdd; exact hdd, ?_⟩⟩⟩
        have hd1 : H' dd = none := by rw [upd_ne hne] at hdd; exact hdd
        have eh : upd (del (upd (upd (upd H' a (exo a C none)) dd (exd dd [(fld, v)])) a (exo a C (some dd))) a) dd (.xd [(fld, v)]) = upd H' dd (.xd [(fld, v)]) := by
          funext b
          by_cases hb : b = dd
          · subst hb
            rw [upd_same, upd_same]
          · rw [upd_ne hb, upd_ne hb]
            by_cases hba : b = a
            · subst hba
              rw [del_same, ha]
            · rw [del_ne hba, upd_ne hba, upd_ne hb, upd_ne hba]
        rw [eh]
        have t2 : Tr F ρ (upd F2 dd (.xd [(fld, v)])) ρ' := (t.trans (Tr.sam s2)).trans (Tr.sam (same_upd (rs2.fresh hd1)))
        exact q _ ρ' _ σ (.ref C) (some dd) t2 (rs2.newF hd1) (st.mono t2) ⟨C, dd, v, rfl, O.g, rfl, upd_same, dp_mono (same_upd (rs2.fresh hd1)) _ _ dx⟩
theorem sS_raise {cn fld : Str} {C fI : Addr} {fd : FuncData} {l : Ln} {p pos2 : Pos} (O : OwnE X.prog X.w X.K X.mg X.base cn fld C fI fd) (hc : X.calm = true) (tk : Takes X W) (hr : Room 2 X.A) (hg : Gl X cn) (ha : PA X [e] (tL (zp X none) W l))
    (hdb : (cn == ("__debug__" : Str)) = false) (he : starEach [e] X.env = (false, eval e X.env) :: starEach [] X.env) (hpl : (backTo pos (starEach [] X.env)).any (·.1) = false) :
    PS X (.Raise (some (.Call (.Name cn p) [e] [] pos)) none pos2) (tS (zp X none) W (sRaise cn fld l)) :=
  (ps_raise hc tk (pmk_oex O.T O.iC O.tI O.F hr O.b .nil (fun _ _ _ _ _ _ _ z => by obtain ⟨_, _, _, _, _, _, _, _, _, _, _, _, z⟩ := z; exact z.elim) hg O.g ha hdb he hpl)).impD fun D σ H h => raise_imp O h
end

/-! ### try: several clauses, each with or without a name -/
/-- behind a suite with a name: the name goes -/
def Dgo (D : Ends) (i : Nat) : Ends := { nx := fun σ H => D.nx (σ.set i none) H, rt := D.rt, bk := fun σ H => D.bk (σ.set i none) H, ct := fun σ H => D.ct (σ.set i none) H }
abbrev SuT := Addr → Value → Option Addr → TS
/-- the wish for one clause that takes the error -/
def wOne (D : Ends) (oi : Option Nat) (ts : SuT) : WX := fun cls d σ H => ∀ a, H a = none → match oi with
  | none => ts a cls d D σ H
  | some i => ts a cls d (Dgo D i) (σ.set i (some (.ref a))) H
def wEach (K : PySem.W.Frag) (Wo : WX) (D : Ends) : List (Value × Option Nat × SuT) → WX
  | [] => Wo
  | (c, oi, ts) :: r => fun cls d σ H => ∃ b, PySem.W.exmOne K cls c = some b ∧ (b = true → wOne D oi ts cls d σ H) ∧ (b = false → wEach K Wo D r cls d σ H)
/-- the suites -/
abbrev SuOk (X : Cx) (b : List Stmt) (ts : SuT) : Prop := ∀ (a : Addr) (oe : Obj) (cls : Value) (d : Option Addr) (pn : List (Addr × Obj)), Zc cls d oe → (∃ vs, oe.data = .fields vs) → PSs (X.suite a ((a, oe) :: pn)) b (ts a cls d)
inductive HdE (X : Cx) : List ExceptHandler → List (Value × Option Nat × SuT) → Prop
  | nil : HdE X [] []
  | bare {x : Str} {c : Value} {ts : SuT} {b₀ : Stmt} {bs : List Stmt} {p1 p2 : Pos} {r : List ExceptHandler} {l : List (Value × Option Nat × SuT)} (hc : Names X x c) (hsu : SuOk X (b₀ :: bs) ts) (hr : HdE X r l) :
      HdE X (.ExceptHandler (some (.Name x p1)) none (b₀ :: bs) p2 :: r) ((c, none, ts) :: l)
  | named {x n : Str} {i : Nat} {c : Value} {ts : SuT} {b₀ : Stmt} {bs : List Stmt} {p1 p2 : Pos} {r : List ExceptHandler} {l : List (Value × Option Nat × SuT)} (hc : Names X x c) (hi : X.N[i]? = some n) (hn : X.env.kindOf n = some .local) (hsu : SuOk X (b₀ :: bs) ts) (hr : HdE X r l) :
      HdE X (.ExceptHandler (some (.Name x p1)) (some n) (b₀ :: bs) p2 :: r) ((c, some i, ts) :: l)
section
variable {X : Cx} {body : List Stmt} {q0 : ExceptHandler} {qs : List ExceptHandler} {l : List (Value × Option Nat × SuT)} {pos : Pos} {tb : WX → TS} {Wo : WX}
theorem ps_try_each (hst : X.stack = X.env :: X.outer) (hfm : X.env.frame = some X.env.locals) (hN : X.N.Nodup) (tk : Takes X Wo)
    (hb : ∀ (W : WX) (pn : List (Addr × Obj)) (xe : Value → Shared → Prop), Takes (X.tr pn xe) W → PassesOwn (model X.prog X.w) X.A X.env xe → PSs (X.tr pn xe) body (tb W))
    (hh : HdE X (q0 :: qs) l) : PS X (.Try body (q0 :: qs) [] [] pos) (fun D σ H => tb (wEach X.K Wo D l) D σ H) := by
  refine ⟨fun pins s σ H D I h => ?_⟩
  have okX := I.ok
  have afr : X.A.frames = some (X.env :: X.outer) := by rw [okX.frames, hst]
  refine wpAny_Try_except ?_
  have bodyRun := hb (wEach X.K Wo D l) (X.pn ++ pins) (fun u t1 => wpAny (model X.prog X.w) X.A (noteFrame u X.env) (fun _ t2 => wpAny (model X.prog X.w) X.A (setFlight u none) (fun _ t3 =>
    wpAny (model X.prog X.w) X.A (handleBy u X.env (q0 :: qs)) (SP X pins D) X.xe t3) X.xe t2) X.xe t1)
  refine wpAny_mono ((bodyRun (fun u t0 fly => ?_) PassesOwn.looking).run [] s σ H D (I.toTry _) h) (fun fl t1 done => ?_) (fun u t1 z => z)
  · -- an error came out of the body
    obtain ⟨a, B, tI, pins2, τ, G, cls, d, rfl, JT, nB, upB, air, gA, osA, bareA, wish⟩ := fly
    have JA : Inv X pins τ G tI := JT.ofTry okX
    rw [show (X.tr (X.pn ++ pins) _).stack = X.env :: X.outer from hst] at air
    show wpAny (model X.prog X.w) X.A (noteFrame (.ref a) X.env) _ _ _
    refine Sky.land Zc.steady afr hfm air fun k3 on3 up3 => ?_
    have J3 : Inv X pins τ G { t0 with heap := k3 } := JA.landed nB on3.1 (upB.trans up3) osA bareA
    obtain ⟨ob3, fs3, at3, zc3, dat3⟩ := on3.there
    have outF : a ∉ frs (X.env :: X.outer) := fun hm => by
      obtain ⟨_, ob', at', nofields⟩ := on3.2.2.1.mem hm
      rw [at3] at at'
      cases at'
      exact nofields _ dat3
    have aL : a ≠ X.env.locals := fun z => outF (List.mem_filterMap.mpr ⟨X.env, List.mem_cons_self, by rw [hfm, z]⟩)
    have aF : a ∉ X.fs := fun hm => by
      obtain ⟨env2, he2, fr2⟩ := List.mem_filterMap.mp hm
      exact outF (List.mem_filterMap.mpr ⟨env2, List.mem_cons_of_mem _ he2, fr2⟩)
    have K3 := J3.suite at3 dat3 gA aL aF
    have each : ∀ {ks : List ExceptHandler} {m : List (Value × Option Nat × SuT)}, HdE X ks m → wEach X.K Wo D m cls d τ G →
        wpAny (model X.prog X.w) X.A (handleBy (.ref a) X.env ks) (SP X pins D) X.xe { t0 with heap := k3 } := by
      intro ks m hk
      -- the test of a clause, before anything of it runs
      have LT : PySem.W.Looks (model X.prog X.w) k3 (typeOf (.ref a)) cls := fun A Q E s k q => wpAny_typeOf_ref (k _ _ at3) (by rw [zc3.1]; exact q)
      have name1 : ∀ {x : Str} {c : Value} {p1 : Pos} {Q : Value → Shared → Prop} {E : Value → Shared → Prop}, Names X x c → Q c { t0 with heap := k3 } → wpAny (model X.prog X.w) (X.A.mark (some (.ref a))) (eval (.Name x p1) X.env) Q E { t0 with heap := k3 } := fun {x c p1 Q E} nm q => by
        obtain ⟨gl, nd, m1 | ⟨m1, bv, nn⟩⟩ := nm
        · exact ld_glob (X := X.suite a ((a, ob3) :: (X.pn ++ pins))) K3 gl m1 q nd
        · exact ld_blt (X := X.suite a ((a, ob3) :: (X.pn ++ pins))) K3 gl m1 bv q nn nd
      induction hk with
      | nil =>
        intro wout
        refine wpAny_handleBy_nil ?_
        obtain ⟨z1, z2, z3, ob, fs, T, oT, tfs, hat, hzc, hdat, hT1, _⟩ := id on3
        have out : wpAny (model X.prog X.w) X.A (setFlight (.ref a) X.env.frame) (fun _ t4 => wpAny (model X.prog X.w) X.A (throw (.ref a) : Sem Flow) (SP X pins D) X.xe t4) X.xe { t0 with heap := k3 } := by
          rw [hfm]
          refine HandSPX.setFlight_upZ on3 fun k4 off4 up4 => wpAny_throw (tk _ _ ?_)
          exact ⟨a, B, tI, pins, τ, G, cls, d, rfl, JA, nB, (upB.trans up3).trans up4, .inr (.inr (by rw [hst]; exact off4)), gA, osA, bareA, wout⟩
        unfold PySem.passOn
        refine wpAny_bind (wpAny_field hat hdat hT1 ?_)
        rw [if_neg (show ¬ ((Value.ref T == Value.none) = true) by simp)]
        first
          | exact wpAny_bind out
          | exact wpAny_bind (wpAny_pure (wpAny_bind out))
      | @bare x c ts b₀ bs p1 p2 r l2 nm su hr ih =>
        rintro ⟨b, eb, hy, hn⟩
        have LM := PySem.W.exm_one (M := model X.prog X.w) J3.kIn LT eb
        refine wpAny_handleBy_cons (codeAny_handlers_test (name1 nm (LM.here ?_))) (by intro z; cases z)
        cases b with
        | false =>
          show wpAny _ X.A (handleBy (.ref a) X.env r) _ _ _
          exact ih (hn rfl)
        | true =>
          refine codeAny_handlers_suite ?_
          refine HandSPX.lands_againZ on3 fun k4 on4 up4 => ?_
          have J4 : Inv X pins τ G { t0 with heap := k4 } := JA.landed nB on4.1 ((upB.trans up3).trans up4) osA bareA
          obtain ⟨ob4, fs4, at4, zc4, dat4⟩ := on4.there
          have K4 := J4.suite at4 dat4 gA aL aF
          refine wpAny_mono ((su a ob4 cls d (X.pn ++ pins) zc4 ⟨_, dat4⟩).run [] _ _ G _ K4 (hy rfl a gA)) (fun g6 t6 sp6 => ?_) (fun _ _ z => z.elim)
          cases g6 with
          | next =>
            obtain ⟨τ6, G6, K6, q6⟩ := sp6
            exact ⟨_, _, K6.unsuite okX, q6⟩
          | brk =>
            obtain ⟨τ6, G6, K6, q6⟩ := sp6
            exact ⟨_, _, K6.unsuite okX, q6⟩
          | cont =>
            obtain ⟨τ6, G6, K6, q6⟩ := sp6
            exact ⟨_, _, K6.unsuite okX, q6⟩
          | ret u =>
            obtain ⟨v6, τ6, G6, K6, r6, q6⟩ := sp6
            exact ⟨_, _, _, K6.unsuite okX, r6, q6⟩
      | @named x n i c ts b₀ bs p1 p2 r l2 nm hi hln su hr ih =>
        rintro ⟨b, eb, hy, hn⟩
        have LM := PySem.W.exm_one (M := model X.prog X.w) J3.kIn LT eb
        refine wpAny_handleBy_cons (codeAny_handlers_test (name1 nm (LM.here ?_))) (by intro z; cases z)
        cases b with
        | false =>
          show wpAny _ X.A (handleBy (.ref a) X.env r) _ _ _
          exact ih (hn rfl)
        | true =>
          refine codeAny_handlers_suite_as ?_
          refine HandSPX.lands_againZ on3 fun k4 on4 up4 => ?_
          have J4 : Inv X pins τ G { t0 with heap := k4 } := JA.landed nB on4.1 ((upB.trans up3).trans up4) osA bareA
          obtain ⟨ob4, fs4, at4, zc4, dat4⟩ := on4.there
          have K4 := J4.suite at4 dat4 gA aL aF
          refine store_ok (X := X.suite a ((a, ob4) :: (X.pn ++ pins))) (v := .ref a) K4 hN hi (.inl hln) rfl (fun t5 K5 => ?_) (.inr hln)
          refine wpAny_mono ((su a ob4 cls d (X.pn ++ pins) zc4 ⟨_, dat4⟩).run [] t5 _ G _ K5 (hy rfl a gA)) (fun g6 t6 sp6 => ?_) (fun _ _ z => z.elim)
          have goes : ∀ {τ6 : L2.St} {G6 : Hp} {Q : Shared → Prop}, Inv (X.suite a ((a, ob4) :: (X.pn ++ pins))) [] τ6 G6 t6 → (∀ t7, Inv X pins (τ6.set i none) G6 t7 → Q t7) →
              wpAny (model X.prog X.w) X.A (do bindName X.env n .none; unbindBehindTheSuite X.env n p2) (fun _ t7 => Q t7) X.xe t6 := fun {τ6 G6 Q} K6 q => gone_ok (K6.unsuite okX) hN hi hln q
          cases g6 with
          | next =>
            obtain ⟨τ6, G6, K6, q6⟩ := sp6
            exact goes K6 fun t7 J7 => ⟨_, _, J7, q6⟩
          | brk =>
            obtain ⟨τ6, G6, K6, q6⟩ := sp6
            exact goes K6 fun t7 J7 => ⟨_, _, J7, q6⟩
          | cont =>
            obtain ⟨τ6, G6, K6, q6⟩ := sp6
            exact goes K6 fun t7 J7 => ⟨_, _, J7, q6⟩
          | ret u =>
            obtain ⟨v6, τ6, G6, K6, r6, q6⟩ := sp6
            exact goes K6 fun t7 J7 => ⟨_, _, _, J7, r6, q6⟩
    exact each hh wish
  · cases fl with
    | next =>
      obtain ⟨τ, G, J, q⟩ := done
      exact wpAny_execs_nil ⟨τ, G, J.ofTry okX, q⟩
    | brk =>
      obtain ⟨τ, G, J, q⟩ := done
      exact ⟨τ, G, J.ofTry okX, q⟩
    | cont =>
      obtain ⟨τ, G, J, q⟩ := done
      exact ⟨τ, G, J.ofTry okX, q⟩
    | ret u =>
      obtain ⟨v, τ, G, J, r, q⟩ := done
      exact ⟨v, τ, G, J.ofTry okX, r, q⟩
end
end Den
/-! Den8: try as a denotation; the caught error's field and class; a def's end. -/
namespace Den
open PySem PySem.Spec PyProof.Rows L2

/-! ### try -/
def excA : Option AV → Bool
  | some (.exc _) => true
  | _ => false
def noX (σ : ASt) : Bool := σ.all fun o => !excA o
def leaveX (i : Nat) : SR → SR
  | .nx σ S => if noX (σ.set i none) then .nx (σ.set i none) S else .stuck
  | .rt a S => if excA (some a) then .stuck else .rt a S
  | .bk σ S => if noX (σ.set i none) then .bk (σ.set i none) S else .stuck
  | .ct σ S => if noX (σ.set i none) then .ct (σ.set i none) S else .stuck
  | _ => .stuck
def leave0 : SR → SR
  | .nx σ S => if noX σ then .nx σ S else .stuck
  | .rt a S => if excA (some a) then .stuck else .rt a S
  | .bk σ S => if noX σ then .bk σ S else .stuck
  | .ct σ S => if noX σ then .ct σ S else .stuck
  | _ => .stuck
/-- a clause: for each class of errors by name whether it is taken; the slot of its name; its suite -/
structure Cl where
  tab : List (Str × Bool)
  slot : Option Nat
  su : Sn
def Cl.run (c : Cl) (x : Exc) (σ : ASt) (S : AS) : SR := match c.slot with
  | none => leave0 (c.su σ S)
  | some i => leaveX i (c.su (σ.set i (some (.exc x))) S)
def catchX (x : Exc) (σ : ASt) (S : AS) : List Cl → SR
  | [] => .er x σ S
  | c :: r => match c.tab.lookup x.cls with
    | none => .stuck
    | some true => c.run x σ S
    | some false => catchX x σ S r
def sTry (cb : Sn) (cs : List Cl) : Sn := fun σ S => match cb σ S with
  | .er x σ1 S1 => if noX σ1 then catchX x σ1 S1 cs else .stuck
  | r => r
/-- the table of a clause says what the classes say -/
def TabOk (X : Cx) (tab : List (Str × Bool)) (c : Value) : Prop := ∀ cn b, tab.lookup cn = some b → ∀ C, X.mg cn = some (.ref C) → PySem.W.exmOne X.K (.ref C) c = some b
def SuD (X : Cx) (ch : Sn) : SuT := fun a cls d => tS (zp X (some (a, cls, d))) W0 ch
inductive CsOk (X : Cx) : List (Value × Option Nat × SuT) → List Cl → Prop
  | nil : CsOk X [] []
  | cons {c : Value} {oi : Option Nat} {ch : Sn} {tab : List (Str × Bool)} {l : List (Value × Option Nat × SuT)} {cs : List Cl} (h : TabOk X tab c) (r : CsOk X l cs) : CsOk X ((c, oi, SuD X ch) :: l) (⟨tab, oi, ch⟩ :: cs)
section
variable {Z Z' : Zp} {F : Hp} {ρ : Rh} {aσ : ASt} {σ : L2.St}
theorem RepV.swap {a : AV} {v : V} (hK : Z'.K = Z.K) (h : RepV Z F ρ a v) (n : excA (some a) = false) : RepV Z' F ρ a v := by
  cases a with
  | d x =>
    show Dp Z'.K F v x
    rw [hK]
    exact h
  | ref m => exact h
  | own l => exact h
  | exc x => cases n
theorem RSt.swap (hK : Z'.K = Z.K) (h : RSt Z F ρ aσ σ) (n : noX aσ = true) : RSt Z' F ρ aσ σ := ⟨h.len, fun i a e => by
  obtain ⟨v, h1, h2⟩ := h.at_ i a e
  have hm : some a ∈ aσ := List.mem_of_getElem? e
  have q := List.all_eq_true.mp n _ hm
  exact ⟨v, h1, h2.swap hK (by simpa using q)⟩⟩
end
section
variable {X : Cx} {W : WX} {D : Ends} {a : Addr} {cls : Value} {d : Option Addr} {F : Hp} {ρ : Rh}
theorem RepW.swap {Z Z' : Zp} {F : Hp} {ρ : Rh} {H : Hp} {a : AV} {v : V} (hK : Z'.K = Z.K) (h : RepW Z F ρ H a v) (n : excA (some a) = false) : RepW Z' F ρ H a v := by
  cases a with
  | d x => exact RepV.swap (ρ := ρ) (a := .d x) hK h n
  | ref m => exact h
  | own l =>
    obtain ⟨p, vs, h1, h2, h3, h4, h5, h6⟩ := h
    exact ⟨p, vs, h1, h2, h3, h4, h5, by rw [hK]; exact h6⟩
  | exc x => cases n
theorem leaveX_ok {i : Nat} {r : SR} (h : SPost (zp X none) W F ρ D (leaveX i r)) : SPost (zp X (some (a, cls, d))) W0 F ρ (Dgo D i) r := by
  cases r with
  | nx τ S =>
    have h : SPost (zp X none) W F ρ D (if noX (τ.set i none) then .nx (τ.set i none) S else .stuck) := h
    by_cases n : noX (τ.set i none) = true
    · rw [if_pos n] at h
      exact fun F' ρ' H' σ' t rs st => h F' ρ' H' _ t rs (RSt.swap (Z := zp X (some (a, cls, d))) rfl st.clear n)
    · rw [if_neg n] at h
      exact h.elim
  | rt b S =>
    have h : SPost (zp X none) W F ρ D (if excA (some b) then .stuck else .rt b S) := h
    by_cases n : excA (some b) = true
    · rw [if_pos n] at h
      exact h.elim
    · rw [if_neg n] at h
      exact fun F' ρ' H' v t rs rw' => h F' ρ' H' v t rs (RepW.swap (Z := zp X (some (a, cls, d))) rfl rw' (by simpa using n))
  | bk τ S =>
    have h : SPost (zp X none) W F ρ D (if noX (τ.set i none) then .bk (τ.set i none) S else .stuck) := h
    by_cases n : noX (τ.set i none) = true
    · rw [if_pos n] at h
      exact fun F' ρ' H' σ' t rs st => h F' ρ' H' _ t rs (RSt.swap (Z := zp X (some (a, cls, d))) rfl st.clear n)
    · rw [if_neg n] at h
      exact h.elim
  | ct τ S =>
    have h : SPost (zp X none) W F ρ D (if noX (τ.set i none) then .ct (τ.set i none) S else .stuck) := h
    by_cases n : noX (τ.set i none) = true
    · rw [if_pos n] at h
      exact fun F' ρ' H' σ' t rs st => h F' ρ' H' _ t rs (RSt.swap (Z := zp X (some (a, cls, d))) rfl st.clear n)
    · rw [if_neg n] at h
      exact h.elim
  | er x τ S => exact h.elim
  | stuck => exact h.elim
theorem leave0_ok {r : SR} (h : SPost (zp X none) W F ρ D (leave0 r)) : SPost (zp X (some (a, cls, d))) W0 F ρ D r := by
  cases r with
  | nx τ S =>
    have h : SPost (zp X none) W F ρ D (if noX τ then .nx τ S else .stuck) := h
    by_cases n : noX τ = true
    · rw [if_pos n] at h
      exact fun F' ρ' H' σ' t rs st => h F' ρ' H' _ t rs (RSt.swap (Z := zp X (some (a, cls, d))) rfl st n)
    · rw [if_neg n] at h
      exact h.elim
  | rt b S =>
    have h : SPost (zp X none) W F ρ D (if excA (some b) then .stuck else .rt b S) := h
    by_cases n : excA (some b) = true
    · rw [if_pos n] at h
      exact h.elim
    · rw [if_neg n] at h
      exact fun F' ρ' H' v t rs rw' => h F' ρ' H' v t rs (RepW.swap (Z := zp X (some (a, cls, d))) rfl rw' (by simpa using n))
  | bk τ S =>
    have h : SPost (zp X none) W F ρ D (if noX τ then .bk τ S else .stuck) := h
    by_cases n : noX τ = true
    · rw [if_pos n] at h
      exact fun F' ρ' H' σ' t rs st => h F' ρ' H' _ t rs (RSt.swap (Z := zp X (some (a, cls, d))) rfl st n)
    · rw [if_neg n] at h
      exact h.elim
  | ct τ S =>
    have h : SPost (zp X none) W F ρ D (if noX τ then .ct τ S else .stuck) := h
    by_cases n : noX τ = true
    · rw [if_pos n] at h
      exact fun F' ρ' H' σ' t rs st => h F' ρ' H' _ t rs (RSt.swap (Z := zp X (some (a, cls, d))) rfl st n)
    · rw [if_neg n] at h
      exact h.elim
  | er x τ S => exact h.elim
  | stuck => exact h.elim
theorem catch_ok {x : Exc} {S : AS} {H : Hp} {σ : L2.St} {aσ : ASt} (rs : RS X.K F ρ S H) (st : RSt (zp X none) F ρ aσ σ) (n : noX aσ = true) (rx : RepX (zp X none) F x cls d) :
    ∀ {l : List (Value × Option Nat × SuT)} {cs : List Cl}, CsOk X l cs → SPost (zp X none) W F ρ D (catchX x aσ S cs) → wEach X.K W D l cls d σ H
  | _, _, .nil, h => h F ρ H σ cls d Tr.refl rs st rx
  | _, _, @CsOk.cons _ c oi ch tab l cs ht r, h => by
    obtain ⟨C, dd, v, e1, e2, e3, e4, e5⟩ := id rx
    unfold catchX at h
    cases e : tab.lookup x.cls with
    | none => simp only [e] at h; exact h.elim
    | some b =>
      simp only [e] at h
      refine ⟨b, by rw [e1]; exact ht _ _ e C e2, fun eb => ?_, fun eb => ?_⟩
      · subst eb
        unfold Cl.run at h
        intro a ha
        cases oi with
        | none => exact ⟨F, ρ, S, aσ, rs, RSt.swap (Z := zp X none) rfl st n, leave0_ok h⟩
        | some i => exact ⟨F, ρ, S, aσ.set i (some (.exc x)), rs, RSt.set (RSt.swap (Z := zp X none) rfl st n) (a := .exc x) ⟨a, cls, d, rfl, rfl, rx⟩, leaveX_ok h⟩
      · subst eb
        exact catch_ok rs st n rx r h
theorem try_imp {cb : Sn} {cs : List Cl} {l : List (Value × Option Nat × SuT)} {σ : L2.St} {H : Hp} (hc : CsOk X l cs) (h : tS (zp X none) W (sTry cb cs) D σ H) : tS (zp X none) (wEach X.K W D l) cb D σ H := by
  obtain ⟨F, ρ, S, aσ, rs, st, q⟩ := h
  refine ⟨F, ρ, S, aσ, rs, st, ?_⟩
  unfold sTry at q
  cases e : cb aσ S with
  | er x σ1 S1 =>
    simp only [e] at q
    by_cases n : noX σ1 = true
    · rw [if_pos n] at q
      exact fun F' ρ' H' σ' cls d t rs' st' rx => catch_ok rs' st' n rx hc (SPost.tr t q)
    · rw [if_neg n] at q
      exact q.elim
  | nx a S1 => simp only [e] at q; exact q
  | rt a S1 => simp only [e] at q; exact q
  | bk a S1 => simp only [e] at q; exact q
  | ct a S1 => simp only [e] at q; exact q
  | stuck => simp only [e] at q; exact q
theorem sS_try {body : List Stmt} {q0 : ExceptHandler} {qs : List ExceptHandler} {l : List (Value × Option Nat × SuT)} {pos : Pos} {cb : Sn} {cs : List Cl} (hst : X.stack = X.env :: X.outer) (hfm : X.env.frame = some X.env.locals) (hN : X.N.Nodup) (tk : Takes X W)
    (hb : ∀ (W : WX) (pn : List (Addr × Obj)) (xe : Value → Shared → Prop), Takes (X.tr pn xe) W → PassesOwn (model X.prog X.w) X.A X.env xe → PSs (X.tr pn xe) body (tS (zp X none) W cb))
    (hh : HdE X (q0 :: qs) l) (hc : CsOk X l cs) : PS X (.Try body (q0 :: qs) [] [] pos) (tS (zp X none) W (sTry cb cs)) :=
  (ps_try_each (tb := fun W => tS (zp X none) W cb) hst hfm hN tk hb hh).impD fun D σ H h => try_imp hc h
end

/-! ### the caught error -/
def dFld (fld : Str) (ca : Dn) : Dn := fun σ S => (ca σ S).bind fun a S1 => match a with
  | .exc x => if x.fld = fld then .ok (.d x.val) S1 else .stuck
  | _ => .stuck
def dIsE (tab : List (Str × Bool)) (ca : Dn) : Dn := fun σ S => (ca σ S).bind fun a S1 => match a with
  | .exc x => match tab.lookup x.cls with
    | some b => .ok (.d (.bool b)) S1
    | none => .stuck
  | _ => .stuck
section
variable {X : Cx} {W : WX} {pos : Pos} {e : Expr} {ca : Dn} {a : Addr} {cls : Value} {d : Option Addr} {oe : Obj} {pn : List (Addr × Obj)}
/-- all classes of errors whose field is read -/
def FldOk (X : Cx) (fld : Str) (cns : List Str) : Prop := ∀ cn ∈ cns, ∀ C, X.mg cn = some (.ref C) → XfC X.K C ∧ PySem.W.findIn X.K (.ref C) fld = some none
def dFldT (fld : Str) (cns : List Str) (ca : Dn) : Dn := fun σ S => (ca σ S).bind fun a S1 => match a with
  | .exc x => if x.fld = fld ∧ x.cls ∈ cns then .ok (.d x.val) S1 else .stuck
  | _ => .stuck
theorem pe_xfA {fld : Str} {te : TE} (hz : Zc cls d oe) (hf : ∃ vs, oe.data = .fields vs) (he : PE (X.suite a ((a, oe) :: pn)) e te) (hb : attributeBase e fld X.env (eval e X.env) = eval e X.env) :
    PE (X.suite a ((a, oe) :: pn)) (.Attribute e fld pos) (fun σ H Q => ∃ C, XfC X.K C ∧ PySem.W.findIn X.K (.ref C) fld = some none ∧ tXf a cls d C fld te σ H Q) :=
  ⟨fun pins s σ H Q I h => by
    obtain ⟨C, h1, h2, h3⟩ := h
    exact (pe_xf h1 h2 hz hf he hb).run pins s σ H Q I h3⟩
theorem sE_fld {fld : Str} {cns : List Str} (hF : FldOk X fld cns) (hz : Zc cls d oe) (hf : ∃ vs, oe.data = .fields vs) (h1 : ∀ σ : L2.St, True) {i : Nat} {n : Str} {p2 : Pos} (hN : X.N[i]? = some n) (hv : Vis X.env.scope n) (hd : (n == ("__debug__" : Str)) = false) (hcd : (n == ("__classdict__" : Str)) = false)
    (hb : attributeBase (.Name n p2) fld X.env (eval (.Name n p2) X.env) = eval (.Name n p2) X.env) :
    PE (X.suite a ((a, oe) :: pn)) (.Attribute (.Name n p2) fld pos) (tE (zp X (some (a, cls, d))) W (dFldT fld cns (dVar i))) :=
  (pe_xfA hz hf (pe_var (X := X.suite a ((a, oe) :: pn)) hN hv hd hcd) hb).impD fun σ H Q h => by
    obtain ⟨F, ρ, S, aσ, rs, st, q⟩ := h
    unfold dFldT dVar at q
    cases e1 : aσ[i]? with
    | none => simp only [e1] at q; exact q.elim
    | some o =>
      cases o with
      | none => simp only [e1] at q; exact q.elim
      | some v =>
        simp only [e1] at q
        cases v with
        | exc x =>
          have q : EPost (zp X (some (a, cls, d))) W σ F ρ Q (if x.fld = fld ∧ x.cls ∈ cns then ER.ok (.d x.val) S else ER.stuck) := q
          by_cases c : x.fld = fld ∧ x.cls ∈ cns
          · rw [if_pos c] at q
            obtain ⟨u, h2, a', cls', d', h3, rfl, C, dd, w, h4, h5, h6, h7, h8⟩ := st.at_ i _ e1
            cases h3
            obtain ⟨k1, k2⟩ := hF _ c.2 C h5
            refine ⟨C, k1, k2, _, h2, rfl, h4, dd, _, w, h6, rs.sub _ _ h7, ?_, VPost.dat (Z := zp X (some (a, cls, d))) q rs h8⟩
            rw [c.1]
            simp
          · rw [if_neg c] at q
            exact q.elim
        | d x => exact q.elim
        | ref m => exact q.elim
        | own l => exact q.elim
/-- the classes of errors that isinstance is asked of -/
structure IsC (K : PySem.W.Frag) (C : Addr) : Prop where
  cl : (PySem.W.clsIn K C).isSome = true
  ga : PySem.W.findIn K (.ref C) "__getattribute__" = some (some (.builtin "BaseException.__getattribute__"))
  gt : PySem.W.findIn K (.ref C) "__getattr__" = some none
  sb : PySem.W.subIn K (.ref C) (.type "BaseException") = some true
  ca : PySem.W.findIn K (.ref C) "__class__" = some (some (.builtin "object.__class__"))
  hn : PySem.W.specialIn K (.builtin "object.__class__") "__get__" = some (some (.builtin "getset_descriptor.__get__"))
  tk : PySem.W.takesIn K (.builtin "object.__class__") = some true
  mo : PySem.W.mroIn K C (.type "object") = some true
/-- isinstance(e, c), e the caught error with its own dict -/
def rIsD (K : PySem.W.Frag) (a : Addr) (cls : Value) (d : Option Addr) : List V → Hp → VK → Prop := fun xs H Q => ∃ (c : V) (cv : Value) (b : Bool) (C dd : Addr) (fs : List (Str × V)), xs = [.ref a, c] ∧ (∀ u, RelV c u → u = cv) ∧ cls = .ref C ∧ d = some dd ∧ IsC K C ∧ H dd = some (.xd fs) ∧ PySem.W.kitOne K (.ref C) cv = some b ∧ Q (.bl b) H
theorem call_isD (hz : Zc cls d oe) (hf : ∃ vs, oe.data = .fields vs) : CallR (X.suite a ((a, oe) :: pn)) (.builtin "isinstance") (rIsD X.K a cls d) := by
  intro pins s σ H xs us Q I r h
  obtain ⟨c, cv, b, C, dd, fs, rfl, hcv, ec, ed, T, eH, ek, q⟩ := h
  match us, r with
  | [_, _], .cons rx (.cons rt .nil) =>
    have e1 := hcv _ rt
    subst e1
    cases rx
    subst ec
    subst ed
    have ha := (I.pin (a, oe) (List.mem_append_left _ List.mem_cons_self)).1
    obtain ⟨vs, hd⟩ := hf
    have hx : ObjOk X.prog X.w H s.heap dd (.xd fs) := I.hok dd _ eH
    obtain ⟨mA, hns, _⟩ := hx
    obtain ⟨od, ho, _⟩ := lookIn_ns hns
    have J : PySem.W.InstAt s.heap a oe C (some od) := ⟨ha, hz.1, by unfold PySem.W.notCls; rw [hd] <;> rfl, by rw [hz.2]; exact ho⟩
    exact PySem.W.kia_one (PySem.W.kitx_exc T.cl T.ga T.gt T.sb T.ca T.hn T.tk T.mo) I.kIn J ek (fun z => nomatch z) fun tk => ⟨.bl b, H, I.kept (t' := tk) fun _ _ z => z, rfl, q⟩
/-- what isinstance says of the errors by name -/
def IsTab (X : Cx) (tab : List (Str × Bool)) (B : Addr) : Prop := ∀ cn b, tab.lookup cn = some b → ∀ C, X.mg cn = some (.ref C) → IsC X.K C ∧ PySem.W.kitOne X.K (.ref C) (.ref B) = some b
theorem sE_isE {tab : List (Str × Bool)} {B : Addr} {x tn n : Str} {i : Nat} {p p2 p3 : Pos} (hT : IsTab X tab B) (hz : Zc cls d oe) (hf : ∃ vs, oe.data = .fields vs) (hx : x = "isinstance") (hg : Gl X x) (hm : X.mg x = none) (hgt : Gl X tn) (hmt : X.mg tn = some (.ref B)) (hN : X.N[i]? = some n) (hv : Vis X.env.scope n)
    (hd : (n == ("__debug__" : Str)) = false) (hcd : (n == ("__classdict__" : Str)) = false) (hdt : (tn == ("__debug__" : Str)) = false) :
    PE (X.suite a ((a, oe) :: pn)) (.Call (.Name x p) [.Name n p2, .Name tn p3] [] pos) (tE (zp X (some (a, cls, d))) W (dIsE tab (dVar i))) := by
  subst hx
  refine (pe_callB (X := X.suite a ((a, oe) :: pn)) (call_isD hz hf) hg hm PyProof.Rows.boot_isinstance (pa_cons (pe_var hN hv hd hcd) (pa_cons (pe_glob (v := .ref B) (u := .ref B) hgt hmt rfl hdt) pa_nil rfl) rfl) (by decide) (by decide) rfl rfl).impD fun σ H Q h => ?_
  obtain ⟨F, ρ, S, aσ, rs, st, q⟩ := h
  unfold dIsE dVar at q
  cases e1 : aσ[i]? with
  | none => simp only [e1] at q; exact q.elim
  | some o =>
    cases o with
    | none => simp only [e1] at q; exact q.elim
    | some v =>
      simp only [e1] at q
      cases v with
      | exc y =>
        have q : EPost (zp X (some (a, cls, d))) W σ F ρ Q (match tab.lookup y.cls with | some b => ER.ok (.d (.bool b)) S | none => ER.stuck) := q
        cases e2 : tab.lookup y.cls with
        | none => rw [e2] at q; exact q.elim
        | some b =>
          rw [e2] at q
          obtain ⟨u, h2, a', cls', d', h3, rfl, C, dd, w, h4, h5, h6, h7, h8⟩ := st.at_ i _ e1
          cases h3
          obtain ⟨k1, k2⟩ := hT _ b e2 C h5
          exact ⟨_, h2, .ref B, .ref B, b, C, dd, _, rfl, fun u hu => hu, h4, h6, k1, rs.sub _ _ h7, k2, VPost.dat (Z := zp X (some (a, cls, d))) q rs (.bl b)⟩
      | d x => exact q.elim
      | ref m => exact q.elim
      | own l => exact q.elim
end

/-! ### a def's end -/
def finA (n0 : Nat) (a : AV) (S : AS) : ER := match a with
  | .ref n => if n < n0 then .ok (.ref n) (S.take n0) else match S[n]? with
    | some (.lst l) => .ok (.own l) (S.take n0)
    | some (.froz l) => .ok (.d (.list l)) (S.take n0)
    | none => .stuck
  | .exc _ => .stuck
  | a => .ok a (S.take n0)
def defD (nsl : Nat) (c : Sn) : List AV → AS → ER := fun as S => match c (as.map some ++ List.replicate (nsl - as.length) none) S with
  | .nx _ S' => .ok (.d .none) (S'.take S.length)
  | .rt a S' => finA S.length a S'
  | .er x _ S' => .err x (S'.take S.length)
  | _ => .stuck
section
variable {Z : Zp} {F : Hp} {ρ : Rh} {S : AS} {H : Hp}
theorem RSt.none {n : Nat} : RSt Z F ρ (List.replicate n none) (List.replicate n none) := ⟨by rw [List.length_replicate, List.length_replicate], fun i a e => by
  rw [List.getElem?_replicate] at e
  split at e <;> cases e⟩
theorem RSt.cons {a : AV} {v : V} {aσ : ASt} {σ : L2.St} (r : RepV Z F ρ a v) (h : RSt Z F ρ aσ σ) : RSt Z F ρ (some a :: aσ) (some v :: σ) := ⟨by rw [List.length_cons, List.length_cons, h.len], fun i b e => by
  cases i with
  | zero =>
    cases Option.some.inj e
    exact ⟨v, rfl, r⟩
  | succ i => exact h.at_ i b e⟩
theorem RSt.args : ∀ {as : List AV} {vs : List V} {n : Nat}, RepVs Z F ρ as vs → RSt Z F ρ (as.map some ++ List.replicate n Option.none) (vs.map some ++ List.replicate n Option.none)
  | _, _, _, .nil => RSt.none
  | _, _, _, .cons r k => RSt.cons r (RSt.args k)
end
theorem def_imp {K : PySem.W.Frag} {mg : Str → Option Value} {N : List Str} {np : Nat} {c : Sn} {vs : List V} {H : Hp} {Q : VK} {E : XK} (h : spOf K mg np (defD N.length c) vs H Q E) :
    tS ⟨K, mg, none⟩ (fun cls d _ H => E cls d H) c { nx := fun _ H' => Q .non H', rt := Q } (start N vs) H := by
  obtain ⟨hl, F, ρ, S, as, rs, rv, q⟩ := h
  have ln := RepVs.len rv
  refine ⟨F, ρ, S, as.map some ++ List.replicate (N.length - as.length) none, rs, by rw [ln]; exact RSt.args rv, ?_⟩
  unfold defD at q
  have cutT : ∀ {F' : Hp} {ρ' : Rh}, Tr F ρ F' ρ' → Tr F ρ F' ⟨ρ.l, ρ'.G⟩ := fun t => ⟨t.same, List.prefix_refl _, t.g⟩
  have cutR : ∀ {F' : Hp} {ρ' : Rh} {S' : AS} {H' : Hp}, Tr F ρ F' ρ' → RS K F' ρ' S' H' → RS K F' ⟨ρ.l, ρ'.G⟩ (S'.take S.length) H' := fun {F' ρ' S' H'} t r => by
    have z := RS.cut (Z := ⟨K, mg, none⟩) (ρ' := ⟨ρ.l, ρ'.G⟩) r t.pre rfl
    rw [← rs.len]
    exact z
  cases e : c (as.map some ++ List.replicate (N.length - as.length) none) S with
  | nx σ' S' =>
    rw [e] at q
    exact fun F' ρ' H' σ' t rs' _ => q F' ⟨ρ.l, ρ'.G⟩ H' .non (cutT t) (cutR t rs') (show Dp _ _ _ _ from .non)
  | er x σ' S' =>
    rw [e] at q
    exact fun F' ρ' H' σ' cls d t rs' _ rx => q F' ⟨ρ.l, ρ'.G⟩ H' cls d (cutT t) (cutR t rs') rx
  | bk σ' S' => rw [e] at q; exact q.elim
  | ct σ' S' => rw [e] at q; exact q.elim
  | stuck => rw [e] at q; exact q.elim
  | rt a S' =>
    rw [e] at q
    intro F' ρ' H' v t rs' rw'
    cases a with
    | d x => exact q F' ⟨ρ.l, ρ'.G⟩ H' v (cutT t) (cutR t rs') rw'
    | exc x => exact q.elim
    | own l =>
      obtain ⟨p, us, h1, h2, h3, h4, h5, h6⟩ := rw'
      exact q F' ⟨ρ.l, ρ'.G⟩ H' v (cutT t) (cutR t rs') ⟨p, us, h1, fun z => h2 (t.pre.subset z), h3, h4, h5, h6⟩
    | ref n =>
      obtain ⟨p, hp, rfl⟩ := rw'
      have q : EPost ⟨K, mg, none⟩ (fun cls d _ H => E cls d H) [] F ρ Q (if n < S.length then .ok (.ref n) (S'.take S.length) else match S'[n]? with
        | some (.lst l) => .ok (.own l) (S'.take S.length)
        | some (.froz l) => .ok (.d (.list l)) (S'.take S.length)
        | none => .stuck) := q
      by_cases hn : n < S.length
      · rw [if_pos hn] at q
        obtain ⟨tl, htl⟩ := id t.pre
        refine q F' ⟨ρ.l, ρ'.G⟩ H' _ (cutT t) (cutR t rs') ⟨p, ?_, rfl⟩
        rw [← htl, List.getElem?_append_left (by rw [rs.len]; exact hn)] at hp
        exact hp
      · rw [if_neg hn] at q
        have hout : p ∉ ρ.l := fun z => by
          obtain ⟨j, hj⟩ := List.mem_iff_getElem?.mp z
          have hj2 := pre_get t.pre hj
          have lj := (List.getElem?_eq_some_iff.mp hj).1
          rw [rs.len] at lj
          exact nd_ne rs'.nd hp hj2 (by omega) rfl
        cases e2 : S'[n]? with
        | none => rw [e2] at q; exact q.elim
        | some o =>
          rw [e2] at q
          have ob := rs'.ob n p o hp e2
          cases o with
          | lst l =>
            obtain ⟨o1, us, o2, o3⟩ := ob
            refine q F' ⟨ρ.l, ρ'.G⟩ H' _ (cutT t) (cutR t rs') ⟨p, us, rfl, hout, o1, ?_, o2, o3⟩
            show ρ'.G p = none
            cases eg : ρ'.G p with
            | none => rfl
            | some u => exact absurd (List.mem_of_getElem? hp) (rs'.pin p u eg).2.2
          | froz l =>
            obtain ⟨us, o2, o3⟩ := ob
            exact q F' ⟨ρ.l, ρ'.G⟩ H' _ (cutT t) (cutR t rs') (show Dp _ _ _ _ from .lst (SqL.of o2) o3)
/-- a def keeps what its body comes to -/
theorem ok_def {P : Program} {w : World} {K : PySem.W.Frag} {mg : Str → Option Value} {base : Heap} {x qual : Str} {st : Stmt} {f : Addr} {fd : FuncData} {N ps : List Str} {k : Nat} {c : Sn} (Fn : Fun K x qual st f fd) (S : FnScope N ps (defScope st))
    (hb : ∀ (cdv : Value) (A : Around) (outer : List Env) (s : Shared) (H : Hp) (E : XK), Room k (A.deeper (envOfC qual (defScope st) s.heap.objs.size f cdv)) → PSs (cxOf (L2.CX P w) P w K mg base N qual (defScope st) f cdv A outer s H E) (defBody st) (tS ⟨K, mg, none⟩ (fun cls d _ H => E cls d H) c)) :
    FnOk P w K mg base (L2.CX P w) (k + 1) f fd ps (spOf K mg ps.length (defD N.length c)) :=
  Fn.okX S (fun vs H Q E h => h.1) fun cdv A outer s H vs Q E hr h => ⟨_, hb cdv A outer s H E hr, def_imp h⟩
end Den
/-! Den9: the rules in short, their side conditions found by computing. -/
namespace Den
open PySem PySem.Spec PyProof.Rows L2

theorem units64 {k : Nat} {A : Around} (r : Room k A) : A.units + 64 < cLine := by have := r.un; omega
theorem bb_len : bootBuiltins "len" = some (.builtin "len") := by decide +kernel
theorem bb_abs : bootBuiltins "abs" = some (.builtin "abs") := by decide +kernel
theorem bb_min : bootBuiltins "min" = some (.builtin "min") := by decide +kernel
theorem bb_max : bootBuiltins "max" = some (.builtin "max") := by decide +kernel
theorem bb_int : bootBuiltins "int" = some (.type "int") := by decide +kernel
theorem bb_bool : bootBuiltins "bool" = some (.type "bool") := by decide +kernel
theorem bb_str : bootBuiltins "str" = some (.type "str") := by decide +kernel
theorem bb_list : bootBuiltins "list" = some (.type "list") := by decide +kernel
theorem bb_tuple : bootBuiltins "tuple" = some (.type "tuple") := by decide +kernel
theorem bb_dict : bootBuiltins "dict" = some (.type "dict") := by decide +kernel

/-- a def of the text: its place, what it is -/
structure DefT (K : PySem.W.Frag) (mg : Str → Option Value) (x : Str) (st : Stmt) (a : Addr) (fd : FuncData) (ps : List Str) : Prop where
  g : mg x = some (.ref a)
  F : Fun K x x st a fd
  b : Binds K fd ps []

section
variable {X : Cx} {ex : Option (Addr × Value × Option Addr)} {W : WX} {pos : Pos} {a b c e : Expr} {ca cb cc : Dn} {c1 c2 body : Sn} {st : Stmt} {sts es : List Stmt}
theorem qV {i : Nat} {x : Str} (hN : X.N[i]? = some x := by rfl) (hv : Vis X.env.scope x := by first | exact Or.inl rfl | exact Or.inr (Or.inl rfl) | exact Or.inr (Or.inr rfl)) (hd : (x == ("__debug__" : Str)) = false := by decide) (hcd : (x == ("__classdict__" : Str)) = false := by decide) :
    PE X (.Name x pos) (tE (zp X ex) W (dVar i)) := sE_var hN hv hd hcd
theorem qBin {op : Operator} {g : AV → AV → AS → VR} (ha : PE X a (tE (zp X ex) W ca)) (hb : PE X b (tE (zp X ex) W cb)) (ho : bop op = some g := by rfl) : PE X (.BinOp a op b pos) (tE (zp X ex) W (dBin g ca cb)) := sE_bin ho ha hb
theorem qCmp {k : Nat} {op : CmpOp} (hr : Room k X.A) (ha : PE X a (tE (zp X ex) W ca)) (hb : PE X b (tE (zp X ex) W cb)) (hm : behindInMarks op b = false := by first | rfl | exact nobehind _ (by decide) (by decide)) : PE X (.Compare a [op] [b] pos) (tE (zp X ex) W (dBin (cop op) ca cb)) := sE_cmp (units64 hr) ha hb hm
theorem tCmp {k : Nat} {op : CmpOp} (hr : Room k X.A) (ha : PE X a (tE (zp X ex) W ca)) (hb : PE X b (tE (zp X ex) W cb)) (hm : behindInMarks op b = false := by first | rfl | exact nobehind _ (by decide) (by decide)) : PT X (.Compare a [op] [b] pos) (tT (zp X ex) W (dBin (cop op) ca cb)) := sT_cmp (units64 hr) ha hb hm
theorem qChain {k : Nat} {op op' : CmpOp} (hr : Room k X.A) (ha : PE X a (tE (zp X ex) W ca)) (hb : PE X b (tE (zp X ex) W cb)) (hc : PE X c (tE (zp X ex) W cc)) (hm : lastMarks [op, op'] [b, c] = false := by rfl) :
    PE X (.Compare a [op, op'] [b, c] pos) (tE (zp X ex) W (dChain (cop op) (cop op') ca cb cc)) := sE_chain (units64 hr) ha hb hc hm
theorem tChain' {k : Nat} {op op' : CmpOp} (hr : Room k X.A) (ha : PE X a (tE (zp X ex) W ca)) (hb : PE X b (tE (zp X ex) W cb)) (hc : PE X c (tE (zp X ex) W cc)) (hm : lastMarks [op, op'] [b, c] = false := by rfl) :
    PT X (.Compare a [op, op'] [b, c] pos) (tT (zp X ex) W (dChain (cop op) (cop op') ca cb cc)) := sT_chain (units64 hr) ha hb hc hm
theorem tTru (ha : PE X a (tE (zp X ex) W ca)) (he : ∀ whole, isTrue a X.env whole = (do let v ← whole; standAt a.pos; holding [v] (truthy v)) := by intro _; rfl) : PT X a (tT (zp X ex) W (dTru ca)) := sT_tru ha he
theorem qL {l : Ln} {es : List Expr} (ha : PE X e (tE (zp X ex) W ca)) (hr : PA X es (tL (zp X ex) W l)) (hs : starEach (e :: es) X.env = (false, eval e X.env) :: starEach es X.env := by rfl) : PA X (e :: es) (tL (zp X ex) W (lCons ca l)) := sL_cons ha hr hs
theorem qB {x : Str} {p : Pos} {es : List Expr} {l : Ln} {id : String} {g : List AV → AS → VR} (hc : CallR X (.builtin id) (rC (zp X ex) g)) (hm : X.mg x = none) (hv : bootBuiltins x = some (.builtin id)) (ha : PA X (e :: es) (tL (zp X ex) W l)) (hg : Gl X x := by rfl)
    (hn : x ≠ "__name__" := by decide) (hdb : (x == ("__debug__" : Str)) = false := by decide) (he : starEach (e :: es) X.env = (false, eval e X.env) :: starEach es X.env := by rfl) (hpl : (backTo pos (starEach es X.env)).any (·.1) = false := by rfl) :
    PE X (.Call (.Name x p) (e :: es) [] pos) (tE (zp X ex) W (dCallV g l)) := sE_callB hc hg hm hv ha hn hdb he hpl
theorem qTy {x : Str} {p : Pos} {es : List Expr} {l : Ln} {T : String} {g : List AV → AS → VR} (hc : CallR X (.type T) (rC (zp X ex) g)) (hm : X.mg x = none) (hv : bootBuiltins x = some (.type T)) (ha : PA X (e :: es) (tL (zp X ex) W l)) (hg : Gl X x := by rfl)
    (hn : x ≠ "__name__" := by decide) (hdb : (x == ("__debug__" : Str)) = false := by decide) (he : starEach (e :: es) X.env = (false, eval e X.env) :: starEach es X.env := by rfl) (hpl : (backTo pos (starEach es X.env)).any (·.1) = false := by rfl) :
    PE X (.Call (.Name x p) (e :: es) [] pos) (tE (zp X ex) W (dCallV g l)) := sE_callTy hc hg hm hv ha hn hdb he hpl
theorem qF {x : Str} {p : Pos} {es : List Expr} {l : Ln} {id : String} {g : List AV → AS → VR} (hc : CallR X (.builtin id) (rC (zp X ex) g)) (hm : X.mg x = some (.builtin id)) (ha : PA X (e :: es) (tL (zp X ex) W l)) (hg : Gl X x := by rfl)
    (hdb : (x == ("__debug__" : Str)) = false := by decide) (he : starEach (e :: es) X.env = (false, eval e X.env) :: starEach es X.env := by rfl) (hpl : (backTo pos (starEach es X.env)).any (·.1) = false := by rfl) :
    PE X (.Call (.Name x p) (e :: es) [] pos) (tE (zp X ex) W (dCallV g l)) := sE_callF hc hg hm ha hdb he hpl
theorem qD {j k : Nat} {np : Nat} {g : Addr} {fd : FuncData} {ps : List Str} {f : List AV → AS → ER} {x : Str} {p : Pos} {es : List Expr} {l : Ln} {sd : Stmt} (T : DefT X.K X.mg x sd g fd ps) (F : FnOk X.prog X.w X.K X.mg X.base (L2.CX X.prog X.w) j g fd ps (spOf X.K X.mg np f)) (hr : Room k X.A)
    (tk : Takes X W) (ha : PA X (e :: es) (tL (zp X none) W l)) (hj : j ≤ k := by decide) (hg : Gl X x := by rfl)
    (hdb : (x == ("__debug__" : Str)) = false := by decide) (he : starEach (e :: es) X.env = (false, eval e X.env) :: starEach es X.env := by rfl) (hpl : (backTo pos (starEach es X.env)).any (·.1) = false := by rfl) :
    PE X (.Call (.Name x p) (e :: es) [] pos) (tE (zp X none) W (dCall (arity np f) l)) := sE_call F (hr.mono hj) hg T.g T.F.kp T.b tk ha hdb he hpl
theorem qD0 {j k : Nat} {g : Addr} {fd : FuncData} {f : List AV → AS → ER} {x : Str} {p : Pos} {sd : Stmt} (T : DefT X.K X.mg x sd g fd []) (F : FnOk X.prog X.w X.K X.mg X.base (L2.CX X.prog X.w) j g fd [] (spOf X.K X.mg 0 f)) (hr : Room k X.A)
    (tk : Takes X W) (hj : j ≤ k := by decide) (hg : Gl X x := by rfl) (hdb : (x == ("__debug__" : Str)) = false := by decide) :
    PE X (.Call (.Name x p) [] [] pos) (tE (zp X none) W (dCall (arity 0 f) lNil)) := sE_call0 F (hr.mono hj) hg T.g T.F.kp T.b tk hdb
theorem qIx (ha : PE X a (tE (zp X ex) W ca)) (hb : PE X b (tE (zp X ex) W cb)) (hs : PlainIx b := by intro _ _; rfl) : PE X (.Subscript a b pos) (tE (zp X ex) W (dBin vIx ca cb)) := sE_ix ha hb hs
theorem qSl0 {p2 : Pos} (ha : PE X a (tE (zp X ex) W ca)) {h : Expr} {ch : Dn} (hh : PE X h (tE (zp X ex) W ch)) : PE X (.Subscript a (.Slice none (some h) none p2) pos) (tE (zp X ex) W (dSl ca none (some ch))) :=
  sE_slice ha (fun e z => by cases z) (fun _ => rfl) (fun e z => ⟨ch, rfl, by cases z; exact hh⟩) (fun z => by cases z)
theorem qSl1 {p2 : Pos} (ha : PE X a (tE (zp X ex) W ca)) {l : Expr} {cl : Dn} (hl : PE X l (tE (zp X ex) W cl)) : PE X (.Subscript a (.Slice (some l) none none p2) pos) (tE (zp X ex) W (dSl ca (some cl) none)) :=
  sE_slice ha (fun e z => ⟨cl, rfl, by cases z; exact hl⟩) (fun z => by cases z) (fun e z => by cases z) (fun _ => rfl)
theorem qSl2 {p2 : Pos} (ha : PE X a (tE (zp X ex) W ca)) {l h : Expr} {cl ch : Dn} (hl : PE X l (tE (zp X ex) W cl)) (hh : PE X h (tE (zp X ex) W ch)) : PE X (.Subscript a (.Slice (some l) (some h) none p2) pos) (tE (zp X ex) W (dSl ca (some cl) (some ch))) :=
  sE_slice ha (fun e z => ⟨cl, rfl, by cases z; exact hl⟩) (fun z => by cases z) (fun e z => ⟨ch, rfl, by cases z; exact hh⟩) (fun z => by cases z)
theorem gN {i : Nat} {x : Str} (hN : X.N.Nodup) (hi : X.N[i]? = some x := by rfl) (hx : Loc X.env.scope x := by first | exact Or.inl rfl | exact Or.inr rfl) (hf : X.fn x = true ∨ X.env.scope.names.lookup x = some .local := by first | exact Or.inl rfl | exact Or.inr rfl) : PG X (.Name x pos) (tG (zp X ex) (.nm i)) := sG_name hN hi hx hf
theorem gC {e : Expr} {es : List Expr} {p : Pat} {ps : Pats} (h1 : PG X e (tG (zp X ex) p)) (h2 : PGs X es (tGs (zp X ex) ps)) (hs : notStar e = true := by rfl) : PGs X (e :: es) (tGs (zp X ex) (.cons p ps)) := sGs_cons h1 h2 hs
theorem gT {es : List Expr} {k : Nat} {ps : Pats} (h : PGs X es (tGs (zp X ex) ps)) (hc : X.calm = true := by rfl) (hn : (assignEach es X.env).length = ps.len := by rfl) (hst : (assignEach es X.env).findIdx? (·.1) = none := by rfl) : PG X (.Tuple es k pos) (tG (zp X ex) (.tp ps)) := sG_tup hc h hn hst
theorem sSet {i : Nat} {x : Str} {m : Bool} {p2 : Pos} (hN : X.N.Nodup) (he : PE X e (tE (zp X ex) W ca)) (hi : X.N[i]? = some x := by rfl) (hx : Loc X.env.scope x := by first | exact Or.inl rfl | exact Or.inr rfl) (hs : swapsWith e (some (.Name x p2)) pos.line X.env = pure false := by rfl)
    (hf : X.fn x = true ∨ X.env.scope.names.lookup x = some .local := by first | exact Or.inl rfl | exact Or.inr rfl) : PS X (.Assign [.Name x p2] e pos) (tS (zp X ex) W (sAsg i m ca)) := sS_set hN hi hx he hs hf
theorem sUnpk {tg : Expr} {p : Pat} (hg : PG X tg (tG (zp X ex) p)) (he : PE X e (tE (zp X ex) W ca)) (hs : swapsWithSole [tg] e pos.line X.env = pure false := by rfl) (hw : swappedStores [tg] e X.env = pure none := by rfl) (h1 : (assignEach [tg] X.env).map (·.2) = [assign tg X.env] := by rfl) :
    PS X (.Assign [tg] e pos) (tS (zp X ex) W (sUnp p ca)) := sS_unp he hg hs hw h1
theorem sPar2 {i j : Nat} {x y : Str} {l : Ln} {px py pt : Pos} {kt k2 : Nat} {pt2 : Pos} (hN : X.N.Nodup) (ha : PA X [a, b] (tL (zp X ex) W l)) (hc : X.calm = true := by rfl) (hi : X.N[i]? = some x := by rfl) (hj : X.N[j]? = some y := by rfl) (hij : i ≠ j := by decide)
    (hx : X.env.scope.names.lookup x = some .local := by rfl) (hy : X.env.scope.names.lookup y = some .local := by rfl)
    (hw : swappedStores [.Tuple [.Name x px, .Name y py] kt pt] (.Tuple [a, b] k2 pt2) X.env = pure (some [x, y]) := by rfl) (hs : swapsWithSole [.Tuple [.Name x px, .Name y py] kt pt] (.Tuple [a, b] k2 pt2) pos.line X.env = pure false := by rfl) :
    PS X (.Assign [.Tuple [.Name x px, .Name y py] kt pt] (.Tuple [a, b] k2 pt2) pos) (tS (zp X ex) W (sPar i j l)) := sS_par hc hN hi hj hij hx hy ha hw hs
theorem sExp (he : PE X e (tE (zp X ex) W ca)) (hs : swapsWith e none pos.line X.env = pure false := by rfl) : PS X (.Expr e pos) (tS (zp X ex) W (sExpr ca)) := sS_expr he hs
theorem sForL {tg iter : Expr} {bd : List Stmt} {it : It1} {p : Pat} (hp : PassesOwn (model X.prog X.w) X.A X.env X.xe) (hi : PI X tg iter (tI (zp X ex) W it)) (hg : PG X tg (tG (zp X ex) p)) (hb : PSs X bd (tS (zp X ex) W body)) (hc : X.calm = true := by rfl)
    (hs : ∀ x, foldedSetIterable iter X.env x = pure x := by intro _; rfl) : PS X (.For tg iter bd [] pos) (tS (zp X ex) W (sFor it p body)) := sS_for hp hc hi hg hb hs
theorem iR1 {tg : Expr} {p : Pos} {l : Ln} (hm : X.mg "range" = none) (ha : PA X [a] (tL (zp X ex) W l)) (hg : Gl X "range" := by rfl) (hs : starEach [a] X.env = [(false, eval a X.env)] := by rfl) : PI X tg (.Call (.Name "range" p) [a] [] pos) (tI (zp X ex) W (itL l fRng1)) := sI_rng1 hg hm ha hs
theorem iR2 {tg : Expr} {p : Pos} {l : Ln} (hm : X.mg "range" = none) (ha : PA X [a, b] (tL (zp X ex) W l)) (hg : Gl X "range" := by rfl) (hs : starEach [a, b] X.env = [(false, eval a X.env), (false, eval b X.env)] := by rfl) (hs2 : starEach [b] X.env = [(false, eval b X.env)] := by rfl) :
    PI X tg (.Call (.Name "range" p) [a, b] [] pos) (tI (zp X ex) W (itL l fRng2)) := sI_rng2 hg hm ha hs hs2
theorem iR3 {tg : Expr} {p : Pos} {l : Ln} (hm : X.mg "range" = none) (ha : PA X [a, b, c] (tL (zp X ex) W l)) (hg : Gl X "range" := by rfl) (hs : starEach [a, b, c] X.env = (false, eval a X.env) :: starEach [b, c] X.env := by rfl) (hpl : (backTo pos (starEach [b, c] X.env)).any (·.1) = false := by rfl) :
    PI X tg (.Call (.Name "range" p) [a, b, c] [] pos) (tI (zp X ex) W (itL l fRng3)) := sI_rng3 hg hm ha hs hpl
theorem iEn {e : Expr} {elts : List Expr} {kk : Nat} {tpos p : Pos} {l : Ln} (hm : X.mg "enumerate" = none) (ha : PA X [e] (tL (zp X ex) W l)) (hg : Gl X "enumerate" := by rfl) (hs : starEach [e] X.env = [(false, eval e X.env)] := by rfl) :
    PI X (.Tuple elts kk tpos) (.Call (.Name "enumerate" p) [e] [] pos) (tI (zp X ex) W (itL l fEnum)) := sI_enum hg hm ha hs
theorem qLc {elt tg iter : Expr} {ifs : List Expr} {scope : Scope} {own : List (Str × Nat)} {it : It1} {p : Pat} {ct ce : Dn} (hN : X.N.Nodup) (hi : PI X tg iter (tI (zp X ex) W it)) (ok : BlkOk X.N X.env.scope scope own)
    (hg : InBlk X scope fun Y => PG Y tg (tG (zp X ex) p)) (ht : InBlk X scope fun Y => PTs Y ifs (tT (zp X ex) W0 ct)) (he : InBlk X scope fun Y => PE Y elt (tE (zp X ex) W0 ce)) (hc : X.calm = true := by rfl) (hs : ∀ x, foldedSetIterable iter X.env x = pure x := by intro _; rfl) (hv : ∀ i ∈ p.slots, i ∈ own.map (·.2) := by decide) :
    PE X (.ListComp elt [⟨tg, iter, ifs, 0⟩] scope pos) (tE (zp X ex) W (dLc it p ct ce (own.map (·.2)))) := sE_lc hc hN hi ok hg ht he hs hv
theorem sSetLc {i : Nat} {y : Str} {py : Pos} {m : Bool} {elt tg iter : Expr} {ifs : List Expr} {scope : Scope} {own : List (Str × Nat)} {spos : Pos} {it : It1} {p : Pat} {ct ce : Dn} (hN : X.N.Nodup) (hi : PI X tg iter (tI (zp X ex) W it)) (ok : BlkOk X.N X.env.scope scope own)
    (hg : InBlk X scope fun Y => PG Y tg (tG (zp X ex) p)) (ht : InBlk X scope fun Y => PTs Y ifs (tT (zp X ex) W0 ct)) (he : InBlk X scope fun Y => PE Y elt (tE (zp X ex) W0 ce)) (hc : X.calm = true := by rfl) (hs : ∀ x, foldedSetIterable iter X.env x = pure x := by intro _; rfl) (hv : ∀ i ∈ p.slots, i ∈ own.map (·.2) := by decide)
    (hy : X.N[i]? = some y := by rfl) (hyl : X.env.scope.names.lookup y = some .local := by rfl) (hsw : swapsWith (.ListComp elt [⟨tg, iter, ifs, 0⟩] scope pos) (some (.Name y py)) spos.line X.env = pure true := by rfl) :
    PS X (.Assign [.Name y py] (.ListComp elt [⟨tg, iter, ifs, 0⟩] scope pos) spos) (tS (zp X ex) W (sAsg i m (dLc it p ct ce (own.map (·.2))))) := sS_setLc hc hN hy hyl hsw hi ok hg ht he hs hv
theorem qIs {x tn : Str} {p p2 : Pos} {T : String} (hm : X.mg x = none) (hmt : X.mg tn = none) (hvt : bootBuiltins tn = some (.type T)) (ha : PE X a (tE (zp X ex) W ca)) (hT : T ∈ ["bool", "int", "str", "list", "tuple", "dict"] := by simp) (hx : x = "isinstance" := by rfl) (hg : Gl X x := by rfl) (hgt : Gl X tn := by rfl)
    (hnt : tn ≠ "__name__" := by decide) (hdt : (tn == ("__debug__" : Str)) = false := by decide) (he : starEach [a, .Name tn p2] X.env = (false, eval a X.env) :: starEach [.Name tn p2] X.env := by rfl) : PE X (.Call (.Name x p) [a, .Name tn p2] [] pos) (tE (zp X ex) W (dIsi [T] ca)) := isi_one hg hm hgt hmt hvt hT hx ha hnt hdt he
theorem yC {tn : Str} {p : Pos} {T : String} {es : List Expr} {Ts : List String} (hm : X.mg tn = none) (hv : bootBuiltins tn = some (.type T)) (r : TyNames X es Ts) (hT : T ∈ ["bool", "int", "str", "list", "tuple", "dict"] := by simp) (hg : Gl X tn := by rfl) (hn : tn ≠ "__name__" := by decide) (hd : (tn == ("__debug__" : Str)) = false := by decide) :
    TyNames X (.Name tn p :: es) (T :: Ts) := .cons hg hm hv hT hn hd r
theorem qIsM {x : Str} {p p2 : Pos} {k : Nat} {es : List Expr} {Ts : List String} (hm : X.mg x = none) (hts : TyNames X es Ts) (ha : PE X a (tE (zp X ex) W ca)) (hl : Ts.length ≤ 100 := by decide) (hx : x = "isinstance" := by rfl) (hg : Gl X x := by rfl)
    (he : starEach [a, .Tuple es k p2] X.env = (false, eval a X.env) :: starEach [.Tuple es k p2] X.env := by rfl) : PE X (.Call (.Name x p) [a, .Tuple es k p2] [] pos) (tE (zp X ex) W (dIsi Ts ca)) := isi_many hg hm hx hts hl ha he
theorem sRse {cn fld : Str} {k : Nat} {C fI : Addr} {fd : FuncData} {l : Ln} {p pos2 : Pos} (O : OwnE X.prog X.w X.K X.mg X.base cn fld C fI fd) (tk : Takes X W) (hr : Room k X.A) (ha : PA X [e] (tL (zp X none) W l)) (hk : 2 ≤ k := by decide) (hc : X.calm = true := by rfl) (hg : Gl X cn := by rfl)
    (hdb : (cn == ("__debug__" : Str)) = false := by decide) (he : starEach [e] X.env = (false, eval e X.env) :: starEach [] X.env := by rfl) (hpl : (backTo pos (starEach [] X.env)).any (·.1) = false := by rfl) :
    PS X (.Raise (some (.Call (.Name cn p) [e] [] pos)) none pos2) (tS (zp X none) W (sRaise cn fld l)) := sS_raise O hc tk (hr.mono hk) hg ha hdb he hpl
theorem qAtE {a : Addr} {cls : Value} {d : Option Addr} {oe : Obj} {pn : List (Addr × Obj)} {fld : Str} {cns : List Str} {i : Nat} {n : Str} {p2 : Pos} (hF : FldOk X fld cns) (hz : Zc cls d oe) (hf : ∃ vs, oe.data = .fields vs) (hN : X.N[i]? = some n := by rfl) (hv : Vis X.env.scope n := by first | exact Or.inl rfl | exact Or.inr (Or.inl rfl) | exact Or.inr (Or.inr rfl))
    (hd : (n == ("__debug__" : Str)) = false := by decide) (hcd : (n == ("__classdict__" : Str)) = false := by decide) (hb : attributeBase (.Name n p2) fld X.env (eval (.Name n p2) X.env) = eval (.Name n p2) X.env := by rfl) :
    PE (X.suite a ((a, oe) :: pn)) (.Attribute (.Name n p2) fld pos) (tE (zp X (some (a, cls, d))) W (dFldT fld cns (dVar i))) := sE_fld hF hz hf (fun _ => trivial) hN hv hd hcd hb
theorem qIsE {a : Addr} {cls : Value} {d : Option Addr} {oe : Obj} {pn : List (Addr × Obj)} {tab : List (Str × Bool)} {B : Addr} {x tn n : Str} {i : Nat} {p p2 p3 : Pos} (hT : IsTab X tab B) (hz : Zc cls d oe) (hf : ∃ vs, oe.data = .fields vs) (hm : X.mg x = none) (hmt : X.mg tn = some (.ref B)) (hx : x = "isinstance" := by rfl) (hg : Gl X x := by rfl) (hgt : Gl X tn := by rfl) (hN : X.N[i]? = some n := by rfl)
    (hv : Vis X.env.scope n := by first | exact Or.inl rfl | exact Or.inr (Or.inl rfl) | exact Or.inr (Or.inr rfl)) (hd : (n == ("__debug__" : Str)) = false := by decide) (hcd : (n == ("__classdict__" : Str)) = false := by decide) (hdt : (tn == ("__debug__" : Str)) = false := by decide) :
    PE (X.suite a ((a, oe) :: pn)) (.Call (.Name x p) [.Name n p2, .Name tn p3] [] pos) (tE (zp X (some (a, cls, d))) W (dIsE tab (dVar i))) := sE_isE hT hz hf hx hg hm hgt hmt hN hv hd hcd hdt
theorem qApp {o : Expr} {es : List Expr} {l : Ln} {apos cpos : Pos} (ho : PE X o (tE (zp X ex) W ca)) (ha : PA X (e :: es) (tL (zp X ex) W l)) (hbase : attributeBase o "append" X.env (eval o X.env) = eval o X.env := by rfl)
    (hfew : ((backTo cpos (starEach (e :: es) X.env)).all (fun x => !x.1) && (backToKw cpos (keywordEach [] X.env)).all (fun x => x.1.isSome)
      && decide ((e :: es).length + ([] : List Keyword).length + (if ([] : List Keyword).isEmpty then 0 else 1) < 30)) = true := by rfl)
    (hline : (apos.endLine == cpos.line) = true := by rfl) (hs : starEach (e :: es) X.env = (false, eval e X.env) :: starEach es X.env := by rfl) (hplain : (backTo cpos (starEach es X.env)).any (·.1) = false := by rfl) :
    PE X (.Call (.Attribute o "append" apos) (e :: es) [] cpos) (tE (zp X ex) W (dMeth mAppend ca l)) := sE_meth PySem.F.slot_list_append PySem.F.type_list_append mAppend_ok ho ha hbase hfew hline hs hplain
theorem qPop {o : Expr} {apos cpos : Pos} (ho : PE X o (tE (zp X ex) W ca)) (hbase : attributeBase o "pop" X.env (eval o X.env) = eval o X.env := by rfl) (hline : (apos.endLine == cpos.line) = true := by rfl) :
    PE X (.Call (.Attribute o "pop" apos) [] [] cpos) (tE (zp X ex) W (dMeth mPop ca lNil)) := sE_meth0 PySem.F.slot_list_pop PySem.F.type_list_pop mPop_ok ho hbase hline
theorem qRev {o : Expr} {apos cpos : Pos} (ho : PE X o (tE (zp X ex) W ca)) (hbase : attributeBase o "reverse" X.env (eval o X.env) = eval o X.env := by rfl) (hline : (apos.endLine == cpos.line) = true := by rfl) :
    PE X (.Call (.Attribute o "reverse" apos) [] [] cpos) (tE (zp X ex) W (dMeth mReverse ca lNil)) := sE_meth0 PySem.F.slot_list_reverse PySem.F.type_list_reverse mReverse_ok ho hbase hline
end
end Den
/-! DenA: list(range(..)). -/
namespace Den
open PySem PySem.Spec PyProof.Rows L2

def vLRg3 (as : List AV) (S : AS) : VR := match as with
  | [.d (.int i), .d (.int j), .d (.int c)] => if c ≠ 0 ∧ c.natAbs < 1073741824 ∧ Builtin.Range.small i j c = true ∧ 0 ≤ Builtin.Range.rangeSize i j c ∧ (Builtin.Range.rangeSize i j c).toNat ≤ cap then some (.own (rngL i (Builtin.Range.rangeSize i j c).toNat c), S) else none
  | _ => none
def rgVc (a : Int) (n : Nat) (c : Int) : List V := (List.range n).map fun i => V.int (a + (i : Nat) * c)
theorem rgVc_len (a : Int) (n : Nat) (c : Int) : (rgVc a n c).length = n := by unfold rgVc; rw [List.length_map, List.length_range]
theorem rgVc_dp {K : PySem.W.Frag} {F : Hp} (a : Int) (n : Nat) (c : Int) : DpAll K F (rgVc a n c) (rngL a n c) := by
  have h := dpA_of_ints (K := K) (F := F) ((List.range n).map fun i => a + (i : Nat) * c)
  rw [List.map_map, List.map_map] at h
  exact h
section
variable {X : Cx} {pins : List (Addr × Obj)} {σ : L2.St} {H : Hp} {s : Shared} {Q : VK}
theorem lrg_fin {r : Addr} {a b c : Int} {t u v : Tok} {n : Nat} (hc : X.calm = true) (I : Inv X pins σ H s) (hr : IsRange s.heap r a b c t u v) (h1 : Builtin.Range.small a b c = true) (h2 : Builtin.Range.rangeSize a b c = n) (h3 : n ≤ cap)
    (q : ∀ p, H p = none → Q (.ref p) (upd H p (.lst (rgVc a n c)))) : wpAny (model X.prog X.w) X.A (call (.type "list") [.ref r]) (EP X pins σ Q) X.xe s := by
  have h4 : n ≤ 2 ^ 24 := Nat.le_trans h3 (by decide)
  refine call_list_range (n := n) (I.ok.hd hc) hr h1 h2 h4 fun h' tk acc c' hk e' hi => ?_
  have hl : acc.toList.length = n := by rw [Array.length_toList]; exact hi.1
  have vr : Vals (rgVc a n c) acc.toList := by
    unfold rgVc
    rw [← hl]
    refine vals_of_get acc.toList _ fun j w hj => ?_
    obtain ⟨z, rfl⟩ := hi.2 j w (by rw [← hj, Array.getElem?_toList])
    exact ⟨z, rfl⟩
  refine ⟨.ref s.heap.objs.size, upd H s.heap.objs.size (.lst (rgVc a n c)), I.laid hk (Nat.le_refl _) (show ObjOk X.prog X.w _ _ _ (.lst (rgVc a n c)) from ⟨?_, acc.toList, c', vr, ?_⟩), rfl, q _ (I.hok.fresh (Nat.le_refl _))⟩
  · rw [rgVc_len]
    exact Nat.le_trans h3 cap_le
  · rw [Array.toArray_toList]
    exact e'
end
/-- a range is made, then list is called -/
theorem lrg_two {X : Cx} {pins : List (Addr × Obj)} {σ : L2.St} {H : Hp} {s : Shared} {Q : VK} {e : Expr} {p pos : Pos} {R : Value → Shared → Prop} (hg : Gl X "list") (hm : X.mg "list" = none) (na : starEach [e] X.env = (false, eval e X.env) :: starEach [] X.env)
    (I : Inv X pins σ H s) (h : wpAny (model X.prog X.w) X.A (eval e X.env) R X.xe s) (k : ∀ u s1, R u s1 → wpAny (model X.prog X.w) X.A (call (.type "list") [u]) (EP X pins σ Q) X.xe s1) :
    wpAny (model X.prog X.w) X.A (eval (.Call (.Name "list" p) [e] [] pos) X.env) (EP X pins σ Q) X.xe s := by
  refine Call_ (ld_blt I hg hm boot_list (PyProof.Rows.callWith_type1 (args_cons (thn h fun u s1 hu => args_nil ?_) na) na))
  exact k u s1 hu
section
variable {X : Cx} {ex : Option (Addr × Value × Option Addr)} {W : WX} {pos : Pos} {a b c e : Expr}
theorem qLR3 {l : Ln} {p p1 p2 : Pos} (hm : X.mg "range" = none) (hm2 : X.mg "list" = none) (ha : PA X [a, b, c] (tL (zp X ex) W l)) (hc : X.calm = true := by rfl) (hg : Gl X "range" := by rfl) (hg2 : Gl X "list" := by rfl)
    (hs : starEach [a, b, c] X.env = (false, eval a X.env) :: starEach [b, c] X.env := by rfl) (hpl : (backTo p1 (starEach [b, c] X.env)).any (·.1) = false := by rfl)
    (na : starEach [.Call (.Name "range" p) [a, b, c] [] p1] X.env = (false, eval (.Call (.Name "range" p) [a, b, c] [] p1) X.env) :: starEach [] X.env := by rfl) :
    PE X (.Call (.Name "list" p2) [.Call (.Name "range" p) [a, b, c] [] p1] [] pos) (tE (zp X ex) W (dCallV vLRg3 l)) := by
  refine ⟨fun pins s σ H Q I h => lrg_two (R := fun u s1 => wpAny (model X.prog X.w) X.A (call (.type "list") [u]) (EP X pins σ Q) X.xe s1) hg2 hm2 na I ?_ fun u s1 hu => hu⟩
  refine Call_ (ld_blt I hg hm boot_range (PyProof.Rows.callWith_type1 (thn (ha.run p1 pins s σ H _ I (callV_imp h)) fun us s1 ⟨vs, H1, I1, r1, q1⟩ => ?_) hs hpl))
  obtain ⟨F, ρ, S, as, rs, rv, q⟩ := q1
  unfold vLRg3 at q
  split at q
  · split at q
    · rename_i i j k cc
      obtain ⟨c0, c1, c2, c3, c4⟩ := cc
      obtain ⟨x, y, z, rfl, d1, d2, d3⟩ := rv.three
      cases dint (show Dp X.K F x _ from d1)
      cases dint (show Dp X.K F y _ from d2)
      cases dint (show Dp X.K F z _ from d3)
      cases r1 with
      | cons r rr =>
        cases rr with
        | cons r' rr =>
          cases rr with
          | cons r'' rr =>
            cases rr
            obtain ⟨t, rfl⟩ := r
            obtain ⟨t', rfl⟩ := r'
            obtain ⟨t'', rfl⟩ := r''
            refine call_range_3 c0 ?_ (.inl (PyProof.noPylong_small c1))
            have I2 : Inv X pins σ H1 { s1 with heap := s1.heap.push { cls := .type "range", data := .fields #[.int i t, .int j t', .int k t''] } } := I1.kept (t' := s1.toks) fun b o e => Heap.get?_push_of_some _ e
            exact lrg_fin (n := (Builtin.Range.rangeSize i j k).toNat) hc I2 (IsRange.new ..) c2 (Int.toNat_of_nonneg c3).symm c4 fun p hp => VPost.own q rs (rgVc_dp _ _ _) p hp
    · exact q.elim
  · exact q.elim
end
end Den
/-! DenC: enumerate of a tuple (and of a list) as one rule. -/
namespace PySem
theorem enumNew1 {v : Value} {o : Obj} {H : Heap → Prop} (B : Begins v o H) : Meets (Builtin.«enumerate.__new__» ⟨[.type "enumerate", v], []⟩) (fun _ R s => H s.heap ∧
    R (.ok (.ret (.ref (s.heap.push o).objs.size))) { s with heap := (s.heap.push o).push { cls := .type "enumerate", data := .fields #[.none, .bool false, .ref s.heap.objs.size, rawInt 0, .none, .none] } }) :=
  .of_wp fun prog w A R s hs => by
    obtain ⟨hp, g, d, tk, os⟩ := s
    obtain ⟨hH, hR⟩ := hs
    have subE := sub_enumerate
    have begin1 : ∀ {A' : Around} {E : Value → Shared → Prop} {Q : Value → Shared → Prop}, Q (.ref hp.objs.size) ⟨hp.push o, g, d, tk, os⟩ → wpAny (model prog w) A' (pyIter v) Q E ⟨hp, g, d, tk, os⟩ := fun q => B.iter prog w _ _ _ _ hH q
    wp_walk using begin1
    refine wpAny_stack_any fun fr => wpAny_pure ?_
    split
    · rename_i c0 _ _ _ _ _
      cases (c0 == Value.type "enumerate") <;> (wp_walk using begin1; exact ⟨_, rfl, hR⟩)
    · wp_walk using begin1
      exact ⟨_, rfl, hR⟩
theorem enumBegins1 {prog : Program} {w : World} {A : Around} {E : Value → Shared → Prop} {s : Shared} {v : Value} {o : Obj} {H : Heap → Prop} {Q : Value → Shared → Prop} (B : Begins v o H) (hH : H s.heap)
    (k : ∀ h', IsEnum h' (s.heap.objs.size + 1) s.heap.objs.size 0 .none → h'.get? s.heap.objs.size = some o → (∀ b o, s.heap.get? b = some o → h'.get? b = some o) → Q (.ref (s.heap.objs.size + 1)) { s with heap := h' }) :
    wpAny (model prog w) A (call (.type "enumerate") [v]) Q E s := by
  refine callType_new F.called_enumerate (by decide) (F.typeCall_enumerate_1 _) (F.newCall_enumerate_1 _) (fun obj => F.args_object_init_2 obj _) F.entry_enumerate_new (enumNew1 B) ⟨hH, ?_⟩
  have size1 : (s.heap.push o).objs.size = s.heap.objs.size + 1 := Heap.size_push ..
  have isE := Heap.get?_push_size (s.heap.push o) (o := { cls := .type "enumerate", data := .fields #[.none, .bool false, .ref s.heap.objs.size, rawInt 0, .none, .none] }) rfl
  rw [size1] at isE
  show _ ∧ _
  rw [size1]
  exact ⟨⟨_, isE, rfl⟩, k _ isE (Heap.get?_push_of_some _ (Heap.get?_push_size _ B.free)) fun b u z => Heap.get?_push_of_some _ (Heap.get?_push_of_some _ z)⟩
theorem enumEndT {prog : Program} {w : World} {A : Around} {E : Value → Shared → Prop} {s : Shared} {e it l : Addr} {i : Nat} {items : Array Value} {old : Value} {Q : Option Value → Shared → Prop} (hd : A.handled = none)
    (isE : IsEnum s.heap e it i old) (isI : s.heap.IsTupleIter it l i) (isT : s.heap.IsTuple l items) (stop : items[i]? = none) (k : ∀ h', Heap.ExtBut it s.heap h' → Q none { s with heap := h' }) :
    wpAny (model prog w) A (pyNext (.ref e)) Q E s := by
  have ty : s.TypeIs (.ref e) "enumerate" := ⟨_, isE, rfl⟩
  have code : ∀ {Q' : Value → Shared → Prop} {E' : Value → Shared → Prop}, (∀ h' x, Heap.ExtBut it s.heap h' → (∃ o, h'.get? x = some o ∧ o.cls = .type "StopIteration") → E' (.ref x) { s with heap := h' }) → wpAny (model prog w) A.in1 (Builtin.SmallTypes.nextOf (.ref it)) Q' E' s :=
    fun q => wpAny_nextOf_tuple_end (show A.in1.handled = none from hd) isI isT stop q
  unfold pyNext
  refine wpAny_bind (wpAny_attempt (wpAny_callSpecial?_slot (name := Str.ofString "__next__") ty F.slot_enumerate_next (wpAny_call_entry F.slot_enumerate_next ty F.entry_enumerate_next ?_ (F.args_enumerate_next_1 _))))
  show wpAny _ _ (field (.ref e) 2 >>= _) _ _ _
  refine wpAny_bind (wpAny_field isE rfl (x := .ref it) rfl (wpAny_bind (code fun h' x ext stopped => ?_)))
  obtain ⟨ox, hox, hcx⟩ := stopped
  exact wpAny_bind (wpAny_isInstance (T := "StopIteration") (b := true) ⟨ox, hox, hcx⟩ isSubtype_stop (wpAny_pure (k _ ext)))
end PySem
namespace Den
open PySem PySem.Spec PyProof.Rows L2

/-- the tuple at a, each item in a new pair -/
def IteT (K : PySem.W.Frag) (a : Addr) : It :=
  ⟨fun i H => ∃ (xs : List V) (x : V), SqT K H a xs ∧ xs[i]? = some x, fun i H v H' => ∃ T x, v = .ref T ∧ H T = none ∧ H' = upd H T (.tup [.int (i : Nat), x]) ∧ ∀ xs, SqT K H a xs → xs[i]? = some x, fun i H => ∃ xs : List V, SqT K H a xs ∧ xs.length ≤ i⟩
theorem turn_enumT {P : Program} {w : World} {K : PySem.W.Frag} {elts : List Expr} {kk : Nat} {tpos : Pos} (a e it : Addr) :
    Turn P w K (.Tuple elts kk tpos) (IteT K a) [e, it] e (fun i h => (∃ old, IsEnum h e it ((i : Nat) : Int) old) ∧ h.IsTupleIter it a i ∧ e ≠ it ∧ a ≠ it ∧ a ≠ e) where
  mem := by simp
  obj := fun i h st b hb => by
    obtain ⟨⟨old, isE⟩, ⟨oi, hoi, _, hdi⟩, _⟩ := st
    have two : b = e ∨ b = it := by simpa using hb
    rcases two with rfl | rfl
    · exact ⟨_, isE, fun v z => nomatch z⟩
    · exact ⟨oi, hoi, fun v z => by rw [hdi] at z; cases z⟩
  keep := fun i h h' st k => by
    obtain ⟨⟨old, isE⟩, isI, r⟩ := st
    exact ⟨⟨old, k e (by simp) _ isE⟩, isI.at fun o z => k it (by simp) o z, r⟩
  item := by
    intro X hP hw hK hc i pins s σ H E I hf st hg
    subst hP hw hK
    obtain ⟨⟨old, isE⟩, isI, ne1, ne2, ne3⟩ := st
    obtain ⟨xs, x, hq, hx⟩ := hg
    obtain ⟨its, rv, p, hz⟩ := I.tuple hq
    obtain ⟨u, hu, ru⟩ := rv.get hx
    have ht : s.heap.IsTuple a its.toArray := p
    have le : e < s.heap.objs.size := Heap.lt_size isE
    have li : it < s.heap.objs.size := by obtain ⟨_, z, _⟩ := isI; exact Heap.lt_size z
    have hlt : i < its.toArray.size := by
      have := (List.getElem?_eq_some_iff.mp hu).1
      simpa using this
    refine wpAny_pyNext_enum_itemD (Draws.tuple (prog := X.prog) (w := X.w) (A := X.A.in1) (show X.A.in1.handled = none from I.ok.hd hc) it a ne2 its.toArray) isE ⟨isI, ht⟩ hlt ne1 (by simp [ne1, Ne.symm ne3]) fun y h' tk hy out st2 hT hsz kept => ?_
    have ey : y = u := by
      have hy' : its.toArray[i]? = some y := hy
      have : its[i]? = some y := by simpa using hy'
      rw [hu] at this
      exact (Option.some.inj this).symm
    subst ey
    refine ⟨_, rfl, wpAny_letOwnedTupleGo_enum (s := { s with heap := h', toks := tk + 1 }) out fun h'' isE2 same => ?_⟩
    have hT2 : h''.get? s.heap.objs.size = some { cls := .type "tuple", data := .seq #[.int i tk, y] } := (same.2 _ (Nat.ne_of_gt le)).trans hT
    have pair : ObjOk X.prog X.w (upd H s.heap.objs.size (.tup [.int (i : Nat), x])) h'' s.heap.objs.size (.tup [.int (i : Nat), x]) :=
      ⟨by show 2 ≤ sizeLine; decide, [.int i tk, y], .cons ⟨_, rfl⟩ (.cons ru .nil), ⟨_, hT2, rfl, _, rfl⟩⟩
    have I1 : Inv X pins σ (upd H s.heap.objs.size (.tup [.int (i : Nat), x])) { s with heap := h'', toks := tk + 1 } :=
      I.turnedNew (ch := [e, it]) (fun b ob hb z => (same.2 b (fun w => hb (by simp [w]))).trans (kept b ob (fun w => hb (by simp [w])) (fun w => hb (by simp [w])) z)) hf (Nat.le_refl _) pair
    refine ⟨.ref s.heap.objs.size, _, I1, rfl, ⟨_, x, rfl, I.hok.fresh (Nat.le_refl _), rfl, fun ys hys => ?_⟩, ⟨⟨y, ?_⟩, st2.1.at fun o z => (same.2 it (Ne.symm ne1)).trans z, ne1, ne2, ne3⟩, fun b hb => ?_⟩
    · rw [I.tuple_inj hys hq]
      exact hx
    · have e1 : ((i + 1 : Nat) : Int) = (i : Int) + 1 := by omega
      rw [e1]
      exact isE2
    · have two : b = e ∨ b = it := by simpa using hb
      have hb' : b < s.heap.objs.size := by
        rcases two with rfl | rfl
        · exact le
        · exact li
      rw [upd_ne (Nat.ne_of_lt hb')]
      exact (hf b hb).1
  done := by
    intro X hP hw hK hc i pins s σ H E I hf st hg
    subst hP hw hK
    obtain ⟨⟨old, isE⟩, isI, ne1, ne2, ne3⟩ := st
    obtain ⟨xs, hq, hx⟩ := hg
    obtain ⟨its, rv, p, hz⟩ := I.tuple hq
    obtain ⟨f0, f1, f2, f3, f4, f5⟩ := hf it (by simp)
    have ht : s.heap.IsTuple a its.toArray := p
    have hl := rv.length
    exact enumEndT (I.ok.hd hc) isE isI ht (by simp; omega) fun h' eb => ⟨rfl, I.turned (t' := s.toks) (fun b o hb z => eb b o hb z) f0 f1 f3 f4 f5⟩
  self := fun A i s Q E st h => by
    obtain ⟨⟨_, isE⟩, _⟩ := st
    exact wpAny_pyIter_enum isE h
theorem iteT_ok {K : PySem.W.Frag} {F : Hp} {a : Addr} {vs : List V} {l : List D} (h : SqT K F a vs) (k : DpAll K F vs l) : ItOk K F (IteT K a) (enumL l 0) where
  stop := fun H s => ⟨vs, Same.seqT s h, by rw [enumL_len]; exact Nat.le_of_eq (dpA_len k)⟩
  go := fun i H x s e => by
    obtain ⟨y, h1, h2⟩ := enumL_get e
    obtain ⟨v, h3, h4⟩ := dpA_get k h1
    exact ⟨vs, v, Same.seqT s h, h3⟩
  yld := fun i H x v H' s e y => by
    obtain ⟨z, h1, h2⟩ := enumL_get e
    obtain ⟨w, h3, h4⟩ := dpA_get k h1
    obtain ⟨T, u, e1, e2, e3, e4⟩ := y
    have e5 := e4 vs (Same.seqT s h)
    rw [h3] at e5
    cases e5
    refine .inr ⟨T, _, _, e2, e3, e1, h2, .cons ?_ (.cons h4 .nil)⟩
    rw [Nat.zero_add]
    exact .int _
def fEnumS (as : List AV) (S : AS) : Option (List D × AS) := match as with
  | [a] => match frzD S a with
    | some (.list l, S2) => some (enumL l 0, S2)
    | some (.tuple l, S2) => some (enumL l 0, S2)
    | _ => none
  | _ => none
/-- enumerate of a list or a tuple -/
def iEnumS (K : PySem.W.Frag) (ta : TA) : TI := fun σ H R => ta σ H fun vs H1 => ∃ a, vs = [.ref a] ∧ ((∃ xs, SqL K H1 a xs ∧ R (Ite K a) H1) ∨ ∃ xs, SqT K H1 a xs ∧ R (IteT K a) H1)
theorem pi_enumS {X : Cx} {e : Expr} {ta : TA} {p pos tpos : Pos} {elts : List Expr} {kk : Nat} (hg : Gl X "enumerate") (hm : X.mg "enumerate" = none) (ha : PA X [e] ta) (hs : starEach [e] X.env = [(false, eval e X.env)]) :
    PI X (.Tuple elts kk tpos) (.Call (.Name "enumerate" p) [e] [] pos) (iEnumS X.K ta) := by
  refine ⟨fun pins s σ H R I h => ?_⟩
  refine Call_ (ld_blt I hg hm boot_enumerate (PyProof.Rows.callWith_type1 (thn (ha.run pos pins s σ H _ I h) fun us s1 ⟨vs, H1, I1, r1, q1⟩ => ?_) hs rfl))
  obtain ⟨a, ex, q⟩ := q1
  subst ex
  cases r1 with
  | cons r rr =>
    cases rr
    cases r
    have two : ∀ b, b ∈ [s1.heap.objs.size + 1, s1.heap.objs.size] → s1.heap.objs.size ≤ b := fun b hb => by
      have : b = s1.heap.objs.size + 1 ∨ b = s1.heap.objs.size := by simpa using hb
      rcases this with z | z
      · rw [z]; exact Nat.le_succ _
      · rw [z]; exact Nat.le_refl _
    rcases q with ⟨xs, hq, q⟩ | ⟨xs, hq, q⟩
    · obtain ⟨its, rv, p', hz⟩ := I1.list hq
      refine call_enumerate_list p'.isList fun h' he hit hsz hk => wpAny_pyIter_enum he ?_
      have I2 : Inv X pins σ H1 { s1 with heap := h' } := I1.kept (t' := s1.toks) hk
      exact ⟨s1.heap.objs.size + 1, [s1.heap.objs.size + 1, s1.heap.objs.size], _, _, H1, rfl, I2, turn_enum a (s1.heap.objs.size + 1) s1.heap.objs.size, ⟨⟨.none, he⟩, hit, Nat.succ_ne_self _⟩, fun b hb => I1.fpOk (two b hb) (I1.hok.fresh (two b hb)), q⟩
    · obtain ⟨its, rv, p', hz⟩ := I1.tuple hq
      have ht : s1.heap.IsTuple a its.toArray := p'
      have la : a < s1.heap.objs.size := by obtain ⟨o, z, _⟩ := ht; exact Heap.lt_size z
      refine enumBegins1 (begins_tuple a its.toArray) ht fun h' he hit hk => wpAny_pyIter_enum he ?_
      have I2 : Inv X pins σ H1 { s1 with heap := h' } := I1.kept (t' := s1.toks) hk
      exact ⟨s1.heap.objs.size + 1, [s1.heap.objs.size + 1, s1.heap.objs.size], _, _, H1, rfl, I2, turn_enumT a (s1.heap.objs.size + 1) s1.heap.objs.size, ⟨⟨.none, he⟩, ⟨_, hit, rfl, rfl⟩, Nat.succ_ne_self _, Nat.ne_of_lt la, Nat.ne_of_lt (Nat.lt_succ_of_lt la)⟩, fun b hb => I1.fpOk (two b hb) (I1.hok.fresh (two b hb)), q⟩
theorem iEnS {X : Cx} {ex : Option (Addr × Value × Option Addr)} {W : WX} {pos : Pos} {e : Expr} {elts : List Expr} {kk : Nat} {tpos p : Pos} {l : Ln} (hm : X.mg "enumerate" = none) (ha : PA X [e] (tL (zp X ex) W l)) (hg : Gl X "enumerate" := by rfl) (hs : starEach [e] X.env = [(false, eval e X.env)] := by rfl) :
    PI X (.Tuple elts kk tpos) (.Call (.Name "enumerate" p) [e] [] pos) (tI (zp X ex) W (itL l fEnumS)) :=
  (pi_enumS hg hm ha hs).impD fun σ H R h => (itL_imp h).imp fun vs H1 q => by
    obtain ⟨F, ρ, S, as, m, S2, rs, rv, e, k⟩ := q
    unfold fEnumS at e
    split at e
    · split at e
      · rename_i a l2 S3 e2
        cases Option.some.inj e
        obtain ⟨v, rfl, r1⟩ := rv.one
        obtain ⟨F3, s3, rs3, dx⟩ := frzD_ok rs r1 e2
        cases dx with
        | lst h1 h2 => exact ⟨_, rfl, .inl ⟨_, rs3.sub.seq h1, k F3 ρ H1 _ (Tr.sam s3) rs3 (ite_ok h1 h2)⟩⟩
      · rename_i a l2 S3 e2
        cases Option.some.inj e
        obtain ⟨v, rfl, r1⟩ := rv.one
        obtain ⟨F3, s3, rs3, dx⟩ := frzD_ok rs r1 e2
        cases dx with
        | tup h1 h2 => exact ⟨_, rfl, .inr ⟨_, Same.seqT rs3.sub h1, k F3 ρ H1 _ (Tr.sam s3) rs3 (iteT_ok h1 h2)⟩⟩
      · cases e
    · cases e
end Den
/-! DenB: rules that run a denotation (plain Lean, no program in sight). -/
namespace Den
open PySem PySem.Spec PyProof.Rows L2

section
variable {a b : AV} {S : AS} {σ : ASt} {x : Exc} {f : AV → AS → ER} {g : AV → AS → SR} {h : AV → AS → LR} {fl : List AV → AS → ER} {c c1 c2 ca cb cc : Dn} {s s1 s2 : Sn} {l : Ln} {as : List AV}
@[simp] theorem fz_d (x : D) : AV.fz (.d x) = .d x := rfl
@[simp] theorem fz_ref (n : Nat) : AV.fz (.ref n) = .ref n := rfl
@[simp] theorem fz_own (l : List D) : AV.fz (.own l) = .d (.list l) := rfl
@[simp] theorem fz_exc (x : Exc) : AV.fz (.exc x) = .exc x := rfl
@[simp] theorem bind_ok : (ER.ok a S).bind f = f a.fz S := rfl
@[simp] theorem bind_err : (ER.err x S).bind f = .err x S := rfl
@[simp] theorem bind_stuck : ER.stuck.bind f = .stuck := rfl
@[simp] theorem then_ok : (ER.ok a S).then σ g = g a S := rfl
@[simp] theorem then_err : (ER.err x S).then σ g = .er x σ S := rfl
@[simp] theorem then_stuck : ER.stuck.then σ g = .stuck := rfl
@[simp] theorem bindL_ok : (ER.ok a S).bindL h = h a.fz S := rfl
@[simp] theorem bindL_err : (ER.err x S).bindL h = .err x S := rfl
@[simp] theorem lbind_ok : (LR.ok as S).bind fl = fl as S := rfl
@[simp] theorem lbind_err : (LR.err x S).bind fl = .err x S := rfl
@[simp] theorem lcons_ok : (LR.ok as S).cons a = .ok (a :: as) S := rfl
@[simp] theorem lcons_err : (LR.err x S).cons a = .err x S := rfl
@[simp] theorem lift_some : liftV (some (a, S)) = .ok a S := rfl
@[simp] theorem lift_none : liftV none = .stuck := rfl
@[simp] theorem x_C (x : D) : dC x σ S = .ok (.d x) S := rfl
@[simp] theorem x_Bin (g : AV → AV → AS → VR) : dBin g ca cb σ S = (ca σ S).bind fun a S1 => (cb σ S1).bind fun b S2 => liftV (g a b S2) := rfl
@[simp] theorem x_Neg : dNeg ca σ S = (ca σ S).bind fun a S1 => liftV (vNeg a S1) := rfl
@[simp] theorem x_vNeg (i : Int) : vNeg (.d (.int i)) S = some (.d (.int (-i)), S) := rfl
@[simp] theorem x_And : dAnd ca cb σ S = (ca σ S).bind fun a S1 => bAnd cb σ a S1 := rfl
@[simp] theorem x_Or : dOr ca cb σ S = (ca σ S).bind fun a S1 => bOr cb σ a S1 := rfl
@[simp] theorem x_If : dIf c ca cb σ S = (c σ S).bind fun a S1 => bIf ca cb σ a S1 := rfl
@[simp] theorem x_Not : dNot ca σ S = (ca σ S).bind fun a S1 => liftV (vNot a S1) := rfl
@[simp] theorem x_Tru : dTru ca σ S = (ca σ S).bind fun a S1 => liftV (vTru a S1) := rfl
@[simp] theorem and_t : bAnd cb σ (.d (.bool true)) S = cb σ S := rfl
@[simp] theorem and_f : bAnd cb σ (.d (.bool false)) S = .ok (.d (.bool false)) S := rfl
@[simp] theorem or_t : bOr cb σ (.d (.bool true)) S = .ok (.d (.bool true)) S := rfl
@[simp] theorem or_f : bOr cb σ (.d (.bool false)) S = cb σ S := rfl
@[simp] theorem if_t : bIf ca cb σ (.d (.bool true)) S = ca σ S := rfl
@[simp] theorem if_f : bIf ca cb σ (.d (.bool false)) S = cb σ S := rfl
@[simp] theorem not_b (k : Bool) : vNot (.d (.bool k)) S = some (.d (.bool (!k)), S) := rfl
@[simp] theorem tru_b (k : Bool) : vTru (.d (.bool k)) S = some (.d (.bool k), S) := rfl
@[simp] theorem tru_n : vTru (.d .none) S = some (.d (.bool false), S) := rfl
@[simp] theorem tru_i (i : Int) : vTru (.d (.int i)) S = some (.d (.bool (i != 0)), S) := rfl
@[simp] theorem tru_l (l : List D) : vTru (.d (.list l)) S = some (.d (.bool (!l.isEmpty)), S) := rfl
@[simp] theorem tru_t (l : List D) : vTru (.d (.tuple l)) S = some (.d (.bool (!l.isEmpty)), S) := rfl
@[simp] theorem x_Chain (g g' : AV → AV → AS → VR) : dChain g g' ca cb cc σ S = (ca σ S).bind fun a S1 => (cb σ S1).bind fun b S2 => (liftV (g a b S2)).bind fun k S3 => bAnd (fun σ S => (cc σ S).bind fun c S4 => liftV (g' b c S4)) σ k S3 := rfl
@[simp] theorem x_lNil : lNil σ S = .ok [] S := rfl
@[simp] theorem x_lCons : lCons c l σ S = (c σ S).bindL fun a S1 => (l σ S1).cons a := rfl
@[simp] theorem x_CallV (g : List AV → AS → VR) : dCallV g l σ S = (l σ S).bind fun as S1 => liftV (g as S1) := rfl
@[simp] theorem x_Call : dCall fl l σ S = (l σ S).bind fl := rfl
@[simp] theorem x_arity (n : Nat) : arity n fl as S = if as.length = n then fl as S else .stuck := rfl
@[simp] theorem x_Meth (g : AV → List AV → AS → VR) : dMeth g c l σ S = (c σ S).bind fun a S1 => bMeth g l σ a S1 := rfl
@[simp] theorem x_bMeth (g : AV → List AV → AS → VR) : bMeth g l σ a S = if isL S a then (l σ S).bind fun as S2 => liftV (g a as S2) else .stuck := rfl
@[simp] theorem x_Isi (tys : List String) : dIsi tys ca σ S = (ca σ S).bind fun a S1 => liftV (vIsi tys a S1) := rfl
@[simp] theorem isi_i (tys : List String) (i : Int) : vIsi tys (.d (.int i)) S = some (.d (.bool (tys.any (kitS "int"))), S) := rfl
@[simp] theorem isi_b (tys : List String) (i : Bool) : vIsi tys (.d (.bool i)) S = some (.d (.bool (tys.any (kitS "bool"))), S) := rfl
@[simp] theorem isi_n (tys : List String) : vIsi tys (.d .none) S = some (.d (.bool (tys.any (kitS "NoneType"))), S) := rfl
@[simp] theorem isi_s (tys : List String) (i : Str) : vIsi tys (.d (.str i)) S = some (.d (.bool (tys.any (kitS "str"))), S) := rfl
@[simp] theorem isi_l (tys : List String) (i : List D) : vIsi tys (.d (.list i)) S = some (.d (.bool (tys.any (kitS "list"))), S) := rfl
@[simp] theorem isi_t (tys : List String) (i : List D) : vIsi tys (.d (.tuple i)) S = some (.d (.bool (tys.any (kitS "tuple"))), S) := rfl
@[simp] theorem x_Seq : sSeq s1 s2 σ S = (match s1 σ S with | .nx σ1 S1 => s2 σ1 S1 | r => r) := rfl
@[simp] theorem x_sIf : sIf c s1 s2 σ S = (c σ S).then σ fun a S1 => match a with | .d (.bool true) => s1 σ S1 | .d (.bool false) => s2 σ S1 | _ => .stuck := rfl
@[simp] theorem x_Asg (i : Nat) (mu : Bool) : sAsg i mu c σ S = (c σ S).then σ fun a S1 => asgV i mu σ a S1 := rfl
@[simp] theorem asg_d (i : Nat) (mu : Bool) (x : D) : asgV i mu σ (.d x) S = .nx (σ.set i (some (.d x))) S := rfl
@[simp] theorem asg_ref (i n : Nat) (mu : Bool) : asgV i mu σ (.ref n) S = .nx (σ.set i (some (.ref n))) S := rfl
@[simp] theorem asg_ownT (i : Nat) (l : List D) : asgV i true σ (.own l) S = .nx (σ.set i (some (.ref S.length))) (S ++ [.lst l]) := rfl
@[simp] theorem asg_ownF (i : Nat) (l : List D) : asgV i false σ (.own l) S = .nx (σ.set i (some (.d (.list l)))) S := rfl
@[simp] theorem x_Unp (p : Pat) : sUnp p c σ S = (c σ S).then σ fun a S1 => match bindP S1 p a.fz σ with | some σ1 => .nx σ1 S1 | none => .stuck := rfl
@[simp] theorem x_Par (i j : Nat) : sPar i j l σ S = (match l σ S with | .ok [a, b] S1 => .nx ((σ.set i (some a)).set j (some b)) S1 | .ok _ _ => .stuck | .err x S1 => .er x σ S1 | .stuck => .stuck) := rfl
@[simp] theorem x_Expr : sExpr c σ S = (c σ S).then σ fun _ S1 => .nx σ S1 := rfl
@[simp] theorem x_Ret : sRet c σ S = (c σ S).then σ fun a S1 => .rt a S1 := rfl
@[simp] theorem x_RetN : sRetN σ S = .rt (.d .none) S := rfl
@[simp] theorem x_Skip : sSkip σ S = .nx σ S := rfl
@[simp] theorem x_Break : sBreak σ S = .bk σ S := rfl
@[simp] theorem x_Cont : sCont σ S = .ct σ S := rfl
@[simp] theorem x_For (it : It1) (p : Pat) : sFor it p s σ S = (match it σ S with | .ok l S1 => forGo p s l σ S1 | .err x S1 => .er x σ S1 | .stuck => .stuck) := rfl
@[simp] theorem for_nil (p : Pat) : forGo p s [] σ S = .nx σ S := rfl
theorem for_cons (p : Pat) (x : D) (r : List D) : forGo p s (x :: r) σ S = (match bindP S p (.d x) σ with
    | none => .stuck
    | some σ1 => match s σ1 S with
      | .nx σ2 S2 => forGo p s r σ2 S2
      | .ct σ2 S2 => forGo p s r σ2 S2
      | .bk σ2 S2 => .nx σ2 S2
      | r' => r') := rfl
@[simp] theorem x_itL (f : List AV → AS → Option (List D × AS)) : itL l f σ S = (match l σ S with | .ok as S1 => (match f as S1 with | some (m, S2) => .ok m S2 | none => .stuck) | .err x S1 => .err x S1 | .stuck => .stuck) := rfl
@[simp] theorem bind_nm (i : Nat) : bindP S (.nm i) a σ = some (σ.set i (some a)) := by unfold bindP; rfl
@[simp] theorem bind_tpT (ps : Pats) (l : List D) : bindP S (.tp ps) (.d (.tuple l)) σ = bindPs S ps l σ := by unfold bindP; rfl
@[simp] theorem bind_tpL (ps : Pats) (l : List D) : bindP S (.tp ps) (.d (.list l)) σ = bindPs S ps l σ := by unfold bindP; rfl
@[simp] theorem binds_nil : bindPs S .nil [] σ = some σ := by unfold bindPs; rfl
@[simp] theorem binds_cons (p : Pat) (ps : Pats) (x : D) (l : List D) : bindPs S (.cons p ps) (x :: l) σ = (match bindP S p (.d x) σ with | some σ1 => bindPs S ps l σ1 | none => none) := by
  first
    | (rw [bindPs]; done)
    | (rw [bindPs]; cases bindP S p (.d x) σ <;> rfl)
@[simp] theorem tup_d0 : vTupD [] S = some (.d (.tuple []), S) := rfl
@[simp] theorem tup_d1 (x : D) : vTupD [.d x] S = some (.d (.tuple [x]), S) := rfl
@[simp] theorem tup_d2 (x y : D) : vTupD [.d x, .d y] S = some (.d (.tuple [x, y]), S) := rfl
@[simp] theorem tup_d3 (x y z : D) : vTupD [.d x, .d y, .d z] S = some (.d (.tuple [x, y, z]), S) := rfl
@[simp] theorem lst_d (x y : D) : vLstD [.d x, .d y] S = some (.own [x, y], S) := rfl
@[simp] theorem ix0 (x : D) (l : List D) : vIx (.d (.tuple (x :: l))) (.d (.int 0)) S = some (.d x, S) := by
  show (match atD (x :: l) 0 with | some x => some (AV.d x, S) | none => none) = _
  have : atD (x :: l) 0 = some x := by simp [atD, ixN]
  rw [this]
end
@[simp] theorem add_i (i j : Int) (S : AS) : bAdd (.d (.int i)) (.d (.int j)) S = some (.d (.int (i + j)), S) := rfl
@[simp] theorem sub_i (i j : Int) (S : AS) : bSub (.d (.int i)) (.d (.int j)) S = some (.d (.int (i - j)), S) := rfl
theorem mul_i {i j : Int} {S : AS} (h : i.natAbs.log2 + j.natAbs.log2 < 100000000) : bMul (.d (.int i)) (.d (.int j)) S = some (.d (.int (i * j)), S) := if_pos h
theorem mod_i {i j : Int} {S : AS} (h : 0 < j) : bMod (.d (.int i)) (.d (.int j)) S = some (.d (.int (i % j)), S) := if_pos h
theorem fdiv_i {i j : Int} {S : AS} (h : 0 < j) (h2 : j.natAbs.log2 < 9000) : bFdiv (.d (.int i)) (.d (.int j)) S = some (.d (.int (i / j)), S) := if_pos ⟨h, h2⟩
@[simp] theorem lt_i (i j : Int) (S : AS) : cop .Lt (.d (.int i)) (.d (.int j)) S = some (.d (.bool (decide (i < j))), S) := rfl
@[simp] theorem le_i (i j : Int) (S : AS) : cop .LtE (.d (.int i)) (.d (.int j)) S = some (.d (.bool (decide (i ≤ j))), S) := rfl
@[simp] theorem gt_i (i j : Int) (S : AS) : cop .Gt (.d (.int i)) (.d (.int j)) S = some (.d (.bool (decide (j < i))), S) := rfl
@[simp] theorem ge_i (i j : Int) (S : AS) : cop .GtE (.d (.int i)) (.d (.int j)) S = some (.d (.bool (decide (j ≤ i))), S) := rfl
@[simp] theorem eq_ii (i j : Int) (S : AS) : cop .Eq (.d (.int i)) (.d (.int j)) S = some (.d (.bool (decide (i = j))), S) := by
  have : PyData.eqv (.int i) (.int j) = decide (i = j) := by
    show (i == j) = decide (i = j)
    by_cases e : i = j
    · rw [e]
      simp
    · rw [decide_eq_false e]
      simpa using e
  show (match eqD (some (.int i)) (some (.int j)) with | some k => some (AV.d (.bool k), S) | none => none) = _
  show some (AV.d (.bool (PyData.eqv (.int i) (.int j))), S) = _
  rw [this]
@[simp] theorem ne_ii (i j : Int) (S : AS) : cop .NotEq (.d (.int i)) (.d (.int j)) S = some (.d (.bool (!decide (i = j))), S) := by
  have : PyData.eqv (.int i) (.int j) = decide (i = j) := by
    show (i == j) = decide (i = j)
    by_cases e : i = j
    · rw [e]
      simp
    · rw [decide_eq_false e]
      simpa using e
  show some (AV.d (.bool (!PyData.eqv (.int i) (.int j))), S) = _
  rw [this]
@[simp] theorem is_none (x : D) (S : AS) : cop .Is (.d x) (.d .none) S = some (.d (.bool (isNoneAV (.d x))), S) := by cases x <;> rfl
@[simp] theorem isnot_none (x : D) (S : AS) : cop .IsNot (.d x) (.d .none) S = some (.d (.bool (!isNoneAV (.d x))), S) := by cases x <;> rfl
@[simp] theorem isn_n : isNoneAV (.d .none) = true := rfl
@[simp] theorem isn_i (i : Int) : isNoneAV (.d (.int i)) = false := rfl
@[simp] theorem isn_t (i : List D) : isNoneAV (.d (.tuple i)) = false := rfl
@[simp] theorem isn_b (i : Bool) : isNoneAV (.d (.bool i)) = false := rfl
@[simp] theorem is_bb (i j : Bool) (S : AS) : cop .Is (.d (.bool i)) (.d (.bool j)) S = some (.d (.bool (decide (i = j))), S) := rfl
@[simp] theorem isnot_bb (i j : Bool) (S : AS) : cop .IsNot (.d (.bool i)) (.d (.bool j)) S = some (.d (.bool (!decide (i = j))), S) := rfl
@[simp] theorem len_t (l : List D) (S : AS) : vLen [.d (.tuple l)] S = some (.d (.int l.length), S) := rfl
@[simp] theorem len_l (l : List D) (S : AS) : vLen [.d (.list l)] S = some (.d (.int l.length), S) := rfl
@[simp] theorem vtuple_t (l : List D) (S : AS) : vTuple [.d (.tuple l)] S = some (.d (.tuple l), S) := rfl
@[simp] theorem vtuple_l (l : List D) (S : AS) : vTuple [.d (.list l)] S = some (.d (.tuple l), S) := rfl
@[simp] theorem vlist_t (l : List D) (S : AS) : vList [.d (.tuple l)] S = some (.own l, S) := rfl
@[simp] theorem vlist_l (l : List D) (S : AS) : vList [.d (.list l)] S = some (.own l, S) := rfl
@[simp] theorem vabs_i (i : Int) (S : AS) : vAbs [.d (.int i)] S = some (.d (.int (if i < 0 then -i else i)), S) := rfl
@[simp] theorem vint_i (i : Int) (S : AS) : vInt [.d (.int i)] S = some (.d (.int i), S) := rfl
@[simp] theorem vmin_i (i j : Int) (S : AS) : vMin [.d (.int i), .d (.int j)] S = some (.d (.int (if j < i then j else i)), S) := rfl
@[simp] theorem vmax_i (i j : Int) (S : AS) : vMax [.d (.int i), .d (.int j)] S = some (.d (.int (if j > i then j else i)), S) := rfl
@[simp] theorem vgcd_i (i j : Int) (S : AS) : vGcd [.d (.int i), .d (.int j)] S = some (.d (.int ((Nat.gcd i.natAbs j.natAbs : Nat) : Int)), S) := rfl
@[simp] theorem ix_t (l : List D) (k : Int) (S : AS) : vIx (.d (.tuple l)) (.d (.int k)) S = (match atD l k with | some x => some (.d x, S) | none => none) := rfl
@[simp] theorem ix_l (l : List D) (k : Int) (S : AS) : vIx (.d (.list l)) (.d (.int k)) S = (match atD l k with | some x => some (.d x, S) | none => none) := rfl
@[simp] theorem at_0 (x : D) (l : List D) : atD (x :: l) 0 = some x := by simp [atD, ixN]
theorem at_nat {l : List D} {i : Nat} {x : D} (h : l[i]? = some x) : atD l (i : Int) = some x := by
  have hi := (List.getElem?_eq_some_iff.mp h).1
  have e : ixN l.length (i : Int) = some i := by
    unfold ixN
    have h0 : ¬ ((i : Int) < 0) := by omega
    simp [h0, hi]
  unfold atD
  rw [e]
  exact h
@[simp] theorem at_1 (x y : D) (l : List D) : atD (x :: y :: l) 1 = some y := at_nat (i := 1) rfl
@[simp] theorem at_2 (x y z : D) (l : List D) : atD (x :: y :: z :: l) 2 = some z := at_nat (i := 2) rfl
@[simp] theorem fin_d (n : Nat) (x : D) (S : AS) : finA n (.d x) S = .ok (.d x) (S.take n) := rfl
@[simp] theorem fin_own (n : Nat) (l : List D) (S : AS) : finA n (.own l) S = .ok (.own l) (S.take n) := rfl
theorem den_of {n : Nat} {c : Sn} {as : List AV} {S : AS} : defD n c as S = (match c (as.map some ++ List.replicate (n - as.length) none) S with
  | .nx _ S' => .ok (.d .none) (S'.take S.length)
  | .rt a S' => finA S.length a S'
  | .er x _ S' => .err x (S'.take S.length)
  | _ => .stuck) := rfl
end Den
/-! DenG: promises of defs where no repr is under way (A.guards = some []). -/
namespace Den
open PySem PySem.Spec PyProof.Rows L2
structure FnOkG (P : Program) (w : World) (K : PySem.W.Frag) (mg : Str → Option Value) (base : Heap) (CX : CXT) (k : Nat) (f : Addr) (fd : FuncData) (ps : List Str) (sp : Sp) : Prop where
  len : ∀ vs H Q E, sp vs H Q E → vs.length = ps.length
  run : ∀ (A : Around) (outer : List Env) (s : Shared) (H : Hp) (args : Args) (us : List Value) (vs : List V) (Q : VK) (E : XK), Room k A → A.guards = some [] → Env0 P w K mg base A outer s H → BindsTo s fd args (ps.zip us) → Vals vs us → sp vs H Q E →
    codeAny (model P w) A (.call (.ref f) args) (CR CX outer P w H s Q E) s
theorem FnOkG.of {P : Program} {w : World} {K : PySem.W.Frag} {mg : Str → Option Value} {base : Heap} {CX : CXT} {k : Nat} {f : Addr} {fd : FuncData} {ps : List Str} {sp : Sp} (F : FnOk P w K mg base CX k f fd ps sp) : FnOkG P w K mg base CX k f fd ps sp :=
  ⟨F.len, fun A outer s H args us vs Q E hr _ => F.run A outer s H args us vs Q E hr⟩
/-- a def whose body may lean on the guards -/
theorem fnG_of {CX : CXT} {P : Program} {w : World} {K : PySem.W.Frag} {mg : Str → Option Value} {base : Heap} {k : Nat} {x qual : Str} {st : Stmt} {f : Addr} {fd : FuncData} {N ps : List Str} {sp : Sp} (Fn : Fun K x qual st f fd) (S : FnScope N ps (defScope st))
    (len : ∀ vs H Q E, sp vs H Q E → vs.length = ps.length)
    (body : ∀ (cdv : Value) (A : Around) (outer : List Env) (s : Shared) (H : Hp) (vs : List V) (Q : VK) (E : XK), Room k (A.deeper (envOfC qual (defScope st) s.heap.objs.size f cdv)) → A.guards = some [] → sp vs H Q E →
      ∃ t, PSs (cxOf CX P w K mg base N qual (defScope st) f cdv A outer s H E) (defBody st) t ∧ t { nx := fun _ H' => Q .non H', rt := Q } (start N vs) H) : FnOkG P w K mg base CX (k + 1) f fd ps sp := by
  obtain ⟨oc, od, kV, doc, pm, an, cdv, ct, osl, rfl, lk, hcd⟩ := Fn.ex
  refine ⟨len, fun A outer s H args us vs Q E hr hg e0 hb rv hsp => ?_⟩
  have inK : K.In s.heap := e0.mod.kin.keeps fun b o z => (e0.bs b o z).1
  have noLim : s.heap.NoLimit := e0.mod.nolimit.keeps fun b o z => (e0.bs b o z).1
  have kinds : ∀ y ∈ ps.zip us, (defScope st).names.lookup y.1 = some .local ∨ ((defScope st).names.lookup y.1 = some .cell ∧ ((cellsFrom (s.heap.objs.size + 1) (defScope st).names []).lookup y.1).isSome = true) := fun ⟨n, v⟩ hy => by
    rcases S.par n (List.of_mem_zip hy).1 with z | z
    · exact .inl z
    · exact .inr ⟨z, PySem.W.cellsFrom_some _ _ _ (.inl z)⟩
  refine codeAny_call_function hr.depth (inK _ _ lk) rfl S.co S.gen rfl (PySem.W.codeRec_of inK hcd) (hb _ _ _ _ ?_)
  refine wpAny_newFunctionEnv_cells S.kind kinds fun env isEnv s1 inCall => ?_
  subst isEnv
  refine ⟨noLim.keeps inCall.toInCall.keep, codeAny_func ?_⟩
  obtain ⟨t, runs, want⟩ := body cdv A outer s H vs Q E (hr.deeper _) hg hsp
  have I : Inv (cxOf CX P w K mg base N qual (defScope st) f cdv A outer s H E) [] (start N vs) H s1 := inv_start S hr.hd e0 (len _ _ _ _ hsp) rv inCall
  refine wpAny_mono (runs.run [] s1 (start N vs) H _ I want) (fun fl s' fin => ?_) fun e s' fin => fin
  cases fl with
  | ret u =>
    obtain ⟨v, σ', H', J, r1, q⟩ := fin
    exact ⟨v, H', J.os, J.bare, J.base, J.hok, r1, q⟩
  | next =>
    obtain ⟨σ', H', J, q⟩ := fin
    exact ⟨V.non, H', J.os, J.bare, J.base, J.hok, rfl, q⟩
  | brk =>
    obtain ⟨_, _, _, q⟩ := fin
    exact q.elim
  | cont =>
    obtain ⟨_, _, _, q⟩ := fin
    exact q.elim
section
variable {X : Cx} {W : WX} {k : Nat} {f : Addr} {fd : FuncData} {ps : List Str} {sp : Sp}
theorem runG {pins : List (Addr × Obj)} {σ : L2.St} {H : Hp} {s : Shared} {Q : VK} {us : List Value} {vs : List V} (F : FnOkG X.prog X.w X.K X.mg X.base (L2.CX X.prog X.w) k f fd ps sp) (hr : Room k X.A) (hg : X.A.guards = some []) (hb : Binds X.K fd ps []) (tk : Takes X W)
    (I : Inv X pins σ H s) (r : Vals vs us) (h : sp vs H Q (WE W σ)) : wpAny (model X.prog X.w) X.A (call (.ref f) us) (EP X pins σ Q) X.xe s := by
  have lens : us.length = ps.length := by
    rw [← r.length]
    exact F.len _ _ _ _ h
  have bound := hb s us I.kIn (by rw [List.append_nil]; exact lens)
  rw [List.append_nil] at bound
  refine wpAny_call (codeAny_mono (F.run X.A X.stack s H ⟨us, []⟩ us vs Q _ hr hg I.env0 bound r h) fun res s' fin => ?_)
  cases res with
  | error e => exact passAt tk σ pins H s e s' I fin
  | ok fl =>
    cases fl with
    | ret u => exact I.after fin
    | next => exact fin.elim
    | brk => exact fin.elim
    | cont => exact fin.elim
theorem sE_callG {np : Nat} {g : List AV → AS → ER} {x : Str} {p pos : Pos} {e : Expr} {es : List Expr} {l : Ln} (F : FnOkG X.prog X.w X.K X.mg X.base (L2.CX X.prog X.w) k f fd ps (spOf X.K X.mg np g)) (hr : Room k X.A) (gd : X.A.guards = some []) (hg : Gl X x) (hm : X.mg x = some (.ref f))
    (hk : PySem.W.keepIn X.K (.ref f) = true) (hb : Binds X.K fd ps []) (tk : Takes X W) (ha : PA X (e :: es) (tL (zp X none) W l))
    (hdb : (x == ("__debug__" : Str)) = false) (he : starEach (e :: es) X.env = (false, eval e X.env) :: starEach es X.env) (hpl : (backTo pos (starEach es X.env)).any (·.1) = false) :
    PE X (.Call (.Name x p) (e :: es) [] pos) (tE (zp X none) W (dCall (arity np g) l)) := by
  refine ⟨fun pins s σ H Q I h => ?_⟩
  refine wpAny_Call_Name_kw (ld_glob I hg hm ?_ hdb)
  refine PySem.W.callWith_K (h₀ := X.base) I.ok.mod.kin hk (thn (ha.run pos pins s σ H _ I (call_imp h)) fun us s1 got => ?_) he hpl
  obtain ⟨vs, H1, I1, r, q⟩ := got
  exact ⟨I1.kIn, runG F hr gd hb tk I1 r q⟩
end
/-- a def keeps what its body comes to, the guards known -/
theorem ok_defG {P : Program} {w : World} {K : PySem.W.Frag} {mg : Str → Option Value} {base : Heap} {x qual : Str} {st : Stmt} {f : Addr} {fd : FuncData} {N ps : List Str} {k : Nat} {c : Sn} (Fn : Fun K x qual st f fd) (S : FnScope N ps (defScope st))
    (hb : ∀ (cdv : Value) (A : Around) (outer : List Env) (s : Shared) (H : Hp) (E : XK), Room k (A.deeper (envOfC qual (defScope st) s.heap.objs.size f cdv)) → A.guards = some [] → PSs (cxOf (L2.CX P w) P w K mg base N qual (defScope st) f cdv A outer s H E) (defBody st) (tS ⟨K, mg, none⟩ (fun cls d _ H => E cls d H) c)) :
    FnOkG P w K mg base (L2.CX P w) (k + 1) f fd ps (spOf K mg ps.length (defD N.length c)) :=
  fnG_of Fn S (fun vs H Q E h => h.1) fun cdv A outer s H vs Q E hr hg h => ⟨_, hb cdv A outer s H E hr hg, def_imp h⟩
end Den
/-! DenH: repr. -/
namespace Den
open PySem PySem.Spec PyProof.Rows L2
def isSeqD : D → Bool
  | .list _ => true
  | .tuple _ => true
  | _ => false
def seqShown (x : D) : Bool := isSeqD x && (x.showable && (!x.hasDict && (decide (x.depth ≤ 60) && decide (x.shown.length ≤ cap))))
def vRepr (as : List AV) (S : AS) : VR := match as with
  | [.d (.int i)] => if i.natAbs.log2 < 1920 then some (.d (.str (toString i)), S) else none
  | [.d (.bool b)] => some (.d (.str (if b then "True" else "False")), S)
  | [.d .none] => some (.d (.str "None"), S)
  | [a] => match toD S a with
    | some x => if seqShown x then some (.d (.str x.shown), S) else none
    | none => none
  | _ => none
section
variable {X : Cx} {ex : Option (Addr × Value × Option Addr)}
theorem vRepr_ok {k : Nat} (hr : Room k X.A) (hg : X.A.guards = some []) : CallR X (.builtin "repr") (rC (zp X ex) vRepr) := by
  intro pins s σ H xs us Q I r h
  obtain ⟨F, ρ, S, as, rs, ra, h⟩ := h
  unfold vRepr at h
  split at h
  · split at h
    · rename_i c
      obtain ⟨v, rfl, rv⟩ := ra.one
      cases dint rv
      cases r with
      | cons r1 rr =>
        cases rr
        obtain ⟨t, rfl⟩ := r1
        exact PySem.P.repr_of_int c ⟨.str _, H, I.tok _, ⟨_, rfl⟩, VPost.dat h rs (.str _)⟩
    · exact h.elim
  · obtain ⟨v, rfl, rv⟩ := ra.one
    cases dbool rv
    cases r with
    | cons r1 rr =>
      cases rr
      cases r1
      exact PySem.P.repr_of_bool ⟨.str _, H, I.tok _, ⟨_, rfl⟩, VPost.dat h rs (.str _)⟩
  · obtain ⟨v, rfl, rv⟩ := ra.one
    cases dnone rv
    cases r with
    | cons r1 rr =>
      cases rr
      cases r1
      exact PySem.P.repr_of_none ⟨.str _, H, I.tok _, ⟨_, rfl⟩, VPost.dat h rs (.str _)⟩
  · rename_i a _ _ _
    obtain ⟨v, rfl, rv⟩ := ra.one
    split at h
    · rename_i x e
      split at h
      · rename_i c
        unfold seqShown at c
        simp only [Bool.and_eq_true, Bool.not_eq_true', decide_eq_true_eq] at c
        obtain ⟨c1, c2, c3, c4, c5⟩ := c
        have dp := toD_ok (Z := zp X ex) rs rv e
        cases r with
        | cons r1 rr =>
          rename_i u ur
          cases rr
          obtain ⟨bs, rd⟩ := Dp.reads I x v u dp r1
          have isRef : ∃ b, u = .ref b := by
            cases rd <;> first | exact ⟨_, rfl⟩ | cases c1
          obtain ⟨b, rfl⟩ := isRef
          have hu := hr.un
          exact repr_of_reads' rd c2 (fun z => by rw [c3] at z; cases z) hg (by omega) (fun b o z => z) (fun h' u' tk hk => ⟨.str _, H, I.kept (t' := tk) hk, ⟨_, rfl⟩, VPost.dat h rs (.str _)⟩) (Nat.le_trans c5 cap_le)
      · exact h.elim
    · exact h.elim
  · exact h.elim
end
end Den
/-! DenI: sorted of a list of ints. -/
namespace Den
open PySem PySem.Spec PyProof.Rows L2
/-- insertion, plain -/
def insI (x : Int) : List Int → List Int
  | [] => [x]
  | y :: r => if x ≤ y then x :: y :: r else y :: insI x r
def srtI : List Int → List Int
  | [] => []
  | x :: r => insI x (srtI r)
theorem insI_perm (x : Int) : ∀ l, (insI x l).Perm (x :: l)
  | [] => List.Perm.refl _
  | y :: r => by
    unfold insI
    split
    · exact List.Perm.refl _
    · exact (List.Perm.cons y (insI_perm x r)).trans (List.Perm.swap x y r)
theorem srtI_perm : ∀ l, (srtI l).Perm l
  | [] => List.Perm.refl _
  | x :: r => (insI_perm x (srtI r)).trans (List.Perm.cons x (srtI_perm r))
theorem insI_pair (x : Int) : ∀ l, l.Pairwise (· ≤ ·) → (insI x l).Pairwise (· ≤ ·)
  | [], _ => by simp [insI]
  | y :: r, h => by
    obtain ⟨h1, h2⟩ := List.pairwise_cons.mp h
    unfold insI
    split
    · rename_i c
      refine List.pairwise_cons.mpr ⟨fun z hz => ?_, h⟩
      rcases List.mem_cons.mp hz with rfl | hz
      · exact c
      · exact Int.le_trans c (h1 z hz)
    · rename_i c
      refine List.pairwise_cons.mpr ⟨fun z hz => ?_, insI_pair x r h2⟩
      rcases List.mem_cons.mp ((insI_perm x r).mem_iff.mp hz) with rfl | hz
      · omega
      · exact h1 z hz
theorem srtI_pair : ∀ l, (srtI l).Pairwise (· ≤ ·)
  | [] => List.Pairwise.nil
  | x :: r => insI_pair x _ (srtI_pair r)
theorem sorted_one {l m : List Int} (p : l.Perm m) (hl : l.Pairwise (· ≤ ·)) (hm : m.Pairwise (· ≤ ·)) : l = m := p.eq_of_pairwise (fun a b _ _ h1 h2 => Int.le_antisymm h1 h2) hl hm
def vSortI (as : List AV) (S : AS) : VR := match as with
  | [a] => match rdSeq S a with
    | some (true, l) => match ints? l with
      | some ns => some (.own ((srtI ns).map PyData.int), S)
      | none => none
    | _ => none
  | _ => none
theorem vSortI_ok {X : Cx} {ex : Option (Addr × Value × Option Addr)} : CallR X (.builtin "sorted") (rC (zp X ex) vSortI) := by
  intro pins s σ H xs us Q I r h
  obtain ⟨F, ρ, S, as, rs, ra, h⟩ := h
  unfold vSortI at h
  split at h
  · obtain ⟨v, rfl, rv⟩ := ra.one
    split at h
    · rename_i l e
      split at h
      · rename_i ns e2
        obtain ⟨p, vs, rfl, k, L, T⟩ := rdSeq_F (Z := zp X ex) rs rv e
        have el := ints?_ok e2
        subst el
        have ev := dpA_ints k
        subst ev
        refine cr_sortedI pins s σ H _ us Q I r ⟨p, ns, rfl, L rfl, fun ns' q pm pw hq => ?_⟩
        have : ns' = srtI ns := sorted_one (pm.trans (srtI_perm ns).symm) pw (srtI_pair ns)
        subst this
        exact VPost.own h rs (dpA_of_ints _) q hq
      · exact h.elim
    · exact h.elim
  · exact h.elim
end Den
/-! DenE: a law's end from a promise with guards. -/
namespace Den
open PySem PySem.Spec PyProof.Rows L2
/-- what is tracked at the start: the script alone, frozen; nothing, where the script is one of the text's own objects -/
def startH (K : PySem.W.Frag) (a : Addr) (o : Obj) (ns : List Int) : Hp := fun b => if b = a ∧ (K.lookup a).isNone = true then some (.frz o (.lst (ns.map V.int))) else none
section
variable {P : Program} {w : World} {K : PySem.W.Frag} {a : Addr} {s : Shared} {vs : List Value} {ns : List Int} {o : Obj}
theorem startH_at {b : Addr} {u : HO} (h : startH K a o ns b = some u) : b = a ∧ K.lookup a = none ∧ u = .frz o (.lst (ns.map V.int)) := by
  unfold startH at h
  split at h
  · rename_i c
    exact ⟨c.1, by simpa using c.2, (Option.some.inj h).symm⟩
  · cases h
theorem startH_seq (inK : K.In s.heap) (at_ : s.heap.get? a = some { cls := .type "list", data := .seq vs.toArray }) (iv : IntsAre vs ns) (le : ns.length ≤ sizeLine) : SqL K (startH K a { cls := .type "list", data := .seq vs.toArray } ns) a (ns.map V.int) := by
  have rel := vals_ints iv
  cases e : K.lookup a with
  | none => exact .inl (.inr ⟨_, by unfold startH; rw [if_pos ⟨rfl, by rw [e]; rfl⟩]⟩)
  | some u =>
    have e2 := inK a u e
    rw [at_] at e2
    cases e2
    exact .inr ⟨_, vs.toArray, _, e, rfl, rfl, rfl, by rw [List.size_toArray, iv.length]; exact le, by simpa using rel⟩
theorem startH_ok (at_ : s.heap.get? a = some { cls := .type "list", data := .seq vs.toArray }) (iv : IntsAre vs ns) (le : ns.length ≤ sizeLine) : HOk P w (startH K a { cls := .type "list", data := .seq vs.toArray } ns) s.heap := fun b u z => by
  obtain ⟨rfl, _, rfl⟩ := startH_at z
  exact ⟨at_, by rw [List.length_map]; exact le, vs, _, vals_ints iv, at_⟩
theorem startH_only : Only (startH K a o ns) := fun b => by
  cases e : startH K a o ns b with
  | none => exact .inl rfl
  | some u =>
    obtain ⟨_, _, rfl⟩ := startH_at e
    exact .inr ⟨_, _, rfl⟩
end
theorem law_callG {P : Program} {w : World} {K : PySem.W.Frag} {mg mb : Str → Option Value} {k : Nat} {fa a : Addr} {fd : FuncData} {x : Str} {sp : Sp} {s : Shared} {vs : List Value} {ns : List Int}
    (inK : K.In s.heap) (gl : s.heap.Ns mainGlobals mg) (bl : s.heap.Ns builtinsNs mb) (boot : ∀ x : Str, x ≠ "__name__" → mb x = bootBuiltins x) (lim : s.heap.NoLimit) (gens : s.gens = #[])
    (at_ : s.heap.get? a = some { cls := .type "list", data := .seq vs.toArray }) (iv : IntsAre vs ns) (le : ns.length ≤ sizeLine) (room : Room k callerA)
    (F : ∀ base : Heap, K.In base → base.Ns mainGlobals mg → FnOkG P w K mg base (L2.CX P w) k fa fd [x] sp) (bind : ∀ (s : Shared) (u : Value), BindsTo s fd ⟨[u], []⟩ [(x, u)])
    (keeps : ∀ H : Hp, Only H → SqL K H a (ns.map V.int) → sp [.ref a] H (fun v _ => v = .bl true) fun _ _ _ => False) :
    codeAny (model P w) callerA (.call (.ref fa) ⟨[.ref a], []⟩) (fun r s' => r = .ok (.ret (.bool true)) ∧ OldK s.heap s'.heap ∧ s'.os = s.os ∧ AllBare s'.gens) s := by
  obtain ⟨H, hH⟩ : ∃ H, startH K a { cls := .type "list", data := .seq vs.toArray } ns = H := ⟨_, rfl⟩
  have only : Only H := hH ▸ startH_only
  have seq : SqL K H a (ns.map V.int) := hH ▸ startH_seq inK at_ iv le
  have ok : HOk P w H s.heap := hH ▸ startH_ok at_ iv le
  have who : ∀ {b : Addr} {u : HO}, H b = some u → b = a ∧ K.lookup a = none := fun {b u} z => by
    rw [← hH] at z
    exact ⟨(startH_at z).1, (startH_at z).2.1⟩
  have free : ∀ {b : Addr}, (b = a → K.lookup a = none → False) → H b = none := fun {b} n => by
    cases z : H b with
    | none => rfl
    | some u => exact (n (who z).1 (who z).2).elim
  have nsB : ∀ {b : Addr} {m : Str → Option Value}, s.heap.Ns b m → (hidT s.heap H).Ns b m := fun {b m} got => by
    obtain ⟨o, es, ep, e, d, r⟩ := got
    refine ⟨o, es, ep, hidT_get e (free fun z _ => ?_), d, r⟩
    rw [z, at_] at e
    cases e
    cases d
  have inB : K.In (hidT s.heap H) := fun b o e => hidT_get (inK b o e) (free fun z n => by rw [z, n] at e; cases e)
  have mods : Mod K mg (hidT s.heap H) := ⟨inB, nsB gl, ⟨mb, nsB bl, boot⟩, by
    obtain ⟨mc, l1, l2⟩ := lim
    exact ⟨mc, nsB l1, l2⟩⟩
  have env : Env0 P w K mg (hidT s.heap H) callerA [] s H := ⟨rfl, mods, fun b o e => of_hidT e, Nat.le_of_eq (hidT_size _ _), trivial, fun b z => (by cases z), ok, .of_eq gens⟩
  refine codeAny_mono ((F _ inB (nsB gl)).run callerA [] s H ⟨[.ref a], []⟩ [.ref a] [.ref a] _ _ room rfl env (bind s (.ref a)) (.cons rfl .nil) (keeps H only seq)) fun r s' done => ?_
  cases r with
  | error e =>
    obtain ⟨_, _, _, _, _, _, _, _, _, _, _, _, z⟩ := done
    exact z.elim
  | ok fl =>
    cases fl with
    | next => exact done.elim
    | brk => exact done.elim
    | cont => exact done.elim
    | ret u =>
      obtain ⟨v, H2, os, bare, un, ok2, rel, isT⟩ := done
      have isT : v = .bl true := isT
      subst isT
      obtain rfl : u = Value.bool true := rel
      refine ⟨rfl, OldK.of_keep fun b o e => ?_, os, bare⟩
      cases z : H b with
      | none => exact un.keep b o e z (fun m => by cases m) (fun m => by cases m)
      | some u =>
        rcases only b with n | ⟨ob, xs, n⟩
        · rw [z] at n
          cases n
        · have e1 := (ok b _ n).1
          have e2 := (ok2 b _ (un.frzs b ob _ n)).1
          rw [e] at e1
          cases e1
          exact e2
theorem walk_ofG {l : PySem.W.OpenLaw} {n k : Nat} {q : Program} {loose : List Str} {XP : (Str → Option Value) → Heap → Prop} {YP : World → Heap → Prop} {d : DefRec} {K : Params → PySem.W.Frag} {sp : World → Sp} {x : Str}
    (most : l.most = some n) (line : n ≤ sizeLine) (plain : d.params.defaults = []) (room : Room k callerA) (inK : ∀ (w : World) (h : Heap), YP w h → (K w.params).In h)
    (F : ∀ (w : World) (mg : Str → Option Value) (fa : Addr) (h : Heap), (K w.params).In h → h.Ns mainGlobals mg → mg d.name = some (.ref fa) →
      ∃ fd : FuncData, (∀ (s : Shared) (u : Value), BindsTo s fd ⟨[u], []⟩ [(x, u)]) ∧ ∀ base : Heap, (K w.params).In base → base.Ns mainGlobals mg → FnOkG l.prog w (K w.params) mg base (L2.CX l.prog w) k fa fd [x] (sp w))
    (keeps : ∀ (w : World) (H : Hp) (a : Addr) (ns : List Int), ns.length ≤ n → (∀ z ∈ ns, Builtin.Int.intBits z ≤ 1048576) → Only H → SqL (K w.params) H a (ns.map V.int) → sp w [.ref a] H (fun v _ => v = .bl true) fun _ _ _ => False) :
    PySem.W.WalkO q loose XP YP l.row.toRowW d [] (fun f vs => PySem.call f vs) := by
  refine Att.attach_callB most plain fun w s0 s1 mg mb fa o pm cd doc a vs ns G Y _ _ _ name at_ iv len bits gens => ?_
  obtain ⟨fd, bind, ok⟩ := F w mg fa _ (inK w _ Y) G.T.g name
  exact law_callG (inK w _ Y) G.T.g G.T.b G.T.builtins G.T.nolimit gens at_ iv (Nat.le_trans len line) room ok bind fun H only seq => keeps w H a ns len bits only seq
end Den
/-! DenJ: set comprehensions of ints, sorted; all; reversed tuples; str of ints; sorted tuples of ints; isinstance(raised, (C, D, ..)). -/
namespace Den
open PySem PySem.Spec PyProof.Rows L2 PpSet
section
variable {X : Cx}
theorem addI_ok {pz : List (Addr × Obj)} {σ : L2.St} {H : Hp} {s : Shared} {E : Value → Shared → Prop} {D : Addr} {S : Int → Bool} {n : Nat} {y : Int} {tk : Tok} {Q : Value → Shared → Prop} (I : Inv X pz σ H s) (hD : H D = some (SetO X.w D S n)) (hr : n + 1 < scanBound)
    (h : ∀ s', Inv X pz σ (upd H D (SetO X.w D (fun j => S j || decide (j = y)) (if S y = true then n else n + 1))) s' → Q .none s') : wpAny (model X.prog X.w) X.A (call (.builtin "set.add") [.ref D, .int y tk]) Q E s :=
  setR_add (setO_get I hD) hr fun h' sb new => h _ (I.write (e := D) (t' := s.toks + 1) (by rw [hD]; trivial) (.inl rfl) (fun b u hb hu => (sb.2 b hb).trans hu) (by
    obtain ⟨o, _, _, _, ho, _⟩ := id new
    exact ⟨o, ho⟩) (setO_new new))

def tScI (w : World) (wI : TI) (g : TG) (tt : TT) (te : TE) (vs : List Nat) : TE := fun σ H Q => wI σ H fun J H1 => ∀ D, H1 D = none → ∃ W : Nat → Nat → Hp → Prop, (∃ m, W 0 m (upd H1 D (SetO w D (fun _ => false) 0))) ∧ ∀ i m H, W i m H →
  (J.stop i H ∧ Q (.ref D) H) ∨ (J.go i H ∧ ∃ Nx : Hp → Prop, (∀ H', Nx H' → ∃ m', m' < m ∧ W (i + 1) m' H') ∧ ∀ x H', J.yld i H x H' → g x (wipe σ vs) H' fun σ2 H2 => wipe σ2 vs = wipe σ vs ∧ tt σ2 H2 fun b H3 =>
    if b = true then te σ2 H3 fun y H4 => ∃ (c : Int) (S : Int → Bool) (n : Nat), y = .int c ∧ H4 D = some (SetO w D S n) ∧ n + 1 < scanBound ∧ Nx (upd H4 D (SetO w D (fun j => S j || decide (j = c)) (if S c = true then n else n + 1))) else Nx H3)
theorem scI_core {pz : List (Addr × Obj)} {s : Shared} {σ : L2.St} {H : Hp} {Q : VK} {el tgt itr : Expr} {fs : List Expr} {scp : Scope} {ow : List (PySem.Str × Nat)} {po pos' : Pos} {wI : TI} {g : TG} {tt : TT} {te : TE} {us1 : Option (Value → Sem Unit)} {Qz : Value → Shared → Prop}
    (hc : X.calm = true) (hN : X.N.Nodup) (I : Inv X pz σ H s) (hi : PI X tgt itr wI) (ok : BlkOk X.N X.env.scope scp ow)
    (hg : ∀ (s : Shared) (H : Hp) (C : Addr) (cl : List (PySem.Str × Addr)) (fq : List Addr), PG (X.blk s H scp (compEnvC scp cl C X.env) fq) tgt g) (ht : ∀ (s : Shared) (H : Hp) (C : Addr) (cl : List (PySem.Str × Addr)) (fq : List Addr), PTs (X.blk s H scp (compEnvC scp cl C X.env) fq) fs tt)
    (he : ∀ (s : Shared) (H : Hp) (C : Addr) (cl : List (PySem.Str × Addr)) (fq : List Addr), PE (X.blk s H scp (compEnvC scp cl C X.env) fq) el te) (hs : ∀ x, foldedSetIterable itr X.env x = pure x)
    (h : tScI X.w wI g tt te (ow.map (·.2)) σ H Q)
    (hRR : ∀ D C s' m H', Inv X pz σ H' s' → Q (.ref D) H' → s'.heap.Ns C m → FpOk X pz H' C → compPost (model X.prog X.w) X.A X.xe us1 Qz (.ref D) C (.ok .next) s') :
    wpAny (model X.prog X.w) X.A (comprehension (.SetComp el [⟨tgt, itr, fs, 0⟩] scp po) scp X.env pos' (newSet (.type "set")) false (eval itr X.env) us1) Qz X.xe s := by
  have hfr : ∀ y ∈ scp.names, y.2 = .free → ∃ c, X.env.cells.lookup y.1 = some c := fun y hy e => by
    rcases ok.free y hy e with k | k
    · exact I.ok.has _ (.inl k)
    · exact I.ok.has _ (.inr k)
  refine wpAny_comprehension_free (use := us1) rfl hs (closure_ok hfr) ok.kind (fun y hy e => by rw [ok.uniq y hy, e])
    (thn (hi.run pz s σ H _ I h) fun xv s1 hx => thn hx fun itv s2 h2 => ?_)
  obtain ⟨it, fq, tm, J, H2, e, I2, T, st2, f2, q⟩ := h2
  subst e
  refine newSet_ok (newEnv_comp ?_)
  generalize hD : s2.heap.objs.size = D
  have hDn : H2 D = none := I2.hok.fresh (Nat.le_of_eq hD)
  obtain ⟨W, ⟨m0, w0⟩, trn⟩ := q D hDn
  -- the set
  generalize hs3 : ({ s2 with heap := s2.heap.push { cls := .type "set", dict := none, data := .set #[] 0 (.fresh 0 0 (!X.w.params.followText "set-order")) } } : Shared) = s3
  have I3 : Inv X pz σ (upd H2 D (SetO X.w D (fun _ => false) 0)) s3 := by
    rw [← hs3]
    refine I2.laid (t' := s2.toks) (fun b o e => Heap.get?_push_of_some _ e) (Nat.le_of_eq hD) ?_
    rw [← hD]
    exact setO_new (setR_fresh X.w)
  have h3 : s3.heap = s2.heap.push { cls := .type "set", dict := none, data := .set #[] 0 (.fresh 0 0 (!X.w.params.followText "set-order")) } := by rw [← hs3]
  have sz : ∀ b ∈ fq, b < s2.heap.objs.size := fun b hb => by
    obtain ⟨o, e, _⟩ := T.obj _ _ st2 b hb
    exact Heap.lt_size e
  have f3 : ∀ b ∈ fq, FpOk X pz (upd H2 D (SetO X.w D (fun _ => false) 0)) b ∧ b < s3.heap.objs.size := fun b hb => by
    have hlt := sz b hb
    refine ⟨⟨?_, (f2 b hb).2⟩, by rw [h3, Heap.size_push]; exact Nat.lt_succ_of_lt hlt⟩
    rw [upd_ne (by rw [← hD]; exact Nat.ne_of_lt hlt)]
    exact (f2 b hb).1
  have st3 : tm 0 s3.heap := T.keep _ _ _ st2 fun b _ o e => by rw [h3]; exact Heap.get?_push_of_some _ e
  have I4 := block_start I3 ok hN f3
  have pg := hg s3 (upd H2 D (SetO X.w D (fun _ => false) 0)) s3.heap.objs.size (cellsFrom (s3.heap.objs.size + 1) scp.names (cloFrom X.env.cells scp.names [])) fq
  have pt := ht s3 (upd H2 D (SetO X.w D (fun _ => false) 0)) s3.heap.objs.size (cellsFrom (s3.heap.objs.size + 1) scp.names (cloFrom X.env.cells scp.names [])) fq
  have pe := he s3 (upd H2 D (SetO X.w D (fun _ => false) 0)) s3.heap.objs.size (cellsFrom (s3.heap.objs.size + 1) scp.names (cloFrom X.env.cells scp.names [])) fq
  show codeAny _ _ (.compStart (.SetComp el [⟨tgt, itr, fs, 0⟩] scp po) 0 (.ref it) (.ref D) (compEnvC scp (cellsFrom (s3.heap.objs.size + 1) scp.names (cloFrom X.env.cells scp.names [])) s3.heap.objs.size X.env)) (compPost (model X.prog X.w) X.A X.xe us1 Qz (.ref D) s3.heap.objs.size) { s3 with heap := pushCells (s3.heap.push { cls := .type "dict", data := .dict #[] }) scp.names }
  have nfq : ∀ b ∈ fq, (upd H2 D (SetO X.w D (fun _ => false) 0)) b = none := fun b hb => (f3 b hb).1.1
  generalize hce : compEnvC scp (cellsFrom (s3.heap.objs.size + 1) scp.names (cloFrom X.env.cells scp.names [])) s3.heap.objs.size X.env = ce at I4 pg pt pe ⊢
  have cL : ce.locals = s3.heap.objs.size := by subst hce; rfl
  generalize hH3 : upd H2 D (SetO X.w D (fun _ => false) 0) = H3 at I3 I4 pg pt pe w0 nfq f3
  generalize hs4 : ({ s3 with heap := pushCells (s3.heap.push { cls := .type "dict", data := .dict #[] }) scp.names } : Shared) = s4 at I4 ⊢
  have st4 : tm 0 s4.heap := T.keep _ _ _ st3 fun b _ o e => by rw [← hs4]; exact pushCells_keeps _ _ _ _ (Heap.get?_push_of_some _ e)
  have stt : ∀ {σ' : L2.St} {H' : Hp} {s' : Shared}, Inv (X.blk s3 H3 scp ce fq) [] σ' H' s' → (∀ b ∈ fq, H' b = none) → ∀ b ∈ fq, FpOk (X.blk s3 H3 scp ce fq) [] H' b := fun {σ' H' s'} I' hn b hb =>
    ⟨hn b hb, (I'.ok.exf b hb).1, I'.ok.exfs b hb, .inl hb, fun x c e => (I'.ok.exf b hb).2 x c e, fun p hp => absurd (show p ∈ ([] : List (Addr × Obj)) ++ [] from hp) (by simp)⟩
  have lop : codeAny (model X.prog X.w) X.A (.compLoop (.SetComp el [⟨tgt, itr, fs, 0⟩] scp po) 0 (.ref it) (.ref D) ce) (compPost (model X.prog X.w) X.A X.xe us1 Qz (.ref D) s3.heap.objs.size) s4 := by
    refine compLoopS_any (fun n s' => ∃ i H', Inv (X.blk s3 H3 scp ce fq) [] (wipe σ (ow.map (·.2))) H' s' ∧ tm i s'.heap ∧ (∀ b ∈ fq, H' b = none) ∧ W i n H') ?_ m0 ⟨0, H3, I4, st4, nfq, w0⟩
    rintro n s5 ⟨i, H5, I5, st5, n5, w5⟩
    rcases trn i n H5 w5 with ⟨sto, qq⟩ | ⟨goo, Nx, hNx, stp⟩
    · have td := T.done (X.blk s3 H3 scp ce fq) rfl rfl rfl hc i [] s5 _ H5 (fun _ _ => False) I5 (stt I5 n5) st5 sto
      refine thnF td fun r s6 ⟨hr, I6⟩ => ?_
      subst hr
      
      have I7 : Inv X pz σ H5 s6 := I3.call' (ch := fq) I6.os I6.base I6.hok I6.bare fun b hb => ⟨(f3 b hb).1.2.2.2.1, (f3 b hb).1.2.1, (f3 b hb).1.2.2.2.2.1, (f3 b hb).1.2.2.2.2.2⟩
      have nC : H5 s3.heap.objs.size = none := by
        have z : H5 ce.locals = none := I6.free
        rw [cL] at z
        exact z
      obtain ⟨m, hn, _⟩ := I6.loc
      have hn : s6.heap.Ns ce.locals m := hn
      rw [cL] at hn
      exact hRR D s3.heap.objs.size s6 m H5 I7 qq hn (I3.fpOk (Nat.le_refl _) nC)
    · have ti := T.item (X.blk s3 H3 scp ce fq) rfl rfl rfl hc i [] s5 _ H5 (fun _ _ => False) I5 (stt I5 n5) st5 goo
      refine thnF ti fun r s6 ⟨u, hr, h6⟩ => ?_
      subst hr
      refine thnF h6 fun _ s7 ⟨x, H7, I7, r7, y7, st7, n7⟩ => ?_
      have I7' := I7.pinned (stt I7 n7) (T.obj _ _ st7)
      refine thnF (pg.run _ s7 _ H7 x u _ I7' r7 (stp x H7 y7)) fun _ s8 ⟨σ8, H8, I8, hw8, q8⟩ => ?_
      refine thnF (pt.run _ s8 σ8 H8 _ I8 q8) fun b s9 ⟨H9, I9, q9⟩ => ?_
      
      have fn1 : ∀ {s' : Shared} {H' : Hp}, Inv (X.blk s3 H3 scp ce fq) ([] ++ pinsAt fq s7.heap) σ8 H' s' → Nx H' → ∃ m, m < n ∧ ∃ i H', Inv (X.blk s3 H3 scp ce fq) [] (wipe σ (ow.map (·.2))) H' s' ∧ tm i s'.heap ∧ (∀ b ∈ fq, H' b = none) ∧ W i m H' := fun {s' H'} I' nx => by
        obtain ⟨m', hm, w'⟩ := hNx H' nx
        have pin' : ∀ b ∈ fq, ∀ o, s7.heap.get? b = some o → s'.heap.get? b = some o ∧ H' b = none := fun b hb o e =>
          let z := I'.pin (b, o) (List.mem_append_right _ (List.mem_append_right _ (mem_pinsAt hb e)))
          ⟨z.1, z.2.1⟩
        have hl : (wipe σ (ow.map (·.2))).length = σ8.length := by rw [← hw8, wipe_length]
        refine ⟨m', hm, i + 1, H', (I'.unpinned (pins := [])).weak hl (fun j v e => ?_), T.keep _ _ _ st7 fun b hb o e => (pin' b hb o e).1, fun b hb => ?_, w'⟩
        · rw [← hw8] at e
          exact (wipe_some e).1
        · obtain ⟨o, e, _⟩ := T.obj _ _ st7 b hb
          exact (pin' b hb o e).2
      cases b with
      | false =>
        simp only [Bool.false_eq_true, if_false] at q9 ⊢
        exact fn1 I9 q9
      | true =>
        simp only [if_true] at q9 ⊢
        refine thnF (pe.run _ s9 σ8 H9 _ I9 q9) fun z s10 ⟨yv, H10, I10, r10, cb, S0, n0, ey, hD10, hz10, nx⟩ => ?_
        subst ey
        obtain ⟨tkz, rfl⟩ := r10
        exact addI_ok (X := X.blk s3 H3 scp ce fq) I10 hD10 hz10 fun s11 I11 => fn1 I11 nx
  exact codeAny_compStart_set lop (T.self X.A 0 _ _ _ st4 lop)
theorem pe_scI {el tgt itr : Expr} {fs : List Expr} {scp : Scope} {ow : List (PySem.Str × Nat)} {po : Pos} {wI : TI} {g : TG} {tt : TT} {te : TE} (hc : X.calm = true) (hN : X.N.Nodup) (hi : PI X tgt itr wI) (ok : BlkOk X.N X.env.scope scp ow)
    (hg : ∀ (s : Shared) (H : Hp) (C : Addr) (cl : List (PySem.Str × Addr)) (fq : List Addr), PG (X.blk s H scp (compEnvC scp cl C X.env) fq) tgt g) (ht : ∀ (s : Shared) (H : Hp) (C : Addr) (cl : List (PySem.Str × Addr)) (fq : List Addr), PTs (X.blk s H scp (compEnvC scp cl C X.env) fq) fs tt)
    (he : ∀ (s : Shared) (H : Hp) (C : Addr) (cl : List (PySem.Str × Addr)) (fq : List Addr), PE (X.blk s H scp (compEnvC scp cl C X.env) fq) el te) (hs : ∀ x, foldedSetIterable itr X.env x = pure x := by intro _; rfl) :
    PE X (.SetComp el [⟨tgt, itr, fs, 0⟩] scp po) (tScI X.w wI g tt te (ow.map (·.2))) := by
  refine ⟨fun pz s σ H Q I h => ?_⟩
  rw [eval_SetComp]
  refine scI_core hc hN I hi ok hg ht he hs h fun D C s' m H' I' q hn f => ⟨m, hn, fun h'' sb => ?_⟩
  obtain ⟨f0, f1, f2, f3, f4, f5⟩ := f
  exact ⟨.ref D, H', I'.turned (t' := s'.toks) (fun b o hb e => (sb.2 b hb).trans e) f0 f1 f3 f4 f5, rfl, q⟩
end
/-! ### sorted({e for x in it if c}) -/
def usrt (l : List Int) : List Int := (srtI l).foldr (fun x r => match r with | [] => [x] | y :: _ => if x = y then r else x :: r) []
theorem usrt_aux : ∀ l : List Int, l.Pairwise (· ≤ ·) → (l.foldr (fun x r => match r with | [] => [x] | y :: _ => if x = y then r else x :: r) ([] : List Int)).Pairwise (· < ·) ∧ ∀ k, k ∈ l.foldr (fun x r => match r with | [] => [x] | y :: _ => if x = y then r else x :: r) ([] : List Int) ↔ k ∈ l
  | [], _ => ⟨List.Pairwise.nil, fun k => Iff.rfl⟩
  | x :: l, h => by
    obtain ⟨h1, h2⟩ := List.pairwise_cons.mp h
    obtain ⟨i1, i2⟩ := usrt_aux l h2
    rw [List.foldr_cons]
    generalize (l.foldr (fun x r => match r with | [] => [x] | y :: _ => if x = y then r else x :: r) ([] : List Int)) = r at i1 i2
    cases r with
    | nil =>
      refine ⟨by simp, fun k => ?_⟩
      have : ∀ k, k ∉ l := fun k hk => by
        have := (i2 k).mpr hk
        cases this
      constructor
      · intro hk
        rw [List.mem_singleton.mp hk]
        exact List.mem_cons_self
      · intro hk
        rcases List.mem_cons.mp hk with rfl | hk
        · exact List.mem_cons_self
        · exact absurd hk (this k)
    | cons y r =>
      show (if x = y then y :: r else x :: y :: r).Pairwise (· < ·) ∧ ∀ k, k ∈ (if x = y then y :: r else x :: y :: r) ↔ k ∈ x :: l
      have hy : y ∈ l := (i2 y).mp List.mem_cons_self
      by_cases e : x = y
      · rw [if_pos e]
        refine ⟨i1, fun k => ?_⟩
        rw [i2 k]
        subst e
        constructor
        · exact List.mem_cons_of_mem _
        · intro hk
          rcases List.mem_cons.mp hk with rfl | hk
          · exact hy
          · exact hk
      · rw [if_neg e]
        refine ⟨List.pairwise_cons.mpr ⟨fun z hz => ?_, i1⟩, fun k => ?_⟩
        · have := h1 y hy
          have h3 := List.pairwise_cons.mp i1
          rcases List.mem_cons.mp hz with rfl | hz
          · omega
          · have := h3.1 z hz
            omega
        · constructor
          · intro hk
            rcases List.mem_cons.mp hk with rfl | hk
            · exact List.mem_cons_self
            · exact List.mem_cons_of_mem _ ((i2 k).mp hk)
          · intro hk
            rcases List.mem_cons.mp hk with rfl | hk
            · exact List.mem_cons_self
            · exact List.mem_cons_of_mem _ ((i2 k).mpr hk)
theorem usrt_lt (l : List Int) : (usrt l).Pairwise (· < ·) := (usrt_aux _ (srtI_pair l)).1
theorem usrt_mem {l : List Int} {k : Int} : k ∈ usrt l ↔ k ∈ l := ((usrt_aux _ (srtI_pair l)).2 k).trans (srtI_perm l).mem_iff
theorem lt_ext : ∀ {l m : List Int}, l.Pairwise (· < ·) → m.Pairwise (· < ·) → (∀ k, k ∈ l ↔ k ∈ m) → l = m
  | [], [], _, _, _ => rfl
  | [], y :: m, _, _, h => by have := (h y).mpr List.mem_cons_self; cases this
  | x :: l, [], _, _, h => by have := (h x).mp List.mem_cons_self; cases this
  | x :: l, y :: m, hl, hm, h => by
    obtain ⟨l1, l2⟩ := List.pairwise_cons.mp hl
    obtain ⟨m1, m2⟩ := List.pairwise_cons.mp hm
    have e : x = y := by
      rcases List.mem_cons.mp ((h x).mp List.mem_cons_self) with e | e
      · exact e
      · rcases List.mem_cons.mp ((h y).mpr List.mem_cons_self) with f | f
        · exact f.symm
        · have := m1 x e
          have := l1 y f
          omega
    subst e
    rw [lt_ext l2 m2 fun k => ?_]
    constructor
    · intro hk
      rcases List.mem_cons.mp ((h k).mp (List.mem_cons_of_mem _ hk)) with rfl | e
      · exact absurd (l1 k hk) (by omega)
      · exact e
    · intro hk
      rcases List.mem_cons.mp ((h k).mpr (List.mem_cons_of_mem _ hk)) with rfl | e
      · exact absurd (m1 k hk) (by omega)
      · exact e
def vUsort (a : AV) (S : AS) : VR := match a with
  | .d (.list l) => match ints? l with
    | some ns => if ns.length < 64 then some (.own ((usrt ns).map PyData.int), S) else none
    | none => none
  | _ => none
def dSortSet (it : It1) (p : Pat) (ct ce : Dn) (vs : List Nat) : Dn := fun σ S => (dLc it p ct ce vs σ S).bind fun a S1 => liftV (vUsort a S1)
theorem lcGo_acc (p : Pat) (ct ce : Dn) (σ : ASt) : ∀ (l : List D) (S : AS) (acc : List D), (∃ more S', lcGo p ct ce σ l S acc = .ok (.own (acc ++ more)) S') ∨ lcGo p ct ce σ l S acc = .stuck
  | [], S, acc => .inl ⟨[], S, by rw [List.append_nil]; rfl⟩
  | x :: r, S, acc => by
    unfold lcGo
    cases bindP S p (.d x) σ with
    | none => exact .inr rfl
    | some σ1 =>
      dsimp only
      split
      · split
        · split
          · split
            · rcases lcGo_acc p ct ce σ r _ (acc ++ [_]) with ⟨more, S', e⟩ | e
              · exact .inl ⟨_, S', by rw [e, List.append_assoc]⟩
              · exact .inr e
            · exact .inr rfl
          · exact .inr rfl
        · exact .inr rfl
      · exact lcGo_acc p ct ce σ r _ acc
      · exact .inr rfl
theorem ints?_app : ∀ {l m : List D} {ns : List Int}, ints? (l ++ m) = some ns → ∃ ks js, ints? l = some ks ∧ ints? m = some js ∧ ns = ks ++ js
  | [], m, ns, h => ⟨[], ns, rfl, h, rfl⟩
  | x :: l, m, ns, h => by
    have e := ints?_ok h
    rw [List.cons_append] at e
    cases ns with
    | nil => cases e
    | cons n ns =>
      rw [List.map_cons, List.cons.injEq] at e
      obtain ⟨rfl, e⟩ := e
      obtain ⟨ks, js, e1, e2, e3⟩ := ints?_app (l := l) (m := m) (ns := ns) (by rw [e]; exact ints?_map ns)
      have el := ints?_ok e1
      subst el
      exact ⟨n :: ks, js, ints?_map (n :: ks), e2, by rw [e3]; rfl⟩
/-- where the end is reached, what is held so far are fewer than 64 ints -/
theorem acc_ints {p : Pat} {ct ce : Dn} {σ0 : ASt} {l acc : List D} {S : AS} {Z : Zp} {W : WX} {σ : L2.St} {F : Hp} {ρ : Rh} {Q : VK} (h : EPost Z W σ F ρ Q ((lcGo p ct ce σ0 l S acc).bind fun a S1 => liftV (vUsort a S1))) : ∃ ns : List Int, acc = ns.map PyData.int ∧ ns.length < 64 := by
  rcases lcGo_acc p ct ce σ0 l S acc with ⟨more, S', e⟩ | e
  · rw [e] at h
    have h : EPost Z W σ F ρ Q (liftV (vUsort (.d (.list (acc ++ more))) S')) := h
    unfold vUsort at h
    dsimp only at h
    cases e2 : ints? (acc ++ more) with
    | none => rw [e2] at h; exact h.elim
    | some ns =>
      obtain ⟨ks, js, e3, e4, e5⟩ := ints?_app e2
      rw [e2] at h
      dsimp only at h
      by_cases c : ns.length < 64
      · subst e5
        rw [List.length_append] at c
        exact ⟨ks, ints?_ok e3, by omega⟩
      · rw [if_neg c] at h
        exact h.elim
  · rw [e] at h
    exact h.elim
theorem setO_inj {w : World} {D : Addr} {S : Int → Bool} {n : Nat} {o : HO} (h : o = SetO w D S n) : o = SetO w D S n := h
theorem wipe_twice (us : List Nat) (τ : L2.St) : wipe (wipe τ us) us = wipe τ us := by
  have key : ∀ (as : List Nat), (∀ i ∈ as, i ∈ us) → wipe (wipe τ us) as = wipe τ us := by
    intro as
    induction as with
    | nil => intro _; rfl
    | cons a as ih =>
      intro h
      show (wipe (wipe τ us) as).set a none = wipe τ us
      rw [ih fun i hi => h i (List.mem_cons_of_mem _ hi)]
      apply List.ext_getElem?
      intro j
      by_cases hj : a = j
      · subst hj
        have ha := h a List.mem_cons_self
        by_cases hl : a < (wipe τ us).length
        · rw [List.getElem?_set_self hl]
          cases hz : (wipe τ us)[a]? with
          | none => rw [List.getElem?_eq_none_iff] at hz; omega
          | some z =>
            cases z with
            | none => rfl
            | some z => exact absurd ha (wipe_some hz).2
        · rw [List.getElem?_eq_none (by rw [List.length_set]; omega), List.getElem?_eq_none (by omega)]
      · rw [List.getElem?_set_ne hj]
  exact key us fun _ h => h
theorem scan64 : 64 < scanBound := by decide
theorem set_imp {w : World} {Z : Zp} {W : WX} {it : It1} {p : Pat} {ct ce : Dn} {vs : List Nat} {σ : L2.St} {H : Hp} {Q : VK} (hv : ∀ i ∈ p.slots, i ∈ vs) (h : tE Z W (dSortSet it p ct ce vs) σ H Q) :
    tScI w (tI Z W it) (tG Z p) (tT Z W0 ct) (tE Z W0 ce) vs σ H fun x H1 => rSortedSet w [x] H1 Q := by
  obtain ⟨F, ρ, S, aσ, rs, st, q⟩ := h
  refine ⟨F, ρ, S, aσ, rs, st, ?_⟩
  unfold dSortSet dLc at q
  cases e : it aσ S with
  | err x S1 => rw [e] at q; exact q
  | stuck => rw [e] at q; exact q
  | ok items S1 =>
    rw [e] at q
    intro F' ρ' H' J t rs' hJ D hD
    have st' := (st.mono t).wipe vs
    have G0 : ρ'.G D = none := rs'.gfree hD
    have rs0 : RS Z.K F' ⟨ρ'.l, upd ρ'.G D (SetO w D (fun _ => false) 0)⟩ S1 (upd H' D (SetO w D (fun _ => false) 0)) := (rs'.newH hD).pinUp upd_same (rs'.fresh hD) (rs'.notin hD)
    refine ⟨fun i m H => ∃ (F2 : Hp) (l2 : List Addr) (S2 : AS) (ns : List Int) (Sf : Int → Bool) (n : Nat), Tr F' ρ' F2 ⟨l2, ρ'.G⟩ ∧ RS Z.K F2 ⟨l2, upd ρ'.G D (SetO w D Sf n)⟩ S2 H ∧ (∀ j, Sf j = decide (j ∈ ns)) ∧ n ≤ ns.length ∧ i ≤ items.length ∧ m = items.length - i ∧ EPost Z W σ F2 ⟨l2, ρ'.G⟩ Q ((lcGo p ct ce (wipeA aσ vs) (items.drop i) S2 (ns.map PyData.int)).bind fun a S1 => liftV (vUsort a S1)),
      ⟨items.length, F', ρ'.l, S1, [], _, _, Tr.refl, rs0, fun j => by simp, Nat.le_refl _, Nat.zero_le _, rfl, EPost.tr t q⟩, ?_⟩
    rintro i m H1 ⟨F2, l2, S2, ns, Sf, n, t2, rs2, hS, hn, hi, rfl, q2⟩
    have hJ2 := hJ.mono t2.same
    by_cases hlt : i < items.length
    · have ei : items[i]? = some items[i] := List.getElem?_eq_getElem hlt
      rw [show items.drop i = items[i] :: items.drop (i + 1) from List.drop_eq_getElem_cons hlt] at q2
      refine .inr ⟨hJ2.go i H1 _ rs2.sub ei, fun H' => ∃ m', m' < items.length - i ∧ ∃ (F2 : Hp) (l2 : List Addr) (S2 : AS) (ns : List Int) (Sf : Int → Bool) (n : Nat), Tr F' ρ' F2 ⟨l2, ρ'.G⟩ ∧ RS Z.K F2 ⟨l2, upd ρ'.G D (SetO w D Sf n)⟩ S2 H' ∧ (∀ j, Sf j = decide (j ∈ ns)) ∧ n ≤ ns.length ∧ i + 1 ≤ items.length ∧ m' = items.length - (i + 1) ∧ EPost Z W σ F2 ⟨l2, ρ'.G⟩ Q ((lcGo p ct ce (wipeA aσ vs) (items.drop (i + 1)) S2 (ns.map PyData.int)).bind fun a S1 => liftV (vUsort a S1)),
        fun H' h => h, fun v H3 hy => ?_⟩
      unfold lcGo at q2
      cases e2 : bindP S2 p (.d items[i]) (wipeA aσ vs) with
      | none => simp only [e2] at q2; exact q2.elim
      | some σ2 =>
        simp only [e2] at q2
        have key : ∃ F3, Same F2 F3 ∧ RS Z.K F3 ⟨l2, upd ρ'.G D (SetO w D Sf n)⟩ S2 H3 ∧ Dp Z.K F3 v items[i] := by
          rcases hJ2.yld i H1 _ v H3 rs2.sub ei hy with ⟨rfl, h2⟩ | ⟨p, ws, l, h1, rfl, rfl, h4, h5⟩
          · exact ⟨F2, Same.refl F2, rs2, h2⟩
          · rw [h4]
            exact ⟨_, same_upd (rs2.fresh h1), rs2.newF h1, .tup (SqT.of upd_same) (dpA_mono (same_upd (rs2.fresh h1)) _ _ h5)⟩
        obtain ⟨F3, s3, rs3, dv⟩ := key
        have q3 := EPost.tr (ρ1 := ⟨l2, ρ'.G⟩) (Tr.sam s3) q2
        have t3 : Tr F' ρ' F3 ⟨l2, ρ'.G⟩ := t2.trans (Tr.sam s3)
        have st3 : RSt Z F3 ⟨l2, upd ρ'.G D (SetO w D Sf n)⟩ (wipeA aσ vs) (wipe σ vs) := st'.mono ⟨t3.same, t3.pre, rfl⟩ |> fun z => ⟨z.len, fun j a e => by
          obtain ⟨w, h1, h2⟩ := z.at_ j a e
          refine ⟨w, h1, ?_⟩
          cases a with
          | d x => exact h2
          | ref n => exact h2
          | own l => exact h2
          | exc x => exact h2⟩
        refine ⟨F3, ⟨l2, upd ρ'.G D (SetO w D Sf n)⟩, S2, .d items[i], wipeA aσ vs, σ2, rs3, st3, dv, e2, fun σ' st4 ww => ⟨(ww vs hv).trans (wipe_twice vs σ), ?_⟩⟩
        refine ⟨F3, ⟨l2, upd ρ'.G D (SetO w D Sf n)⟩, S2, σ2, rs3, st4, ?_⟩
        cases e3 : ct σ2 S2 with
        | err x S3 => simp only [e3] at q3; exact q3.elim
        | stuck => simp only [e3] at q3; exact q3.elim
        | ok b S3 =>
          simp only [e3] at q3
          intro F4 ρ4 H4 vb t4 rs4 rb
          have g4 : ρ4 = ⟨ρ4.l, upd ρ'.G D (SetO w D Sf n)⟩ := by
            have gg : ρ4.G = upd ρ'.G D (SetO w D Sf n) := t4.g
            rw [← gg]
          have t34 : Tr F3 ⟨l2, ρ'.G⟩ F4 ⟨ρ4.l, ρ'.G⟩ := ⟨t4.same, t4.pre, rfl⟩
          split at q3
          · rename_i b1 S31 e4
            cases e4
            cases dbool (show Dp Z.K F4 vb _ from rb)
            refine ⟨true, rfl, iteT ?_⟩
            refine ⟨F4, ρ4, S3, σ2, rs4, st4.mono t4, ?_⟩
            cases e5 : ce σ2 S3 with
            | err x S5 => simp only [e5] at q3; exact q3.elim
            | stuck => simp only [e5] at q3; exact q3.elim
            | ok a S5 =>
              simp only [e5] at q3
              intro F5 ρ5 H5 vy t5 rs5 ry
              obtain ⟨F6, s6, rs6, rv6⟩ := fzW rs5 ry
              cases e6 : frzD S5 a.fz with
              | none => simp only [e6] at q3; exact q3.elim
              | some yy =>
                obtain ⟨y, S6⟩ := yy
                obtain ⟨F7, s7, rs7, dy⟩ := frzD_ok rs6 rv6 e6
                simp only [e6] at q3
                by_cases cc : (ns.map PyData.int).length < cap
                · rw [if_pos cc] at q3
                  have g5 : ρ5.G = upd ρ'.G D (SetO w D Sf n) := t5.g.trans t4.g
                  have eD : ρ5.G D = some (SetO w D Sf n) := by rw [g5, upd_same]
                  have t47 : Tr F3 ⟨l2, ρ'.G⟩ F7 ⟨ρ5.l, ρ'.G⟩ := ⟨((t4.same.trans t5.same).trans s6).trans s7, t4.pre.trans t5.pre, rfl⟩
                  obtain ⟨ms, em, lm⟩ := acc_ints q3
                  obtain ⟨ks, js, ek, ej, ekj⟩ := ints?_app (l := ns.map PyData.int) (m := [y]) (ns := ms) (by rw [em]; exact ints?_map ms)
                  rw [ints?_map] at ek
                  cases ek
                  have ey := ints?_ok ej
                  cases js with
                  | nil => cases ey
                  | cons k js =>
                    rw [List.map_cons, List.cons.injEq] at ey
                    obtain ⟨rfl, ey⟩ := ey
                    cases js with
                    | cons k2 js => cases ey
                    | nil =>
                      subst ekj
                      rw [List.length_append, List.length_singleton] at lm
                      cases dint dy
                      refine ⟨k, Sf, n, rfl, (rs7.pin D _ eD).1, by have := scan64; omega, _, by omega, F7, ρ5.l, S6, ns ++ [k], fun j => Sf j || decide (j = k), if Sf k = true then n else n + 1, t3.trans t47, ?_, fun j => ?_, ?_, hlt, rfl, ?_⟩
                      · have r := rs7.pinSet eD (SetO w D (fun j => Sf j || decide (j = k)) (if Sf k = true then n else n + 1))
                        have eg : upd ρ5.G D (SetO w D (fun j => Sf j || decide (j = k)) (if Sf k = true then n else n + 1)) = upd ρ'.G D (SetO w D (fun j => Sf j || decide (j = k)) (if Sf k = true then n else n + 1)) := by
                          rw [g5]
                          funext b
                          by_cases hb : b = D
                          · subst hb; rw [upd_same, upd_same]
                          · rw [upd_ne hb, upd_ne hb, upd_ne hb]
                        rw [eg] at r
                        exact r
                      · show (Sf j || decide (j = k)) = _
                        rw [hS j]
                        simp
                      · rw [List.length_append, List.length_singleton]
                        split <;> omega
                      · have q4 := EPost.tr t47 q3
                        rw [em] at q4
                        exact q4
                · rw [if_neg cc] at q3
                  exact q3.elim
          · rename_i b1 S31 e4
            cases e4
            cases dbool (show Dp Z.K F4 vb _ from rb)
            refine ⟨false, rfl, iteF ?_⟩
            rw [g4] at rs4
            exact ⟨_, by omega, F4, ρ4.l, S3, ns, Sf, n, t3.trans t34, rs4, hS, hn, hlt, rfl, EPost.tr t34 q3⟩
          · exact q3.elim
    · have ee : i = items.length := by omega
      subst ee
      rw [List.drop_length] at q2
      have eD : H1 D = some (SetO w D Sf n) ∧ F2 D = none ∧ D ∉ l2 := rs2.pin D _ upd_same
      have rsU : RS Z.K F2 ⟨l2, ρ'.G⟩ S2 H1 := rs2.unpin (G := ρ'.G) fun b o e => by
        show upd ρ'.G D (SetO w D Sf n) b = some o
        rw [upd_ne (fun z : b = D => by rw [z, G0] at e; cases e)]
        exact e
      obtain ⟨ms, em, lm⟩ := acc_ints q2
      have em2 : ms = ns := by
        have := ints?_map ms
        rw [← em, ints?_map] at this
        exact (Option.some.inj this).symm
      subst em2
      have q4 : EPost Z W σ F2 ⟨l2, ρ'.G⟩ Q (liftV (match ints? (ms.map PyData.int) with | some ns => if ns.length < 64 then some (.own ((usrt ns).map PyData.int), S2) else none | none => none)) := q2
      rw [ints?_map] at q4
      dsimp only at q4
      rw [if_pos lm] at q4
      refine .inl ⟨hJ2.stop H1 rs2.sub, D, Sf, n, rfl, eD.1, by omega, fun ks pp hp hk hl hq => ?_⟩
      have ek : ks = usrt ms := lt_ext hp (usrt_lt ms) fun k => by
        rw [hk k, hS k, usrt_mem, decide_eq_true_iff]
      subst ek
      exact VPost.own (VPost.of q4) rsU (dpA_of_ints _) pp hq
theorem rSS_one {w : World} {Q : VK} {v : V} {H : Hp} (h : rSortedSet w [v] H Q) : rSortedSet w [v] H Q := h
section
variable {X : Cx} {ex : Option (Addr × Value × Option Addr)} {W : WX} {pos : Pos}
theorem qSortSet {el tgt itr : Expr} {fs : List Expr} {scp : Scope} {ow : List (Str × Nat)} {it : It1} {p : Pat} {ct ce : Dn} {p1 p2 : Pos} (hm : X.mg "sorted" = none) (hN : X.N.Nodup) (hi : PI X tgt itr (tI (zp X ex) W it)) (ok : BlkOk X.N X.env.scope scp ow)
    (hg : InBlk X scp fun Y => PG Y tgt (tG (zp X ex) p)) (ht : InBlk X scp fun Y => PTs Y fs (tT (zp X ex) W0 ct)) (he : InBlk X scp fun Y => PE Y el (tE (zp X ex) W0 ce)) (hc : X.calm = true := by rfl) (hgl : Gl X "sorted" := by rfl) (hs : ∀ x, foldedSetIterable itr X.env x = pure x := by intro _; rfl) (hv : ∀ i ∈ p.slots, i ∈ ow.map (·.2) := by decide)
    (h1 : starEach [.SetComp el [⟨tgt, itr, fs, 0⟩] scp p2] X.env = (false, eval (.SetComp el [⟨tgt, itr, fs, 0⟩] scp p2) X.env) :: starEach [] X.env := by rfl) :
    PE X (.Call (.Name "sorted" p1) [.SetComp el [⟨tgt, itr, fs, 0⟩] scp p2] [] pos) (tE (zp X ex) W (dSortSet it p ct ce (ow.map (·.2)))) :=
  (pe_callB (cr_sortedSet hc) hgl hm (by decide +kernel) (pa_cons (pe_scI hc hN hi ok hg ht he hs) pa_nil h1) (by decide) (by decide) h1 rfl).impD fun σ H Q h => (set_imp hv h)
end
/-! ### all([..]) -/
def bools? : List D → Option (List Bool)
  | [] => some []
  | .bool b :: r => (bools? r).map (b :: ·)
  | _ :: _ => none
theorem bools?_ok : ∀ {l : List D} {bs : List Bool}, bools? l = some bs → l = bs.map PyData.bool
  | [], _, h => by cases Option.some.inj h; rfl
  | x :: r, bs, h => by
    cases x with
    | bool b =>
      have h : (bools? r).map (b :: ·) = some bs := h
      cases e : bools? r with
      | none => rw [e] at h; cases h
      | some cs =>
        rw [e] at h
        cases Option.some.inj h
        rw [bools?_ok e]
        rfl
    | _ => cases h
theorem bools?_map : ∀ bs : List Bool, bools? (bs.map PyData.bool) = some bs
  | [] => rfl
  | b :: bs => by
    show (bools? (bs.map PyData.bool)).map (b :: ·) = _
    rw [bools?_map bs]
    rfl
theorem dpA_bools {K : PySem.W.Frag} {F : Hp} : ∀ {bs : List Bool} {vs : List V}, DpAll K F vs (bs.map PyData.bool) → vs = bs.map V.bl
  | [], _, h => by cases h; rfl
  | n :: ns, _, h => by
    cases h with
    | cons h1 h2 =>
      cases h1
      rw [dpA_bools h2]
      rfl
def vAll (as : List AV) (S : AS) : VR := match as with
  | [a] => match rdSeq S a with
    | some (true, l) => match bools? l with
      | some bs => some (.d (.bool (bs.all id)), S)
      | none => none
    | _ => none
  | _ => none
section
variable {X : Cx} {ex : Option (Addr × Value × Option Addr)} {W : WX} {pos : Pos}
theorem vAll_ok (hc : X.calm = true) : CallR X (.builtin "all") (rC (zp X ex) vAll) := by
  intro pins s σ H xs us Q I r h
  obtain ⟨F, ρ, S, as, rs, ra, h⟩ := h
  unfold vAll at h
  split at h
  · obtain ⟨v, rfl, rv⟩ := ra.one
    split at h
    · rename_i l e
      split at h
      · rename_i bs e2
        obtain ⟨p, vs, rfl, k, L, T⟩ := rdSeq_F (Z := zp X ex) rs rv e
        have el := bools?_ok e2
        subst el
        have ev := dpA_bools k
        subst ev
        exact cr_all hc pins s σ H _ us Q I r ⟨p, bs, rfl, L rfl, VPost.dat h rs (.bl _)⟩
      · exact h.elim
    · exact h.elim
  · exact h.elim
/-! ### str(int) -/
def vStrI (as : List AV) (S : AS) : VR := match as with
  | [.d (.int i)] => if i.natAbs.log2 < 1920 then some (.d (.str (toString i)), S) else none
  | _ => none
theorem vStrI_ok : CallR X (.type "str") (rC (zp X ex) vStrI) := by
  intro pins s σ H xs us Q I r h
  obtain ⟨F, ρ, S, as, rs, ra, h⟩ := h
  unfold vStrI at h
  split at h
  · split at h
    · rename_i c
      obtain ⟨v, rfl, rv⟩ := ra.one
      cases dint rv
      exact call_str_int pins s σ H _ us Q I r ⟨_, rfl, c, VPost.dat h rs (.str _)⟩
    · exact h.elim
  · exact h.elim
end
/-! ### sorted of tuples of ints -/
section
open Srt
variable {prog : Program} {w : World} {A : Around} {E : Value → Shared → Prop} {s : Shared}
theorem collect_tup {l : Addr} {vs : List Value} {Q : List Value → Shared → Prop} (hl : IsTup s.heap l vs.toArray)
    (h : Q vs { s with heap := (s.heap.push (seqObj "list" #[] 0)).update s.heap.objs.size (Obj.mapSeq (· ++ vs.toArray)) }) (hz : vs.length ≤ sizeLine) :
    wpAny (model prog w) A (collect (.ref l)) Q E s := by
  obtain ⟨o, ho, hc, n, hd⟩ := id hl
  unfold collect
  refine wpAny_bind (wpAny_runValue (codeAny_builtin entry_proto_collect' ?_))
  show wpAny _ _ (do again (.builtin "list.__iadd__" ⟨[← newList [], .ref l], []⟩)) _ _ s
  refine wpAny_bind (wpAny_newList (wpAny_pure ⟨Code.quiet_builtin _ (by decide +kernel), codeAny_builtin entry_list_iadd' ?_⟩))
  show wpAny _ _ (Builtin.List.listExtendWith (.ref s.heap.objs.size) (.ref l) (.ref s.heap.objs.size)) _ _ { s with heap := s.heap.push (seqObj "list" #[] 0) }
  unfold Builtin.List.listExtendWith
  have hp : (s.heap.push (seqObj "list" #[] 0)).get? l = some o := Heap.get?_push_of_some _ ho
  have tt : (Value.type "tuple" == Value.type "tuple") = true := by rfl
  refine wpAny_bind (wpAny_typeOf (T := "tuple") ⟨o, hp, hc⟩ ?_)
  rw [if_pos (by rw [tt, Bool.or_true])]
  refine wpAny_bind (listItems_at hp hd (wpAny_bind (listItems_at (xs := #[]) (n := 0) (Heap.get?_push_size _ rfl) rfl ?_)))
  rw [if_neg (by simp)]
  refine wpAny_bind (listUpdate_at (xs := #[]) (n := 0) (Heap.get?_push_size _ rfl) rfl ?_ (Nat.zero_le _) (by show (#[] ++ vs.toArray).size ≤ sizeLine + 1; simp only [Array.size_append, List.size_toArray, List.length_nil]; omega))
  refine wpAny_pure ?_
  show wpAny (model prog w) A (do
      let o2 ← load s.heap.objs.size
      match o2.data with
      | .seq ys _ => pure ys.toList
      | _ => unsupported "internal:collect") Q E { s with heap := (s.heap.push (seqObj "list" #[] 0)).update s.heap.objs.size (Obj.mapSeq (· ++ vs.toArray)) }
  refine wpAny_bind (wpAny_load (get?_update_seq (Heap.get?_push_size _ rfl) _) ?_)
  show wpAny _ _ (pure ((#[] : Array Value) ++ vs.toArray).toList) Q E _
  rw [show ((#[] : Array Value) ++ vs.toArray).toList = vs by simp]
  exact wpAny_pure h
theorem sorted_tup {l : Addr} {vs : List Value} {ltv : Value → Value → Bool} {Q : Value → Shared → Prop} (O : SrtO.Swo ltv) (hl : IsTup s.heap l vs.toArray) (hz : vs.length ≤ sizeLine)
    (hS : 2 ≤ vs.length → ∀ (h₁ : Heap) (a : Addr), h₁.get? a = some (seqObj "list" vs.toArray 0) → (∀ b o, s.heap.get? b = some o → b ≠ a ∧ h₁.get? b = some o) → SrtO.SortableO prog w A.in1.in1 { s with heap := h₁ } a vs ltv)
    (h : ∀ out : List Value, SrtO.Srtd ltv out → SrtO.Stb ltv out vs → Q (.ref (s.heap.objs.size + 1)) { s with heap := sortedAll s.heap vs out.toArray }) :
    wpAny (model prog w) A (call (.builtin "sorted") [.ref l]) Q E s := by
  refine Calls.call_function_entry kind_sorted plain_sorted entry_sorted (args_sorted1 _) ?_
  unfold Builtin.«sorted»
  refine wpAny_bind (m := checkCount "sorted" 1 1 _) (wpAny_pure (wpAny_bind (collect_tup hl (wpAny_bind (wpAny_newList ?_ hz)) hz)))
  have z1 : ((s.heap.push (seqObj "list" #[] 0)).update s.heap.objs.size (Obj.mapSeq (· ++ vs.toArray))).objs.size = s.heap.objs.size + 1 := by
    rw [Heap.size_update, size_push']
  have oL : (((s.heap.push (seqObj "list" #[] 0)).update s.heap.objs.size (Obj.mapSeq (· ++ vs.toArray))).push (seqObj "list" vs.toArray 0)).get? (s.heap.objs.size + 1) = some (seqObj "list" vs.toArray 0) := by
    rw [← z1]; exact Heap.get?_push_size _ rfl
  have kp : ∀ b o, s.heap.get? b = some o → b ≠ s.heap.objs.size + 1 ∧ (((s.heap.push (seqObj "list" #[] 0)).update s.heap.objs.size (Obj.mapSeq (· ++ vs.toArray))).push (seqObj "list" vs.toArray 0)).get? b = some o := fun b o q => by
    have lt : b < s.heap.objs.size := Heap.lt_size q
    refine ⟨Nat.ne_of_lt (Nat.lt_succ_of_lt lt), Heap.get?_push_of_some _ ?_⟩
    rw [Heap.get?_update_ne _ _ _ _ (Nat.ne_of_lt lt)]
    exact Heap.get?_push_of_some _ q
  show wpAny _ _ _ _ _ { s with heap := ((s.heap.push (seqObj "list" #[] 0)).update s.heap.objs.size (Obj.mapSeq (· ++ vs.toArray))).push (seqObj "list" vs.toArray 0) }
  rw [z1]
  refine wpAny_bind (wpAny_holding (wpAny_call_entry slot_list_sort ⟨_, oL, rfl⟩ entry_list_sort (SrtO.list_sort_ord O oL hz (fun h2 => hS h2 _ _ oL kp) fun out a b => ⟨_, rfl, wpAny_pure ⟨_, rfl, h out a b⟩⟩) (args_list_sort _)))
end
def vSortT (as : List AV) (S : AS) : VR := match as with
  | [a] => match rdSeq S a with
    | some (_, l) => match ints? l with
      | some ns => some (.own ((srtI ns).map PyData.int), S)
      | none => none
    | _ => none
  | _ => none
theorem vSortT_ok {X : Cx} {ex : Option (Addr × Value × Option Addr)} : CallR X (.builtin "sorted") (rC (zp X ex) vSortT) := by
  intro pins s σ H xs us Q I r h
  obtain ⟨F, ρ, S, as, rs, ra, h⟩ := h
  unfold vSortT at h
  split at h
  · obtain ⟨v, rfl, rv⟩ := ra.one
    split at h
    · rename_i b l e
      split at h
      · rename_i ns e2
        obtain ⟨p, vs, rfl, k, L, T⟩ := rdSeq_F (Z := zp X ex) rs rv e
        have el := ints?_ok e2
        subst el
        have ev := dpA_ints k
        subst ev
        cases b with
        | true =>
          refine cr_sortedI pins s σ H _ us Q I r ⟨p, ns, rfl, L rfl, fun ns' q pm pw hq => ?_⟩
          have : ns' = srtI ns := sorted_one (pm.trans (srtI_perm ns).symm) pw (srtI_pair ns)
          subst this
          exact VPost.own h rs (dpA_of_ints _) q hq
        | false =>
          obtain ⟨its, rv, hl, hz⟩ := I.tuple (T rfl)
          rw [Vals.ref1 r]
          have hi := rv.ints
          refine sorted_tup SrtO.swo_int hl (by rw [← rv.length]; exact hz) (fun h2 h₁ a' _ _ => SrtO.ints_sortable hi h2) fun out h1 h2 => ?_
          obtain ⟨k1, k2, k3⟩ := SrtO.ints_out hi h1 h2
          obtain ⟨ep, he'⟩ := PyProof.Rows.sortedAll_at s.heap its out.toArray
          have hlen : ((out.map SrtO.iv).map V.int).length ≤ sizeLine := by
            rw [List.length_map, k2.length_eq]
            rw [List.length_map] at hz
            exact hz
          have : out.map SrtO.iv = srtI ns := sorted_one (k2.trans (srtI_perm ns).symm) k3 (srtI_pair ns)
          rw [this] at hlen k1
          exact ⟨.ref _, upd H (s.heap.objs.size + 1) (.lst ((srtI ns).map V.int)), I.laid (t' := s.toks) (fun _ _ => PyProof.Rows.sortedAll_old) (Nat.le_succ _) ⟨hlen, out, ep, vals_of_ints k1, he'⟩, rfl, VPost.own h rs (dpA_of_ints _) _ (I.hok.fresh (Nat.le_succ _))⟩
      · exact h.elim
    · exact h.elim
  · exact h.elim
/-! ### t[::-1] -/
section
variable {prog : Program} {w : World} {A : Around} {E : Value → Shared → Prop} {s : Shared}
theorem rev_all (xs : List Value) : ((List.range xs.length).filterMap fun (k : Nat) => xs.toArray[(((xs.length : Nat) : Int) - 1 + (k : Int) * (-1)).toNat]?) = xs.reverse := by
  have e : ((List.range xs.length).filterMap fun (k : Nat) => xs.toArray[(((xs.length : Nat) : Int) - 1 + (k : Int) * (-1)).toNat]?) = (List.range xs.length).filterMap fun k => xs.reverse[k]? := by
    have key : ∀ ks : List Nat, (∀ k ∈ ks, k < xs.length) → (ks.filterMap fun (k : Nat) => xs.toArray[(((xs.length : Nat) : Int) - 1 + (k : Int) * (-1)).toNat]?) = ks.filterMap fun k => xs.reverse[k]? := by
      intro ks
      induction ks with
      | nil => intro _; rfl
      | cons k ks ih =>
        intro h
        have hk := h k List.mem_cons_self
        have e2 : xs.toArray[(((xs.length : Nat) : Int) - 1 + (k : Int) * (-1)).toNat]? = xs.reverse[k]? := by
          rw [List.getElem?_reverse hk, List.getElem?_toArray]
          congr 1
          omega
        rw [List.filterMap_cons, List.filterMap_cons, e2, ih fun j hj => h j (List.mem_cons_of_mem _ hj)]
    exact key _ fun k hk => List.mem_range.mp hk
  rw [e]
  have key : ∀ ys : List Value, ((List.range ys.length).filterMap fun k => ys[k]?) = ys := by
    intro ys
    induction ys with
    | nil => rfl
    | cons y ys ih =>
      rw [List.length_cons, List.range_succ_eq_map, List.filterMap_cons]
      simp only [List.getElem?_cons_zero, List.filterMap_map]
      congr 1
  have := key xs.reverse
  rw [List.length_reverse] at this
  exact this
theorem getItem_tuple_rev {t sl : Addr} {xs : List Value} {vk : Value} {Q : Value → Shared → Prop} (ht : IsTup s.heap t xs.toArray) (hs : s.heap.IsSliceOf sl .none .none vk) (pk : IsPart vk (some (-1)))
    (h : Q (.ref s.heap.objs.size) { s with heap := s.heap.push { cls := .type "tuple", data := .seq xs.reverse.toArray } }) (hz : xs.length ≤ sizeLine) : wpAny (model prog w) A (getItem (.ref t) (.ref sl)) Q E s := by
  obtain ⟨os, hos, hcs, hds⟩ := id hs
  have hT : s.TypeIs (.ref sl) "slice" := ⟨os, hos, hcs⟩
  unfold getItem
  try with_reducible refine wpAny_holding ?_
  first | refine wpAny_bind (wpAny_pure ?_) | skip
  refine wpAny_bind (wpAny_sequenceKey ht.typeIs (by decide) ?_)
  refine wpAny_bind (wpAny_callSpecial?_slot (name := Str.ofString "__getitem__") ht.typeIs PyProof.Rows.slot_tuple_getitem
    (wpAny_call_entry PyProof.Rows.slot_tuple_getitem ht.typeIs PyProof.Rows.entry_tuple_getitem ?_ (PyProof.Rows.args_tuple_getitem _ _)))
  show wpAny _ _ (Builtin.Tuple.tupleItemsOf (.ref t) >>= _) _ _ s
  refine wpAny_bind (PyProof.Rows.tupleItemsOf_ ht (wpAny_bind (wpAny_typeOf hT ?_)))
  rw [if_pos (by decide)]
  have app : ∀ (A2 : Around) (E2 : Value → Shared → Prop) (R : Int × Int × Nat → Shared → Prop), R (((xs.length : Nat) : Int) - 1, -1, xs.length) s → wpAny (model prog w) A2 (Builtin.Slice.sliceApplied (.ref sl) (pure ((xs.toArray.size : Nat) : Int))) R E2 s := fun A2 E2 R hR => by
    unfold Builtin.Slice.sliceApplied Builtin.Slice.sliceFields
    refine wpAny_bind (wpAny_bind (wpAny_field hos hds (x := .none) rfl (wpAny_bind (wpAny_field hos hds (x := .none) rfl (wpAny_bind (wpAny_field hos hds (x := vk) rfl (wpAny_pure ?_)))))))
    refine wpAny_bind (HT.slicePart_ pk ?_)
    show wpAny _ _ (if ((-1 : Int) == 0) = true then _ else _) _ _ s
    rw [if_neg (by decide)]
    refine wpAny_bind (HT.slicePart_ .none (wpAny_bind (HT.slicePart_ .none (wpAny_bind (wpAny_pure ?_)))))
    have e1 : Builtin.Slice.sliceAdjust none none (-1) ((xs.toArray.size : Nat) : Int) = (((xs.length : Nat) : Int) - 1, -1) := by
      unfold Builtin.Slice.sliceAdjust
      simp
    have e2 : Builtin.Slice.slicePlaces (((xs.length : Nat) : Int) - 1) (-1) (-1) = xs.length := by
      unfold Builtin.Slice.slicePlaces
      simp
      try omega
    show wpAny _ _ (match Builtin.Slice.sliceAdjust none none (-1) ((xs.toArray.size : Nat) : Int) with | (lo, hi) => pure (lo, (-1 : Int), Builtin.Slice.slicePlaces lo hi (-1))) _ _ s
    rw [e1]
    show wpAny _ _ (pure (((xs.length : Nat) : Int) - 1, (-1 : Int), Builtin.Slice.slicePlaces (((xs.length : Nat) : Int) - 1) (-1) (-1))) _ _ s
    rw [e2]
    exact wpAny_pure hR
  refine wpAny_bind (app _ _ _ ?_)
  have no : ¬ ((((xs.length : Nat) : Int) - 1 == 0 && (-1 : Int) == 1 && xs.length == xs.toArray.size) = true) := by
    rw [show ((-1 : Int) == 1) = false by decide]
    simp
  show wpAny _ _ (if (((xs.length : Nat) : Int) - 1 == 0 && (-1 : Int) == 1 && xs.length == xs.toArray.size) = true then _ else _) _ _ s
  rw [if_neg no, rev_all]
  have zz : sizeOk (.seq xs.reverse.toArray) := by
    show xs.reverse.toArray.size ≤ sizeLine
    rw [List.size_toArray, List.length_reverse]
    exact hz
  first
    | exact wpAny_bind (m := Builtin.Tuple.tupleExact _) (wpAny_newObj_type (wpAny_pure ⟨_, rfl, wpAny_pure h⟩) zz)
    | exact wpAny_bind (m := Builtin.Tuple.tupleExact _) (wpAny_newObj_type (wpAny_bind (wpAny_pure (wpAny_pure ⟨_, rfl, wpAny_pure h⟩))) zz)
    | exact wpAny_bind (wpAny_bind (m := Builtin.Tuple.tupleExact _) (wpAny_newObj_type (wpAny_pure (wpAny_pure ⟨_, rfl, wpAny_pure h⟩)) zz))
    | exact wpAny_bind (wpAny_bind (m := Builtin.Tuple.tupleExact _) (wpAny_newObj_type (wpAny_pure ⟨_, rfl, wpAny_pure h⟩) zz))
end
def tRevT (K : PySem.W.Frag) (te : TE) : TE := fun σ H Q => te σ H fun x H1 => ∃ a xs, x = .ref a ∧ SqT K H1 a xs ∧ ∀ p, H1 p = none → Q (.ref p) (upd H1 p (.tup xs.reverse))
section
variable {X : Cx} {ex : Option (Addr × Value × Option Addr)} {W : WX} {pos : Pos}
theorem pe_revT {e : Expr} {te : TE} {k : Nat} {p1 p2 p3 : Pos} (he : PE X e te) : PE X (.Subscript e (.Slice none none (some (.UnaryOp .USub (.Constant (.int 1) k p1) p2)) p3) pos) (tRevT X.K te) := by
  refine ⟨fun pz s σ H Q I h => ?_⟩
  refine Subscript_ (thn (he.run pz s σ H _ I h) fun v s1 ⟨x, H1, I1, r1, q1⟩ => ?_)
  obtain ⟨a, xs, rfl, hx, q⟩ := q1
  cases r1
  have hk : PO X (some (.UnaryOp .USub (.Constant (.int 1) k p1) p2)) (tPart (tUn (rU fun i => .int (-i)) (tC (.int 1)))) := po_some (pe_un un_neg pe_int)
  refine wpAny_Slice (thn (po_none.run pz s1 σ H1 (fun o H2 => o = none ∧ H2 = H1) I1 ⟨rfl, rfl⟩) fun vl s2 ⟨l, H2, I2, pl, el, e2⟩ => ?_)
  subst el e2
  refine thn (po_none.run pz s2 σ H2 (fun o H3 => o = none ∧ H3 = H2) I2 ⟨rfl, rfl⟩) fun vu s3 ⟨u, H3, I3, pu, eu, e3⟩ => ?_
  subst eu e3
  refine thn (hk.run pz s3 σ H3 (fun o H4 => o = some (-1) ∧ H4 = H3) I3 ⟨1, rfl, -1, rfl, rfl, rfl⟩) fun vs s4 ⟨o, H4, I4, ps, eo, e4⟩ => ?_
  subst eo e4
  cases pl
  cases pu
  have J : Inv X pz σ H4 { s4 with heap := s4.heap.push { cls := .type "slice", data := .fields #[.none, .none, vs] } } := I4.kept (t' := s4.toks) fun b ob q => Heap.get?_push_of_some _ q
  obtain ⟨its, r, ht, hz⟩ := J.tuple hx
  have hlen := r.length
  show wpAny (model X.prog X.w) X.A (subscriptTail e (.Slice none none (some (.UnaryOp .USub (.Constant (.int 1) k p1) p2)) p3) (.ref a) (.ref s4.heap.objs.size)) (EP X pz σ Q) X.xe { s4 with heap := s4.heap.push { cls := .type "slice", data := .fields #[.none, .none, vs] } }
  refine tail_any (ops := [.ref a, .ref s4.heap.objs.size]) ht.typeIs (PyProof.Rows.slot_tuple_getitem.lookup) ?_ (by with_unfolding_all rfl)
  refine getItem_tuple_rev ht (Heap.IsSliceOf.new _ .none .none vs) ps ?_ (by omega)
  refine ⟨.ref _, _, J.laid (t' := s4.toks) (o := .tup xs.reverse) (fun b ob q => Heap.get?_push_of_some _ q) (Nat.le_refl _) ?_, rfl, q _ (J.hok.fresh (Nat.le_refl _))⟩
  exact ⟨by rw [List.length_reverse]; exact hz, its.reverse, r.reverse, ⟨_, Heap.get?_push_size _ rfl, rfl, _, rfl⟩⟩
def vRevT (a : AV) (S : AS) : VR := match a with
  | .d (.tuple l) => some (.d (.tuple l.reverse), S)
  | _ => none
def dRevT (ca : Dn) : Dn := fun σ S => (ca σ S).bind fun a S1 => liftV (vRevT a S1)
theorem qRevT {e : Expr} {ca : Dn} {k : Nat} {p1 p2 p3 : Pos} (he : PE X e (tE (zp X ex) W ca)) : PE X (.Subscript e (.Slice none none (some (.UnaryOp .USub (.Constant (.int 1) k p1) p2)) p3) pos) (tE (zp X ex) W (dRevT ca)) :=
  (pe_revT he).impD fun σ H Q h => by
    refine (tE.bind (f := fun σ a S1 => liftV (vRevT a S1)) h).imp fun v H1 hb => ?_
    obtain ⟨F1, ρ1, S1, a, aσ, rs1, ra, _, q⟩ := hb
    have q : VPost (zp X ex) F1 ρ1 Q (vRevT a S1) := VPost.of q
    cases a with
    | d x =>
      cases x with
      | tuple l =>
        have ra : Dp X.K F1 v (.tuple l) := ra
        cases ra with
        | tup h1 h2 => exact ⟨_, _, rfl, Same.seqT rs1.sub h1, fun p hp => VPost.tup q rs1 (dpA_rev h2) p hp⟩
      | _ => exact q.elim
    | _ => exact q.elim
end
/-! ### isinstance(raised, (C, D, ..)) -/
section
variable {X : Cx} {W : WX} {pos : Pos} {cls : Value} {d : Option Addr} {a : Addr} {oe : Obj} {pn : List (Addr × Obj)}
def rIsDT (K : PySem.W.Frag) (a : Addr) (cls : Value) (d : Option Addr) : List V → Hp → VK → Prop := fun xs H Q => ∃ (tp : Addr) (cs : List V) (us : List Value) (b : Bool) (C dd : Addr) (fs : List (Str × V)), xs = [.ref a, .ref tp] ∧ H tp = some (.tup cs) ∧ Paired ClsV cs us ∧ cls = .ref C ∧ d = some dd ∧ IsC K C ∧ H dd = some (.xd fs) ∧ PySem.W.kitAny K (.ref C) us = some b ∧ Q (.bl b) H
theorem call_isDT (hz : Zc cls d oe) (hf : ∃ vs, oe.data = .fields vs) : CallR (X.suite a ((a, oe) :: pn)) (.builtin "isinstance") (rIsDT X.K a cls d) := by
  intro pins s σ H xs us Q I r h
  obtain ⟨tp, cs, ws, b, C, dd, fs, rfl, hT, hk, ec, ed, T, eH, ek, q⟩ := h
  obtain ⟨u1, u2, rfl, r1, r2⟩ := vals2 r
  cases (show u2 = Value.ref tp from r2)
  cases (show u1 = Value.ref a from r1)
  subst ec
  subst ed
  have ha := (I.pin (a, oe) (List.mem_append_left _ List.mem_cons_self)).1
  obtain ⟨vs, hd⟩ := hf
  have hx : ObjOk X.prog X.w H s.heap dd (.xd fs) := I.hok dd _ eH
  obtain ⟨mA, hns, _⟩ := hx
  obtain ⟨od, ho, _⟩ := lookIn_ns hns
  have J : PySem.W.InstAt s.heap a oe C (some od) := ⟨ha, hz.1, by unfold PySem.W.notCls; rw [hd] <;> rfl, by rw [hz.2]; exact ho⟩
  obtain ⟨_, its, rv, o, h1, h2, n, h3⟩ := (show ObjOk X.prog X.w H s.heap tp (.tup cs) from I.hok tp _ hT)
  have e3 := ClsV.all hk rv
  subst e3
  obtain ⟨oc, od2, dt, sl⟩ := o
  simp only at h2 h3
  subst h2 h3
  exact PySem.W.kia_tup (PySem.W.kitx_exc T.cl T.ga T.gt T.sb T.ca T.hn T.tk T.mo) I.kIn J h1 ek (fun z => nomatch z) fun tk => ⟨.bl b, H, I.kept (t' := tk) fun _ _ z => z, rfl, q⟩
/-- names of own classes -/
inductive ExNames (X : Cx) : List Expr → List Addr → Prop
  | nil : ExNames X [] []
  | cons {tn : Str} {p : Pos} {B : Addr} {es : List Expr} {Bs : List Addr} (hg : Gl X tn) (hm : X.mg tn = some (.ref B)) (hd : (tn == ("__debug__" : Str)) = false) (r : ExNames X es Bs) : ExNames X (.Name tn p :: es) (B :: Bs)
def tExs : List Addr → TA
  | [] => tNil
  | T :: Ts => tCons (tC (.ref T)) (tExs Ts)
theorem exs_pa {es : List Expr} {Ts : List Addr} (h : ExNames X es Ts) : PA X es (tExs Ts) := by
  induction h with
  | nil => exact pa_nil
  | cons hg hm hd r ih => exact pa_cons (pe_glob hg hm rfl hd) ih rfl
theorem exs_run {σ : L2.St} : ∀ {Ts : List Addr} {H : Hp} {Q : List V → Hp → Prop}, Q (Ts.map V.ref) H → tExs Ts σ H Q
  | [], _, _, q => q
  | T :: Ts, _, _, q => exs_run (Ts := Ts) q
theorem exs_cls : ∀ (Ts : List Addr), Paired ClsV (Ts.map V.ref) (Ts.map Value.ref)
  | [] => .nil
  | T :: Ts => .cons (.own T) (exs_cls Ts)
/-- what isinstance with several classes says of the errors by name -/
def IsTabM (X : Cx) (tab : List (Str × Bool)) (Bs : List Addr) : Prop := ∀ cn b, tab.lookup cn = some b → ∀ C, X.mg cn = some (.ref C) → IsC X.K C ∧ PySem.W.kitAny X.K (.ref C) (Bs.map Value.ref) = some b
theorem IsTabM.nil {tab : List (Str × Bool)} (h : ∀ q ∈ tab, q.2 = false) (hC : ∀ cn b, tab.lookup cn = some b → ∀ C, X.mg cn = some (.ref C) → IsC X.K C) : IsTabM X tab [] := fun cn b e C hm => by
  have := h _ (mem_of_lookup e)
  exact ⟨hC cn b e C hm, by rw [show b = false from this]; rfl⟩
theorem IsTabM.cons {t1 t2 : List (Str × Bool)} {B : Addr} {Bs : List Addr} (h1 : IsTab X t1 B) (h2 : IsTabM X t2 Bs) (tab : List (Str × Bool)) (ht : ∀ cn b, tab.lookup cn = some b → ∃ b1 b2, t1.lookup cn = some b1 ∧ t2.lookup cn = some b2 ∧ b = (b1 || b2)) : IsTabM X tab (B :: Bs) := fun cn b e C hm => by
  obtain ⟨b1, b2, e1, e2, rfl⟩ := ht cn b e
  obtain ⟨k1, k2⟩ := h1 cn b1 e1 C hm
  obtain ⟨_, k3⟩ := h2 cn b2 e2 C hm
  refine ⟨k1, kitAny_cons k2 (fun e => ?_) fun e => ?_⟩
  · rw [e, Bool.false_or]; exact k3
  · rw [e, Bool.true_or]
theorem qIsEM {tab : List (Str × Bool)} {Bs : List Addr} {x n : Str} {i k : Nat} {es : List Expr} {p p2 p3 : Pos} (hT : IsTabM X tab Bs) (hz : Zc cls d oe) (hf : ∃ vs, oe.data = .fields vs) (hm : X.mg x = none) (hts : ExNames (X.suite a ((a, oe) :: pn)) es Bs) (hx : x = "isinstance" := by rfl) (hg : Gl X x := by rfl) (hl : Bs.length ≤ 100 := by simp)
    (hN : X.N[i]? = some n := by rfl) (hv : Vis X.env.scope n := by first | exact Or.inl rfl | exact Or.inr (Or.inl rfl) | exact Or.inr (Or.inr rfl)) (hd : (n == ("__debug__" : Str)) = false := by decide) (hcd : (n == ("__classdict__" : Str)) = false := by decide) :
    PE (X.suite a ((a, oe) :: pn)) (.Call (.Name x p) [.Name n p2, .Tuple es k p3] [] pos) (tE (zp X (some (a, cls, d))) W (dIsE tab (dVar i))) := by
  subst hx
  refine (pe_callB (X := X.suite a ((a, oe) :: pn)) (call_isDT hz hf) hg hm PyProof.Rows.boot_isinstance (pa_cons (pe_var hN hv hd hcd) (pa_cons (pe_tup (exs_pa hts)) pa_nil rfl) rfl) (by decide) (by decide) rfl rfl).impD fun σ H Q h => ?_
  obtain ⟨F, ρ, S, aσ, rs, st, q⟩ := h
  unfold dIsE dVar at q
  cases e1 : aσ[i]? with
  | none => simp only [e1] at q; exact q.elim
  | some o =>
    cases o with
    | none => simp only [e1] at q; exact q.elim
    | some v =>
      simp only [e1] at q
      cases v with
      | exc y =>
        have q : EPost (zp X (some (a, cls, d))) W σ F ρ Q (match tab.lookup y.cls with | some b => ER.ok (.d (.bool b)) S | none => ER.stuck) := q
        cases e2 : tab.lookup y.cls with
        | none => rw [e2] at q; exact q.elim
        | some b =>
          rw [e2] at q
          obtain ⟨u, h2, a', cls', d', h3, rfl, C, dd, w, h4, h5, h6, h7, h8⟩ := st.at_ i _ e1
          cases h3
          obtain ⟨k1, k2⟩ := hT _ b e2 C h5
          refine ⟨_, h2, exs_run ⟨by rw [List.length_map]; exact Nat.le_trans hl (by rw [sizeLine_eq]; decide), fun r hr => ?_⟩⟩
          have rs2 := rs.newH (o := .tup (Bs.map V.ref)) hr
          exact ⟨r, _, _, b, C, dd, _, rfl, upd_same, exs_cls Bs, h4, h6, k1, rs2.sub _ _ h7, k2, VPost.dat (Z := zp X (some (a, cls, d))) q rs2 (.bl b)⟩
      | d x => exact q.elim
      | ref m => exact q.elim
      | own l => exact q.elim
end
end Den
/-! DenK: short rules with guards. -/
namespace Den
open PySem PySem.Spec PyProof.Rows L2
section
variable {X : Cx} {ex : Option (Addr × Value × Option Addr)} {W : WX} {pos : Pos} {e : Expr} {es : List Expr}
theorem qDG {j k : Nat} {np : Nat} {g : Addr} {fd : FuncData} {ps : List Str} {f : List AV → AS → ER} {x : Str} {p : Pos} {l : Ln} {sd : Stmt} (T : DefT X.K X.mg x sd g fd ps) (F : FnOkG X.prog X.w X.K X.mg X.base (L2.CX X.prog X.w) j g fd ps (spOf X.K X.mg np f)) (hr : Room k X.A) (gd : X.A.guards = some [])
    (tk : Takes X W) (ha : PA X (e :: es) (tL (zp X none) W l)) (hj : j ≤ k := by decide) (hg : Gl X x := by rfl)
    (hdb : (x == ("__debug__" : Str)) = false := by decide) (he : starEach (e :: es) X.env = (false, eval e X.env) :: starEach es X.env := by rfl) (hpl : (backTo pos (starEach es X.env)).any (·.1) = false := by rfl) :
    PE X (.Call (.Name x p) (e :: es) [] pos) (tE (zp X none) W (dCall (arity np f) l)) := sE_callG F (hr.mono hj) gd hg T.g T.F.kp T.b tk ha hdb he hpl
theorem yX {tn : Str} {p : Pos} {B : Addr} {Bs : List Addr} (hm : X.mg tn = some (.ref B)) (r : ExNames X es Bs) (hg : Gl X tn := by rfl) (hd : (tn == ("__debug__" : Str)) = false := by decide) : ExNames X (.Name tn p :: es) (B :: Bs) := .cons hg hm hd r
theorem bb_repr : bootBuiltins "repr" = some (.builtin "repr") := by decide +kernel
theorem bb_sorted : bootBuiltins "sorted" = some (.builtin "sorted") := by decide +kernel
theorem bb_all : bootBuiltins "all" = some (.builtin "all") := by decide +kernel
end
end Den
/-! DenL: tuples whose object is known (no dict of their own), dict(tuple of pairs), {tuple: e}. -/
namespace Den
open PySem PySem.Spec PyProof.Rows L2
/-- the tuple at a, its object known, without a dict -/
def TupN (F : Hp) (a : Addr) (vs : List V) : Prop := ∃ o : Obj, F a = some (.frz o (.tup vs)) ∧ o.cls = .type "tuple" ∧ o.dict = none
theorem TupN.sq {K : PySem.W.Frag} {F : Hp} {a : Addr} {vs : List V} (h : TupN F a vs) : SqT K F a vs := let ⟨o, e, _⟩ := h; .inl (.inr ⟨o, e⟩)
theorem TupN.mono {F F' : Hp} {a : Addr} {vs : List V} (e : Same F F') (h : TupN F a vs) : TupN F' a vs := let ⟨o, k, r⟩ := h; ⟨o, e _ _ k, r⟩
section
variable {X : Cx}
theorem call_tupleF : CallR X (.type "tuple") (fun xs H Q => ∃ p ys, xs = [.ref p] ∧ SqL X.K H p ys ∧ ∀ l (o : Obj), H l = none → o.cls = .type "tuple" → o.dict = none → Q (.ref l) (upd H l (.frz o (.tup ys)))) := by
  intro pz s σ H xs us Q I r h
  obtain ⟨p, ys, rfl, hq, q⟩ := h
  obtain ⟨u, rfl, rx⟩ := vals1 r
  cases rx
  obtain ⟨its, r', pl, hz⟩ := I.list hq
  have hlen := r'.length
  refine call_tuple_list pl.isList (fun h' kp => ?_) (by simp only [List.size_toArray] <;> omega)
  have I1 : Inv X pz σ H { s with heap := h' } := I.kept (t' := s.toks) kp
  have I2 : Inv X pz σ (upd H h'.objs.size (.frz { cls := .type "tuple", data := .seq its.toArray } (.tup ys))) { s with heap := h'.push { cls := .type "tuple", data := .seq its.toArray } } :=
    I1.laid (t' := s.toks) (fun b o e => Heap.get?_push_of_some _ e) (Nat.le_refl _) (show ObjOk X.prog X.w _ _ _ (.frz _ (.tup ys)) from ⟨Heap.get?_push_size _ rfl, hz, its, r', IsTup.new _ _⟩)
  exact ⟨.ref h'.objs.size, _, I2, rfl, q _ _ (I1.hok.fresh (Nat.le_refl _)) rfl rfl⟩
theorem raws_of {pz : List (Addr × Obj)} {σ : L2.St} {H : Hp} {s : Shared} (I : Inv X pz σ H s) : ∀ {ps : List Addr} {kvs : List (Key × V)}, Paired (fun p kv => SqT X.K H p [kV kv.1, kv.2]) ps kvs →
    ∃ (prs : List (Key × Value)) (raw : List (Value × Value)), KV kvs prs ∧ prs.length = ps.length ∧ raw.length = ps.length ∧
      ∀ (j : Nat) (k v : Value), raw[j]? = some (k, v) → (∃ b : Addr, ps[j]? = some b ∧ IsTup s.heap b #[k, v]) ∧ ∃ q : Key, prs[j]? = some (q, v) ∧ (mixKind X.prog X.w).is q k = true
  | _, _, .nil => ⟨[], [], .nil, rfl, rfl, fun j k v e => by simp at e⟩
  | _, _, .cons (a := p) (b := kv) h t => by
    obtain ⟨prs, raw, r, hl, hr, hp⟩ := raws_of I t
    obtain ⟨its, rv, ht, _⟩ := I.tuple h
    obtain ⟨u, y, ei, ru, ry⟩ := vals2 rv
    subst ei
    refine ⟨(kv.1, y) :: prs, (u, y) :: raw, .cons ⟨rfl, ry⟩ r, by rw [List.length_cons, List.length_cons, hl], by rw [List.length_cons, List.length_cons, hr], fun j k v e => ?_⟩
    cases j with
    | zero =>
      have e' : (u, y) = (k, v) := Option.some.inj e
      rw [Prod.mk.injEq] at e'
      obtain ⟨rfl, rfl⟩ := e'
      exact ⟨⟨p, rfl, ht⟩, kv.1, rfl, kV_is (P := X.prog) (w := X.w) ru⟩
    | succ j =>
      obtain ⟨⟨b, e1, e2⟩, q, e3, e4⟩ := hp j k v (by simpa using e)
      exact ⟨⟨b, by simpa using e1, e2⟩, q, by simpa using e3, e4⟩
/-- dict(t), t a tuple of pairs -/
theorem call_dictPT (hc : X.calm = true) : CallR X (.type "dict") (fun xs H Q => ∃ (a : Addr) (ps : List Addr) (kvs : List (Key × V)), xs = [.ref a] ∧ TupN H a (ps.map V.ref) ∧ Paired (fun p kv => SqT X.K H p [kV kv.1, kv.2]) ps kvs ∧
    ∀ p, H p = none → Q (.ref p) (upd H p (.dK (mergeK [] kvs)))) := by
  intro pz s σ H xs us Q I r q
  obtain ⟨a, ps, kvs, rfl, hq, hp, q⟩ := q
  obtain ⟨u, rfl, rx⟩ := vals1 r
  cases rx
  obtain ⟨o, eo, hcl, hd⟩ := hq
  obtain ⟨ho, hz, its, rv, o2, ho2, hc2, n, hdat⟩ := (show ObjOk X.prog X.w H s.heap a (.frz o (.tup (ps.map V.ref))) from I.hok a _ eo)
  rw [ho] at ho2
  cases ho2
  have ei := refs_at rv
  subst ei
  rw [List.length_map] at hz
  obtain ⟨prs, raw, rel, hl, hr, hpr⟩ := raws_of I hp
  refine call_dict_pairs (knd := mixKind X.prog X.w) (kvs := prs) (PairArg.tuple a (ps.map Value.ref).toArray (fun j => ps.getD j 0) raw) (I.ok.hd hc) ⟨⟨o, n, ho, hcl, hd, hdat⟩, by simp [hr], fun j k v e => ?_⟩ ⟨by rw [hl, hr], fun i key v e => ?_⟩ (by rw [hr]; exact hz) fun h' tk hd' k => ?_
  · obtain ⟨⟨b, e1, o3, f1, f2, n3, f3⟩, _⟩ := hpr j k v e
    have eb : ps.getD j 0 = b := by rw [List.getD_eq_getElem?_getD, e1]; rfl
    show _ = some (Value.ref (ps.getD j 0)) ∧ PairAt s.heap (ps.getD j 0) k v
    rw [eb]
    refine ⟨by simp [e1], .inl ⟨o3, f1, f2, n3, f3⟩⟩
  · obtain ⟨_, k, e3, e4⟩ := hpr i key v e
    exact ⟨k, e3, e4⟩
  · have hm : (s.heap.objs.size == sysModules) = false := beq_eq_false_iff_ne.mpr (Nat.ne_of_gt I.big)
    have hlen : (mergeK [] kvs).length ≤ sizeLine := by
      refine Nat.le_trans (length_mergeK kvs []) ?_
      rw [List.length_nil, Nat.zero_add, rel.length, hl]
      exact hz
    exact ⟨.ref s.heap.objs.size, upd H s.heap.objs.size (.dK (mergeK [] kvs)), I.laid (t' := tk) (fun b o e => k b o (by simp) e) (Nat.le_refl _) (show ObjOk X.prog X.w _ _ _ (.dK (mergeK [] kvs)) from ⟨hlen, hm, merged [] prs, KV.merge rel .nil, hd'⟩), rfl, q _ (I.hok.fresh (Nat.le_refl _))⟩
/-- {t: e}, t a tuple of ints and texts -/
def DispOk (p : Addr) (x y : V) (H2 : Hp) (Q : VK) : Prop := ∃ k b, x = .ref b ∧ H2 p = some (.dT []) ∧ H2 b = some (.tup (k.map kV)) ∧ Q (.ref p) (upd H2 p (.dT [(k, y)]))
def tDispT1 (tk tv : TE) : TE := fun σ H Q => ∀ p, H p = none → tk σ (upd H p (.dT [])) fun x H1 => tv σ H1 fun y H2 => DispOk p x y H2 Q
theorem pe_dispT1 {pos : Pos} {e f : Expr} {tk tv : TE} (hu : X.A.units + 1 < cLine) (he : PE X e tk) (hf : PE X f tv) : PE X (.Dict [some e] [f] pos) (tDispT1 tk tv) := by
  refine ⟨fun pz s σ H Q I q => ?_⟩
  have hn := I.hok.fresh (Nat.le_refl s.heap.objs.size)
  have I1 := I.laid (a := s.heap.objs.size) (o := .dT []) (h' := s.heap.push { cls := .type "dict", data := .dict #[] }) (t' := s.toks) (fun _ _ q => Heap.get?_push_of_some _ q) (Nat.le_refl _) (dt_empty s.heap I.big)
  have pp : PPs X pos [some e] [f] [(tk, tv)] := pps_cons he hf pps_nil
  have run := pp.run pz _ σ _ (fun ps H2 => match ps with | [(x, y)] => DispOk s.heap.objs.size x y H2 Q | _ => False) I1 (q _ hn)
  refine wpAny_Dict_any rfl rfl (by simp) (by simp) (thn run fun ws s2 ⟨ps, H2, I2, rel, q2⟩ => ?_)
  match ps, ws, rel, q2 with
  | [(x, y)], _, .cons (b := (kv, vv)) ⟨rk, rv⟩ .nil, q2 =>
    obtain ⟨k, b, rfl, hp, hb, q3⟩ := q2
    cases (show kv = Value.ref b from rk)
    obtain ⟨z, hd, xs, r0, dd⟩ := dt_of I2.hok hp
    cases r0
    show wpAny _ _ (storeAll s.heap.objs.size [(Value.ref b, vv)]) _ _ _
    unfold storeAll
    rw [List.forIn_cons]
    refine wpAny_bind (wpAny_bind (wpAny_dictSet_heap (hsz := Nat.zero_le _) (k := k) (show (tupleKind (mixKind X.prog X.w)).room X.A from ?_) (key_of I2.hok hb) dd fun h' dd' hs => ?_))
    · show X.A.units < cLine
      omega
    · refine wpAny_pure (wpAny_pure ?_)
      obtain ⟨q, es, ep, hq, h2, h3, h4, _, h5⟩ := dd'
      have hpb : s.heap.objs.size ≠ b := fun z => by rw [z, hb] at hp; cases hp
      refine ⟨.ref s.heap.objs.size, _, d_write (ob := .dT [(k, y)]) I2 (by rw [hp]; exact True.intro) hs ⟨q, hq⟩ ⟨by rw [sizeLine_eq]; simp, hd, _, ?_, q, es, ep, hq, h2, h3, h4, h5⟩, rfl, q3⟩
      exact .cons ⟨rfl, by rw [upd_ne (Ne.symm hpb)]; exact hb, rv⟩ .nil
end
end Den
/-! DenM: defs whose result is known to be such (Pr), by the return statements. -/
namespace Den
open PySem PySem.Spec PyProof.Rows L2
abbrev PrT := Hp → V → AV → Prop
def SPostP (Pr : PrT) (Z : Zp) (W : WX) (F : Hp) (ρ : Rh) (D : Ends) : SR → Prop
  | .rt a S' => ∀ F' ρ' H' v, Tr F ρ F' ρ' → RS Z.K F' ρ' S' H' → RepW Z F' ρ' H' a v → Pr F' v a → D.rt v H'
  | r => SPost Z W F ρ D r
def tSP (Pr : PrT) (Z : Zp) (W : WX) (c : Sn) : TS := fun D σ H => ∃ F ρ S aσ, RS Z.K F ρ S H ∧ RSt Z F ρ aσ σ ∧ SPostP Pr Z W F ρ D (c aσ S)
def EPostP (Pr : PrT) (Z : Zp) (W : WX) (σ : L2.St) (F : Hp) (ρ : Rh) (Q : VK) : ER → Prop
  | .ok a S' => ∀ F' ρ' H' v, Tr F ρ F' ρ' → RS Z.K F' ρ' S' H' → RepW Z F' ρ' H' a v → Pr F' v a → Q v H'
  | r => EPost Z W σ F ρ Q r
def spOfP (Pr : PrT) (K : PySem.W.Frag) (mg : Str → Option Value) (np : Nat) (f : List AV → AS → ER) : Sp := fun vs H Q E => vs.length = np ∧ ∃ F ρ S as, RS K F ρ S H ∧ RepVs ⟨K, mg, none⟩ F ρ as vs ∧ EPostP Pr ⟨K, mg, none⟩ (fun cls d _ H => E cls d H) [] F ρ Q (f as S)
theorem EPost.toP {Pr : PrT} {Z : Zp} {W : WX} {σ : L2.St} {F : Hp} {ρ : Rh} {Q : VK} {r : ER} (h : EPost Z W σ F ρ Q r) : EPostP Pr Z W σ F ρ Q r := by
  cases r with
  | ok a S => exact fun F' ρ' H' v t rs rw _ => h F' ρ' H' v t rs rw
  | err x S => exact h
  | stuck => exact h
theorem spOf_P {Pr : PrT} {K : PySem.W.Frag} {mg : Str → Option Value} {np : Nat} {f : List AV → AS → ER} {vs : List V} {H : Hp} {Q : VK} {E : XK} (h : spOf K mg np f vs H Q E) : spOfP Pr K mg np f vs H Q E := by
  obtain ⟨h1, F, ρ, S, as, h2, h3, h4⟩ := h
  exact ⟨h1, F, ρ, S, as, h2, h3, h4.toP⟩
section
variable {Pr : PrT} {Z : Zp} {W : WX} {F F1 H : Hp} {ρ ρ1 : Rh} {D : Ends} {r : SR} {σ : L2.St} {aσ : ASt} {c1 c2 : Sn}
theorem SPostP.tr (t : Tr F ρ F1 ρ1) (h : SPostP Pr Z W F ρ D r) : SPostP Pr Z W F1 ρ1 D r := by
  cases r with
  | rt a S => exact fun F' ρ' H' v t' => h F' ρ' H' v (t.trans t')
  | nx a S => exact SPost.tr t (show SPost Z W F ρ D (.nx a S) from h)
  | bk a S => exact SPost.tr t (show SPost Z W F ρ D (.bk a S) from h)
  | ct a S => exact SPost.tr t (show SPost Z W F ρ D (.ct a S) from h)
  | er x a S => exact SPost.tr t (show SPost Z W F ρ D (.er x a S) from h)
  | stuck => exact h
/-- where it returns, it returns such a thing -/
def RtOk (Pr : PrT) (c : Sn) : Prop := ∀ σ S a S', c σ S = .rt a S' → ∀ F v, Pr F v a
theorem seqP_imp (hr : RtOk Pr c1) (h : tSP Pr Z W (sSeq c1 c2) D σ H) : tSeq (tS Z W c1) (tSP Pr Z W c2) D σ H := by
  obtain ⟨F, ρ, S, aσ, rs, st, p⟩ := h
  refine ⟨F, ρ, S, aσ, rs, st, ?_⟩
  unfold sSeq at p
  cases e : c1 aσ S with
  | nx σ1 S1 =>
    rw [e] at p
    exact fun F' ρ' H' σ' t rs' st' => ⟨F', ρ', S1, σ1, rs', st', SPostP.tr t p⟩
  | rt a S1 =>
    rw [e] at p
    exact fun F' ρ' H' v t rs' rw' => p F' ρ' H' v t rs' rw' (hr _ _ _ _ e F' v)
  | bk a S1 => rw [e] at p; exact p
  | ct a S1 => rw [e] at p; exact p
  | er x a S1 => rw [e] at p; exact p
  | stuck => rw [e] at p; exact p
end
section
variable {X : Cx} {ex : Option (Addr × Value × Option Addr)} {W : WX} {pos : Pos} {c1 c2 : Sn} {st : Stmt} {sts : List Stmt} {Pr : PrT}
theorem sSP_cons (hr : RtOk Pr c1) (h1 : PS X st (tS (zp X ex) W c1)) (h2 : PSs X sts (tSP Pr (zp X ex) W c2)) : PSs X (st :: sts) (tSP Pr (zp X ex) W (sSeq c1 c2)) := (pss_cons h1 h2).impD fun D σ H h => seqP_imp hr h
/-- seen of a tuple that was made of a list -/
def PrN (K : PySem.W.Frag) : PrT := fun F v a => match a with
  | .d x => x = .tuple [] ∨ ∃ a vs l, v = .ref a ∧ x = .tuple l ∧ TupN F a vs ∧ DpAll K F vs l
  | _ => True
def vTupleF (as : List AV) (S : AS) : VR := match as with
  | [.ref n] => match rdSeq S (.ref n) with
    | some (_, l) => some (.d (.tuple l), S)
    | none => none
  | _ => none
theorem sRetTup {x : Str} {i : Nat} {p p2 rp : Pos} (hm : X.mg "tuple" = none) (ha : PE X (.Name x p2) (tE (zp X ex) W (dVar i))) (hg : Gl X "tuple" := by rfl)
    (he : starEach [.Name x p2] X.env = (false, eval (.Name x p2) X.env) :: starEach [] X.env := by rfl) : PSs X [.Return (some (.Call (.Name "tuple" p) [.Name x p2] [] pos)) rp] (tSP (PrN X.K) (zp X ex) W (sRet (dCallV vTupleF (lCons (dVar i) lNil)))) :=
  (pss_one (ps_ret (pe_callTy call_tupleF hg hm bb_tuple (pa_cons ha pa_nil he) (by decide) (by decide) he rfl))).impD fun D σ H h => by
    obtain ⟨F, ρ, S, aσ, rs, st, q⟩ := h
    refine ⟨F, ρ, S, aσ, rs, st, ?_⟩
    unfold sRet dCallV lCons lNil dVar at q
    unfold dVar
    cases e : aσ[i]? with
    | none => simp only [e] at q; exact q.elim
    | some o =>
      cases o with
      | none => simp only [e] at q; exact q.elim
      | some a =>
        simp only [e] at q ⊢
        have q : SPostP (PrN X.K) (zp X ex) W F ρ D ((liftV (vTupleF [a.fz] S)).then aσ fun a S1 => .rt a S1) := q
        intro F' ρ' H' v t rs' rw'
        cases a with
        | ref n =>
          have q : SPostP (PrN X.K) (zp X ex) W F ρ D ((liftV (match rdSeq S (.ref n) with | some (_, l) => some (.d (.tuple l), S) | none => none)).then aσ fun a S1 => .rt a S1) := q
          cases e2 : rdSeq S (.ref n) with
          | none => rw [e2] at q; exact q.elim
          | some bl =>
            obtain ⟨b, l⟩ := bl
            rw [e2] at q
            have q : ∀ F' ρ' H' v, Tr F ρ F' ρ' → RS X.K F' ρ' S H' → RepW (zp X ex) F' ρ' H' (.d (.tuple l)) v → PrN X.K F' v (.d (.tuple l)) → D.rt v H' := q
            obtain ⟨p, vs, rfl, k, L, T⟩ := rdSeq_F (Z := zp X ex) (a := .ref n) rs' (show RepV (zp X ex) F' ρ' (.ref n) v from rw') e2
            have hb : b = true := by
              cases b with
              | true => rfl
              | false =>
                have := rdSeq_tup e2
                cases this
            refine ⟨p, vs, rfl, L hb, fun u o hu h1 h2 => ?_⟩
            have sm : Same F' (upd F' u (.frz o (.tup vs))) := same_upd (rs'.fresh hu)
            have da := dpA_mono sm _ _ k
            have tn : TupN (upd F' u (.frz o (.tup vs))) u vs := ⟨o, upd_same, h1, h2⟩
            exact q _ ρ' _ _ (t.trans (Tr.sam sm)) (rs'.newF hu) (show Dp _ _ _ _ from .tup tn.sq da) (.inr ⟨u, vs, l, rfl, rfl, tn, da⟩)
        | d x => exact q.elim
        | own l => exact q.elim
        | exc x => exact q.elim
end
/-- it ends by returning data -/
def OnlyD (c : Sn) : Prop := ∀ σ S, (∀ σ' S', c σ S ≠ .nx σ' S') ∧ ∀ a S', c σ S = .rt a S' → ∃ x, a = .d x
theorem defP_imp {Pr : PrT} {K : PySem.W.Frag} {mg : Str → Option Value} {N : List Str} {np : Nat} {c : Sn} {vs : List V} {H : Hp} {Q : VK} {E : XK} (hc : OnlyD c) (h : spOfP Pr K mg np (defD N.length c) vs H Q E) :
    tSP Pr ⟨K, mg, none⟩ (fun cls d _ H => E cls d H) c { nx := fun _ H' => Q .non H', rt := Q } (start N vs) H := by
  obtain ⟨hl, F, ρ, S, as, rs, rv, q⟩ := h
  have ln := RepVs.len rv
  refine ⟨F, ρ, S, as.map some ++ List.replicate (N.length - as.length) none, rs, by rw [ln]; exact RSt.args rv, ?_⟩
  unfold defD at q
  have cutT : ∀ {F' : Hp} {ρ' : Rh}, Tr F ρ F' ρ' → Tr F ρ F' ⟨ρ.l, ρ'.G⟩ := fun t => ⟨t.same, List.prefix_refl _, t.g⟩
  have cutR : ∀ {F' : Hp} {ρ' : Rh} {S' : AS} {H' : Hp}, Tr F ρ F' ρ' → RS K F' ρ' S' H' → RS K F' ⟨ρ.l, ρ'.G⟩ (S'.take S.length) H' := fun {F' ρ' S' H'} t r => by
    have z := RS.cut (Z := ⟨K, mg, none⟩) (ρ' := ⟨ρ.l, ρ'.G⟩) r t.pre rfl
    rw [← rs.len]
    exact z
  obtain ⟨hn, hr⟩ := hc (as.map some ++ List.replicate (N.length - as.length) none) S
  cases e : c (as.map some ++ List.replicate (N.length - as.length) none) S with
  | nx σ' S' => exact absurd e (hn _ _)
  | er x σ' S' =>
    rw [e] at q
    exact fun F' ρ' H' σ' cls d t rs' _ rx => q F' ⟨ρ.l, ρ'.G⟩ H' cls d (cutT t) (cutR t rs') rx
  | bk σ' S' => rw [e] at q; exact q.elim
  | ct σ' S' => rw [e] at q; exact q.elim
  | stuck => rw [e] at q; exact q.elim
  | rt a S' =>
    obtain ⟨x, rfl⟩ := hr _ _ e
    rw [e] at q
    exact fun F' ρ' H' v t rs' rw' pr => q F' ⟨ρ.l, ρ'.G⟩ H' v (cutT t) (cutR t rs') rw' pr
theorem ok_defP {Pr : PrT} {P : Program} {w : World} {K : PySem.W.Frag} {mg : Str → Option Value} {base : Heap} {x qual : Str} {st : Stmt} {f : Addr} {fd : FuncData} {N ps : List Str} {k : Nat} {c : Sn} (Fn : Fun K x qual st f fd) (S : FnScope N ps (defScope st)) (hc : OnlyD c)
    (hb : ∀ (cdv : Value) (A : Around) (outer : List Env) (s : Shared) (H : Hp) (E : XK), Room k (A.deeper (envOfC qual (defScope st) s.heap.objs.size f cdv)) → A.guards = some [] → PSs (cxOf (L2.CX P w) P w K mg base N qual (defScope st) f cdv A outer s H E) (defBody st) (tSP Pr ⟨K, mg, none⟩ (fun cls d _ H => E cls d H) c)) :
    FnOkG P w K mg base (L2.CX P w) (k + 1) f fd ps (spOfP Pr K mg ps.length (defD N.length c)) :=
  fnG_of Fn S (fun vs H Q E h => h.1) fun cdv A outer s H vs Q E hr hg h => ⟨_, hb cdv A outer s H E hr hg, defP_imp hc h⟩
theorem FnOkG.imp {P : Program} {w : World} {K : PySem.W.Frag} {mg : Str → Option Value} {base : Heap} {CX : CXT} {k : Nat} {f : Addr} {fd : FuncData} {ps : List Str} {sp sp' : Sp} (F : FnOkG P w K mg base CX k f fd ps sp) (h : ∀ vs H Q E, sp' vs H Q E → sp vs H Q E) : FnOkG P w K mg base CX k f fd ps sp' :=
  ⟨fun vs H Q E q => F.len vs H Q E (h vs H Q E q), fun A outer s H args us vs Q E hr hg e0 hb rv q => F.run A outer s H args us vs Q E hr hg e0 hb rv (h vs H Q E q)⟩
/-! no return -/
def NoRt (c : Sn) : Prop := ∀ σ S a S', c σ S ≠ .rt a S'
theorem NoRt.ok {Pr : PrT} {c : Sn} (h : NoRt c) : RtOk Pr c := fun σ S a S' e => absurd e (h σ S a S')
theorem noRt_skip : NoRt sSkip := fun σ S a S' e => by cases e
theorem noRt_then {σ : ASt} {r : ER} {f : AV → AS → SR} (h : ∀ a S b S', f a S ≠ .rt b S') (a : AV) (S' : AS) : r.then σ f ≠ .rt a S' := by
  cases r with
  | ok b S => exact h b S a S'
  | err x S => intro e; cases e
  | stuck => intro e; cases e
theorem noRt_asg {i : Nat} {m : Bool} {c : Dn} : NoRt (sAsg i m c) := fun σ S a S' => noRt_then (fun a S b S' e => by
  cases a with
  | own l => cases m <;> cases e
  | d x => cases e
  | ref n => cases e
  | exc x => cases e) a S'
theorem noRt_unp {p : Pat} {c : Dn} : NoRt (sUnp p c) := fun σ S a S' => noRt_then (fun a S b S' e => by
  cases e2 : bindP S p a.fz σ with
  | none => rw [e2] at e; cases e
  | some x => rw [e2] at e; cases e) a S'
theorem noRt_expr {c : Dn} : NoRt (sExpr c) := fun σ S a S' => noRt_then (fun a S b S' e => by cases e) a S'
theorem noRt_for {it : It1} {p : Pat} {c : Sn} (h : NoRt c) : NoRt (sFor it p c) := fun σ S a S' => by
  have key : ∀ (l : List D) (σ : ASt) (S : AS), forGo p c l σ S ≠ .rt a S' := by
    intro l
    induction l with
    | nil => intro σ S e; cases e
    | cons x l ih =>
      intro σ S
      unfold forGo
      cases bindP S p (.d x) σ with
      | none => intro e; cases e
      | some σ1 =>
        dsimp only
        cases e : c σ1 S with
        | nx σ2 S2 => exact ih σ2 S2
        | ct σ2 S2 => exact ih σ2 S2
        | rt b S2 => exact absurd e (h σ1 S b S2)
        | bk σ2 S2 => intro e; cases e
        | er x σ2 S2 => intro e; cases e
        | stuck => intro e; cases e
  unfold sFor
  cases it σ S with
  | ok l S1 => exact key l σ S1
  | err x S1 => intro e; cases e
  | stuck => intro e; cases e
theorem rtOk_if {Pr : PrT} {ct : Dn} {c1 c2 : Sn} (h1 : RtOk Pr c1) (h2 : RtOk Pr c2) : RtOk Pr (sIf ct c1 c2) := fun σ S a S' e => by
  unfold sIf at e
  cases e2 : ct σ S with
  | err x S1 => rw [e2] at e; cases e
  | stuck => rw [e2] at e; cases e
  | ok b S1 =>
    rw [e2] at e
    cases b with
    | d x =>
      cases x with
      | bool k =>
        cases k with
        | true => exact h1 _ _ _ _ e
        | false => exact h2 _ _ _ _ e
      | _ => cases e
    | _ => cases e
theorem rtOk_empty {K : PySem.W.Frag} : RtOk (PrN K) (sRet (dCallV vTupD lNil)) := fun σ S a S' e F v => by
  cases e
  exact .inl rfl
/-- its returns give data -/
def RtD (c : Sn) : Prop := ∀ σ S a S', c σ S = .rt a S' → ∃ x, a = .d x
theorem NoRt.d {c : Sn} (h : NoRt c) : RtD c := fun σ S a S' e => absurd e (h σ S a S')
theorem rtD_if {ct : Dn} {c1 c2 : Sn} (h1 : RtD c1) (h2 : RtD c2) : RtD (sIf ct c1 c2) := fun σ S a S' e => by
  unfold sIf at e
  cases e2 : ct σ S with
  | err x S1 => rw [e2] at e; cases e
  | stuck => rw [e2] at e; cases e
  | ok b S1 =>
    rw [e2] at e
    cases b with
    | d x =>
      cases x with
      | bool k =>
        cases k with
        | true => exact h1 _ _ _ _ e
        | false => exact h2 _ _ _ _ e
      | _ => cases e
    | _ => cases e
theorem rtD_empty : RtD (sRet (dCallV vTupD lNil)) := fun σ S a S' e => by
  cases e
  exact ⟨_, rfl⟩
theorem onlyD_seq {c1 c2 : Sn} (h1 : RtD c1) (h2 : OnlyD c2) : OnlyD (sSeq c1 c2) := fun σ S => by
  unfold sSeq
  cases e : c1 σ S with
  | nx σ1 S1 => exact h2 σ1 S1
  | rt a S1 => exact ⟨fun _ _ z => (by cases z), fun b S' z => by cases z; exact h1 _ _ _ _ e⟩
  | bk a S1 => exact ⟨fun _ _ z => (by cases z), fun b S' z => (by cases z)⟩
  | ct a S1 => exact ⟨fun _ _ z => (by cases z), fun b S' z => (by cases z)⟩
  | er x a S1 => exact ⟨fun _ _ z => (by cases z), fun b S' z => (by cases z)⟩
  | stuck => exact ⟨fun _ _ z => (by cases z), fun b S' z => (by cases z)⟩
theorem onlyD_tupF {i : Nat} : OnlyD (sRet (dCallV vTupleF (lCons (dVar i) lNil))) := fun σ S => by
  have key : ∀ a S1, vTupleF [a] S = some (a, S1) → True := fun _ _ _ => trivial
  unfold sRet dCallV lCons lNil dVar
  cases e : σ[i]? with
  | none => exact ⟨fun _ _ z => (by cases z), fun b S' z => (by cases z)⟩
  | some o =>
    cases o with
    | none => exact ⟨fun _ _ z => (by cases z), fun b S' z => (by cases z)⟩
    | some a =>
      show (∀ σ' S', (liftV (vTupleF [a.fz] S)).then σ (fun a S1 => SR.rt a S1) ≠ .nx σ' S') ∧ ∀ b S', (liftV (vTupleF [a.fz] S)).then σ (fun a S1 => SR.rt a S1) = .rt b S' → ∃ x, b = .d x
      cases e2 : vTupleF [a.fz] S with
      | none => exact ⟨fun _ _ z => (by cases z), fun b S' z => (by cases z)⟩
      | some q =>
        obtain ⟨q1, q2⟩ := q
        refine ⟨fun _ _ z => (by cases z), fun b S' z => ?_⟩
        cases z
        unfold vTupleF at e2
        split at e2
        · split at e2
          · cases e2
            exact ⟨_, rfl⟩
          · cases e2
        · cases e2
/-- a call by any promise -/
theorem pe_callGs {X : Cx} {W : WX} {k : Nat} {f : Addr} {fd : FuncData} {ps : List Str} {sp : Sp} {x : Str} {p pos : Pos} {e : Expr} {es : List Expr} {ta : TA} (F : FnOkG X.prog X.w X.K X.mg X.base (L2.CX X.prog X.w) k f fd ps sp) (hr : Room k X.A) (gd : X.A.guards = some []) (hg : Gl X x) (hm : X.mg x = some (.ref f))
    (hk : PySem.W.keepIn X.K (.ref f) = true) (hb : Binds X.K fd ps []) (tk : Takes X W) (ha : PA X (e :: es) ta)
    (hdb : (x == ("__debug__" : Str)) = false) (he : starEach (e :: es) X.env = (false, eval e X.env) :: starEach es X.env) (hpl : (backTo pos (starEach es X.env)).any (·.1) = false) :
    PE X (.Call (.Name x p) (e :: es) [] pos) (fun σ H Q => ta σ H fun vs H1 => sp vs H1 Q (WE W σ)) := by
  refine ⟨fun pins s σ H Q I h => ?_⟩
  refine wpAny_Call_Name_kw (ld_glob I hg hm ?_ hdb)
  refine PySem.W.callWith_K (h₀ := X.base) I.ok.mod.kin hk (thn (ha.run pos pins s σ H _ I h) fun us s1 got => ?_) he hpl
  obtain ⟨vs, H1, I1, r, q⟩ := got
  exact ⟨I1.kIn, runG F hr gd hb tk I1 r q⟩
end Den
namespace K74
/-! A shortest row of numbers that meets all lots: breadth first. -/
abbrev Lots := List (Int × List Int)
abbrev Ch := List (List Int × List Int)
def keep (L : Lots) (left : List Int) (x : Int) : List Int := (L.filter fun q => left.contains q.1 && !q.2.contains x).map (·.1)
def lotOf (L : Lots) (p : Int) : List Int := ((L.find? fun q => q.1 == p).map (·.2)).getD []
def look (C : Ch) (k : List Int) : Option (List Int) := (C.find? fun q => q.1 == k).map (·.2)
def stepN (L : Lots) (left : List Int) (z : Ch × List (List Int)) (x : Int) : Ch × List (List Int) :=
  if (look z.1 (keep L left x)).isSome then z else (z.1 ++ [(keep L left x, (look z.1 left).getD [] ++ [x])], z.2 ++ [keep L left x])
def stepL (L : Lots) (z : Ch × List (List Int)) (left : List Int) : Ch × List (List Int) := (lotOf L (left.headD 0)).foldl (stepN L left) z
def layerStep (L : Lots) (C : Ch) (layer : List (List Int)) : Ch × List (List Int) := layer.foldl (stepL L) (C, [])
def bfs (L : Lots) : Nat → Ch → List (List Int) → Option (List Int)
  | 0, C, _ => look C []
  | n + 1, C, layer => if (look C []).isSome then look C [] else bfs L n (layerStep L C layer).1 (layerStep L C layer).2
def meet (L : Lots) : Option (List Int) := bfs L (L.length + 1) [(L.map (·.1), [])] [L.map (·.1)]

/-- each of these lots is met -/
def Hits (L : Lots) (left T : List Int) : Prop := ∀ q ∈ L, q.1 ∈ left → ∃ x ∈ T, x ∈ q.2
structure Good (L : Lots) : Prop where
  nd : (L.map (·.1)).Nodup
  ne : ∀ q ∈ L, q.2 ≠ []

theorem look_some {C : Ch} {k ch : List Int} (h : look C k = some ch) : (k, ch) ∈ C := by
  unfold look at h
  rw [Option.map_eq_some_iff] at h
  obtain ⟨q, h1, h2⟩ := h
  have a := List.find?_some h1
  have b := List.mem_of_find?_eq_some h1
  simp at a
  subst a h2
  exact b
theorem look_isSome {C : Ch} {k : List Int} : (look C k).isSome = true ↔ ∃ ch, (k, ch) ∈ C := by
  constructor
  · intro h
    obtain ⟨ch, e⟩ := Option.isSome_iff_exists.mp h
    exact ⟨ch, look_some e⟩
  · rintro ⟨ch, e⟩
    unfold look
    rw [Option.isSome_map, List.find?_isSome]
    exact ⟨_, e, by simp⟩
theorem look_app {C D : Ch} {k : List Int} (h : (look C k).isSome = true) : look (C ++ D) k = look C k := by
  unfold look at *
  rw [Option.isSome_map] at h
  rw [List.find?_append]
  obtain ⟨q, e⟩ := Option.isSome_iff_exists.mp h
  rw [e]
  rfl
theorem mem_keep {L : Lots} {left : List Int} {x p : Int} : p ∈ keep L left x ↔ ∃ q ∈ L, q.1 = p ∧ p ∈ left ∧ x ∉ q.2 := by
  unfold keep
  simp only [List.mem_map, List.mem_filter, Bool.and_eq_true, Bool.not_eq_true', List.contains_iff_mem]
  constructor
  · rintro ⟨q, ⟨h1, h2, h3⟩, rfl⟩
    refine ⟨q, h1, rfl, h2, fun z => ?_⟩
    rw [← List.contains_iff_mem, h3] at z
    cases z
  · rintro ⟨q, h1, rfl, h2, h3⟩
    refine ⟨q, ⟨h1, h2, ?_⟩, rfl⟩
    cases e : q.2.contains x with
    | false => rfl
    | true => exact absurd (List.contains_iff_mem.mp e) h3
theorem lotOf_mem {L : Lots} (g : Good L) {q : Int × List Int} (h : q ∈ L) : lotOf L q.1 = q.2 := by
  have : ∀ M : Lots, (M.map (·.1)).Nodup → q ∈ M → lotOf M q.1 = q.2 := by
    intro M
    induction M with
    | nil => intro _ h; cases h
    | cons r M ih =>
      intro nd h
      rw [List.map_cons, List.nodup_cons] at nd
      unfold lotOf
      rw [List.find?_cons]
      rcases List.mem_cons.mp h with rfl | h
      · simp
      · have hne : r.1 ≠ q.1 := fun e => nd.1 (by rw [e]; exact List.mem_map_of_mem h)
        have : (r.1 == q.1) = false := by simpa using hne
        rw [this]
        exact ih nd.2 h
  exact this L g.nd h

/-! what holds of the choices -/
/-- a choice's numbers come from lots, each new, and leave just these lots unmet -/
structure Fine (L : Lots) (k ch : List Int) : Prop where
  from_ : ∀ x ∈ ch, ∃ q ∈ L, x ∈ q.2
  nd : ch.Nodup
  left : ∀ p, p ∈ k ↔ ∃ q ∈ L, q.1 = p ∧ ∀ x ∈ ch, x ∉ q.2
structure InvC (L : Lots) (n : Nat) (C : Ch) (layer : List (List Int)) : Prop where
  fine : ∀ q ∈ C, Fine L q.1 q.2
  dom : ∀ s ∈ layer, ∃ ch, (s, ch) ∈ C
  deep : ∀ s ∈ layer, ∀ ch, (s, ch) ∈ C → ch.length = n
  most : ∀ q ∈ C, q.2.length ≤ n
  /-- what is behind the layer has all that follows it -/
  shut : ∀ q ∈ C, q.1 ∉ layer → ∀ p r, q.1 = p :: r → ∀ x ∈ lotOf L p, ∃ ch, (keep L q.1 x, ch) ∈ C

theorem Fine.step {L : Lots} (g : Good L) {p : Int} {r ch : List Int} (f : Fine L (p :: r) ch) {x : Int} (hx : x ∈ lotOf L p) : Fine L (keep L (p :: r) x) (ch ++ [x]) := by
  obtain ⟨q, hq, e, hn⟩ := (f.left p).mp List.mem_cons_self
  have hx2 : x ∈ q.2 := by rw [← lotOf_mem g hq, e]; exact hx
  refine ⟨fun y hy => ?_, ?_, fun p' => ?_⟩
  · rcases List.mem_append.mp hy with hy | hy
    · exact f.from_ y hy
    · rw [List.mem_singleton.mp hy]
      exact ⟨q, hq, hx2⟩
  · refine List.nodup_append.mpr ⟨f.nd, by simp, fun a ha b hb e2 => ?_⟩
    have : b = x := by simpa using hb
    subst this
    subst e2
    exact hn a ha hx2
  · rw [mem_keep]
    constructor
    · rintro ⟨q', h1, rfl, h3, h4⟩
      obtain ⟨q2, k1, k2, k3⟩ := (f.left q'.1).mp h3
      have : q2 = q' := by
        have a := lotOf_mem g k1
        have b := lotOf_mem g h1
        rw [k2] at a
        exact Prod.ext k2 (a.symm.trans b)
      subst this
      refine ⟨q2, h1, rfl, fun y hy => ?_⟩
      rcases List.mem_append.mp hy with hy | hy
      · exact k3 y hy
      · rw [List.mem_singleton.mp hy]; exact h4
    · rintro ⟨q', h1, rfl, h3⟩
      refine ⟨q', h1, rfl, (f.left q'.1).mpr ⟨q', h1, rfl, fun y hy => h3 y (List.mem_append_left _ hy)⟩, h3 x (List.mem_append_right _ (by simp))⟩

/-- inside a layer: the choices grow, what was new is named -/
structure InvT (L : Lots) (n : Nat) (C0 : Ch) (C : Ch) (fo : List (List Int)) : Prop where
  fine : ∀ q ∈ C, Fine L q.1 q.2
  old : ∃ D, C = C0 ++ D
  dom : ∀ s ∈ fo, ∃ ch, (s, ch) ∈ C
  new : ∀ q ∈ C, q ∈ C0 ∨ (q.1 ∈ fo ∧ q.2.length = n + 1)
  fresh : ∀ s ∈ fo, ∀ ch, (s, ch) ∉ C0
theorem stepN_ok {L : Lots} (g : Good L) {n : Nat} {C0 C : Ch} {fo : List (List Int)} {p : Int} {r : List Int} (i : InvT L n C0 C fo) (h0 : ∃ ch, (p :: r, ch) ∈ C0) (hn : ∀ ch, (p :: r, ch) ∈ C0 → ch.length = n) {x : Int} (hx : x ∈ lotOf L p) :
    InvT L n C0 (stepN L (p :: r) (C, fo) x).1 (stepN L (p :: r) (C, fo) x).2 ∧ (∃ ch, (keep L (p :: r) x, ch) ∈ (stepN L (p :: r) (C, fo) x).1) ∧ (∀ q ∈ C, q ∈ (stepN L (p :: r) (C, fo) x).1) := by
  unfold stepN
  by_cases z : (look C (keep L (p :: r) x)).isSome = true
  · rw [if_pos z]
    exact ⟨i, look_isSome.mp z, fun q h => h⟩
  · rw [if_neg z]
    obtain ⟨D, eD⟩ := i.old
    have l0 : (look C0 (p :: r)).isSome = true := look_isSome.mpr h0
    obtain ⟨ch, ec⟩ := Option.isSome_iff_exists.mp l0
    have lc : look C (p :: r) = some ch := by rw [eD, look_app l0, ec]
    have inC0 := look_some ec
    have inC := look_some lc
    have z' : ∀ ch, (keep L (p :: r) x, ch) ∉ C := fun ch hh => z (look_isSome.mpr ⟨ch, hh⟩)
    simp only [lc, Option.getD_some]
    refine ⟨⟨fun q hq => ?_, ⟨D ++ [_], by rw [eD, List.append_assoc]⟩, fun s hs => ?_, fun q hq => ?_, fun s hs ch' hc => ?_⟩, ⟨_, List.mem_append_right _ List.mem_cons_self⟩, fun q hq => List.mem_append_left _ hq⟩
    · rcases List.mem_append.mp hq with hq | hq
      · exact i.fine q hq
      · rw [List.mem_singleton.mp hq]
        exact (i.fine _ inC).step g hx
    · rcases List.mem_append.mp hs with hs | hs
      · obtain ⟨c, hc⟩ := i.dom s hs
        exact ⟨c, List.mem_append_left _ hc⟩
      · rw [List.mem_singleton.mp hs]
        exact ⟨_, List.mem_append_right _ List.mem_cons_self⟩
    · rcases List.mem_append.mp hq with hq | hq
      · rcases i.new q hq with h | ⟨h, h'⟩
        · exact .inl h
        · exact .inr ⟨List.mem_append_left _ h, h'⟩
      · rw [List.mem_singleton.mp hq]
        refine .inr ⟨List.mem_append_right _ List.mem_cons_self, ?_⟩
        rw [List.length_append, hn ch inC0]
        rfl
    · rcases List.mem_append.mp hs with hs | hs
      · exact i.fresh s hs ch' hc
      · rw [List.mem_singleton.mp hs] at hc
        exact z' ch' (by rw [eD]; exact List.mem_append_left _ hc)
theorem stepL_ok {L : Lots} (g : Good L) {n : Nat} {C0 : Ch} {p : Int} {r : List Int} (h0 : ∃ ch, (p :: r, ch) ∈ C0) (hn : ∀ ch, (p :: r, ch) ∈ C0 → ch.length = n) : ∀ (xs : List Int) (C : Ch) (fo : List (List Int)), (∀ x ∈ xs, x ∈ lotOf L p) → InvT L n C0 C fo →
    InvT L n C0 (xs.foldl (stepN L (p :: r)) (C, fo)).1 (xs.foldl (stepN L (p :: r)) (C, fo)).2 ∧ (∀ x ∈ xs, ∃ ch, (keep L (p :: r) x, ch) ∈ (xs.foldl (stepN L (p :: r)) (C, fo)).1) ∧ (∀ q ∈ C, q ∈ (xs.foldl (stepN L (p :: r)) (C, fo)).1)
  | [], C, fo, _, i => ⟨i, fun x h => (by cases h), fun q h => h⟩
  | x :: xs, C, fo, hx, i => by
    obtain ⟨a, ⟨ch, b⟩, c⟩ := stepN_ok g i h0 hn (hx x List.mem_cons_self)
    obtain ⟨a2, b2, c2⟩ := stepL_ok g h0 hn xs _ _ (fun y hy => hx y (List.mem_cons_of_mem _ hy)) a
    rw [List.foldl_cons]
    refine ⟨a2, fun y hy => ?_, fun q h => c2 q (c q h)⟩
    rcases List.mem_cons.mp hy with rfl | hy
    · exact ⟨ch, c2 _ b⟩
    · exact b2 y hy
theorem layer_ok {L : Lots} (g : Good L) {n : Nat} {C0 : Ch} : ∀ (ls : List (List Int)) (C : Ch) (fo : List (List Int)), (∀ s ∈ ls, s ≠ [] ∧ (∃ ch, (s, ch) ∈ C0) ∧ ∀ ch, (s, ch) ∈ C0 → ch.length = n) → InvT L n C0 C fo →
    InvT L n C0 (ls.foldl (stepL L) (C, fo)).1 (ls.foldl (stepL L) (C, fo)).2 ∧ (∀ s ∈ ls, ∀ p r, s = p :: r → ∀ x ∈ lotOf L p, ∃ ch, (keep L s x, ch) ∈ (ls.foldl (stepL L) (C, fo)).1) ∧ (∀ q ∈ C, q ∈ (ls.foldl (stepL L) (C, fo)).1)
  | [], C, fo, _, i => ⟨i, fun s h => (by cases h), fun q h => h⟩
  | s :: ls, C, fo, hs, i => by
    obtain ⟨s0, s1, s2⟩ := hs s List.mem_cons_self
    cases s with
    | nil => exact absurd rfl s0
    | cons p r =>
      obtain ⟨a, b, c⟩ := stepL_ok g s1 s2 (lotOf L p) C fo (fun x h => h) i
      obtain ⟨a2, b2, c2⟩ := layer_ok g ls _ _ (fun y hy => hs y (List.mem_cons_of_mem _ hy)) a
      rw [List.foldl_cons]
      refine ⟨a2, fun y hy p' r' e x hx => ?_, fun q h => c2 q (c q h)⟩
      rcases List.mem_cons.mp hy with rfl | hy
      · cases e
        obtain ⟨ch, h⟩ := b x hx
        exact ⟨ch, c2 _ h⟩
      · exact b2 y hy p' r' e x hx
theorem layerStep_ok {L : Lots} (g : Good L) {n : Nat} {C : Ch} {layer : List (List Int)} (i : InvC L n C layer) (h : look C [] = none) : InvC L (n + 1) (layerStep L C layer).1 (layerStep L C layer).2 ∧ (∀ q ∈ C, q ∈ (layerStep L C layer).1) ∧
    (∀ s ∈ layer, ∀ p r, s = p :: r → ∀ x ∈ lotOf L p, ∃ ch, (keep L s x, ch) ∈ (layerStep L C layer).1) ∧ (∀ q ∈ (layerStep L C layer).1, q ∈ C ∨ q.2.length = n + 1) := by
  have he : ∀ ch, ([], ch) ∉ C := fun ch hc => by
    have := look_isSome.mpr ⟨ch, hc⟩
    rw [h] at this
    cases this
  obtain ⟨a, b, c⟩ := layer_ok g (C0 := C) (n := n) layer C [] (fun s hs => ⟨fun e => by
    obtain ⟨ch, hc⟩ := i.dom s hs
    rw [e] at hc
    exact he ch hc, i.dom s hs, i.deep s hs⟩) ⟨i.fine, ⟨[], by simp⟩, fun s hs => (by cases hs), fun q hq => .inl hq, fun s hs => (by cases hs)⟩
  refine ⟨⟨a.fine, a.dom, fun s hs ch hc => ?_, fun q hq => ?_, fun q hq hn p r e x hx => ?_⟩, c, b, fun q hq => ?_⟩
  · rcases a.new _ hc with h | h
    · exact absurd h (a.fresh s hs ch)
    · exact h.2
  · rcases a.new q hq with h | h
    · exact Nat.le_succ_of_le (i.most q h)
    · exact Nat.le_of_eq h.2
  · rcases a.new q hq with h | h
    · by_cases hl : q.1 ∈ layer
      · exact b q.1 hl p r e x hx
      · obtain ⟨ch, hc⟩ := i.shut q h hl p r e x hx
        exact ⟨ch, c _ hc⟩
    · exact absurd h.1 hn
  · rcases a.new q hq with h | h
    · exact .inl h
    · exact .inr h.2

/-- where nothing meets all yet, what still has to be met shows a place in the layer -/
theorem to_layer {L : Lots} (g : Good L) {n : Nat} {C : Ch} {layer : List (List Int)} (i : InvC L n C layer) (h : look C [] = none) : ∀ (m : Nat) (T s : List Int), T.length ≤ m → (∃ ch, (s, ch) ∈ C) → Hits L s T → ∃ s' ∈ layer, ∃ T' : List Int, T'.length ≤ T.length ∧ Hits L s' T'
  | m, T, s, hm, hs, hit => by
    by_cases hl : s ∈ layer
    · exact ⟨s, hl, T, Nat.le_refl _, hit⟩
    · obtain ⟨ch, hc⟩ := hs
      cases s with
      | nil =>
        have := look_isSome.mpr ⟨ch, hc⟩
        rw [h] at this
        cases this
      | cons p r =>
        obtain ⟨q, hq, e, _⟩ := ((i.fine _ hc).left p).mp List.mem_cons_self
        obtain ⟨x, hx, hxq⟩ := hit q hq (by rw [e]; exact List.mem_cons_self)
        obtain ⟨ch2, hc2⟩ := i.shut _ hc hl p r rfl x (by rw [← e, lotOf_mem g hq]; exact hxq)
        have lt : (T.erase x).length < T.length := by
          rw [List.length_erase_of_mem hx]
          have := List.length_pos_of_mem hx
          omega
        have hit2 : Hits L (keep L (p :: r) x) (T.erase x) := fun q' h1 h2 => by
          obtain ⟨q2, k1, k2, k3, k4⟩ := mem_keep.mp h2
          have : q2 = q' := by
            have a := lotOf_mem g k1
            have b := lotOf_mem g h1
            rw [k2] at a
            exact Prod.ext k2 (a.symm.trans b)
          subst this
          obtain ⟨y, hy, hyq⟩ := hit q2 h1 k3
          refine ⟨y, ?_, hyq⟩
          exact (List.mem_erase_of_ne (fun e => k4 (by rw [← e]; exact hyq))).mpr hy
        match m, hm with
        | 0, hm => omega
        | m + 1, hm =>
          obtain ⟨s', a, T', b, c⟩ := to_layer g i h m (T.erase x) _ (by omega) ⟨ch2, hc2⟩ hit2
          exact ⟨s', a, T', by omega, c⟩
theorem bfs_ok {L : Lots} (g : Good L) : ∀ (f n : Nat) (C : Ch) (layer : List (List Int)), InvC L n C layer → (∀ T, Hits L (L.map (·.1)) T → ∃ s ∈ layer, ∃ T' : List Int, T'.length + n ≤ T.length ∧ Hits L s T') ∨ (∃ ch, look C [] = some ch ∧ ch.length = n ∧ ∀ T, Hits L (L.map (·.1)) T → n ≤ T.length) →
    (∃ T, Hits L (L.map (·.1)) T ∧ T.length < f + n) → ∃ ch, bfs L f C layer = some ch ∧ Fine L [] ch ∧ ∀ T, Hits L (L.map (·.1)) T → ch.length ≤ T.length
  | f, n, C, layer, i, h, hT => by
    have done : ∀ ch, look C [] = some ch → ch.length = n → (∀ T, Hits L (L.map (·.1)) T → n ≤ T.length) → Fine L [] ch ∧ ∀ T, Hits L (L.map (·.1)) T → ch.length ≤ T.length := fun ch e l k => ⟨i.fine _ (look_some e), by rw [l]; exact k⟩
    cases e : look C [] with
    | some ch =>
      rcases h with h | ⟨ch', e', l', k'⟩
      · have hl : ch.length ≤ n := i.most _ (look_some e)
        refine ⟨ch, ?_, i.fine _ (look_some e), fun T hT => ?_⟩
        · cases f with
          | zero => exact e
          | succ f => unfold bfs; rw [e]; rfl
        · obtain ⟨s, _, T', k, _⟩ := h T hT
          omega
      · rw [e] at e'
        cases e'
        refine ⟨ch, ?_, done ch e l' k'⟩
        cases f with
        | zero => exact e
        | succ f => unfold bfs; rw [e]; rfl
    | none =>
      rcases h with h | ⟨ch', e', _⟩
      · obtain ⟨i2, sub, exp, new⟩ := layerStep_ok g i e
        -- a step
        have st : ∀ T, Hits L (L.map (·.1)) T → ∃ s, (∃ ch, (s, ch) ∈ (layerStep L C layer).1) ∧ ∃ T' : List Int, T'.length + (n + 1) ≤ T.length ∧ Hits L s T' := fun T hT => by
          obtain ⟨s, hs, T', k, hit⟩ := h T hT
          obtain ⟨ch, hc⟩ := i.dom s hs
          cases s with
          | nil =>
            have := look_isSome.mpr ⟨ch, hc⟩
            rw [e] at this
            cases this
          | cons p r =>
            obtain ⟨q, hq, eq, _⟩ := ((i.fine _ hc).left p).mp List.mem_cons_self
            obtain ⟨x, hx, hxq⟩ := hit q hq (by rw [eq]; exact List.mem_cons_self)
            refine ⟨keep L (p :: r) x, exp _ hs p r rfl x (by rw [← eq, lotOf_mem g hq]; exact hxq), T'.erase x, ?_, fun q' h1 h2 => ?_⟩
            · rw [List.length_erase_of_mem hx]
              have := List.length_pos_of_mem hx
              omega
            · obtain ⟨q2, k1, k2, k3, k4⟩ := mem_keep.mp h2
              have : q2 = q' := by
                have a := lotOf_mem g k1
                have b := lotOf_mem g h1
                rw [k2] at a
                exact Prod.ext k2 (a.symm.trans b)
              subst this
              obtain ⟨y, hy, hyq⟩ := hit q2 h1 k3
              refine ⟨y, ?_, hyq⟩
              exact (List.mem_erase_of_ne (fun e => k4 (by rw [← e]; exact hyq))).mpr hy
        obtain ⟨T0, hT0, lT0⟩ := hT
        have big : n + 1 ≤ T0.length := by
          obtain ⟨_, _, T', k, _⟩ := st T0 hT0
          omega
        cases f with
        | zero => omega
        | succ f =>
          have nx := bfs_ok g f (n + 1) _ _ i2 (by
            cases e2 : look (layerStep L C layer).1 [] with
            | some ch =>
              refine .inr ⟨ch, rfl, ?_, fun T hT => ?_⟩
              · rcases new _ (look_some e2) with z | z
                · have := look_isSome.mpr ⟨ch, z⟩
                  rw [e] at this
                  cases this
                · exact z
              · obtain ⟨_, _, T', k, _⟩ := st T hT
                omega
            | none =>
              refine .inl fun T hT => ?_
              obtain ⟨s, hs, T', k, hit⟩ := st T hT
              obtain ⟨s', a, T2, b, c⟩ := to_layer g i2 e2 T'.length T' s (Nat.le_refl _) hs hit
              exact ⟨s', a, T2, by omega, c⟩) ⟨T0, hT0, by omega⟩
          obtain ⟨ch, e3, r⟩ := nx
          refine ⟨ch, ?_, r⟩
          unfold bfs
          rw [e]
          exact e3
      · rw [e] at e'
        cases e'
theorem heads_hit {L : Lots} (g : Good L) : Hits L (L.map (·.1)) (L.map fun q => q.2.headD 0) := fun q hq _ => by
  have := g.ne q hq
  refine ⟨q.2.headD 0, List.mem_map.mpr ⟨q, hq, rfl⟩, ?_⟩
  cases e : q.2 with
  | nil => exact absurd e this
  | cons a b => exact List.mem_cons_self
theorem meet_ok {L : Lots} (g : Good L) : ∃ ch, meet L = some ch ∧ (∀ x ∈ ch, ∃ q ∈ L, x ∈ q.2) ∧ ch.Nodup ∧ Hits L (L.map (·.1)) ch ∧ ∀ T, Hits L (L.map (·.1)) T → ch.length ≤ T.length := by
  have i : InvC L 0 [(L.map (·.1), [])] [L.map (·.1)] := by
    refine ⟨fun q hq => ?_, fun s hs => ?_, fun s hs ch hc => ?_, fun q hq => ?_, fun q hq hn => ?_⟩
    · rw [List.mem_singleton.mp hq]
      refine ⟨fun x h => (by cases h), List.nodup_nil, fun p => ?_⟩
      constructor
      · intro h
        obtain ⟨q, h1, h2⟩ := List.mem_map.mp h
        exact ⟨q, h1, h2, fun x h => (by cases h)⟩
      · rintro ⟨q, h1, rfl, _⟩
        exact List.mem_map_of_mem h1
    · rw [List.mem_singleton.mp hs]
      exact ⟨_, List.mem_cons_self⟩
    · have := List.mem_singleton.mp hc
      rw [Prod.mk.injEq] at this
      rw [this.2]
      rfl
    · rw [List.mem_singleton.mp hq]
      exact Nat.le_refl _
    · rw [List.mem_singleton.mp hq] at hn
      exact absurd List.mem_cons_self hn
  obtain ⟨ch, e, f, k⟩ := bfs_ok g (L.length + 1) 0 _ _ i (.inl fun T hT => ⟨_, List.mem_cons_self, T, by omega, hT⟩) ⟨_, heads_hit g, by rw [List.length_map]; omega⟩
  refine ⟨ch, e, f.from_, f.nd, fun q hq _ => ?_, k⟩
  refine Classical.byContradiction fun z => ?_
  have := (f.left q.1).mpr ⟨q, hq, rfl, fun x hx hq2 => z ⟨x, hx, hq2⟩⟩
  cases this
end K74
namespace K74
/-! sizes of the choices -/
def subs : List Int → List (List Int)
  | [] => [[]]
  | x :: r => subs r ++ (subs r).map (x :: ·)
theorem subs_len : ∀ l : List Int, (subs l).length = 2 ^ l.length
  | [] => rfl
  | x :: r => by
    unfold subs
    rw [List.length_append, List.length_map, subs_len r, List.length_cons, Nat.pow_succ]
    omega
theorem subs_mem : ∀ {l s : List Int}, s.Sublist l → s ∈ subs l
  | [], s, h => by
    rw [List.sublist_nil.mp h]
    exact List.mem_cons_self
  | x :: r, s, h => by
    unfold subs
    cases h with
    | cons _ h => exact List.mem_append_left _ (subs_mem h)
    | cons_cons _ h => exact List.mem_append_right _ (List.mem_map.mpr ⟨_, subs_mem h, rfl⟩)
theorem nodup_le {α : Type} [DecidableEq α] : ∀ {l m : List α}, l.Nodup → (∀ x ∈ l, x ∈ m) → l.length ≤ m.length
  | [], _, _, _ => Nat.zero_le _
  | x :: l, m, nd, h => by
    have hx := h x List.mem_cons_self
    have := nodup_le (l := l) (m := m.erase x) (List.nodup_cons.mp nd).2 fun y hy => by
      have ne : y ≠ x := fun e => (List.nodup_cons.mp nd).1 (e ▸ hy)
      exact (List.mem_erase_of_ne ne).mpr (h y (List.mem_cons_of_mem _ hy))
    rw [List.length_erase_of_mem hx] at this
    have := List.length_pos_of_mem hx
    rw [List.length_cons]
    omega
theorem keep_sub (L : Lots) (left : List Int) (x : Int) : (keep L left x).Sublist (L.map (·.1)) := (List.filter_sublist).map _
structure Kk (L : Lots) (n : Nat) (C : Ch) (fo : List (List Int)) : Prop where
  nd : (C.map (·.1)).Nodup
  sub : ∀ q ∈ C, q.1.Sublist (L.map (·.1))
  len : ∀ q ∈ C, q.2.length + n ≤ 18
  fl : fo.length ≤ C.length
  dom : ∀ s ∈ fo, ∃ ch, (s, ch) ∈ C
theorem Kk.size {L : Lots} {n : Nat} {C : Ch} {fo : List (List Int)} (k : Kk L n C fo) (h : L.length ≤ 16) : C.length ≤ 65536 := by
  have := nodup_le (m := subs (L.map (·.1))) k.nd fun s hs => by
    obtain ⟨q, hq, rfl⟩ := List.mem_map.mp hs
    exact subs_mem (k.sub q hq)
  rw [List.length_map, subs_len, List.length_map] at this
  exact Nat.le_trans this (Nat.pow_le_pow_right (n := 2) (by decide) h)
theorem Kk.step {L : Lots} {n : Nat} {C : Ch} {fo : List (List Int)} {left v : List Int} (k : Kk L n C fo) (hl : look C left = some v) (hv : v.length + n ≤ 17) (x : Int) : Kk L n (stepN L left (C, fo) x).1 (stepN L left (C, fo) x).2 := by
  unfold stepN
  by_cases z : (look C (keep L left x)).isSome = true
  · rw [if_pos z]
    exact k
  · rw [if_neg z]
    simp only [hl, Option.getD_some]
    refine ⟨?_, fun q hq => ?_, fun q hq => ?_, by simp only [List.length_append, List.length_singleton]; have := k.fl; omega, fun s hs => ?_⟩
    · rw [List.map_append]
      refine List.nodup_append.mpr ⟨k.nd, by simp, fun a ha b hb e => ?_⟩
      have : b = keep L left x := by simpa using hb
      subst this
      subst e
      obtain ⟨q, hq, e2⟩ := List.mem_map.mp ha
      exact z (look_isSome.mpr ⟨q.2, by rw [← e2]; exact hq⟩)
    · rcases List.mem_append.mp hq with hq | hq
      · exact k.sub q hq
      · rw [List.mem_singleton.mp hq]
        exact keep_sub L left x
    · rcases List.mem_append.mp hq with hq | hq
      · exact k.len q hq
      · rw [List.mem_singleton.mp hq]
        simp only [List.length_append, List.length_singleton]
        omega
    · rcases List.mem_append.mp hs with hs | hs
      · obtain ⟨c, hc⟩ := k.dom s hs
        exact ⟨c, List.mem_append_left _ hc⟩
      · rw [List.mem_singleton.mp hs]
        exact ⟨_, List.mem_append_right _ List.mem_cons_self⟩
theorem look_step {L : Lots} {C : Ch} {fo : List (List Int)} {left s v : List Int} {x : Int} (h : look C s = some v) : look (stepN L left (C, fo) x).1 s = some v := by
  unfold stepN
  split
  · exact h
  · rw [look_app (by rw [h]; rfl)]
    exact h
end K74
namespace K74
open PySem PySem.Spec PyProof.Rows L2 Den
/-- lots as data -/
def lotsD? : List D → Option Lots
  | [] => some []
  | .tuple [.int p, .tuple l] :: r => match ints? l, lotsD? r with
    | some ns, some L => some ((p, ns) :: L)
    | _, _ => none
  | _ => none
def dLots (L : Lots) : List D := L.map fun q => PyData.tuple [.int q.1, .tuple (q.2.map PyData.int)]
def goodB (L : Lots) : Bool := decide ((L.map (·.1)).Nodup) && (L.all fun q => !q.2.isEmpty) && decide (L.length ≤ 16)
/-- what the def of the text comes to, told by hand -/
def den_fewest_meeting_numbers (as : List AV) (S : AS) : ER := match as with
  | [.d (.tuple l)] => match lotsD? l with
    | some L => if goodB L = true then match meet L with
      | some ch => .ok (.d (.tuple (ch.map PyData.int))) S
      | none => .stuck
      else .stuck
    | none => .stuck
  | _ => .stuck
theorem lotsD?_ok : ∀ {l : List D} {L : Lots}, lotsD? l = some L → l = dLots L
  | [], L, h => by cases Option.some.inj h; rfl
  | x :: r, L, h => by
    unfold lotsD? at h
    split at h
    · rename_i e
      cases e
    · rename_i p m r' e
      rw [List.cons.injEq] at e
      obtain ⟨rfl, rfl⟩ := e
      split at h
      · rename_i ns M e1 e2
        cases Option.some.inj h
        rw [ints?_ok e1, lotsD?_ok e2]
        rfl
      · cases h
    · cases h
theorem lotsD?_map : ∀ L : Lots, lotsD? (dLots L) = some L
  | [] => rfl
  | (p, ns) :: L => by
    have ih := lotsD?_map L
    unfold dLots at ih ⊢
    rw [List.map_cons]
    unfold lotsD?
    rw [ints?_map, ih]
theorem goodB_ok {L : Lots} (h : goodB L = true) : Good L ∧ L.length ≤ 16 := by
  unfold goodB at h
  simp only [Bool.and_eq_true, decide_eq_true_eq, List.all_eq_true, Bool.not_eq_true', List.isEmpty_eq_false_iff] at h
  exact ⟨⟨h.1.1, h.1.2⟩, h.2⟩
end K74
namespace K74
open PySem PySem.Spec PyProof.Rows L2 Den
theorem eqv_ii (i j : Int) : PyData.eqv (.int i) (.int j) = decide (i = j) := by
  show (i == j) = decide (i = j)
  by_cases e : i = j
  · rw [e]
    simp
  · rw [decide_eq_false e]
    simpa using e
theorem flat_ints : ∀ l : List Int, (l.map PyData.int).all flatD = true
  | [] => rfl
  | x :: l => by
    rw [List.map_cons, List.all_cons, flat_ints l]
    rfl
theorem any_ints (x : Int) : ∀ l : List Int, ((l.map PyData.int).any fun y => PyData.eqv y (.int x)) = l.contains x
  | [] => rfl
  | y :: l => by
    rw [List.map_cons, List.any_cons, any_ints x l, eqv_ii, List.contains_cons]
    congr 1
    by_cases e : y = x
    · subst e; simp
    · rw [decide_eq_false e]
      symm
      simpa using fun z : x = y => e z.symm
theorem in_tI (l : List Int) (x : Int) (S : AS) : cop .In (.d (.int x)) (.d (.tuple (l.map PyData.int))) S = some (.d (.bool (l.contains x)), S) := by
  show (match (if flatD (.int x) && (l.map PyData.int).all flatD then some ((l.map PyData.int).any fun y => PyData.eqv y (.int x)) else none) with | some k => some (AV.d (.bool k), S) | none => none) = _
  rw [flat_ints, any_ints]
  rfl
theorem in_lI (l : List Int) (x : Int) (S : AS) : cop .In (.d (.int x)) (.d (.list (l.map PyData.int))) S = some (.d (.bool (l.contains x)), S) := by
  show (match (if flatD (.int x) && (l.map PyData.int).all flatD then some ((l.map PyData.int).any fun y => PyData.eqv y (.int x)) else none) with | some k => some (AV.d (.bool k), S) | none => none) = _
  rw [flat_ints, any_ints]
  rfl
theorem notin_tI (l : List Int) (x : Int) (S : AS) : cop .NotIn (.d (.int x)) (.d (.tuple (l.map PyData.int))) S = some (.d (.bool (!l.contains x)), S) := by
  show (match (if flatD (.int x) && (l.map PyData.int).all flatD then some ((l.map PyData.int).any fun y => PyData.eqv y (.int x)) else none) with | some k => some (AV.d (.bool (!k)), S) | none => none) = _
  rw [flat_ints, any_ints]
  rfl
theorem notin_lI (l : List Int) (x : Int) (S : AS) : cop .NotIn (.d (.int x)) (.d (.list (l.map PyData.int))) S = some (.d (.bool (!l.contains x)), S) := by
  show (match (if flatD (.int x) && (l.map PyData.int).all flatD then some ((l.map PyData.int).any fun y => PyData.eqv y (.int x)) else none) with | some k => some (AV.d (.bool (!k)), S) | none => none) = _
  rw [flat_ints, any_ints]
  rfl
def fmP : Pat := .tp (.cons (.nm 8) (.cons (.nm 9) .nil))
def fmT : Dn := (dAnd (dBin (cop .In) (dVar 8) (dVar 5)) (dBin (cop .NotIn) (dVar 6) (dVar 9)))
theorem r_start_go (o0 o1 o2 o3 o4 o5 o6 o7 : Option AV) : ∀ (M : Lots) (acc : List Int), acc.length + M.length ≤ 100 →
    lcGo fmP (dC (.bool true)) (dVar 8) [o0, o1, o2, o3, o4, o5, o6, o7, none, none] (dLots M) [] (acc.map PyData.int) = .ok (.own ((acc ++ M.map (·.1)).map PyData.int)) []
  | [], acc, _ => by
    rw [List.map_nil, List.append_nil]
    rfl
  | (p, ns) :: M, acc, h => by
    rw [List.length_cons] at h
    have ih := r_start_go o0 o1 o2 o3 o4 o5 o6 o7 M (acc ++ [p]) (by rw [List.length_append, List.length_singleton]; omega)
    have hc : (acc.map PyData.int).length < cap := by rw [List.length_map]; unfold cap; omega
    show lcGo fmP (dC (.bool true)) (dVar 8) _ (PyData.tuple [.int p, .tuple (ns.map PyData.int)] :: dLots M) [] (acc.map PyData.int) = _
    unfold lcGo fmP
    simp only [bind_tpT, binds_cons, bind_nm, binds_nil, List.set_cons_succ, List.set_cons_zero, x_C, dVar, List.getElem?_cons_succ, List.getElem?_cons_zero, fz_d, frzD, if_pos hc]
    rw [List.map_append] at ih
    unfold fmP at ih
    rw [show (acc.map PyData.int ++ [PyData.int p]) = acc.map PyData.int ++ [p].map PyData.int from rfl, ih, List.append_assoc]
    rfl
theorem r_rest_go (o0 o1 o2 o3 o4 o7 : Option AV) (left : List Int) (x : Int) : ∀ (M : Lots) (acc : List Int), acc.length + M.length ≤ 100 →
    lcGo fmP fmT (dVar 8) [o0, o1, o2, o3, o4, some (.d (.tuple (left.map PyData.int))), some (.d (.int x)), o7, none, none] (dLots M) [] (acc.map PyData.int) = .ok (.own ((acc ++ keep M left x).map PyData.int)) []
  | [], acc, _ => by
    show _ = ER.ok (.own ((acc ++ []).map PyData.int)) []
    rw [List.append_nil]
    rfl
  | (p, ns) :: M, acc, h => by
    rw [List.length_cons] at h
    have hc : (acc.map PyData.int).length < cap := by rw [List.length_map]; unfold cap; omega
    have a1 := in_tI left p []
    have a2 := notin_tI ns x []
    have ek : keep ((p, ns) :: M) left x = (if left.contains p && !ns.contains x then [p] else []) ++ keep M left x := by
      unfold keep
      rw [List.filter_cons]
      dsimp only
      split <;> rfl
    rw [ek]
    show lcGo fmP fmT (dVar 8) _ (PyData.tuple [.int p, .tuple (ns.map PyData.int)] :: dLots M) [] (acc.map PyData.int) = _
    have i1 := r_rest_go o0 o1 o2 o3 o4 o7 left x M (acc ++ [p]) (by rw [List.length_append, List.length_singleton]; omega)
    have i0 := r_rest_go o0 o1 o2 o3 o4 o7 left x M acc (by omega)
    unfold fmP fmT at i0 i1
    unfold lcGo fmP fmT
    rw [List.map_append] at i1
    simp only [bind_tpT, binds_cons, bind_nm, binds_nil, List.set_cons_succ, List.set_cons_zero, x_And, x_Bin, dVar, List.getElem?_cons_succ, List.getElem?_cons_zero, bind_ok, fz_d, a1, lift_some]
    cases e1 : left.contains p with
    | false =>
      simp only [and_f, Bool.false_and, Bool.false_eq_true, if_false, List.nil_append]
      exact i0
    | true =>
      simp only [and_t, x_Bin, dVar, List.getElem?_cons_succ, List.getElem?_cons_zero, bind_ok, fz_d, a2, lift_some, Bool.true_and]
      cases e2 : ns.contains x with
      | true =>
        simp only [Bool.not_true, Bool.false_eq_true, if_false, List.nil_append]
        exact i0
      | false =>
        simp only [Bool.not_false, if_true, dVar, List.getElem?_cons_succ, List.getElem?_cons_zero, fz_d, frzD, if_pos hc]
        rw [show (acc.map PyData.int ++ [PyData.int p]) = acc.map PyData.int ++ [p].map PyData.int from rfl, i1, List.append_assoc]
theorem r_start (L : Lots) (hl : L.length ≤ 16) (o1 o2 o3 o4 o5 o6 o7 o8 o9 : Option AV) :
    dLc (iSeq (dVar 0)) fmP (dC (.bool true)) (dVar 8) [8, 9] [some (.d (.tuple (dLots L))), o1, o2, o3, o4, o5, o6, o7, o8, o9] [] = .ok (.own ((L.map (·.1)).map PyData.int)) [] := by
  have h := r_start_go (some (.d (.tuple (dLots L)))) o1 o2 o3 o4 o5 o6 o7 L [] (by rw [List.length_nil]; omega)
  exact h
theorem r_rest (L : Lots) (hl : L.length ≤ 16) (left : List Int) (x : Int) (o1 o2 o3 o4 o7 o8 o9 : Option AV) :
    dLc (iSeq (dVar 0)) fmP fmT (dVar 8) [8, 9] [some (.d (.tuple (dLots L))), o1, o2, o3, o4, some (.d (.tuple (left.map PyData.int))), some (.d (.int x)), o7, o8, o9] [] = .ok (.own ((keep L left x).map PyData.int)) [] := by
  have h := r_rest_go (some (.d (.tuple (dLots L)))) o1 o2 o3 o4 o7 left x L [] (by rw [List.length_nil]; omega)
  exact h
end K74
namespace K74
open PySem PySem.Spec PyProof.Rows L2 Den
/-! the reading of fewest_meeting_numbers (no text in sight) -/
abbrev ky (s : List Int) : List Key := s.map Sum.inl
theorem ky_kV (s : List Int) : (ky s).map kV = s.map V.int := by
  unfold ky
  rw [List.map_map]
  rfl
theorem ky_inj : ∀ {s t : List Int}, ky s = ky t → s = t
  | [], [], _ => rfl
  | [], _ :: _, h => by cases h
  | _ :: _, [], h => by cases h
  | x :: s, y :: t, h => by
    have h : (Sum.inl x : Key) :: ky s = Sum.inl y :: ky t := h
    rw [List.cons.injEq] at h
    rw [ky_inj h.2, Sum.inl.inj h.1]
def TupAt (H : Hp) (x : V) (s : List Int) : Prop := ∃ b, x = .ref b ∧ H b = some (.tup (s.map V.int))
abbrev LayR (H : Hp) : List V → List (List Int) → Prop := Paired (TupAt H)
abbrev ChR (H0 H : Hp) : List (List Key × V) → Ch → Prop := Paired fun kv q => kv.1 = ky q.1 ∧ ∃ b, kv.2 = .ref b ∧ H b = some (.tup (q.2.map V.int)) ∧ H0 b = none
theorem prd_imp {α β : Type} {R R' : α → β → Prop} (h : ∀ x y, R x y → R' x y) : ∀ {xs : List α} {ys : List β}, Paired R xs ys → Paired R' xs ys
  | _, _, .nil => .nil
  | _, _, .cons r k => .cons (h _ _ r) (prd_imp h k)
theorem prd_app {α β : Type} {R : α → β → Prop} : ∀ {xs xs' : List α} {ys ys' : List β}, Paired R xs ys → Paired R xs' ys' → Paired R (xs ++ xs') (ys ++ ys')
  | _, _, _, _, .nil, k => k
  | _, _, _, _, .cons r t, k => .cons r (prd_app t k)
theorem prd_get {α β : Type} {R : α → β → Prop} : ∀ {xs : List α} {ys : List β} {i : Nat} {x : α}, Paired R xs ys → xs[i]? = some x → ∃ y, ys[i]? = some y ∧ R x y
  | _, _, _, _, .nil, e => by simp at e
  | _, _, 0, _, .cons r t, e => by
    cases Option.some.inj e
    exact ⟨_, rfl, r⟩
  | _, _, i + 1, _, .cons r t, e => prd_get (i := i) t e
theorem ch_val {H0 H : Hp} {k : List Int} : ∀ {kvs : List (List Key × V)} {C : Ch}, ChR H0 H kvs C → match look C k with
    | none => valV kvs (ky k) = none
    | some ch => ∃ b, valV kvs (ky k) = some (.ref b) ∧ H b = some (.tup (ch.map V.int)) ∧ H0 b = none
  | [], [], _ => rfl
  | [], _ :: _, h => by cases h
  | _ :: _, [], h => by cases h
  | kv :: kvs, q :: C, .cons r t => by
    obtain ⟨r1, b, r2, r3, r4⟩ := r
    have ih := ch_val (k := k) t
    by_cases e : q.1 = k
    · have l : look (q :: C) k = some q.2 := by
        unfold look
        rw [List.find?_cons]
        have : (q.1 == k) = true := by simpa using e
        rw [this]
        rfl
      rw [l]
      exact ⟨b, by rw [valV_pos (by rw [r1, e]), r2], r3, r4⟩
    · have l : look (q :: C) k = look C k := by
        unfold look
        rw [List.find?_cons]
        have : (q.1 == k) = false := by simpa using e
        rw [this]
      rw [l, valV_neg (fun z => e (ky_inj (r1.symm.trans z)))]
      exact ih
theorem TupAt.up {H : Hp} {x : V} {s : List Int} {c : Addr} {o : HO} (h : TupAt H x s) (n : ∀ ys, H c ≠ some (.tup ys)) : TupAt (upd H c o) x s := by
  obtain ⟨b, e, k⟩ := h
  exact ⟨b, e, by rw [upd_ne (fun z => n _ (z ▸ k))]; exact k⟩
theorem TupAt.same {H H' : Hp} {x : V} {s : List Int} (e : Same H H') (h : TupAt H x s) : TupAt H' x s := let ⟨b, r, k⟩ := h; ⟨b, r, e _ _ k⟩
theorem ChR.up {H0 H : Hp} {kvs : List (List Key × V)} {C : Ch} {c : Addr} {o : HO} (h : ChR H0 H kvs C) (n : ∀ ys, H c ≠ some (.tup ys)) : ChR H0 (upd H c o) kvs C :=
  prd_imp (fun kv q r => by
    obtain ⟨r1, b, r2, r3, r4⟩ := r
    exact ⟨r1, b, r2, by rw [upd_ne (fun z => n _ (z ▸ r3))]; exact r3, r4⟩) h
theorem ChR.same {H0 H H' : Hp} {kvs : List (List Key × V)} {C : Ch} (e : Same H H') (h : ChR H0 H kvs C) : ChR H0 H' kvs C :=
  prd_imp (fun kv q r => let ⟨r1, b, r2, r3, r4⟩ := r; ⟨r1, b, r2, e _ _ r3, r4⟩) h
theorem RSt.sam {Z : Zp} {F F' : Hp} {aσ : ASt} {σ : L2.St} (h : RSt Z F ⟨[], fun _ => none⟩ aσ σ) (e : Same F F') : RSt Z F' ⟨[], fun _ => none⟩ aσ σ := h.mono ⟨e, List.prefix_refl _, rfl⟩
/-- the tuple of a list that a denotation tells -/
def rTupOf (K : PySem.W.Frag) : List V → Hp → VK → Prop := fun xs H Q => ∃ p ys, xs = [.ref p] ∧ ((SqL K H p ys ∧ ∀ l, H l = none → Q (.ref l) (upd H l (.tup ys))) ∨ (SqT K H p ys ∧ Q (.ref p) H))
def rLstOf (K : PySem.W.Frag) : List V → Hp → VK → Prop := fun xs H Q => ∃ p ys, xs = [.ref p] ∧ (SqL K H p ys ∨ SqT K H p ys) ∧ ∀ l, H l = none → Q (.ref l) (upd H l (.lst ys))
theorem tup_lc {Z : Zp} {W : WX} {c : Dn} {aσ : ASt} {σ : L2.St} {H : Hp} {l : List Int} {Q : VK} (st : RSt Z H ⟨[], fun _ => none⟩ aσ σ) (e : c aσ [] = .ok (.own (l.map PyData.int)) [])
    (q : ∀ H' r, Same H H' → H r = none → H' r = some (.tup (l.map V.int)) → Q (.ref r) H') : tCB (rTupOf Z.K) (tCons (tE Z W c) tNil) σ H Q := by
  refine ⟨H, ⟨[], fun _ => none⟩, [], aσ, ⟨Same.refl H, rfl, List.nodup_nil, fun n p o z => (by cases z), fun p o z => (by cases z)⟩, st, ?_⟩
  rw [e]
  intro F' ρ' H' v t rs rw'
  obtain ⟨p, vs, rfl, _, _, _, hH, k⟩ := rw'
  have := dpA_ints k
  subst this
  have s1 : Same H H' := t.same.trans rs.sub
  exact ⟨p, _, rfl, .inl ⟨SqL.of hH, fun r hr => q _ r (s1.trans (same_upd hr)) (s1.free hr) upd_same⟩⟩

section loops
variable {K : PySem.W.Frag} {mg : Str → Option Value} {W : WX} {L : Lots} {v : V} {H0 : Hp} {c ly f : Addr} {xs : List V} {layer : List (List Int)} {n : Nat}
/-- within a layer -/
def FS (v : V) (L : Lots) (H0 : Hp) (c ly f : Addr) (xs : List V) (layer : List (List Int)) (n : Nat) (C : Ch) (fo : List (List Int)) (o5 : Option V) (σ : L2.St) (H : Hp) : Prop :=
  ∃ o1 o6 o7 kvs ys, σ = [some v, o1, some (.ref c), some (.ref ly), some (.ref f), o5, o6, o7, none, none] ∧ Same H0 H ∧ H0 c = none ∧ H c = some (.dT kvs) ∧ ChR H0 H kvs C ∧ H ly = some (.lst xs) ∧ LayR H xs layer ∧ H f = some (.lst ys) ∧ LayR H ys fo ∧ f ≠ ly ∧ H0 f = none ∧ H0 ly = none ∧
    Kk L n C fo ∧ ∀ s ∈ layer, ∃ w, look C s = some w ∧ w.length + n ≤ 17
abbrev tRest (K : PySem.W.Frag) (mg : Str → Option Value) (W : WX) : TE := tCB (rTupOf K) (tCons (tE ⟨K, mg, none⟩ W (dLc (iSeq (dVar 0)) fmP fmT (dVar 8) [8, 9])) tNil)
abbrev tTurn (K : PySem.W.Frag) (mg : Str → Option Value) (W : WX) : TS := tSeq (tAsg (tRest K mg W) (gName 7))
  (tIfS (tB (tDNotIn (tVar 7) (tVar 2))) (tSeq (sDPut (tVar 2) (tVar 7) (tOp (rCatA K) (tDGet (tVar 2) (tVar 5)) (tTup (tCons (tVar 6) tNil)))) (tDrop (tBM K "list" rAppend (tVar 4) (tCons (tVar 7) tNil)))) tNext)
theorem turn_ok (hv : Dp K H0 v (.tuple (dLots L))) (hL : L.length ≤ 16) {C : Ch} {fo : List (List Int)} {lb : Addr} {left : List Int} {σ : L2.St} {H : Hp} {x : Int} {D : Ends} (hl : left ∈ layer) (st : FS v L H0 c ly f xs layer n C fo (some (.ref lb)) σ H) (hb : H lb = some (.tup (left.map V.int)))
    (q : ∀ σ' H', FS v L H0 c ly f xs layer n (stepN L left (C, fo) x).1 (stepN L left (C, fo) x).2 (some (.ref lb)) σ' H' → H' lb = some (.tup (left.map V.int)) → D.nx σ' H') : tTurn K mg W D (σ.set 6 (some (.int x))) H := by
  obtain ⟨o1, o6, o7, kvs, ys, rfl, s0, nc, hc, cr, hly, lr, hf, fr, fl, nf, nly, kk, dm⟩ := st
  have rst : RSt ⟨K, mg, none⟩ H ⟨[], fun _ => none⟩ [some (.d (.tuple (dLots L))), none, none, none, none, some (.d (.tuple (left.map PyData.int))), some (.d (.int x)), none, none, none] [some v, o1, some (.ref c), some (.ref ly), some (.ref f), some (.ref lb), some (.int x), o7, none, none] := by
    refine ⟨rfl, fun i a e => ?_⟩
    match i, e with
    | 0, e =>
      cases Option.some.inj (Option.some.inj e)
      exact ⟨v, rfl, dp_mono s0 _ _ hv⟩
    | 1, e => cases e
    | 2, e => cases e
    | 3, e => cases e
    | 4, e => cases e
    | 5, e =>
      cases Option.some.inj (Option.some.inj e)
      exact ⟨.ref lb, rfl, show Dp _ _ _ _ from .tup (SqT.of hb) (dpA_of_ints left)⟩
    | 6, e =>
      cases Option.some.inj (Option.some.inj e)
      exact ⟨.int x, rfl, show Dp _ _ _ _ from .int x⟩
    | 7, e => cases e
    | 8, e => cases e
    | 9, e => cases e
    | i + 10, e => cases e
  refine tup_lc (Z := ⟨K, mg, none⟩) rst (r_rest L hL left x none none none none none none none) fun H1 r s1 nr hr => ?_
  have hc1 := s1 _ _ hc
  have cr1 := ChR.same s1 cr
  have hl1 := s1 _ _ hly
  have lr1 : LayR H1 xs layer := prd_imp (fun _ _ z => z.same s1) lr
  have hf1 := s1 _ _ hf
  have fr1 : LayR H1 ys fo := prd_imp (fun _ _ z => z.same s1) fr
  have hb1 := s1 _ _ hb
  have nr0 : H0 r = none := s0.free nr
  -- if rest not in chosen
  show tB (tDNotIn (tVar 7) (tVar 2)) [some v, o1, some (.ref c), some (.ref ly), some (.ref f), some (.ref lb), some (.int x), some (.ref r), none, none] H1 _
  have val := ch_val (k := keep L left x) cr1
  refine ⟨.ref r, rfl, .ref c, rfl, c, valV kvs (ky (keep L left x)), rfl, DGet.t hc1 (by rw [ky_kV]; exact hr), _, rfl, ?_⟩
  cases e : look C (keep L left x) with
  | some w =>
    rw [e] at val
    obtain ⟨b, e2, _⟩ := val
    rw [e2]
    have es : stepN L left (C, fo) x = (C, fo) := by
      unfold stepN
      rw [e]
      rfl
    rw [es] at q
    exact q _ _ ⟨o1, _, _, kvs, ys, rfl, s0.trans s1, nc, hc1, cr1, hl1, lr1, hf1, fr1, fl, nf, nly, kk, dm⟩ hb1
  | none =>
    rw [e] at val
    rw [val]
    obtain ⟨w, hw, wl⟩ := dm left hl
    have es : stepN L left (C, fo) x = (C ++ [(keep L left x, w ++ [x])], fo ++ [keep L left x]) := by
      unfold stepN
      rw [e, hw]
      rfl
    have kk2 := kk.step hw wl x
    have dm2 : ∀ s ∈ layer, ∃ w, look (stepN L left (C, fo) x).1 s = some w ∧ w.length + n ≤ 17 := fun s hs => by
      obtain ⟨w, a, b⟩ := dm s hs
      exact ⟨w, look_step a, b⟩
    rw [es] at q kk2 dm2
    have vl := ch_val (k := left) cr1
    rw [hw] at vl
    obtain ⟨wb, e3, hwb, nwb⟩ := vl
    have size := kk.size hL
    have klen : kvs.length = C.length := Paired.length cr1
    have ylen : ys.length = fo.length := Paired.length fr1
    -- the new choice
    have fin : ∀ H2 nb, Same H1 H2 → H1 nb = none → H2 nb = some (.tup ((w ++ [x]).map V.int)) →
        sDPut (tVar 2) (tVar 7) (fun _ _ Q => Q (.ref nb) H2) { D with nx := tDrop (tBM K "list" rAppend (tVar 4) (tCons (tVar 7) tNil)) D } [some v, o1, some (.ref c), some (.ref ly), some (.ref f), some (.ref lb), some (.int x), some (.ref r), none, none] H1 := fun H2 nb s2 nn hn => by
      have hc2 := s2 _ _ hc1
      have hr2 := s2 _ _ hr
      have hf2 := s2 _ _ hf1
      have hl2 := s2 _ _ hl1
      have cf : c ≠ f := ne_of hc2 hf2 (fun z => nomatch z)
      have cl : c ≠ ly := ne_of hc2 hl2 (fun z => nomatch z)
      have nct : ∀ ts, H2 c ≠ some (.tup ts) := fun ts z => by rw [hc2] at z; cases z
      refine ⟨.ref c, rfl, .ref r, rfl, c, _, rfl, DPut.t hc2 (by rw [ky_kV]; exact hr2) (by rw [klen, sizeLine_eq]; omega), ?_⟩
      have pk : putK kvs (ky (keep L left x)) (.ref nb) = kvs ++ [(ky (keep L left x), .ref nb)] := putK_new _ val
      rw [pk]
      have hf3 : upd H2 c (.dT (kvs ++ [(ky (keep L left x), .ref nb)])) f = some (.lst ys) := by rw [upd_ne (Ne.symm cf)]; exact hf2
      refine ⟨.ref f, rfl, .inl ⟨rfl, _, SqL.of hf3⟩, .ref r, rfl, f, ys, .ref r, rfl, rfl, hf3, by rw [ylen, sizeLine_eq]; have := kk.fl; omega, ?_⟩
      have nft : ∀ ts, upd H2 c (.dT (kvs ++ [(ky (keep L left x), .ref nb)])) f ≠ some (.tup ts) := fun ts z => by rw [hf3] at z; cases z
      have nb0 : H0 nb = none := (s0.trans s1).free nn
      have ncn : c ≠ nb := ne_of hc2 hn (fun z => nomatch z)
      have fnn : f ≠ nb := ne_of hf2 hn (fun z => nomatch z)
      have cr2 : ChR H0 (upd H2 c (.dT (kvs ++ [(ky (keep L left x), .ref nb)]))) (kvs ++ [(ky (keep L left x), .ref nb)]) (C ++ [(keep L left x, w ++ [x])]) :=
        prd_app ((cr1.same s2).up nct) (.cons ⟨rfl, nb, rfl, by rw [upd_ne (Ne.symm ncn)]; exact hn, nb0⟩ .nil)
      have tk : ∀ {y : V} {s : List Int}, TupAt H1 y s → TupAt (upd (upd H2 c (.dT (kvs ++ [(ky (keep L left x), .ref nb)]))) f (.lst (ys ++ [V.ref r]))) y s := fun z => ((z.same s2).up nct).up nft
      refine q _ _ ⟨o1, _, _, kvs ++ [(ky (keep L left x), .ref nb)], ys ++ [.ref r], rfl, ?_, nc, by rw [upd_ne cf, upd_same], cr2.up nft, by rw [upd_ne (Ne.symm fl), upd_ne (Ne.symm cl)]; exact hl2, prd_imp (fun _ _ => tk) lr1, upd_same, prd_app (prd_imp (fun _ _ => tk) fr1) (.cons (tk ⟨r, rfl, hr⟩) .nil), fl, nf, nly, kk2, dm2⟩ ?_
      · intro b o hbo
        rw [upd_ne (fun z => by rw [z, nf] at hbo; cases hbo), upd_ne (fun z => by rw [z, nc] at hbo; cases hbo)]
        exact s2 _ _ (s1 _ _ (s0 _ _ hbo))
      · obtain ⟨b, eb, kb⟩ := tk ⟨lb, rfl, hb1⟩
        cases eb
        exact kb
    -- chosen[left] + (number,)
    show tDGet (tVar 2) (tVar 5) _ H1 _
    refine ⟨.ref c, rfl, .ref lb, rfl, c, .ref wb, rfl, ?_, ?_⟩
    · have := DGet.t (k := ky left) hc1 (by rw [ky_kV]; exact hb1)
      rw [e3] at this
      exact this
    · refine ⟨.int x, rfl, by rw [sizeLine_eq]; simp, fun u hu => ?_⟩
      have su : Same H1 (upd H1 u (.tup [V.int x])) := same_upd hu
      refine ⟨wb, u, w.map V.int, [V.int x], rfl, rfl, SqT.of (su _ _ hwb), SqT.of upd_same, by rw [List.length_map, List.length_singleton, sizeLine_eq]; omega, fun e0 => ?_, fun _ e0 => (by cases e0), fun _ _ p hp => ?_⟩
      · have w0 : w = [] := by simpa using e0
        subst w0
        exact fin _ u su hu upd_same
      · refine fin _ p (su.trans (same_upd hp)) (su.free hp) ?_
        rw [upd_same, List.map_append]
        rfl
abbrev tDictPT (K : PySem.W.Frag) : List V → Hp → VK → Prop := fun xs H Q => ∃ (a : Addr) (ps : List Addr) (kvs : List (Key × V)), xs = [.ref a] ∧ TupN H a (ps.map V.ref) ∧ Paired (fun p kv => SqT K H p [kV kv.1, kv.2]) ps kvs ∧ ∀ p, H p = none → Q (.ref p) (upd H p (.dK (mergeK [] kvs)))
abbrev tNums (K : PySem.W.Frag) (mg : Str → Option Value) (W : WX) : TS := tFor (iSqD K (tDGet (tCB (tDictPT K) (tCons (tVar 0) tNil)) (tOp (rIxT K) (tVar 5) (tC (.int 0))))) (gName 6) (tTurn K mg W)
/-- the lots' pairs as they lie -/
theorem lots_lie {K : PySem.W.Frag} {F : Hp} : ∀ {L : Lots} {vs : List V}, DpAll K F vs (dLots L) → ∃ (ps : List Addr) (kvs : List (Key × V)), vs = ps.map V.ref ∧ Paired (fun p kv => SqT K F p [kV kv.1, kv.2]) ps kvs ∧ Paired (fun (kv : Key × V) (q : Int × List Int) => kv.1 = Sum.inl q.1 ∧ ∃ b, kv.2 = .ref b ∧ SqT K F b (q.2.map V.int)) kvs L
  | [], vs, h => by
    cases h
    exact ⟨[], [], rfl, .nil, .nil⟩
  | (p, ns) :: L, vs, h => by
    have h : DpAll K F vs (PyData.tuple [.int p, .tuple (ns.map PyData.int)] :: dLots L) := h
    cases h with
    | cons h1 h2 =>
      obtain ⟨ps, kvs, rfl, e1, e2⟩ := lots_lie h2
      cases h1 with
      | tup k1 k2 =>
        cases k2 with
        | cons a1 a2 =>
          cases a2 with
          | cons b1 b2 =>
            cases b2
            cases a1
            cases b1 with
            | tup m1 m2 =>
              have := dpA_ints m2
              subst this
              exact ⟨_ :: ps, (Sum.inl p, _) :: kvs, rfl, .cons k1 e1, .cons ⟨rfl, _, rfl, m1⟩ e2⟩
theorem merge_nd : ∀ (kvs acc : List (Key × V)), ((acc ++ kvs).map (·.1)).Nodup → mergeK acc kvs = acc ++ kvs
  | [], acc, _ => by rw [List.append_nil]; rfl
  | kv :: kvs, acc, nd => by
    have hn : valV acc kv.1 = none := by
      cases e : valV acc kv.1 with
      | none => rfl
      | some x =>
        have a := valV_any kv.1 acc
        rw [e] at a
        obtain ⟨q, hq, hk⟩ := List.any_eq_true.mp a
        rw [List.map_append, List.map_cons] at nd
        exact absurd (of_decide_eq_true hk) (fun z => (List.nodup_append.mp nd).2.2 q.1 (List.mem_map_of_mem hq) kv.1 List.mem_cons_self z)
    show mergeK (putK acc kv.1 kv.2) kvs = _
    rw [putK_new _ hn, merge_nd kvs _ (by rw [List.append_assoc]; exact nd), List.append_assoc]
    rfl
theorem lot_val {K : PySem.W.Frag} {F : Hp} {p : Int} : ∀ {L : Lots} {kvs : List (Key × V)}, Paired (fun (kv : Key × V) (q : Int × List Int) => kv.1 = Sum.inl q.1 ∧ ∃ b, kv.2 = .ref b ∧ SqT K F b (q.2.map V.int)) kvs L → p ∈ L.map (·.1) → ∃ b, valV kvs (Sum.inl p) = some (.ref b) ∧ SqT K F b ((lotOf L p).map V.int)
  | [], _, _, h => by cases h
  | _ :: _, [], h, _ => by cases h
  | q :: L, kv :: kvs, .cons r t, h => by
    obtain ⟨r1, b, r2, r3⟩ := r
    by_cases e : q.1 = p
    · refine ⟨b, by rw [valV_pos (by rw [r1, e]), r2], ?_⟩
      have : lotOf (q :: L) p = q.2 := by
        unfold lotOf
        rw [List.find?_cons]
        have : (q.1 == p) = true := by simpa using e
        rw [this]
        rfl
      rw [this]
      exact r3
    · have : lotOf (q :: L) p = lotOf L p := by
        unfold lotOf
        rw [List.find?_cons]
        have : (q.1 == p) = false := by simpa using e
        rw [this]
      rw [this]
      have hp : p ∈ L.map (·.1) := by
        rw [List.map_cons] at h
        rcases List.mem_cons.mp h with h | h
        · exact absurd h.symm e
        · exact h
      obtain ⟨b', e1, e2⟩ := lot_val t hp
      exact ⟨b', by rw [valV_neg (fun z => e (Sum.inl.inj (r1.symm.trans z)))]; exact e1, e2⟩
theorem lots_keys {K : PySem.W.Frag} {F : Hp} : ∀ {L : Lots} {kvs : List (Key × V)}, Paired (fun (kv : Key × V) (q : Int × List Int) => kv.1 = Sum.inl q.1 ∧ ∃ b, kv.2 = .ref b ∧ SqT K F b (q.2.map V.int)) kvs L → kvs.map (·.1) = (L.map (·.1)).map Sum.inl
  | _, _, .nil => rfl
  | _, _, .cons r t => by
    rw [List.map_cons, List.map_cons, List.map_cons, r.1, lots_keys t]
theorem nums_ok (hv : Dp K H0 v (.tuple (dLots L))) (hN : ∃ a vs, v = .ref a ∧ TupN H0 a vs ∧ DpAll K H0 vs (dLots L)) (hL : L.length ≤ 16) (gd : (L.map (·.1)).Nodup) {C : Ch} {fo : List (List Int)} {lb : Addr} {p : Int} {r : List Int} {σ : L2.St} {H : Hp} {D : Ends} (hl : p :: r ∈ layer) (hp : p ∈ L.map (·.1)) (st : FS v L H0 c ly f xs layer n C fo (some (.ref lb)) σ H) (hb : H lb = some (.tup ((p :: r).map V.int)))
    (q : ∀ σ' H' o5, FS v L H0 c ly f xs layer n (stepL L (C, fo) (p :: r)).1 (stepL L (C, fo) (p :: r)).2 o5 σ' H' → D.nx σ' H') : tNums K mg W D σ H := by
  obtain ⟨a, vs, rfl, tn, dv⟩ := hN
  have st0 := st
  obtain ⟨o1, o6, o7, kvs, ys, rfl, s0, nc, hc, cr, hly, lr, hf, fr, fl, nf, nly, kk, dm⟩ := st
  obtain ⟨ps, kw, rfl, e1, e2⟩ := lots_lie dv
  refine ⟨.ref a, rfl, a, ps, kw, rfl, tn.mono s0, prd_imp (fun _ _ z => Same.seqT s0 z) e1, fun d hd => ?_⟩
  have kn : ((([] : List (Key × V)) ++ kw).map (·.1)).Nodup := by
    rw [List.nil_append, lots_keys e2]
    exact List.Pairwise.map Sum.inl (fun a b h z => h (Sum.inl.inj z)) gd
  rw [merge_nd kw [] kn, List.nil_append]
  obtain ⟨tb, ev, sv⟩ := lot_val (p := p) e2 hp
  have sd : Same H (upd H d (.dK kw)) := same_upd hd
  refine ⟨.ref lb, rfl, lb, (p :: r).map V.int, 0, .int p, rfl, rfl, SqT.of (sd _ _ hb), by show atI (V.int p :: r.map V.int) 0 = _; simp [atI, ixN], d, .ref tb, rfl, ?_, ?_⟩
  · have := DGet.k (k := Sum.inl p) (upd_same (H := H) (a := d) (o := .dK kw))
    rw [ev] at this
    exact this
  · have sq2 : ∀ H', Same H0 H' → SqT K H' tb ((lotOf L p).map V.int) := fun H' s => Same.seqT s sv
    refine ⟨tb, rfl, .inr ⟨⟨_, sq2 _ (s0.trans sd)⟩, ?_⟩⟩
    refine for_tup (xs := (lotOf L p).map V.int) (fun i σ' H' => FS (.ref a) L H0 c ly f xs layer n (((lotOf L p).take i).foldl (stepN L (p :: r)) (C, fo)).1 (((lotOf L p).take i).foldl (stepN L (p :: r)) (C, fo)).2 (some (.ref lb)) σ' H' ∧ H' lb = some (.tup ((p :: r).map V.int))) ?_ (fun i σ' H' _ z => ?_) (fun i x σ' H' ex (z : _ ∧ _) => ?_) (fun σ' H' (z : _ ∧ _) => ?_)
    · refine ⟨⟨o1, o6, o7, kvs, ys, rfl, s0.trans sd, nc, sd _ _ hc, cr.same sd, sd _ _ hly, prd_imp (fun _ _ z => z.same sd) lr, sd _ _ hf, prd_imp (fun _ _ z => z.same sd) fr, fl, nf, nly, kk, dm⟩, sd _ _ hb⟩
    · obtain ⟨⟨_, _, _, _, _, _, s', _⟩, _⟩ := z
      exact sq2 _ s'
    · rw [List.getElem?_map] at ex
      obtain ⟨k, ek, rfl⟩ := Option.map_eq_some_iff.mp ex
      refine turn_ok hv hL hl z.1 z.2 fun σ2 H2 a1 a2 => ⟨?_, a2⟩
      have tk : (lotOf L p).take (i + 1) = (lotOf L p).take i ++ [k] := by
        rw [List.take_add_one, ek]
        rfl
      rw [tk, List.foldl_append]
      exact a1
    · have z := z.1
      rw [List.length_map, List.take_length] at z
      exact q σ' H' _ z
abbrev tLayer (K : PySem.W.Frag) (mg : Str → Option Value) (W : WX) : TS := tFor (iSqD K (tVar 3)) (gName 5) (tNums K mg W)
theorem layer_walk (hv : Dp K H0 v (.tuple (dLots L))) (hN : ∃ a vs, v = .ref a ∧ TupN H0 a vs ∧ DpAll K H0 vs (dLots L)) (hL : L.length ≤ 16) (gd : (L.map (·.1)).Nodup) {C : Ch} {σ : L2.St} {H : Hp} {D : Ends} {o5 : Option V} (st : FS v L H0 c ly f xs layer n C [] o5 σ H) (ne : ∀ s ∈ layer, s ≠ [] ∧ ∀ p ∈ s, p ∈ L.map (·.1))
    (q : ∀ σ' H' o5, FS v L H0 c ly f xs layer n (layerStep L C layer).1 (layerStep L C layer).2 o5 σ' H' → D.nx σ' H') : tLayer K mg W D σ H := by
  have st0 := st
  obtain ⟨o1, o6, o7, kvs, ys, rfl, s0, nc, hc, cr, hly, lr, _⟩ := st
  refine ⟨.ref ly, rfl, ly, rfl, .inl ⟨⟨_, SqL.of hly⟩, ?_⟩⟩
  refine for_list (xs := xs) (fun i σ' H' => ∃ o5, FS v L H0 c ly f xs layer n ((layer.take i).foldl (stepL L) (C, [])).1 ((layer.take i).foldl (stepL L) (C, [])).2 o5 σ' H') ⟨_, st0⟩ (fun i σ' H' _ z => ?_) (fun i x σ' H' ex z => ?_) (fun σ' H' z => ?_)
  · obtain ⟨_, _, _, _, _, _, _, _, _, _, _, hl, _⟩ := z
    exact SqL.of hl
  · obtain ⟨o5, z⟩ := z
    have z0 := z
    obtain ⟨o1, o6, o7, kvs, ys, rfl, s0, nc, hc, cr, hly, lr, r2⟩ := z
    obtain ⟨s, es, lb, rfl, hb⟩ := prd_get lr ex
    have hs : s ∈ layer := List.mem_of_getElem? es
    obtain ⟨ns, sub⟩ := ne s hs
    have tk : layer.take (i + 1) = layer.take i ++ [s] := by
      rw [List.take_add_one, es]
      rfl
    cases s with
    | nil => exact absurd rfl ns
    | cons p r =>
      refine nums_ok hv hN hL gd hs (sub p List.mem_cons_self) (lb := lb) ⟨o1, o6, o7, kvs, ys, rfl, s0, nc, hc, cr, hly, lr, r2⟩ hb fun σ2 H2 o5' a1 => ⟨o5', ?_⟩
      rw [tk, List.foldl_append]
      exact a1
  · obtain ⟨o5, z⟩ := z
    have hlen : xs.length = layer.length := Paired.length lr
    rw [hlen, List.take_length] at z
    exact q σ' H' o5 z
end loops
/-- at the head of the while -/
def WS (K : PySem.W.Frag) (v : V) (L : Lots) (H0 : Hp) (ch : List Int) (n : Nat) (σ : L2.St) (H : Hp) : Prop :=
  ∃ o1 o4 o5 o6 o7 c ly kvs xs C layer, σ = [some v, o1, some (.ref c), some (.ref ly), o4, o5, o6, o7, none, none] ∧ Same H0 H ∧ H0 c = none ∧ H c = some (.dT kvs) ∧ ChR H0 H kvs C ∧ H ly = some (.lst xs) ∧ LayR H xs layer ∧ H0 ly = none ∧
    bfs L n C layer = some ch ∧ Kk L (n + 1) C [] ∧ ∀ s ∈ layer, ∃ w, look C s = some w ∧ w.length + n ≤ 17
abbrev tWhole (K : PySem.W.Frag) (mg : Str → Option Value) (W : WX) : TS :=
  tSeq (tAsg (tCB (rTupOf K) (tCons (tE ⟨K, mg, none⟩ W (dLc (iSeq (dVar 0)) fmP (dC (.bool true)) (dVar 8) [8, 9])) tNil)) (gName 1))
  (tSeq (tAsg (tDispT1 (tVar 1) (tTup tNil)) (gName 2))
  (tSeq (tAsg (tLst (tCons (tVar 1) tNil)) (gName 3))
  (tSeq (tWhile (tB (tDNotIn (tTup tNil) (tVar 2))) (tSeq (tAsg (tLst tNil) (gName 4)) (tSeq (tLayer K mg W) (tAsg (tCB (rLstOf K) (tCons (tVar 4) tNil)) (gName 3)))))
  (tRet (tDGet (tVar 2) (tTup tNil))))))
theorem Kk.weak {L : Lots} {n : Nat} {C : Ch} {fo : List (List Int)} (k : Kk L n C fo) : Kk L n C [] := ⟨k.nd, k.sub, k.len, Nat.zero_le _, fun s h => (by cases h)⟩
theorem whole_ok {K : PySem.W.Frag} {mg : Str → Option Value} {W : WX} {L : Lots} {v : V} {H0 : Hp} {ch : List Int} (hv : Dp K H0 v (.tuple (dLots L))) (hN : L = [] ∨ ∃ a vs, v = .ref a ∧ TupN H0 a vs ∧ DpAll K H0 vs (dLots L)) (hL : L.length ≤ 16) (gd : (L.map (·.1)).Nodup)
    (hm : meet L = some ch) {D : Ends} (q : ∀ H' b, Same H0 H' → H0 b = none → H' b = some (.tup (ch.map V.int)) → D.rt (.ref b) H') : tWhole K mg W D [some v, none, none, none, none, none, none, none, none, none] H0 := by
  have rst : RSt ⟨K, mg, none⟩ H0 ⟨[], fun _ => none⟩ [some (.d (.tuple (dLots L))), none, none, none, none, none, none, none, none, none] [some v, none, none, none, none, none, none, none, none, none] := by
    refine ⟨rfl, fun i a e => ?_⟩
    match i, e with
    | 0, e =>
      cases Option.some.inj (Option.some.inj e)
      exact ⟨v, rfl, hv⟩
    | 1, e => cases e
    | 2, e => cases e
    | 3, e => cases e
    | 4, e => cases e
    | 5, e => cases e
    | 6, e => cases e
    | 7, e => cases e
    | 8, e => cases e
    | 9, e => cases e
    | i + 10, e => cases e
  refine tup_lc (Z := ⟨K, mg, none⟩) rst (r_start L hL none none none none none none none none none) fun H1 r s1 nr hr => ?_
  intro c nc1
  refine ⟨.ref r, rfl, by simp, fun e ne1 => ?_⟩
  have sc : Same H1 (upd H1 c (.dT [])) := same_upd nc1
  have se : Same (upd H1 c (.dT [])) (upd (upd H1 c (.dT [])) e (.tup [])) := same_upd ne1
  have he : upd (upd H1 c (.dT [])) e (.tup []) e = some (.tup []) := upd_same
  have hc : upd (upd H1 c (.dT [])) e (.tup []) c = some (.dT []) := se _ _ upd_same
  have hr2 : upd (upd H1 c (.dT [])) e (.tup []) r = some (.tup ((L.map (·.1)).map V.int)) := se _ _ (sc _ _ hr)
  generalize hH2 : upd (upd H1 c (.dT [])) e (.tup []) = H2 at he hc hr2
  have s12 : Same H1 H2 := hH2 ▸ sc.trans se
  refine ⟨ky (L.map (·.1)), r, rfl, hc, by rw [ky_kV]; exact hr2, ?_⟩
  have ce : c ≠ e := ne_of hc he (fun z => nomatch z)
  have cr : c ≠ r := ne_of hc hr2 (fun z => nomatch z)
  have nc0 : H0 c = none := s1.free nc1
  have ne0 : H0 e = none := (s1.trans sc).free ne1
  refine ⟨.ref r, rfl, by show 1 ≤ sizeLine; rw [sizeLine_eq]; decide, fun ly nly => ?_⟩
  have sly : Same (upd H2 c (.dT [(ky (L.map (·.1)), V.ref e)])) (upd (upd H2 c (.dT [(ky (L.map (·.1)), V.ref e)])) ly (.lst [V.ref r])) := same_upd nly
  have s03 : Same H0 (upd H2 c (.dT [(ky (L.map (·.1)), V.ref e)])) := fun b o hb => by
    rw [upd_ne (fun z => by rw [z, nc0] at hb; cases hb)]
    exact s12 _ _ (s1 _ _ hb)
  have he3 : upd H2 c (.dT [(ky (L.map (·.1)), V.ref e)]) e = some (.tup []) := by rw [upd_ne (Ne.symm ce)]; exact he
  have hr3 : upd H2 c (.dT [(ky (L.map (·.1)), V.ref e)]) r = some (.tup ((L.map (·.1)).map V.int)) := by rw [upd_ne (Ne.symm cr)]; exact hr2
  have w0 : WS K v L H0 ch (L.length + 1) [some v, some (.ref r), some (.ref c), some (.ref ly), none, none, none, none, none, none] (upd (upd H2 c (.dT [(ky (L.map (·.1)), V.ref e)])) ly (.lst [V.ref r])) :=
    ⟨_, _, _, _, _, c, ly, [(ky (L.map (·.1)), V.ref e)], [V.ref r], [(L.map (fun q : Int × List Int => q.1), ([] : List Int))], [L.map (fun q : Int × List Int => q.1)], rfl, s03.trans sly, nc0, sly _ _ upd_same, .cons ⟨rfl, e, rfl, sly _ _ he3, ne0⟩ .nil, upd_same, .cons ⟨r, rfl, sly _ _ hr3⟩ .nil, s03.free nly, hm,
      ⟨by simp, fun q hq => by rw [List.mem_singleton.mp hq]; exact List.Sublist.refl _, fun q hq => by rw [List.mem_singleton.mp hq]; show 0 + (L.length + 1 + 1) ≤ 18; omega, Nat.zero_le _, fun s h => (by cases h)⟩, fun s hs => by
        rw [List.mem_singleton.mp hs]
        refine ⟨[], by simp [look], ?_⟩
        show 0 + (L.length + 1) ≤ 17
        omega⟩
  refine ⟨fun m σ H => WS K v L H0 ch m σ H, ⟨_, w0⟩, ?_⟩
  clear w0 hr3 he3 s03 sly nly ne0 nc0 cr ce s12 hr2 hc he hH2 se sc ne1 nc1 hr nr s1 rst
  rintro m σ H ⟨o1, o4, o5, o6, o7, c, ly, kvs, xs, C, layer, rfl, s0, nc, hc, cr, hly, lr, nly, bf, kk, dm⟩
  -- () not in chosen
  refine ⟨by rw [List.length_nil]; exact Nat.zero_le _, fun t ht => ?_⟩
  have st : Same H (upd H t (.tup [])) := same_upd ht
  have htt : upd H t (.tup []) t = some (.tup []) := upd_same
  generalize hH1 : upd H t (.tup []) = H1 at st htt
  have val := ch_val (k := []) (cr.same st)
  refine ⟨.ref c, rfl, c, valV kvs (ky []), rfl, DGet.t (k := ky []) (st _ _ hc) htt, _, rfl, ?_⟩
  cases e : look C [] with
  | some w =>
    rw [e] at val
    obtain ⟨b, e2, hb, nb⟩ := val
    rw [e2]
    have ew : w = ch := by
      have : bfs L m C layer = look C [] := by
        cases m with
        | zero => rfl
        | succ m =>
          unfold bfs
          rw [e]
          rfl
      rw [bf, e] at this
      exact (Option.some.inj this).symm
    subst ew
    refine iteF ?_
    -- return chosen[()]
    refine ⟨.ref c, rfl, by rw [List.length_nil]; exact Nat.zero_le _, fun u hu => ?_⟩
    have su : Same H1 (upd H1 u (.tup [])) := same_upd hu
    refine ⟨c, .ref b, rfl, ?_, q _ b ((s0.trans st).trans su) nb (su _ _ hb)⟩
    have := DGet.t (k := ky []) (su _ _ (st _ _ hc)) (upd_same (H := H1) (a := u) (o := .tup []))
    rw [e2] at this
    exact this
  | none =>
    rw [e] at val
    rw [val]
    refine iteT ?_
    cases m with
    | zero =>
      have : bfs L 0 C layer = look C [] := rfl
      rw [bf, e] at this
      cases this
    | succ n =>
      have bf2 : bfs L n (layerStep L C layer).1 (layerStep L C layer).2 = some ch := by
        unfold bfs at bf
        rw [e] at bf
        exact bf
      refine ⟨fun σ' H' => WS K v L H0 ch n σ' H', fun σ' H' z => ⟨n, Nat.lt_succ_self n, z⟩, ?_⟩
      -- following = []
      refine ⟨by rw [List.length_nil]; exact Nat.zero_le _, fun f hf => ?_⟩
      have sf : Same H1 (upd H1 f (.lst [])) := same_upd hf
      have ssf := st.trans sf
      have ne : ∀ s ∈ layer, s ≠ [] ∧ ∀ p ∈ s, p ∈ L.map (·.1) := fun s hs => by
        obtain ⟨w, hw, _⟩ := dm s hs
        refine ⟨fun z => ?_, fun p hp => (kk.sub _ (look_some hw)).mem hp⟩
        rw [z, e] at hw
        cases hw
      have Lne : L ≠ [] ∨ layer = [] := by
        cases layer with
        | nil => exact .inr rfl
        | cons s ls =>
          refine .inl fun z => ?_
          obtain ⟨a, b⟩ := ne s List.mem_cons_self
          cases s with
          | nil => exact a rfl
          | cons p r =>
            have := b p List.mem_cons_self
            rw [z] at this
            cases this
      have fs : FS v L H0 c ly f xs layer (n + 1) C [] o5 [some v, o1, some (.ref c), some (.ref ly), some (.ref f), o5, o6, o7, none, none] (upd H1 f (.lst [])) :=
        ⟨o1, o6, o7, kvs, [], rfl, s0.trans ssf, nc, ssf _ _ hc, cr.same ssf, ssf _ _ hly, prd_imp (fun _ _ z => z.same ssf) lr, upd_same, .nil, fun z => (by rw [z, st _ _ hly] at hf; cases hf), (s0.trans st).free hf, nly,
          ⟨kk.nd, kk.sub, fun q hq => Nat.le_trans (by omega) (kk.len q hq), Nat.zero_le _, fun s h => (by cases h)⟩, dm⟩
      -- layer = list(following)
      have fin : ∀ σ' H' o5', FS v L H0 c ly f xs layer (n + 1) (layerStep L C layer).1 (layerStep L C layer).2 o5' σ' H' → tAsg (tCB (rLstOf K) (tCons (tVar 4) tNil)) (gName 3) { nx := fun σ' H' => WS K v L H0 ch n σ' H', rt := D.rt, bk := tRet (tDGet (tVar 2) (tTup tNil)) D, ct := fun σ' H' => WS K v L H0 ch n σ' H' } σ' H' := fun σ' H' o5' z => by
        obtain ⟨o1, o6, o7, kvs, ys, rfl, s0, nc, hc, cr, hly, lr, hf, fr, fl, nf, nly, kk, dm⟩ := z
        refine ⟨.ref f, rfl, f, ys, rfl, .inl (SqL.of hf), fun l hl => ?_⟩
        have sl : Same H' (upd H' l (.lst ys)) := same_upd hl
        refine ⟨o1, _, o5', o6, o7, c, l, kvs, ys, (layerStep L C layer).1, (layerStep L C layer).2, rfl, s0.trans sl, nc, sl _ _ hc, cr.same sl, upd_same, prd_imp (fun _ _ z => z.same sl) fr, s0.free hl, bf2, kk.weak, fun s hs => ?_⟩
        obtain ⟨w, hw⟩ := kk.dom s hs
        obtain ⟨w2, e2⟩ := Option.isSome_iff_exists.mp (look_isSome.mpr ⟨w, hw⟩)
        exact ⟨w2, e2, by have := kk.len _ (look_some e2); dsimp only at this; omega⟩
      rcases hN with rfl | hN
      · rcases Lne with z | z
        · exact absurd rfl z
        · subst z
          -- an empty layer: nothing is walked
          refine ⟨.ref ly, rfl, ly, rfl, .inl ⟨⟨_, SqL.of (ssf _ _ hly)⟩, ?_⟩⟩
          cases lr
          refine for_list (xs := []) (fun i σ' H' => FS v [] H0 c ly f [] [] (n + 1) C [] o5 σ' H') fs (fun i σ' H' _ z => ?_) (fun i x σ' H' ex z => ?_) (fun σ' H' z => fin _ _ _ z)
          · obtain ⟨_, _, _, _, _, _, _, _, _, _, hl, _⟩ := z
            exact SqL.of hl
          · cases ex
      · exact layer_walk hv hN hL gd fs ne fin
end K74
namespace K74
open PySem PySem.Spec PyProof.Rows L2 Den
def c_is_int : Sn :=
  (sRet (dAnd (dIsi ["int"] (dVar 0)) (dNot (dIsi ["bool"] (dVar 0)))))
def den_is_int : List AV → AS → ER := defD 1 c_is_int
def fuel_plain_form : ASt → AS → Nat := fun _ _ => 1000
def c_plain_form : Sn :=
  (sSeq (sIf (dNot (dTru (dIsi ["list", "tuple"] (dVar 0))))
    (sRet (dVar 0))
    sSkip)
    (sSeq (sAsg 1 true (dCallV vLstD (lCons (dCallV vTupD (lCons (dVar 0) (lCons (dC (.int 0)) (lCons (dCallV vTupD lNil) lNil)))) lNil)))
    (sSeq (sAsg 2 false (dCallV vTupD lNil))
    (sSeq (sWhile fuel_plain_form (dTru (dVar 1))
    (sSeq (sUnp (.tp (.cons (.nm 3) (.cons (.nm 4) (.cons (.nm 5) .nil)))) (dMeth mPop (dVar 1) lNil))
    (sIf (dAnd (dBin (cop .Lt) (dVar 4) (dCallV vLen (lCons (dVar 3) lNil))) (dTru (dIsi ["list", "tuple"] (dBin vIx (dVar 3) (dVar 4)))))
    (sSeq (sExpr (dMeth mAppend (dVar 1) (lCons (dCallV vTupD (lCons (dVar 3) (lCons (dVar 4) (lCons (dVar 5) lNil)))) lNil)))
    (sExpr (dMeth mAppend (dVar 1) (lCons (dCallV vTupD (lCons (dBin vIx (dVar 3) (dVar 4)) (lCons (dC (.int 0)) (lCons (dCallV vTupD lNil) lNil)))) lNil))))
    (sIf (dBin (cop .Lt) (dVar 4) (dCallV vLen (lCons (dVar 3) lNil)))
    (sExpr (dMeth mAppend (dVar 1) (lCons (dCallV vTupD (lCons (dVar 3) (lCons (dBin bAdd (dVar 4) (dC (.int 1))) (lCons (dBin bAdd (dVar 5) (dCallV vTupD (lCons (dBin vIx (dVar 3) (dVar 4)) lNil))) lNil)))) lNil)))
    (sIf (dTru (dVar 1))
    (sSeq (sUnp (.tp (.cons (.nm 6) (.cons (.nm 7) (.cons (.nm 8) .nil)))) (dMeth mPop (dVar 1) lNil))
    (sExpr (dMeth mAppend (dVar 1) (lCons (dCallV vTupD (lCons (dVar 6) (lCons (dBin bAdd (dVar 7) (dC (.int 1))) (lCons (dBin bAdd (dVar 8) (dCallV vTupD (lCons (dVar 5) lNil))) lNil)))) lNil))))
    (sAsg 2 false (dVar 5)))))))
    (sRet (dVar 2))))))
def den_plain_form : List AV → AS → ER := defD 9 c_plain_form
def c_check_number : Sn :=
  (sSeq (sIf (dOr (dNot (dTru (dCall (arity 1 den_is_int) (lCons (dVar 0) lNil)))) (dBin (cop .Lt) (dVar 0) (dVar 1)))
    (sRaise "BadNumber" "at" (lCons (dCall (arity 1 den_plain_form) (lCons (dVar 0) lNil)) lNil))
    sSkip)
    (sRet (dVar 0)))
def den_check_number : List AV → AS → ER := defD 2 c_check_number
def c_check_integers : Sn :=
  (sSeq (sIf (dOr (dNot (dTru (dIsi ["tuple", "list"] (dVar 0)))) (dBin (cop .Eq) (dCallV vLen (lCons (dVar 0) lNil)) (dC (.int 0))))
    (sRaise "BadRow" "at" (lCons (dNeg (dC (.int 1))) lNil))
    sSkip)
    (sSeq (sFor (itL (lCons (dVar 0) lNil) fEnumS) (.tp (.cons (.nm 1) (.cons (.nm 2) .nil)))
    (sIf (dNot (dTru (dCall (arity 1 den_is_int) (lCons (dVar 2) lNil))))
    (sRaise "BadRow" "at" (lCons (dVar 1) lNil))
    sSkip))
    (sRet (dCallV vTuple (lCons (dVar 0) lNil)))))
def den_check_integers : List AV → AS → ER := defD 3 c_check_integers
def c_fence_of_plain : Sn :=
  (sSeq (sAsg 1 false (dCallV vMin (lCons (dVar 0) lNil)))
    (sSeq (sAsg 2 false (dC (.int 0)))
    (sSeq (sFor (iSeq (dVar 0)) (.nm 3)
    (sAsg 2 false (dCallV vGcd (lCons (dVar 2) (lCons (dBin bSub (dVar 3) (dVar 1)) lNil)))))
    (sRet (dCallV vTupD (lCons (dVar 1) (lCons (dCallV vMax (lCons (dVar 0) lNil)) (lCons (dVar 2) lNil))))))))
def den_fence_of_plain : List AV → AS → ER := defD 4 c_fence_of_plain
def fuel_primes_of : ASt → AS → Nat := fun (σ : List (Option AV)) _ => match σ[2]? with
  | some (some (AV.d (PyData.int r))) => r.natAbs + 2
  | _ => 0
def c_primes_of : Sn :=
  (sSeq (sAsg 1 true (dCallV vLstD lNil))
    (sSeq (sAsg 2 false (dVar 0))
    (sSeq (sAsg 3 false (dC (.int 2)))
    (sSeq (sWhile fuel_primes_of (dBin (cop .LtE) (dBin bMul (dVar 3) (dVar 3)) (dVar 2))
    (sSeq (sIf (dBin (cop .Eq) (dBin bMod (dVar 2) (dVar 3)) (dC (.int 0)))
    (sSeq (sExpr (dMeth mAppend (dVar 1) (lCons (dVar 3) lNil)))
    (sWhile fuel_primes_of (dBin (cop .Eq) (dBin bMod (dVar 2) (dVar 3)) (dC (.int 0)))
    (sAsg 2 false (dBin bFdiv (dVar 2) (dVar 3)))))
    sSkip)
    (sAsg 3 false (dBin bAdd (dVar 3) (dC (.int 1))))))
    (sSeq (sIf (dBin (cop .Gt) (dVar 2) (dC (.int 1)))
    (sExpr (dMeth mAppend (dVar 1) (lCons (dVar 2) lNil)))
    sSkip)
    (sRet (dVar 1)))))))
def den_primes_of : List AV → AS → ER := defD 4 c_primes_of
def c_prime_factors : Sn :=
  (sRet (dCallV vTuple (lCons (dCall (arity 1 den_primes_of) (lCons (dCall (arity 2 den_check_number) (lCons (dVar 0) (lCons (dC (.int 1)) lNil))) lNil)) lNil)))
def den_prime_factors : List AV → AS → ER := defD 1 c_prime_factors
def c_lots_by_prime : Sn :=
  (sSeq (sUnp (.tp (.cons (.nm 1) (.cons (.nm 2) (.cons (.nm 3) .nil)))) (dCall (arity 1 den_fence_of_plain) (lCons (dVar 0) lNil)))
    (sSeq (sIf (dBin (cop .Eq) (dVar 3) (dC (.int 0)))
    (sRet (dCallV vTupD lNil))
    sSkip)
    (sSeq (sAsg 4 false (dSortSet (iSeq (dVar 0)) (.nm 7) (dC (.bool true)) (dVar 7) [7]))
    (sSeq (sAsg 5 true (dCallV vLstD lNil))
    (sSeq (sFor (iSeq (dCall (arity 1 den_primes_of) (lCons (dBin bFdiv (dBin bSub (dVar 2) (dVar 1)) (dVar 3)) lNil))) (.nm 6)
    (sExpr (dMeth mAppend (dVar 5) (lCons (dCallV vTupD (lCons (dVar 6) (lCons (dCallV vTuple (lCons (dLc (iSeq (dVar 4)) (.nm 7) (dBin (cop .NotEq) (dBin bMod (dBin bFdiv (dBin bSub (dVar 7) (dVar 1)) (dVar 3)) (dVar 6)) (dC (.int 0))) (dVar 7) [7]) lNil)) lNil))) lNil))))
    (sRet (dCallV vTupleF (lCons (dVar 5) lNil))))))))
def den_lots_by_prime : List AV → AS → ER := defD 8 c_lots_by_prime
def c_prime_lots : Sn :=
  (sRet (dCall (arity 1 den_lots_by_prime) (lCons (dCall (arity 1 den_check_integers) (lCons (dVar 0) lNil)) lNil)))
def den_prime_lots : List AV → AS → ER := defD 1 c_prime_lots
def c_fewest_values : Sn :=
  (sSeq (sAsg 1 false (dCall (arity 1 den_check_integers) (lCons (dVar 0) lNil)))
    (sSeq (sUnp (.tp (.cons (.nm 2) (.cons (.nm 3) (.cons (.nm 4) .nil)))) (dCall (arity 1 den_fence_of_plain) (lCons (dVar 1) lNil)))
    (sSeq (sIf (dBin (cop .Eq) (dVar 4) (dC (.int 0)))
    (sRet (dCallV vTupD (lCons (dVar 2) lNil)))
    sSkip)
    (sRet (dCallV vTuple (lCons (dCallV vSortT (lCons (dBin bAdd (dCallV vTupD (lCons (dVar 2) (lCons (dVar 3) lNil))) (dCall (arity 1 den_fewest_meeting_numbers) (lCons (dCall (arity 1 den_lots_by_prime) (lCons (dVar 1) lNil)) lNil))) lNil)) lNil))))))
def den_fewest_values : List AV → AS → ER := defD 5 c_fewest_values
def c_fewest_value_number : Sn :=
  (sRet (dCallV vLen (lCons (dCall (arity 1 den_fewest_values) (lCons (dVar 0) lNil)) lNil)))
def den_fewest_value_number : List AV → AS → ER := defD 1 c_fewest_value_number
def c_shows_values : Sn :=
  (sSeq (sAsg 2 false (dCall (arity 1 den_check_integers) (lCons (dVar 0) lNil)))
    (sSeq (sIf (dOr (dNot (dTru (dIsi ["tuple", "list"] (dVar 1)))) (dBin (cop .Eq) (dCallV vLen (lCons (dVar 1) lNil)) (dC (.int 0))))
    (sRet (dC (.bool false)))
    sSkip)
    (sSeq (sIf (dNot (dTru (dCallV vAll (lCons (dLc (iSeq (dVar 1)) (.nm 3) (dC (.bool true)) (dAnd (dCall (arity 1 den_is_int) (lCons (dVar 3) lNil)) (dBin (cop .In) (dVar 3) (dVar 2))) [3]) lNil))))
    (sRet (dC (.bool false)))
    sSkip)
    (sSeq (sIf (dNot (dTru (dCallV vAll (lCons (dLc (itL (lCons (dBin bSub (dCallV vLen (lCons (dVar 1) lNil)) (dC (.int 1))) lNil) fRng1) (.nm 4) (dC (.bool true)) (dBin (cop .Lt) (dBin vIx (dVar 1) (dVar 4)) (dBin vIx (dVar 1) (dBin bAdd (dVar 4) (dC (.int 1))))) [4]) lNil))))
    (sRet (dC (.bool false)))
    sSkip)
    (sRet (dBin (cop .Eq) (dCall (arity 1 den_fence_of_plain) (lCons (dVar 1) lNil)) (dCall (arity 1 den_fence_of_plain) (lCons (dVar 2) lNil))))))))
def den_shows_values : List AV → AS → ER := defD 5 c_shows_values
def c_law_draws : Sn :=
  (sSeq (sAsg 1 true (dCallV vLstD lNil))
    (sSeq (sFor (itL (lCons (dCallV vMin (lCons (dCallV vLen (lCons (dVar 0) lNil)) (lCons (dC (.int 63)) lNil))) lNil) fRng1) (.nm 2)
    (sSeq (sAsg 3 false (dCallV vInt (lCons (dBin vIx (dVar 0) (dVar 2)) lNil)))
    (sSeq (sIf (dBin (cop .Lt) (dVar 3) (dC (.int 0)))
    (sAsg 3 false (dBin bSub (dC (.int 11)) (dBin bMul (dC (.int 2)) (dVar 3))))
    sSkip)
    (sSeq (sAsg 3 false (dBin bMod (dCallV vInt (lCons (dVar 3) lNil)) (dBin bPow (dC (.int 30)) (dC (.int 24)))))
    (sFor (itL (lCons (dC (.int 24)) lNil) fRng1) (.nm 4)
    (sSeq (sExpr (dMeth mAppend (dVar 1) (lCons (dBin bMod (dCallV vInt (lCons (dVar 3) lNil)) (dC (.int 30))) lNil)))
    (sSeq (sAsg 3 false (dBin bFdiv (dVar 3) (dC (.int 30))))
    (sIf (dBin (cop .Eq) (dVar 3) (dC (.int 0)))
    sBreak
    sSkip))))))))
    (sSeq (sExpr (dMeth mReverse (dVar 1) lNil))
    (sRet (dVar 1)))))
def den_law_draws : List AV → AS → ER := defD 5 c_law_draws
def c_law_take : Sn :=
  (sSeq (sIf (dBin (cop .Eq) (dCallV vLen (lCons (dVar 0) lNil)) (dC (.int 0)))
    (sRet (dC (.int 0)))
    sSkip)
    (sRet (dBin bMod (dCallV vInt (lCons (dMeth mPop (dVar 0) lNil) lNil)) (dVar 1))))
def den_law_take : List AV → AS → ER := defD 2 c_law_take
def c_law_gcd : Sn :=
  (sSeq (sAsg 0 false (dCallV vAbs (lCons (dVar 0) lNil)))
    (sSeq (sAsg 1 false (dCallV vAbs (lCons (dVar 1) lNil)))
    (sSeq (sFor (itL (lCons (dC (.int 300)) lNil) fRng1) (.nm 2)
    (sSeq (sIf (dBin (cop .Eq) (dVar 1) (dC (.int 0)))
    sBreak
    sSkip)
    (sPar 0 1 (lCons (dVar 1) (lCons (dBin bMod (dCallV vInt (lCons (dVar 0) lNil)) (dCallV vInt (lCons (dVar 1) lNil))) lNil)))))
    (sRet (dVar 0)))))
def den_law_gcd : List AV → AS → ER := defD 3 c_law_gcd
def c_law_just : Sn :=
  (sRet (dAnd (dBin (cop .Eq) (dCallV vRepr (lCons (dVar 0) lNil)) (dCallV vRepr (lCons (dVar 1) lNil))) (dBin (cop .Eq) (dVar 0) (dVar 1))))
def den_law_just : List AV → AS → ER := defD 2 c_law_just
def c_law_fence : Sn :=
  (sSeq (sAsg 1 false (dCallV vMin (lCons (dVar 0) lNil)))
    (sSeq (sAsg 2 false (dC (.int 0)))
    (sSeq (sFor (iSeq (dVar 0)) (.nm 3)
    (sAsg 2 false (dCall (arity 2 den_law_gcd) (lCons (dVar 2) (lCons (dBin bSub (dVar 3) (dVar 1)) lNil)))))
    (sRet (dCallV vTupD (lCons (dVar 1) (lCons (dCallV vMax (lCons (dVar 0) lNil)) (lCons (dVar 2) lNil))))))))
def den_law_fence : List AV → AS → ER := defD 4 c_law_fence
def c_law_primes : Sn :=
  (sSeq (sAsg 1 true (dCallV vLstD lNil))
    (sSeq (sAsg 2 false (dVar 0))
    (sSeq (sFor (itL (lCons (dC (.int 2)) (lCons (dC (.int 2000)) lNil)) fRng2) (.nm 3)
    (sIf (dBin (cop .Eq) (dBin bMod (dVar 2) (dVar 3)) (dC (.int 0)))
    (sSeq (sExpr (dMeth mAppend (dVar 1) (lCons (dVar 3) lNil)))
    (sFor (itL (lCons (dC (.int 40)) lNil) fRng1) (.nm 4)
    (sSeq (sIf (dBin (cop .NotEq) (dBin bMod (dVar 2) (dVar 3)) (dC (.int 0)))
    sBreak
    sSkip)
    (sAsg 2 false (dBin bFdiv (dVar 2) (dVar 3))))))
    sSkip))
    (sRet (dVar 1)))))
def den_law_primes : List AV → AS → ER := defD 5 c_law_primes
def c_law_unlike : Sn :=
  (sSeq (sAsg 1 true (dCallV vLstD lNil))
    (sSeq (sFor (iSeq (dCallV vSortT (lCons (dVar 0) lNil))) (.nm 2)
    (sIf (dBin (cop .NotIn) (dVar 2) (dVar 1))
    (sExpr (dMeth mAppend (dVar 1) (lCons (dVar 2) lNil)))
    sSkip))
    (sRet (dVar 1))))
def den_law_unlike : List AV → AS → ER := defD 3 c_law_unlike
def c_law_own_lots : Sn :=
  (sSeq (sAsg 2 false (dCall (arity 1 den_law_fence) (lCons (dVar 0) lNil)))
    (sSeq (sAsg 3 true (dCallV vLstD lNil))
    (sSeq (sFor (iSeq (dVar 1)) (.nm 4)
    (sExpr (dMeth mAppend (dVar 3) (lCons (dCallV vTupD (lCons (dVar 4) (lCons (dCallV vTuple (lCons (dLc (iSeq (dCall (arity 1 den_law_unlike) (lCons (dVar 0) lNil))) (.nm 5) (dBin (cop .NotEq) (dBin bMod (dBin bFdiv (dBin bSub (dVar 5) (dBin vIx (dVar 2) (dC (.int 0)))) (dBin vIx (dVar 2) (dC (.int 2)))) (dVar 4)) (dC (.int 0))) (dVar 5) [5]) lNil)) lNil))) lNil))))
    (sRet (dCallV vTuple (lCons (dVar 3) lNil))))))
def den_law_own_lots : List AV → AS → ER := defD 6 c_law_own_lots
def c_law_tries : Sn :=
  (sSeq (sAsg 1 false (dCall (arity 1 den_law_fence) (lCons (dVar 0) lNil)))
    (sSeq (sAsg 2 false (dCallV vLstD (lCons (dCallV vTupD lNil) lNil)))
    (sSeq (sFor (iSeq (dCall (arity 1 den_law_unlike) (lCons (dVar 0) lNil))) (.nm 3)
    (sAsg 2 false (dBin bAdd (dVar 2) (dLc (iSeq (dVar 2)) (.nm 5) (dC (.bool true)) (dBin bAdd (dVar 5) (dCallV vTupD (lCons (dVar 3) lNil))) [5]))))
    (sSeq (sAsg 4 false (dC .none))
    (sSeq (sFor (iSeq (dVar 2)) (.nm 5)
    (sIf (dAnd (dBin (cop .Gt) (dCallV vLen (lCons (dVar 5) lNil)) (dC (.int 0))) (dAnd (dOr (dBin (cop .Is) (dVar 4) (dC .none)) (dBin (cop .Lt) (dCallV vLen (lCons (dVar 5) lNil)) (dCallV vLen (lCons (dVar 4) lNil)))) (dBin (cop .Eq) (dCall (arity 1 den_law_fence) (lCons (dVar 5) lNil)) (dVar 1))))
    (sAsg 4 false (dVar 5))
    sSkip))
    (sRet (dVar 4)))))))
def den_law_tries : List AV → AS → ER := defD 6 c_law_tries
def c_law_shows : Sn :=
  (sSeq (sIf (dOr (dNot (dTru (dIsi ["list", "tuple"] (dVar 1)))) (dBin (cop .Eq) (dCallV vLen (lCons (dVar 1) lNil)) (dC (.int 0))))
    (sRet (dC (.bool false)))
    sSkip)
    (sSeq (sFor (iSeq (dVar 1)) (.nm 2)
    (sIf (dOr (dNot (dTru (dIsi ["int"] (dVar 2)))) (dOr (dTru (dIsi ["bool"] (dVar 2))) (dBin (cop .NotIn) (dVar 2) (dVar 0))))
    (sRet (dC (.bool false)))
    sSkip))
    (sSeq (sFor (itL (lCons (dBin bSub (dCallV vLen (lCons (dVar 1) lNil)) (dC (.int 1))) lNil) fRng1) (.nm 3)
    (sIf (dNot (dBin (cop .Lt) (dBin vIx (dVar 1) (dVar 3)) (dBin vIx (dVar 1) (dBin bAdd (dVar 3) (dC (.int 1))))))
    (sRet (dC (.bool false)))
    sSkip))
    (sRet (dBin (cop .Eq) (dCall (arity 1 den_law_fence) (lCons (dVar 1) lNil)) (dCall (arity 1 den_law_fence) (lCons (dVar 0) lNil)))))))
def den_law_shows : List AV → AS → ER := defD 4 c_law_shows
def c_law_papers : Sn :=
  (sSeq (sAsg 3 false (dCall (arity 1 den_law_unlike) (lCons (dVar 0) lNil)))
    (sSeq (sAsg 4 false (dBin bMod (dVar 2) (dCallV vLen (lCons (dVar 1) lNil))))
    (sSeq (sAsg 5 true (dCallV vLstD (lCons (dCallV vTuple (lCons (dVar 1) lNil)) (lCons (dCallV vList (lCons (dVar 3) lNil)) (lCons (dBin bAdd (dSl (dVar 1) none (some (dVar 4))) (dSl (dVar 1) (some (dBin bAdd (dVar 4) (dC (.int 1)))) none)) (lCons (dRevT (dVar 1)) (lCons (dBin bAdd (dVar 1) (dSl (dVar 1) (some (dNeg (dC (.int 1)))) none)) (lCons (dCallV vTupD lNil) (lCons (dC (.int 7)) (lCons (dC .none) (lCons (dC (.str "ab")) lNil)))))))))))
    (sSeq (sAsg 5 true (dBin bAdd (dVar 5) (dCallV vLstD (lCons (dCallV vTuple (lCons (dBin bAdd (dSl (dVar 3) none (some (dVar 4))) (dSl (dVar 3) (some (dBin bAdd (dVar 4) (dC (.int 1)))) none)) lNil)) (lCons (dSl (dVar 1) (some (dC (.int 1))) none) (lCons (dSl (dVar 1) none (some (dNeg (dC (.int 1))))) (lCons (dCallV vTupD (lCons (dBin vIx (dVar 3) (dC (.int 0))) (lCons (dBin vIx (dVar 3) (dNeg (dC (.int 1)))) lNil))) (lCons (dCallV vLstD (lCons (dCallV vStrI (lCons (dBin vIx (dVar 1) (dC (.int 0))) lNil)) lNil)) lNil))))))))
    (sSeq (sAsg 5 true (dBin bAdd (dVar 5) (dCallV vLstD (lCons (dBin bAdd (dSl (dVar 1) none (some (dNeg (dC (.int 1))))) (dCallV vTupD (lCons (dBin bAdd (dBin vIx (dVar 1) (dNeg (dC (.int 1)))) (dC (.int 1))) lNil))) (lCons (dBin bAdd (dCallV vTupD (lCons (dBin bSub (dBin vIx (dVar 1) (dC (.int 0))) (dC (.int 1))) lNil)) (dVar 1)) (lCons (dCallV vTuple (lCons (dLc (iSeq (dVar 1)) (.nm 7) (dC (.bool true)) (dBin (cop .Eq) (dVar 7) (dC (.int 1))) [7]) lNil)) (lCons (dCallV vTupD (lCons (dVar 1) lNil)) lNil)))))))
    (sSeq (sAsg 6 false (dLc (iSeq (dVar 3)) (.nm 7) (dBin (cop .NotIn) (dVar 7) (dVar 1)) (dVar 7) [7]))
    (sSeq (sFor (iSeq (dSl (dVar 6) none (some (dC (.int 3))))) (.nm 7)
    (sSeq (sExpr (dMeth mAppend (dVar 5) (lCons (dBin bAdd (dBin bAdd (dSl (dVar 1) none (some (dVar 4))) (dCallV vTupD (lCons (dVar 7) lNil))) (dSl (dVar 1) (some (dBin bAdd (dVar 4) (dC (.int 1)))) none)) lNil)))
    (sExpr (dMeth mAppend (dVar 5) (lCons (dCallV vTuple (lCons (dCallV vSortT (lCons (dBin bAdd (dCallV vList (lCons (dVar 1) lNil)) (dCallV vLstD (lCons (dVar 7) lNil))) lNil)) lNil)) lNil)))))
    (sRet (dVar 5)))))))))
def den_law_papers : List AV → AS → ER := defD 8 c_law_papers
def c_law_values_told : Sn :=
  (sSeq (sFor (iSeq (dCallV vLstD (lCons (dCallV vTuple (lCons (dVar 0) lNil)) (lCons (dCallV vList (lCons (dVar 0) lNil)) lNil)))) (.nm 4)
    (sSeq (sAsg 5 false (dCallV vRepr (lCons (dVar 4) lNil)))
    (sSeq (sAsg 6 false (dCall (arity 1 den_fewest_values) (lCons (dVar 4) lNil)))
    (sSeq (sIf (dOr (dNot (dTru (dIsi ["tuple"] (dVar 6)))) (dOr (dBin (cop .NotEq) (dCallV vLen (lCons (dVar 6) lNil)) (dVar 2)) (dNot (dTru (dCall (arity 2 den_law_shows) (lCons (dVar 0) (lCons (dVar 6) lNil)))))))
    (sRet (dC (.bool false)))
    sSkip)
    (sSeq (sIf (dBin (cop .NotEq) (dCallV vRepr (lCons (dVar 6) lNil)) (dCallV vRepr (lCons (dCallV vTuple (lCons (dLc (iSeq (dCall (arity 1 den_law_unlike) (lCons (dVar 0) lNil))) (.nm 9) (dBin (cop .In) (dVar 9) (dVar 6)) (dVar 9) [9]) lNil)) lNil)))
    (sRet (dC (.bool false)))
    sSkip)
    (sSeq (sIf (dNot (dTru (dCall (arity 2 den_law_just) (lCons (dCall (arity 1 den_fewest_value_number) (lCons (dVar 4) lNil)) (lCons (dVar 2) lNil)))))
    (sRet (dC (.bool false)))
    sSkip)
    (sIf (dOr (dNot (dTru (dCall (arity 2 den_law_just) (lCons (dCall (arity 1 den_prime_lots) (lCons (dVar 4) lNil)) (lCons (dCall (arity 2 den_law_own_lots) (lCons (dVar 0) (lCons (dVar 1) lNil))) lNil))))) (dBin (cop .NotEq) (dCallV vRepr (lCons (dVar 4) lNil)) (dVar 5)))
    (sRet (dC (.bool false)))
    sSkip)))))))
    (sSeq (sAsg 7 false (dCall (arity 1 den_law_tries) (lCons (dVar 0) lNil)))
    (sSeq (sFor (iSeq (dCall (arity 3 den_law_papers) (lCons (dVar 0) (lCons (dVar 7) (lCons (dVar 3) lNil))))) (.nm 8)
    (sSeq (sAsg 6 false (dCall (arity 2 den_shows_values) (lCons (dCallV vList (lCons (dVar 0) lNil)) (lCons (dVar 8) lNil))))
    (sIf (dOr (dAnd (dBin (cop .IsNot) (dVar 6) (dC (.bool true))) (dBin (cop .IsNot) (dVar 6) (dC (.bool false)))) (dBin (cop .NotEq) (dVar 6) (dCall (arity 2 den_law_shows) (lCons (dVar 0) (lCons (dVar 8) lNil)))))
    (sRet (dC (.bool false)))
    sSkip)))
    (sRet (dC (.bool true))))))
def den_law_values_told : List AV → AS → ER := defD 10 c_law_values_told
def c_law_family : Sn :=
  (sSeq (sAsg 1 true (dCallV vLstD lNil))
    (sSeq (sFor (iSeq (dCallV vLstD (lCons (dC (.int 2)) (lCons (dC (.int 3)) (lCons (dC (.int 5)) (lCons (dC (.int 7)) (lCons (dC (.int 11)) (lCons (dC (.int 13)) lNil)))))))) (.nm 2)
    (sIf (dBin (cop .Eq) (dCall (arity 2 den_law_take) (lCons (dVar 0) (lCons (dC (.int 2)) lNil))) (dC (.int 0)))
    (sExpr (dMeth mAppend (dVar 1) (lCons (dVar 2) lNil)))
    sSkip))
    (sSeq (sAsg 3 false (dBin vIx (dCallV vLstD (lCons (dC (.int 1)) (lCons (dBin bPow (dC (.int 10)) (dC (.int 20))) (lCons (dC (.int 7)) (lCons (dC (.int 12)) lNil))))) (dCall (arity 2 den_law_take) (lCons (dVar 0) (lCons (dC (.int 4)) lNil)))))
    (sSeq (sAsg 4 false (dBin vIx (dCallV vLstD (lCons (dC (.int 0)) (lCons (dNeg (dBin bPow (dC (.int 10)) (dC (.int 30)))) (lCons (dC (.int 5)) (lCons (dC (.int 1)) lNil))))) (dCall (arity 2 den_law_take) (lCons (dVar 0) (lCons (dC (.int 4)) lNil)))))
    (sSeq (sAsg 5 false (dC (.int 1)))
    (sSeq (sFor (iSeq (dVar 1)) (.nm 2)
    (sAsg 5 false (dBin bMul (dVar 5) (dVar 2))))
    (sSeq (sAsg 6 true (dCallV vLstD (lCons (dVar 4) (lCons (dBin bAdd (dVar 4) (dBin bMul (dVar 5) (dVar 3))) lNil))))
    (sSeq (sFor (iSeq (dVar 1)) (.nm 2)
    (sExpr (dMeth mAppend (dVar 6) (lCons (dBin bAdd (dVar 4) (dBin bMul (dBin bFdiv (dVar 5) (dVar 2)) (dVar 3))) lNil))))
    (sSeq (sIf (dBin (cop .Eq) (dCall (arity 2 den_law_take) (lCons (dVar 0) (lCons (dC (.int 2)) lNil))) (dC (.int 1)))
    (sExpr (dMeth mReverse (dVar 6) lNil))
    sSkip)
    (sSeq (sAsg 7 false (dBin bAdd (dC (.int 2)) (dCallV vLen (lCons (dVar 1) lNil))))
    (sRet (dCallV vTupD (lCons (dVar 6) (lCons (dVar 1) (lCons (dVar 7) lNil)))))))))))))))
def den_law_family : List AV → AS → ER := defD 8 c_law_family
def c_law_call : Sn :=
  (sSeq (sIf (dBin (cop .Eq) (dVar 0) (dC (.int 0)))
    (sRet (dCall (arity 1 den_fewest_values) (lCons (dVar 1) lNil)))
    sSkip)
    (sSeq (sIf (dBin (cop .Eq) (dVar 0) (dC (.int 1)))
    (sRet (dCall (arity 1 den_fewest_value_number) (lCons (dVar 1) lNil)))
    sSkip)
    (sSeq (sIf (dBin (cop .Eq) (dVar 0) (dC (.int 2)))
    (sRet (dCall (arity 1 den_prime_lots) (lCons (dVar 1) lNil)))
    sSkip)
    (sSeq (sIf (dBin (cop .Eq) (dVar 0) (dC (.int 3)))
    (sRet (dCall (arity 2 den_shows_values) (lCons (dVar 1) (lCons (dCallV vTupD (lCons (dC (.int 1)) lNil)) lNil))))
    sSkip)
    (sRet (dCall (arity 1 den_prime_factors) (lCons (dVar 1) lNil)))))))
def den_law_call : List AV → AS → ER := defD 2 c_law_call
def c_law_refused : Sn :=
  (sSeq (sAsg 2 false (dCallV vTupD (lCons (dC (.str "none")) lNil)))
    (sSeq (sTry (sAsg 2 false (dCallV vTupD (lCons (dC (.str "told")) (lCons (dCall (arity 2 den_law_call) (lCons (dVar 0) (lCons (dVar 1) lNil))) lNil)))) [⟨[("BadNumber", false), ("BadLook", false), ("BadRow", true), ("BadCase", false)], some 3, (sAsg 2 false (dCallV vTupD (lCons (dC (.str "row")) (lCons (dFldT "at" ["BadNumber", "BadLook", "BadRow", "BadCase"] (dVar 3)) (lCons (dIsE [("BadNumber", true), ("BadLook", true), ("BadRow", true), ("BadCase", true)] (dVar 3)) (lCons (dIsE [("BadNumber", true), ("BadLook", true), ("BadRow", false), ("BadCase", true)] (dVar 3)) lNil))))))⟩, ⟨[("BadNumber", true), ("BadLook", false), ("BadRow", false), ("BadCase", false)], some 3, (sAsg 2 false (dCallV vTupD (lCons (dC (.str "number")) (lCons (dFldT "at" ["BadNumber", "BadLook", "BadRow", "BadCase"] (dVar 3)) (lCons (dIsE [("BadNumber", true), ("BadLook", true), ("BadRow", true), ("BadCase", true)] (dVar 3)) (lCons (dIsE [("BadNumber", false), ("BadLook", true), ("BadRow", true), ("BadCase", true)] (dVar 3)) lNil))))))⟩, ⟨[("BadNumber", true), ("BadLook", true), ("BadRow", true), ("BadCase", true)], none, (sAsg 2 false (dCallV vTupD (lCons (dC (.str "other")) lNil)))⟩])
    (sRet (dVar 2))))
def den_law_refused : List AV → AS → ER := defD 4 c_law_refused
def c_law_refuses : Sn :=
  (sSeq (sAsg 2 false (dBin vIx (dCallV vLstD (lCons (dC (.bool true)) (lCons (dC (.str "1")) (lCons (dC .none) (lCons (dCallV vLstD (lCons (dC (.int 1)) lNil)) (lCons (dCallV vTupD lNil) (lCons (dC (.bool false)) lNil))))))) (dBin bMod (dVar 1) (dC (.int 6)))))
    (sSeq (sFor (itL (lCons (dC (.int 4)) lNil) fRng1) (.nm 3)
    (sSeq (sFor (iSeq (dCallV vLstD (lCons (dCallV vTupD lNil) (lCons (dCallV vLstD lNil) (lCons (dC (.int 7)) (lCons (dC (.str "12")) (lCons (dC .none) lNil))))))) (.nm 4)
    (sIf (dNot (dTru (dCall (arity 2 den_law_just) (lCons (dCall (arity 2 den_law_refused) (lCons (dVar 3) (lCons (dVar 4) lNil))) (lCons (dCallV vTupD (lCons (dC (.str "row")) (lCons (dNeg (dC (.int 1))) (lCons (dC (.bool true)) (lCons (dC (.bool false)) lNil))))) lNil)))))
    (sRet (dC (.bool false)))
    sSkip))
    (sIf (dNot (dTru (dCall (arity 2 den_law_just) (lCons (dCall (arity 2 den_law_refused) (lCons (dVar 3) (lCons (dBin bAdd (dVar 0) (dCallV vLstD (lCons (dVar 2) (lCons (dC .none) lNil)))) lNil))) (lCons (dCallV vTupD (lCons (dC (.str "row")) (lCons (dCallV vLen (lCons (dVar 0) lNil)) (lCons (dC (.bool true)) (lCons (dC (.bool false)) lNil))))) lNil)))))
    (sRet (dC (.bool false)))
    sSkip)))
    (sSeq (sFor (iSeq (dCallV vLstD (lCons (dC (.int 0)) (lCons (dNeg (dC (.int 6))) (lCons (dC (.bool true)) (lCons (dC (.str "6")) (lCons (dC .none) (lCons (dCallV vTupD (lCons (dC (.int 6)) lNil)) lNil)))))))) (.nm 4)
    (sIf (dNot (dTru (dCall (arity 2 den_law_just) (lCons (dCall (arity 2 den_law_refused) (lCons (dC (.int 4)) (lCons (dVar 4) lNil))) (lCons (dCallV vTupD (lCons (dC (.str "number")) (lCons (dVar 4) (lCons (dC (.bool true)) (lCons (dC (.bool false)) lNil))))) lNil)))))
    (sRet (dC (.bool false)))
    sSkip))
    (sRet (dCall (arity 2 den_law_just) (lCons (dCall (arity 2 den_law_refused) (lCons (dC (.int 4)) (lCons (dCallV vLstD (lCons (dC (.int 6)) lNil)) lNil))) (lCons (dCallV vTupD (lCons (dC (.str "number")) (lCons (dCallV vTupD (lCons (dC (.int 6)) lNil)) (lCons (dC (.bool true)) (lCons (dC (.bool false)) lNil))))) lNil)))))))
def den_law_refuses : List AV → AS → ER := defD 5 c_law_refuses
def c_law_factors_told : Sn :=
  (sSeq (sAsg 1 false (dC (.int 1)))
    (sSeq (sAsg 2 true (dCallV vLstD lNil))
    (sSeq (sFor (itL (lCons (dC (.int 6)) lNil) fRng1) (.nm 3)
    (sSeq (sAsg 4 false (dBin vIx (dCallV vLstD (lCons (dC (.int 2)) (lCons (dC (.int 3)) (lCons (dC (.int 5)) (lCons (dC (.int 7)) (lCons (dC (.int 11)) (lCons (dC (.int 101)) (lCons (dC (.int 997)) (lCons (dC (.int 9973)) lNil))))))))) (dCall (arity 2 den_law_take) (lCons (dVar 0) (lCons (dC (.int 8)) lNil)))))
    (sIf (dAnd (dBin (cop .LtE) (dBin bMul (dVar 1) (dVar 4)) (dBin bPow (dC (.int 10)) (dC (.int 9)))) (dBin (cop .Lt) (dCall (arity 2 den_law_take) (lCons (dVar 0) (lCons (dC (.int 3)) lNil))) (dC (.int 2))))
    (sSeq (sAsg 1 false (dBin bMul (dVar 1) (dVar 4)))
    (sIf (dBin (cop .NotIn) (dVar 4) (dVar 2))
    (sExpr (dMeth mAppend (dVar 2) (lCons (dVar 4) lNil)))
    sSkip))
    sSkip)))
    (sSeq (sIf (dBin (cop .Eq) (dCall (arity 2 den_law_take) (lCons (dVar 0) (lCons (dC (.int 8)) lNil))) (dC (.int 7)))
    (sSeq (sAsg 1 false (dC (.int 999999937)))
    (sAsg 2 true (dCallV vLstD (lCons (dC (.int 999999937)) lNil))))
    sSkip)
    (sRet (dAnd (dCall (arity 2 den_law_just) (lCons (dCall (arity 1 den_prime_factors) (lCons (dVar 1) lNil)) (lCons (dCallV vTuple (lCons (dCallV vSortT (lCons (dVar 2) lNil)) lNil)) lNil))) (dCall (arity 2 den_law_just) (lCons (dCall (arity 1 den_prime_factors) (lCons (dC (.int 1)) lNil)) (lCons (dCallV vTupD lNil) lNil)))))))))
def den_law_factors_told : List AV → AS → ER := defD 5 c_law_factors_told
def c_law : Sn :=
  (sSeq (sAsg 1 true (dCall (arity 1 den_law_draws) (lCons (dVar 0) lNil)))
    (sSeq (sAsg 2 false (dBin vIx (dCallV vLstD (lCons (dC (.int 1)) (lCons (dC (.int 6)) (lCons (dC (.int 2)) (lCons (dC (.int 30)) (lCons (dC (.int 1)) (lCons (dC (.int 5)) lNil))))))) (dCall (arity 2 den_law_take) (lCons (dVar 1) (lCons (dC (.int 6)) lNil)))))
    (sSeq (sAsg 3 true (dCallV vLstD lNil))
    (sSeq (sFor (itL (lCons (dBin bAdd (dC (.int 1)) (dCall (arity 2 den_law_take) (lCons (dVar 1) (lCons (dC (.int 7)) lNil)))) lNil) fRng1) (.nm 4)
    (sSeq (sAsg 5 false (dBin bAdd (dBin bMul (dC (.int 30)) (dBin bMod (dCall (arity 2 den_law_take) (lCons (dVar 1) (lCons (dC (.int 30)) lNil))) (dC (.int 2)))) (dCall (arity 2 den_law_take) (lCons (dVar 1) (lCons (dC (.int 30)) lNil)))))
    (sExpr (dMeth mAppend (dVar 3) (lCons (dBin bMul (dVar 2) (dBin bSub (dVar 5) (dC (.int 29)))) lNil)))))
    (sSeq (sIf (dBin (cop .Eq) (dCall (arity 2 den_law_take) (lCons (dVar 1) (lCons (dC (.int 2)) lNil))) (dC (.int 1)))
    (sExpr (dMeth mAppend (dVar 3) (lCons (dBin vIx (dVar 3) (dC (.int 0))) lNil)))
    sSkip)
    (sSeq (sAsg 6 false (dCall (arity 1 den_law_family) (lCons (dVar 1) lNil)))
    (sSeq (sAsg 7 false (dCall (arity 2 den_law_take) (lCons (dVar 1) (lCons (dC (.int 30)) lNil))))
    (sSeq (sAsg 8 false (dCall (arity 1 den_law_fence) (lCons (dVar 3) lNil)))
    (sSeq (sAsg 9 false (dCallV vLstD lNil))
    (sSeq (sIf (dBin (cop .Gt) (dBin vIx (dVar 8) (dC (.int 2))) (dC (.int 0)))
    (sAsg 9 false (dCall (arity 1 den_law_primes) (lCons (dBin bFdiv (dBin bSub (dBin vIx (dVar 8) (dC (.int 1))) (dBin vIx (dVar 8) (dC (.int 0)))) (dBin vIx (dVar 8) (dC (.int 2)))) lNil)))
    sSkip)
    (sSeq (sIf (dNot (dTru (dCall (arity 1 den_law_factors_told) (lCons (dVar 1) lNil))))
    (sRet (dC (.bool false)))
    sSkip)
    (sSeq (sIf (dNot (dTru (dCall (arity 4 den_law_values_told) (lCons (dVar 3) (lCons (dVar 9) (lCons (dCallV vLen (lCons (dCall (arity 1 den_law_tries) (lCons (dVar 3) lNil)) lNil)) (lCons (dVar 7) lNil)))))))
    (sRet (dC (.bool false)))
    sSkip)
    (sSeq (sIf (dBin (cop .Eq) (dCallV vLen (lCons (dBin vIx (dVar 6) (dC (.int 1))) lNil)) (dC (.int 0)))
    (sAsg 6 false (dCallV vTupD (lCons (dCallV vLstD (lCons (dC (.int 4)) (lCons (dC (.int 4)) lNil))) (lCons (dCallV vLstD lNil) (lCons (dC (.int 1)) lNil)))))
    sSkip)
    (sRet (dAnd (dCall (arity 4 den_law_values_told) (lCons (dBin vIx (dVar 6) (dC (.int 0))) (lCons (dBin vIx (dVar 6) (dC (.int 1))) (lCons (dBin vIx (dVar 6) (dC (.int 2))) (lCons (dVar 7) lNil))))) (dCall (arity 2 den_law_refuses) (lCons (dVar 3) (lCons (dVar 7) lNil))))))))))))))))))
def den_law : List AV → AS → ER := defD 10 c_law
end K74
namespace K74
open PySem PySem.Spec PyProof.Rows L2 Den
def top (i : Nat) : Stmt := PySem.Challenge.pw_onlywhatvaries_k74_fewest_for_a_fence.main.body.getD i (.Pass ⟨0, 0, 0, 0⟩)
/-- what the text says: a, fd the places and what lies there; b, c the same of the errors and their makers -/
structure Txt (P : Program) (w : World) (K : PySem.W.Frag) (mg : Str → Option Value) (base : Heap) (a : Nat → Addr) (fd : Nat → FuncData) (b : Nat → Addr) (fI : Nat → Addr) (fe : Nat → FuncData) : Prop where
  n_abs : mg "abs" = none
  n_all : mg "all" = none
  n_bool : mg "bool" = none
  n_dict : mg "dict" = none
  n_enumerate : mg "enumerate" = none
  n_int : mg "int" = none
  n_isinstance : mg "isinstance" = none
  n_len : mg "len" = none
  n_list : mg "list" = none
  n_max : mg "max" = none
  n_min : mg "min" = none
  n_range : mg "range" = none
  n_repr : mg "repr" = none
  n_sorted : mg "sorted" = none
  n_str : mg "str" = none
  n_tuple : mg "tuple" = none
  m_gcd : mg "gcd" = some (.builtin "math.gcd")
  d_is_int : DefT K mg "is_int" (top 8) (a 0) (fd 0) ["x"]
  d_plain_form : DefT K mg "plain_form" (top 9) (a 1) (fd 1) ["x"]
  d_check_number : DefT K mg "check_number" (top 10) (a 2) (fd 2) ["x", "least"]
  d_check_integers : DefT K mg "check_integers" (top 12) (a 3) (fd 3) ["numbers"]
  d_fence_of_plain : DefT K mg "fence_of_plain" (top 13) (a 4) (fd 4) ["numbers"]
  d_primes_of : DefT K mg "primes_of" (top 15) (a 5) (fd 5) ["n"]
  d_prime_factors : DefT K mg "prime_factors" (top 16) (a 6) (fd 6) ["n"]
  d_lots_by_prime : DefT K mg "lots_by_prime" (top 17) (a 7) (fd 7) ["numbers"]
  d_prime_lots : DefT K mg "prime_lots" (top 18) (a 8) (fd 8) ["values"]
  d_fewest_meeting_numbers : DefT K mg "fewest_meeting_numbers" (top 19) (a 9) (fd 9) ["lots"]
  d_fewest_values : DefT K mg "fewest_values" (top 20) (a 10) (fd 10) ["values"]
  d_fewest_value_number : DefT K mg "fewest_value_number" (top 21) (a 11) (fd 11) ["values"]
  d_shows_values : DefT K mg "shows_values" (top 22) (a 12) (fd 12) ["values", "paper"]
  d_law_draws : DefT K mg "_law_draws" (top 24) (a 13) (fd 13) ["script"]
  d_law_take : DefT K mg "_law_take" (top 25) (a 14) (fd 14) ["draws", "many"]
  d_law_gcd : DefT K mg "_law_gcd" (top 26) (a 15) (fd 15) ["a", "b"]
  d_law_just : DefT K mg "_law_just" (top 27) (a 16) (fd 16) ["told", "due"]
  d_law_fence : DefT K mg "_law_fence" (top 28) (a 17) (fd 17) ["values"]
  d_law_primes : DefT K mg "_law_primes" (top 29) (a 18) (fd 18) ["number"]
  d_law_unlike : DefT K mg "_law_unlike" (top 30) (a 19) (fd 19) ["values"]
  d_law_own_lots : DefT K mg "_law_own_lots" (top 31) (a 20) (fd 20) ["values", "primes"]
  d_law_tries : DefT K mg "_law_tries" (top 32) (a 21) (fd 21) ["values"]
  d_law_shows : DefT K mg "_law_shows" (top 33) (a 22) (fd 22) ["values", "paper"]
  d_law_papers : DefT K mg "_law_papers" (top 34) (a 23) (fd 23) ["values", "best", "pick"]
  d_law_values_told : DefT K mg "_law_values_told" (top 35) (a 24) (fd 24) ["values", "primes", "least", "pick"]
  d_law_family : DefT K mg "_law_family" (top 36) (a 25) (fd 25) ["draws"]
  d_law_call : DefT K mg "_law_call" (top 37) (a 26) (fd 26) ["which", "thing"]
  d_law_refused : DefT K mg "_law_refused" (top 38) (a 27) (fd 27) ["which", "thing"]
  d_law_refuses : DefT K mg "_law_refuses" (top 39) (a 28) (fd 28) ["values", "pick"]
  d_law_factors_told : DefT K mg "_law_factors_told" (top 40) (a 29) (fd 29) ["draws"]
  d_law : DefT K mg "law" (top 41) (a 30) (fd 30) ["script"]
  g_VariesError : mg "VariesError" = some (.ref (b 0))
  xc_VariesError : PySem.W.subIn K (.ref (b 0)) (.type "BaseException") = some true ∧ PySem.W.typeIn K (.ref (b 0)) = some (.type "type") ∧ PySem.W.hasDictIn K (b 0) = true
  g_BadNumber : mg "BadNumber" = some (.ref (b 1))
  xc_BadNumber : PySem.W.subIn K (.ref (b 1)) (.type "BaseException") = some true ∧ PySem.W.typeIn K (.ref (b 1)) = some (.type "type") ∧ PySem.W.hasDictIn K (b 1) = true
  o_BadNumber : OexC K (b 1)
  no_BadNumber : PySem.W.findIn K (.ref (b 1)) "at" = some none
  iC_BadNumber : PySem.W.findIn K (.ref (b 1)) "__init__" = some (some (.ref (fI 1)))
  tI_BadNumber : PySem.W.typeIn K (.ref (fI 1)) = some (.type "function")
  fn_BadNumber : Fun K "__init__" "BadNumber.__init__" (inClass (top 3) 0) (fI 1) (fe 1)
  bi_BadNumber : Binds K (fe 1) ["self", "at"] []
  xf_BadNumber : XfC K (b 1)
  ic_BadNumber : IsC K (b 1)
  g_BadLook : mg "BadLook" = some (.ref (b 2))
  xc_BadLook : PySem.W.subIn K (.ref (b 2)) (.type "BaseException") = some true ∧ PySem.W.typeIn K (.ref (b 2)) = some (.type "type") ∧ PySem.W.hasDictIn K (b 2) = true
  o_BadLook : OexC K (b 2)
  no_BadLook : PySem.W.findIn K (.ref (b 2)) "at" = some none
  iC_BadLook : PySem.W.findIn K (.ref (b 2)) "__init__" = some (some (.ref (fI 2)))
  tI_BadLook : PySem.W.typeIn K (.ref (fI 2)) = some (.type "function")
  fn_BadLook : Fun K "__init__" "BadLook.__init__" (inClass (top 4) 0) (fI 2) (fe 2)
  bi_BadLook : Binds K (fe 2) ["self", "at"] []
  xf_BadLook : XfC K (b 2)
  ic_BadLook : IsC K (b 2)
  g_BadRow : mg "BadRow" = some (.ref (b 3))
  xc_BadRow : PySem.W.subIn K (.ref (b 3)) (.type "BaseException") = some true ∧ PySem.W.typeIn K (.ref (b 3)) = some (.type "type") ∧ PySem.W.hasDictIn K (b 3) = true
  o_BadRow : OexC K (b 3)
  no_BadRow : PySem.W.findIn K (.ref (b 3)) "at" = some none
  iC_BadRow : PySem.W.findIn K (.ref (b 3)) "__init__" = some (some (.ref (fI 3)))
  tI_BadRow : PySem.W.typeIn K (.ref (fI 3)) = some (.type "function")
  fn_BadRow : Fun K "__init__" "BadRow.__init__" (inClass (top 5) 0) (fI 3) (fe 3)
  bi_BadRow : Binds K (fe 3) ["self", "at"] []
  xf_BadRow : XfC K (b 3)
  ic_BadRow : IsC K (b 3)
  g_BadCase : mg "BadCase" = some (.ref (b 4))
  xc_BadCase : PySem.W.subIn K (.ref (b 4)) (.type "BaseException") = some true ∧ PySem.W.typeIn K (.ref (b 4)) = some (.type "type") ∧ PySem.W.hasDictIn K (b 4) = true
  o_BadCase : OexC K (b 4)
  no_BadCase : PySem.W.findIn K (.ref (b 4)) "at" = some none
  iC_BadCase : PySem.W.findIn K (.ref (b 4)) "__init__" = some (some (.ref (fI 4)))
  tI_BadCase : PySem.W.typeIn K (.ref (fI 4)) = some (.type "function")
  fn_BadCase : Fun K "__init__" "BadCase.__init__" (inClass (top 6) 0) (fI 4) (fe 4)
  bi_BadCase : Binds K (fe 4) ["self", "at"] []
  xf_BadCase : XfC K (b 4)
  ic_BadCase : IsC K (b 4)
  su_BadNumber_VariesError : PySem.W.subIn K (.ref (b 1)) (.ref (b 0)) = some true
  ki_BadNumber_VariesError : PySem.W.kitOne K (.ref (b 1)) (.ref (b 0)) = some true
  su_BadNumber_BadNumber : PySem.W.subIn K (.ref (b 1)) (.ref (b 1)) = some true
  ki_BadNumber_BadNumber : PySem.W.kitOne K (.ref (b 1)) (.ref (b 1)) = some true
  su_BadNumber_BadLook : PySem.W.subIn K (.ref (b 1)) (.ref (b 2)) = some false
  ki_BadNumber_BadLook : PySem.W.kitOne K (.ref (b 1)) (.ref (b 2)) = some false
  su_BadNumber_BadRow : PySem.W.subIn K (.ref (b 1)) (.ref (b 3)) = some false
  ki_BadNumber_BadRow : PySem.W.kitOne K (.ref (b 1)) (.ref (b 3)) = some false
  su_BadNumber_BadCase : PySem.W.subIn K (.ref (b 1)) (.ref (b 4)) = some false
  ki_BadNumber_BadCase : PySem.W.kitOne K (.ref (b 1)) (.ref (b 4)) = some false
  su_BadLook_VariesError : PySem.W.subIn K (.ref (b 2)) (.ref (b 0)) = some true
  ki_BadLook_VariesError : PySem.W.kitOne K (.ref (b 2)) (.ref (b 0)) = some true
  su_BadLook_BadNumber : PySem.W.subIn K (.ref (b 2)) (.ref (b 1)) = some false
  ki_BadLook_BadNumber : PySem.W.kitOne K (.ref (b 2)) (.ref (b 1)) = some false
  su_BadLook_BadLook : PySem.W.subIn K (.ref (b 2)) (.ref (b 2)) = some true
  ki_BadLook_BadLook : PySem.W.kitOne K (.ref (b 2)) (.ref (b 2)) = some true
  su_BadLook_BadRow : PySem.W.subIn K (.ref (b 2)) (.ref (b 3)) = some false
  ki_BadLook_BadRow : PySem.W.kitOne K (.ref (b 2)) (.ref (b 3)) = some false
  su_BadLook_BadCase : PySem.W.subIn K (.ref (b 2)) (.ref (b 4)) = some false
  ki_BadLook_BadCase : PySem.W.kitOne K (.ref (b 2)) (.ref (b 4)) = some false
  su_BadRow_VariesError : PySem.W.subIn K (.ref (b 3)) (.ref (b 0)) = some true
  ki_BadRow_VariesError : PySem.W.kitOne K (.ref (b 3)) (.ref (b 0)) = some true
  su_BadRow_BadNumber : PySem.W.subIn K (.ref (b 3)) (.ref (b 1)) = some false
  ki_BadRow_BadNumber : PySem.W.kitOne K (.ref (b 3)) (.ref (b 1)) = some false
  su_BadRow_BadLook : PySem.W.subIn K (.ref (b 3)) (.ref (b 2)) = some false
  ki_BadRow_BadLook : PySem.W.kitOne K (.ref (b 3)) (.ref (b 2)) = some false
  su_BadRow_BadRow : PySem.W.subIn K (.ref (b 3)) (.ref (b 3)) = some true
  ki_BadRow_BadRow : PySem.W.kitOne K (.ref (b 3)) (.ref (b 3)) = some true
  su_BadRow_BadCase : PySem.W.subIn K (.ref (b 3)) (.ref (b 4)) = some false
  ki_BadRow_BadCase : PySem.W.kitOne K (.ref (b 3)) (.ref (b 4)) = some false
  su_BadCase_VariesError : PySem.W.subIn K (.ref (b 4)) (.ref (b 0)) = some true
  ki_BadCase_VariesError : PySem.W.kitOne K (.ref (b 4)) (.ref (b 0)) = some true
  su_BadCase_BadNumber : PySem.W.subIn K (.ref (b 4)) (.ref (b 1)) = some false
  ki_BadCase_BadNumber : PySem.W.kitOne K (.ref (b 4)) (.ref (b 1)) = some false
  su_BadCase_BadLook : PySem.W.subIn K (.ref (b 4)) (.ref (b 2)) = some false
  ki_BadCase_BadLook : PySem.W.kitOne K (.ref (b 4)) (.ref (b 2)) = some false
  su_BadCase_BadRow : PySem.W.subIn K (.ref (b 4)) (.ref (b 3)) = some false
  ki_BadCase_BadRow : PySem.W.kitOne K (.ref (b 4)) (.ref (b 3)) = some false
  su_BadCase_BadCase : PySem.W.subIn K (.ref (b 4)) (.ref (b 4)) = some true
  ki_BadCase_BadCase : PySem.W.kitOne K (.ref (b 4)) (.ref (b 4)) = some true
section
variable {P : Program} {w : World} {K : PySem.W.Frag} {mg : Str → Option Value} {base : Heap} {a : Nat → Addr} {fd : Nat → FuncData} {b : Nat → Addr} {fI : Nat → Addr} {fe : Nat → FuncData}
theorem own_BadNumber (T : Txt P w K mg base a fd b fI fe) : OwnE P w K mg base "BadNumber" "at" (b 1) (fI 1) (fe 1) :=
  ⟨T.g_BadNumber, T.o_BadNumber, T.no_BadNumber, T.iC_BadNumber, T.tI_BadNumber, ok_ini T.fn_BadNumber ⟨rfl, rfl, rfl, by decide +kernel, rfl, by decide +kernel, by decide +kernel⟩ rfl rfl (by decide) (by decide) rfl, T.bi_BadNumber, T.xf_BadNumber⟩
theorem own_BadLook (T : Txt P w K mg base a fd b fI fe) : OwnE P w K mg base "BadLook" "at" (b 2) (fI 2) (fe 2) :=
  ⟨T.g_BadLook, T.o_BadLook, T.no_BadLook, T.iC_BadLook, T.tI_BadLook, ok_ini T.fn_BadLook ⟨rfl, rfl, rfl, by decide +kernel, rfl, by decide +kernel, by decide +kernel⟩ rfl rfl (by decide) (by decide) rfl, T.bi_BadLook, T.xf_BadLook⟩
theorem own_BadRow (T : Txt P w K mg base a fd b fI fe) : OwnE P w K mg base "BadRow" "at" (b 3) (fI 3) (fe 3) :=
  ⟨T.g_BadRow, T.o_BadRow, T.no_BadRow, T.iC_BadRow, T.tI_BadRow, ok_ini T.fn_BadRow ⟨rfl, rfl, rfl, by decide +kernel, rfl, by decide +kernel, by decide +kernel⟩ rfl rfl (by decide) (by decide) rfl, T.bi_BadRow, T.xf_BadRow⟩
theorem own_BadCase (T : Txt P w K mg base a fd b fI fe) : OwnE P w K mg base "BadCase" "at" (b 4) (fI 4) (fe 4) :=
  ⟨T.g_BadCase, T.o_BadCase, T.no_BadCase, T.iC_BadCase, T.tI_BadCase, ok_ini T.fn_BadCase ⟨rfl, rfl, rfl, by decide +kernel, rfl, by decide +kernel, by decide +kernel⟩ rfl rfl (by decide) (by decide) rfl, T.bi_BadCase, T.xf_BadCase⟩
theorem Txt.fld_at (T : Txt P w K mg base a fd b fI fe) (cns : List Str) (h : cns = (["BadNumber", "BadLook", "BadRow", "BadCase"] : List Str)) {X : Cx} (hK : X.K = K := by rfl) (hm : X.mg = mg := by rfl) : FldOk X "at" cns := by
  subst h hK hm; intro cn hc C e
  simp only [List.mem_cons, List.not_mem_nil, or_false] at hc
  rcases hc with rfl | rfl | rfl | rfl
  · rw [T.g_BadNumber] at e; cases e; exact ⟨T.xf_BadNumber, T.no_BadNumber⟩
  · rw [T.g_BadLook] at e; cases e; exact ⟨T.xf_BadLook, T.no_BadLook⟩
  · rw [T.g_BadRow] at e; cases e; exact ⟨T.xf_BadRow, T.no_BadRow⟩
  · rw [T.g_BadCase] at e; cases e; exact ⟨T.xf_BadCase, T.no_BadCase⟩
theorem Txt.nm_VariesError (T : Txt P w K mg base a fd b fI fe) {X : Cx} (hg : Gl X "VariesError" := by rfl) (hm : X.mg = mg := by rfl) : Names X "VariesError" (.ref (b 0)) := ⟨hg, by decide, .inl (by rw [hm]; exact T.g_VariesError)⟩
theorem Txt.tb_VariesError (T : Txt P w K mg base a fd b fI fe) (tab : List (Str × Bool)) (h : tab = ([("BadNumber", true), ("BadLook", true), ("BadRow", true), ("BadCase", true)] : List (Str × Bool)) := by rfl) {X : Cx} (hK : X.K = K := by rfl) (hm : X.mg = mg := by rfl) : TabOk X tab (.ref (b 0)) := by
  subst h hK hm; intro cn v hc C e
  have hc := mem_of_lookup hc
  simp only [List.mem_cons, List.not_mem_nil, or_false, Prod.mk.injEq] at hc
  rcases hc with ⟨rfl, rfl⟩ | ⟨rfl, rfl⟩ | ⟨rfl, rfl⟩ | ⟨rfl, rfl⟩
  · rw [T.g_BadNumber] at e; cases e; exact PySem.W.exm_ref T.xc_VariesError.1 T.xc_VariesError.2.2 T.xc_VariesError.2.1 T.su_BadNumber_VariesError
  · rw [T.g_BadLook] at e; cases e; exact PySem.W.exm_ref T.xc_VariesError.1 T.xc_VariesError.2.2 T.xc_VariesError.2.1 T.su_BadLook_VariesError
  · rw [T.g_BadRow] at e; cases e; exact PySem.W.exm_ref T.xc_VariesError.1 T.xc_VariesError.2.2 T.xc_VariesError.2.1 T.su_BadRow_VariesError
  · rw [T.g_BadCase] at e; cases e; exact PySem.W.exm_ref T.xc_VariesError.1 T.xc_VariesError.2.2 T.xc_VariesError.2.1 T.su_BadCase_VariesError
theorem Txt.is_VariesError (T : Txt P w K mg base a fd b fI fe) (tab : List (Str × Bool)) (h : tab = ([("BadNumber", true), ("BadLook", true), ("BadRow", true), ("BadCase", true)] : List (Str × Bool)) := by rfl) {X : Cx} (hK : X.K = K := by rfl) (hm : X.mg = mg := by rfl) : IsTab X tab (b 0) := by
  subst h hK hm; intro cn v hc C e
  have hc := mem_of_lookup hc
  simp only [List.mem_cons, List.not_mem_nil, or_false, Prod.mk.injEq] at hc
  rcases hc with ⟨rfl, rfl⟩ | ⟨rfl, rfl⟩ | ⟨rfl, rfl⟩ | ⟨rfl, rfl⟩
  · rw [T.g_BadNumber] at e; cases e; exact ⟨T.ic_BadNumber, T.ki_BadNumber_VariesError⟩
  · rw [T.g_BadLook] at e; cases e; exact ⟨T.ic_BadLook, T.ki_BadLook_VariesError⟩
  · rw [T.g_BadRow] at e; cases e; exact ⟨T.ic_BadRow, T.ki_BadRow_VariesError⟩
  · rw [T.g_BadCase] at e; cases e; exact ⟨T.ic_BadCase, T.ki_BadCase_VariesError⟩
theorem Txt.nm_BadNumber (T : Txt P w K mg base a fd b fI fe) {X : Cx} (hg : Gl X "BadNumber" := by rfl) (hm : X.mg = mg := by rfl) : Names X "BadNumber" (.ref (b 1)) := ⟨hg, by decide, .inl (by rw [hm]; exact T.g_BadNumber)⟩
theorem Txt.tb_BadNumber (T : Txt P w K mg base a fd b fI fe) (tab : List (Str × Bool)) (h : tab = ([("BadNumber", true), ("BadLook", false), ("BadRow", false), ("BadCase", false)] : List (Str × Bool)) := by rfl) {X : Cx} (hK : X.K = K := by rfl) (hm : X.mg = mg := by rfl) : TabOk X tab (.ref (b 1)) := by
  subst h hK hm; intro cn v hc C e
  have hc := mem_of_lookup hc
  simp only [List.mem_cons, List.not_mem_nil, or_false, Prod.mk.injEq] at hc
  rcases hc with ⟨rfl, rfl⟩ | ⟨rfl, rfl⟩ | ⟨rfl, rfl⟩ | ⟨rfl, rfl⟩
  · rw [T.g_BadNumber] at e; cases e; exact PySem.W.exm_ref T.xc_BadNumber.1 T.xc_BadNumber.2.2 T.xc_BadNumber.2.1 T.su_BadNumber_BadNumber
  · rw [T.g_BadLook] at e; cases e; exact PySem.W.exm_ref T.xc_BadNumber.1 T.xc_BadNumber.2.2 T.xc_BadNumber.2.1 T.su_BadLook_BadNumber
  · rw [T.g_BadRow] at e; cases e; exact PySem.W.exm_ref T.xc_BadNumber.1 T.xc_BadNumber.2.2 T.xc_BadNumber.2.1 T.su_BadRow_BadNumber
  · rw [T.g_BadCase] at e; cases e; exact PySem.W.exm_ref T.xc_BadNumber.1 T.xc_BadNumber.2.2 T.xc_BadNumber.2.1 T.su_BadCase_BadNumber
theorem Txt.is_BadNumber (T : Txt P w K mg base a fd b fI fe) (tab : List (Str × Bool)) (h : tab = ([("BadNumber", true), ("BadLook", false), ("BadRow", false), ("BadCase", false)] : List (Str × Bool)) := by rfl) {X : Cx} (hK : X.K = K := by rfl) (hm : X.mg = mg := by rfl) : IsTab X tab (b 1) := by
  subst h hK hm; intro cn v hc C e
  have hc := mem_of_lookup hc
  simp only [List.mem_cons, List.not_mem_nil, or_false, Prod.mk.injEq] at hc
  rcases hc with ⟨rfl, rfl⟩ | ⟨rfl, rfl⟩ | ⟨rfl, rfl⟩ | ⟨rfl, rfl⟩
  · rw [T.g_BadNumber] at e; cases e; exact ⟨T.ic_BadNumber, T.ki_BadNumber_BadNumber⟩
  · rw [T.g_BadLook] at e; cases e; exact ⟨T.ic_BadLook, T.ki_BadLook_BadNumber⟩
  · rw [T.g_BadRow] at e; cases e; exact ⟨T.ic_BadRow, T.ki_BadRow_BadNumber⟩
  · rw [T.g_BadCase] at e; cases e; exact ⟨T.ic_BadCase, T.ki_BadCase_BadNumber⟩
theorem Txt.nm_BadLook (T : Txt P w K mg base a fd b fI fe) {X : Cx} (hg : Gl X "BadLook" := by rfl) (hm : X.mg = mg := by rfl) : Names X "BadLook" (.ref (b 2)) := ⟨hg, by decide, .inl (by rw [hm]; exact T.g_BadLook)⟩
theorem Txt.tb_BadLook (T : Txt P w K mg base a fd b fI fe) (tab : List (Str × Bool)) (h : tab = ([("BadNumber", false), ("BadLook", true), ("BadRow", false), ("BadCase", false)] : List (Str × Bool)) := by rfl) {X : Cx} (hK : X.K = K := by rfl) (hm : X.mg = mg := by rfl) : TabOk X tab (.ref (b 2)) := by
  subst h hK hm; intro cn v hc C e
  have hc := mem_of_lookup hc
  simp only [List.mem_cons, List.not_mem_nil, or_false, Prod.mk.injEq] at hc
  rcases hc with ⟨rfl, rfl⟩ | ⟨rfl, rfl⟩ | ⟨rfl, rfl⟩ | ⟨rfl, rfl⟩
  · rw [T.g_BadNumber] at e; cases e; exact PySem.W.exm_ref T.xc_BadLook.1 T.xc_BadLook.2.2 T.xc_BadLook.2.1 T.su_BadNumber_BadLook
  · rw [T.g_BadLook] at e; cases e; exact PySem.W.exm_ref T.xc_BadLook.1 T.xc_BadLook.2.2 T.xc_BadLook.2.1 T.su_BadLook_BadLook
  · rw [T.g_BadRow] at e; cases e; exact PySem.W.exm_ref T.xc_BadLook.1 T.xc_BadLook.2.2 T.xc_BadLook.2.1 T.su_BadRow_BadLook
  · rw [T.g_BadCase] at e; cases e; exact PySem.W.exm_ref T.xc_BadLook.1 T.xc_BadLook.2.2 T.xc_BadLook.2.1 T.su_BadCase_BadLook
theorem Txt.is_BadLook (T : Txt P w K mg base a fd b fI fe) (tab : List (Str × Bool)) (h : tab = ([("BadNumber", false), ("BadLook", true), ("BadRow", false), ("BadCase", false)] : List (Str × Bool)) := by rfl) {X : Cx} (hK : X.K = K := by rfl) (hm : X.mg = mg := by rfl) : IsTab X tab (b 2) := by
  subst h hK hm; intro cn v hc C e
  have hc := mem_of_lookup hc
  simp only [List.mem_cons, List.not_mem_nil, or_false, Prod.mk.injEq] at hc
  rcases hc with ⟨rfl, rfl⟩ | ⟨rfl, rfl⟩ | ⟨rfl, rfl⟩ | ⟨rfl, rfl⟩
  · rw [T.g_BadNumber] at e; cases e; exact ⟨T.ic_BadNumber, T.ki_BadNumber_BadLook⟩
  · rw [T.g_BadLook] at e; cases e; exact ⟨T.ic_BadLook, T.ki_BadLook_BadLook⟩
  · rw [T.g_BadRow] at e; cases e; exact ⟨T.ic_BadRow, T.ki_BadRow_BadLook⟩
  · rw [T.g_BadCase] at e; cases e; exact ⟨T.ic_BadCase, T.ki_BadCase_BadLook⟩
theorem Txt.nm_BadRow (T : Txt P w K mg base a fd b fI fe) {X : Cx} (hg : Gl X "BadRow" := by rfl) (hm : X.mg = mg := by rfl) : Names X "BadRow" (.ref (b 3)) := ⟨hg, by decide, .inl (by rw [hm]; exact T.g_BadRow)⟩
theorem Txt.tb_BadRow (T : Txt P w K mg base a fd b fI fe) (tab : List (Str × Bool)) (h : tab = ([("BadNumber", false), ("BadLook", false), ("BadRow", true), ("BadCase", false)] : List (Str × Bool)) := by rfl) {X : Cx} (hK : X.K = K := by rfl) (hm : X.mg = mg := by rfl) : TabOk X tab (.ref (b 3)) := by
  subst h hK hm; intro cn v hc C e
  have hc := mem_of_lookup hc
  simp only [List.mem_cons, List.not_mem_nil, or_false, Prod.mk.injEq] at hc
  rcases hc with ⟨rfl, rfl⟩ | ⟨rfl, rfl⟩ | ⟨rfl, rfl⟩ | ⟨rfl, rfl⟩
  · rw [T.g_BadNumber] at e; cases e; exact PySem.W.exm_ref T.xc_BadRow.1 T.xc_BadRow.2.2 T.xc_BadRow.2.1 T.su_BadNumber_BadRow
  · rw [T.g_BadLook] at e; cases e; exact PySem.W.exm_ref T.xc_BadRow.1 T.xc_BadRow.2.2 T.xc_BadRow.2.1 T.su_BadLook_BadRow
  · rw [T.g_BadRow] at e; cases e; exact PySem.W.exm_ref T.xc_BadRow.1 T.xc_BadRow.2.2 T.xc_BadRow.2.1 T.su_BadRow_BadRow
  · rw [T.g_BadCase] at e; cases e; exact PySem.W.exm_ref T.xc_BadRow.1 T.xc_BadRow.2.2 T.xc_BadRow.2.1 T.su_BadCase_BadRow
theorem Txt.is_BadRow (T : Txt P w K mg base a fd b fI fe) (tab : List (Str × Bool)) (h : tab = ([("BadNumber", false), ("BadLook", false), ("BadRow", true), ("BadCase", false)] : List (Str × Bool)) := by rfl) {X : Cx} (hK : X.K = K := by rfl) (hm : X.mg = mg := by rfl) : IsTab X tab (b 3) := by
  subst h hK hm; intro cn v hc C e
  have hc := mem_of_lookup hc
  simp only [List.mem_cons, List.not_mem_nil, or_false, Prod.mk.injEq] at hc
  rcases hc with ⟨rfl, rfl⟩ | ⟨rfl, rfl⟩ | ⟨rfl, rfl⟩ | ⟨rfl, rfl⟩
  · rw [T.g_BadNumber] at e; cases e; exact ⟨T.ic_BadNumber, T.ki_BadNumber_BadRow⟩
  · rw [T.g_BadLook] at e; cases e; exact ⟨T.ic_BadLook, T.ki_BadLook_BadRow⟩
  · rw [T.g_BadRow] at e; cases e; exact ⟨T.ic_BadRow, T.ki_BadRow_BadRow⟩
  · rw [T.g_BadCase] at e; cases e; exact ⟨T.ic_BadCase, T.ki_BadCase_BadRow⟩
theorem Txt.nm_BadCase (T : Txt P w K mg base a fd b fI fe) {X : Cx} (hg : Gl X "BadCase" := by rfl) (hm : X.mg = mg := by rfl) : Names X "BadCase" (.ref (b 4)) := ⟨hg, by decide, .inl (by rw [hm]; exact T.g_BadCase)⟩
theorem Txt.tb_BadCase (T : Txt P w K mg base a fd b fI fe) (tab : List (Str × Bool)) (h : tab = ([("BadNumber", false), ("BadLook", false), ("BadRow", false), ("BadCase", true)] : List (Str × Bool)) := by rfl) {X : Cx} (hK : X.K = K := by rfl) (hm : X.mg = mg := by rfl) : TabOk X tab (.ref (b 4)) := by
  subst h hK hm; intro cn v hc C e
  have hc := mem_of_lookup hc
  simp only [List.mem_cons, List.not_mem_nil, or_false, Prod.mk.injEq] at hc
  rcases hc with ⟨rfl, rfl⟩ | ⟨rfl, rfl⟩ | ⟨rfl, rfl⟩ | ⟨rfl, rfl⟩
  · rw [T.g_BadNumber] at e; cases e; exact PySem.W.exm_ref T.xc_BadCase.1 T.xc_BadCase.2.2 T.xc_BadCase.2.1 T.su_BadNumber_BadCase
  · rw [T.g_BadLook] at e; cases e; exact PySem.W.exm_ref T.xc_BadCase.1 T.xc_BadCase.2.2 T.xc_BadCase.2.1 T.su_BadLook_BadCase
  · rw [T.g_BadRow] at e; cases e; exact PySem.W.exm_ref T.xc_BadCase.1 T.xc_BadCase.2.2 T.xc_BadCase.2.1 T.su_BadRow_BadCase
  · rw [T.g_BadCase] at e; cases e; exact PySem.W.exm_ref T.xc_BadCase.1 T.xc_BadCase.2.2 T.xc_BadCase.2.1 T.su_BadCase_BadCase
theorem Txt.is_BadCase (T : Txt P w K mg base a fd b fI fe) (tab : List (Str × Bool)) (h : tab = ([("BadNumber", false), ("BadLook", false), ("BadRow", false), ("BadCase", true)] : List (Str × Bool)) := by rfl) {X : Cx} (hK : X.K = K := by rfl) (hm : X.mg = mg := by rfl) : IsTab X tab (b 4) := by
  subst h hK hm; intro cn v hc C e
  have hc := mem_of_lookup hc
  simp only [List.mem_cons, List.not_mem_nil, or_false, Prod.mk.injEq] at hc
  rcases hc with ⟨rfl, rfl⟩ | ⟨rfl, rfl⟩ | ⟨rfl, rfl⟩ | ⟨rfl, rfl⟩
  · rw [T.g_BadNumber] at e; cases e; exact ⟨T.ic_BadNumber, T.ki_BadNumber_BadCase⟩
  · rw [T.g_BadLook] at e; cases e; exact ⟨T.ic_BadLook, T.ki_BadLook_BadCase⟩
  · rw [T.g_BadRow] at e; cases e; exact ⟨T.ic_BadRow, T.ki_BadRow_BadCase⟩
  · rw [T.g_BadCase] at e; cases e; exact ⟨T.ic_BadCase, T.ki_BadCase_BadCase⟩
theorem Txt.ism_BadNumber_BadCase_BadLook (T : Txt P w K mg base a fd b fI fe) (tab : List (Str × Bool)) (h : tab = ([("BadNumber", true), ("BadLook", true), ("BadRow", false), ("BadCase", true)] : List (Str × Bool)) := by rfl) {X : Cx} (hK : X.K = K := by rfl) (hm : X.mg = mg := by rfl) : IsTabM X tab [b 1, b 4, b 2] := by
  subst h hK hm; intro cn v hc C e
  have hc := mem_of_lookup hc
  simp only [List.mem_cons, List.not_mem_nil, or_false, Prod.mk.injEq] at hc
  rcases hc with ⟨rfl, rfl⟩ | ⟨rfl, rfl⟩ | ⟨rfl, rfl⟩ | ⟨rfl, rfl⟩
  · rw [T.g_BadNumber] at e; cases e; exact ⟨T.ic_BadNumber, (kitAny_cons (r := true) T.ki_BadNumber_BadNumber (fun z => (nomatch z)) fun z => rfl)⟩
  · rw [T.g_BadLook] at e; cases e; exact ⟨T.ic_BadLook, (kitAny_cons (r := true) T.ki_BadLook_BadNumber (fun z => (kitAny_cons (r := true) T.ki_BadLook_BadCase (fun z => (kitAny_cons (r := true) T.ki_BadLook_BadLook (fun z => (nomatch z)) fun z => rfl)) fun z => (nomatch z))) fun z => (nomatch z))⟩
  · rw [T.g_BadRow] at e; cases e; exact ⟨T.ic_BadRow, (kitAny_cons (r := false) T.ki_BadRow_BadNumber (fun z => (kitAny_cons (r := false) T.ki_BadRow_BadCase (fun z => (kitAny_cons (r := false) T.ki_BadRow_BadLook (fun z => rfl) fun z => (nomatch z))) fun z => (nomatch z))) fun z => (nomatch z))⟩
  · rw [T.g_BadCase] at e; cases e; exact ⟨T.ic_BadCase, (kitAny_cons (r := true) T.ki_BadCase_BadNumber (fun z => (kitAny_cons (r := true) T.ki_BadCase_BadCase (fun z => (nomatch z)) fun z => rfl)) fun z => (nomatch z))⟩
theorem Txt.ism_BadRow_BadCase_BadLook (T : Txt P w K mg base a fd b fI fe) (tab : List (Str × Bool)) (h : tab = ([("BadNumber", false), ("BadLook", true), ("BadRow", true), ("BadCase", true)] : List (Str × Bool)) := by rfl) {X : Cx} (hK : X.K = K := by rfl) (hm : X.mg = mg := by rfl) : IsTabM X tab [b 3, b 4, b 2] := by
  subst h hK hm; intro cn v hc C e
  have hc := mem_of_lookup hc
  simp only [List.mem_cons, List.not_mem_nil, or_false, Prod.mk.injEq] at hc
  rcases hc with ⟨rfl, rfl⟩ | ⟨rfl, rfl⟩ | ⟨rfl, rfl⟩ | ⟨rfl, rfl⟩
  · rw [T.g_BadNumber] at e; cases e; exact ⟨T.ic_BadNumber, (kitAny_cons (r := false) T.ki_BadNumber_BadRow (fun z => (kitAny_cons (r := false) T.ki_BadNumber_BadCase (fun z => (kitAny_cons (r := false) T.ki_BadNumber_BadLook (fun z => rfl) fun z => (nomatch z))) fun z => (nomatch z))) fun z => (nomatch z))⟩
  · rw [T.g_BadLook] at e; cases e; exact ⟨T.ic_BadLook, (kitAny_cons (r := true) T.ki_BadLook_BadRow (fun z => (kitAny_cons (r := true) T.ki_BadLook_BadCase (fun z => (kitAny_cons (r := true) T.ki_BadLook_BadLook (fun z => (nomatch z)) fun z => rfl)) fun z => (nomatch z))) fun z => (nomatch z))⟩
  · rw [T.g_BadRow] at e; cases e; exact ⟨T.ic_BadRow, (kitAny_cons (r := true) T.ki_BadRow_BadRow (fun z => (nomatch z)) fun z => rfl)⟩
  · rw [T.g_BadCase] at e; cases e; exact ⟨T.ic_BadCase, (kitAny_cons (r := true) T.ki_BadCase_BadRow (fun z => (kitAny_cons (r := true) T.ki_BadCase_BadCase (fun z => (nomatch z)) fun z => rfl)) fun z => (nomatch z))⟩
end
end K74
namespace K74
open PySem PySem.Spec PyProof.Rows L2 Den
section
variable {P : Program} {w : World} {K : PySem.W.Frag} {mg : Str → Option Value} {base : Heap} {a : Nat → Addr} {fd : Nat → FuncData} {b : Nat → Addr} {fI : Nat → Addr} {fe : Nat → FuncData}
abbrev N_is_int : List Str := ["x"]
theorem S_is_int : FnScope N_is_int ["x"] (defScope (top 8)) := ⟨rfl, rfl, rfl, by decide +kernel, rfl, by decide +kernel, by decide +kernel⟩
theorem ok_is_int (T : Txt P w K mg base a fd b fI fe) : FnOkG P w K mg base (L2.CX P w) 1 (a 0) (fd 0) ["x"] (spOf K mg 1 den_is_int) := by
  refine ok_defG (k := 0) (N := N_is_int) T.d_is_int.F S_is_int fun cdv A outer s H E hr gd => ?_
  have tk := takes_of (X := cxOf (L2.CX P w) P w K mg base N_is_int "is_int" (defScope (top 8)) (a 0) cdv A outer s H E) rfl rfl rfl rfl
  have pas := passes_of (X := cxOf (L2.CX P w) P w K mg base N_is_int "is_int" (defScope (top 8)) (a 0) cdv A outer s H E) rfl
  have hr : Room 0 (cxOf (L2.CX P w) P w K mg base N_is_int "is_int" (defScope (top 8)) (a 0) cdv A outer s H E).A := hr
  have gd : (cxOf (L2.CX P w) P w K mg base N_is_int "is_int" (defScope (top 8)) (a 0) cdv A outer s H E).A.guards = some [] := gd
  unfold c_is_int
  exact (sS_one (sS_ret (sE_and (qIs T.n_isinstance T.n_int bb_int qV) (sE_one (sE_not (qIs T.n_isinstance T.n_bool bb_bool qV))))))
abbrev N_plain_form : List Str := ["x", "held", "done", "source", "at", "built", "above", "place", "told"]
theorem S_plain_form : FnScope N_plain_form ["x"] (defScope (top 9)) := ⟨rfl, rfl, rfl, by decide +kernel, rfl, by decide +kernel, by decide +kernel⟩
theorem ok_plain_form (T : Txt P w K mg base a fd b fI fe) : FnOkG P w K mg base (L2.CX P w) 1 (a 1) (fd 1) ["x"] (spOf K mg 1 den_plain_form) := by
  refine ok_defG (k := 0) (N := N_plain_form) T.d_plain_form.F S_plain_form fun cdv A outer s H E hr gd => ?_
  have tk := takes_of (X := cxOf (L2.CX P w) P w K mg base N_plain_form "plain_form" (defScope (top 9)) (a 1) cdv A outer s H E) rfl rfl rfl rfl
  have pas := passes_of (X := cxOf (L2.CX P w) P w K mg base N_plain_form "plain_form" (defScope (top 9)) (a 1) cdv A outer s H E) rfl
  have hr : Room 0 (cxOf (L2.CX P w) P w K mg base N_plain_form "plain_form" (defScope (top 9)) (a 1) cdv A outer s H E).A := hr
  have gd : (cxOf (L2.CX P w) P w K mg base N_plain_form "plain_form" (defScope (top 9)) (a 1) cdv A outer s H E).A.guards = some [] := gd
  unfold c_plain_form
  exact (sS_cons (sS_if (sT_not (tTru (qIsM T.n_isinstance (yC T.n_list bb_list (yC T.n_tuple bb_tuple .nil)) qV)))
    (sS_one (sS_ret qV))
    sS_nil)
    (sS_cons (sSet S_plain_form.nd (sE_lst (qL (sE_tup (qL qV (qL sE_int (qL (sE_tup sL_nil) sL_nil)))) sL_nil)))
    (sS_cons (sSet S_plain_form.nd (sE_tup sL_nil))
    (sS_cons (sS_while pas (tTru qV)
    (sS_cons (sUnpk (gT (gC (gN S_plain_form.nd) (gC (gN S_plain_form.nd) (gC (gN S_plain_form.nd) sGs_nil)))) (qPop qV))
    (sS_one (sS_if (PW.pt (sW_and (tCmp hr qV (qB vLen_ok T.n_len bb_len (qL qV sL_nil))) (sW_and1 (tTru (qIsM T.n_isinstance (yC T.n_list bb_list (yC T.n_tuple bb_tuple .nil)) (qIx qV qV))))))
    (sS_cons (sExp (qApp qV (qL (sE_tup (qL qV (qL qV (qL qV sL_nil)))) sL_nil)))
    (sS_one (sExp (qApp qV (qL (sE_tup (qL (qIx qV qV) (qL sE_int (qL (sE_tup sL_nil) sL_nil)))) sL_nil)))))
    (sS_one (sS_if (tCmp hr qV (qB vLen_ok T.n_len bb_len (qL qV sL_nil)))
    (sS_one (sExp (qApp qV (qL (sE_tup (qL qV (qL (qBin qV sE_int) (qL (qBin qV (sE_tup (qL (qIx qV qV) sL_nil))) sL_nil)))) sL_nil))))
    (sS_one (sS_if (tTru qV)
    (sS_cons (sUnpk (gT (gC (gN S_plain_form.nd) (gC (gN S_plain_form.nd) (gC (gN S_plain_form.nd) sGs_nil)))) (qPop qV))
    (sS_one (sExp (qApp qV (qL (sE_tup (qL qV (qL (qBin qV sE_int) (qL (qBin qV (sE_tup (qL qV sL_nil))) sL_nil)))) sL_nil)))))
    (sS_one (sSet S_plain_form.nd qV))))))))))
    (sS_one (sS_ret qV))))))
abbrev N_check_number : List Str := ["x", "least"]
theorem S_check_number : FnScope N_check_number ["x", "least"] (defScope (top 10)) := ⟨rfl, rfl, rfl, by decide +kernel, rfl, by decide +kernel, by decide +kernel⟩
theorem ok_check_number (T : Txt P w K mg base a fd b fI fe) : FnOkG P w K mg base (L2.CX P w) 3 (a 2) (fd 2) ["x", "least"] (spOf K mg 2 den_check_number) := by
  refine ok_defG (k := 2) (N := N_check_number) T.d_check_number.F S_check_number fun cdv A outer s H E hr gd => ?_
  have tk := takes_of (X := cxOf (L2.CX P w) P w K mg base N_check_number "check_number" (defScope (top 10)) (a 2) cdv A outer s H E) rfl rfl rfl rfl
  have pas := passes_of (X := cxOf (L2.CX P w) P w K mg base N_check_number "check_number" (defScope (top 10)) (a 2) cdv A outer s H E) rfl
  have hr : Room 2 (cxOf (L2.CX P w) P w K mg base N_check_number "check_number" (defScope (top 10)) (a 2) cdv A outer s H E).A := hr
  have gd : (cxOf (L2.CX P w) P w K mg base N_check_number "check_number" (defScope (top 10)) (a 2) cdv A outer s H E).A.guards = some [] := gd
  unfold c_check_number
  exact (sS_cons (sS_if (PW.pt (sW_or (sT_not (tTru (qDG T.d_is_int (ok_is_int T) hr gd tk (qL qV sL_nil)))) (sW_or1 (tCmp hr qV qV))))
    (sS_one (sRse (own_BadNumber T) tk hr (qL (qDG T.d_plain_form (ok_plain_form T) hr gd tk (qL qV sL_nil)) sL_nil)))
    sS_nil)
    (sS_one (sS_ret qV)))
abbrev N_check_integers : List Str := ["numbers", "j", "number"]
theorem S_check_integers : FnScope N_check_integers ["numbers"] (defScope (top 12)) := ⟨rfl, rfl, rfl, by decide +kernel, rfl, by decide +kernel, by decide +kernel⟩
theorem ok_check_integers (T : Txt P w K mg base a fd b fI fe) : FnOkG P w K mg base (L2.CX P w) 3 (a 3) (fd 3) ["numbers"] (spOf K mg 1 den_check_integers) := by
  refine ok_defG (k := 2) (N := N_check_integers) T.d_check_integers.F S_check_integers fun cdv A outer s H E hr gd => ?_
  have tk := takes_of (X := cxOf (L2.CX P w) P w K mg base N_check_integers "check_integers" (defScope (top 12)) (a 3) cdv A outer s H E) rfl rfl rfl rfl
  have pas := passes_of (X := cxOf (L2.CX P w) P w K mg base N_check_integers "check_integers" (defScope (top 12)) (a 3) cdv A outer s H E) rfl
  have hr : Room 2 (cxOf (L2.CX P w) P w K mg base N_check_integers "check_integers" (defScope (top 12)) (a 3) cdv A outer s H E).A := hr
  have gd : (cxOf (L2.CX P w) P w K mg base N_check_integers "check_integers" (defScope (top 12)) (a 3) cdv A outer s H E).A.guards = some [] := gd
  unfold c_check_integers
  exact (sS_cons (sS_if (PW.pt (sW_or (sT_not (tTru (qIsM T.n_isinstance (yC T.n_tuple bb_tuple (yC T.n_list bb_list .nil)) qV))) (sW_or1 (tCmp hr (qB vLen_ok T.n_len bb_len (qL qV sL_nil)) sE_int))))
    (sS_one (sRse (own_BadRow T) tk hr (qL (sE_neg sE_int) sL_nil)))
    sS_nil)
    (sS_cons (sForL pas (iEnS T.n_enumerate (qL qV sL_nil)) (gT (gC (gN S_check_integers.nd) (gC (gN S_check_integers.nd) sGs_nil)))
    (sS_one (sS_if (sT_not (tTru (qDG T.d_is_int (ok_is_int T) hr gd tk (qL qV sL_nil))))
    (sS_one (sRse (own_BadRow T) tk hr (qL qV sL_nil)))
    sS_nil)))
    (sS_one (sS_ret (qTy vTuple_ok T.n_tuple bb_tuple (qL qV sL_nil))))))
abbrev N_fence_of_plain : List Str := ["numbers", "lo", "step", "number"]
theorem S_fence_of_plain : FnScope N_fence_of_plain ["numbers"] (defScope (top 13)) := ⟨rfl, rfl, rfl, by decide +kernel, rfl, by decide +kernel, by decide +kernel⟩
theorem ok_fence_of_plain (T : Txt P w K mg base a fd b fI fe) : FnOkG P w K mg base (L2.CX P w) 1 (a 4) (fd 4) ["numbers"] (spOf K mg 1 den_fence_of_plain) := by
  refine ok_defG (k := 0) (N := N_fence_of_plain) T.d_fence_of_plain.F S_fence_of_plain fun cdv A outer s H E hr gd => ?_
  have tk := takes_of (X := cxOf (L2.CX P w) P w K mg base N_fence_of_plain "fence_of_plain" (defScope (top 13)) (a 4) cdv A outer s H E) rfl rfl rfl rfl
  have pas := passes_of (X := cxOf (L2.CX P w) P w K mg base N_fence_of_plain "fence_of_plain" (defScope (top 13)) (a 4) cdv A outer s H E) rfl
  have hr : Room 0 (cxOf (L2.CX P w) P w K mg base N_fence_of_plain "fence_of_plain" (defScope (top 13)) (a 4) cdv A outer s H E).A := hr
  have gd : (cxOf (L2.CX P w) P w K mg base N_fence_of_plain "fence_of_plain" (defScope (top 13)) (a 4) cdv A outer s H E).A.guards = some [] := gd
  unfold c_fence_of_plain
  exact (sS_cons (sSet S_fence_of_plain.nd (qB (vMin_ok rfl (units64 hr)) T.n_min bb_min (qL qV sL_nil)))
    (sS_cons (sSet S_fence_of_plain.nd sE_int)
    (sS_cons (sForL pas (sI_seq qV) (gN S_fence_of_plain.nd)
    (sS_one (sSet S_fence_of_plain.nd (qF vGcd_ok T.m_gcd (qL qV (qL (qBin qV qV) sL_nil))))))
    (sS_one (sS_ret (sE_tup (qL qV (qL (qB (vMax_ok rfl (units64 hr)) T.n_max bb_max (qL qV sL_nil)) (qL qV sL_nil)))))))))
abbrev N_primes_of : List Str := ["n", "found", "left", "p"]
theorem S_primes_of : FnScope N_primes_of ["n"] (defScope (top 15)) := ⟨rfl, rfl, rfl, by decide +kernel, rfl, by decide +kernel, by decide +kernel⟩
theorem ok_primes_of (T : Txt P w K mg base a fd b fI fe) : FnOkG P w K mg base (L2.CX P w) 1 (a 5) (fd 5) ["n"] (spOf K mg 1 den_primes_of) := by
  refine ok_defG (k := 0) (N := N_primes_of) T.d_primes_of.F S_primes_of fun cdv A outer s H E hr gd => ?_
  have tk := takes_of (X := cxOf (L2.CX P w) P w K mg base N_primes_of "primes_of" (defScope (top 15)) (a 5) cdv A outer s H E) rfl rfl rfl rfl
  have pas := passes_of (X := cxOf (L2.CX P w) P w K mg base N_primes_of "primes_of" (defScope (top 15)) (a 5) cdv A outer s H E) rfl
  have hr : Room 0 (cxOf (L2.CX P w) P w K mg base N_primes_of "primes_of" (defScope (top 15)) (a 5) cdv A outer s H E).A := hr
  have gd : (cxOf (L2.CX P w) P w K mg base N_primes_of "primes_of" (defScope (top 15)) (a 5) cdv A outer s H E).A.guards = some [] := gd
  unfold c_primes_of
  exact (sS_cons (sSet S_primes_of.nd (sE_lst sL_nil))
    (sS_cons (sSet S_primes_of.nd qV)
    (sS_cons (sSet S_primes_of.nd sE_int)
    (sS_cons (sS_while pas (tCmp hr (qBin qV qV) qV)
    (sS_cons (sS_if (tCmp hr (qBin qV qV) sE_int)
    (sS_cons (sExp (qApp qV (qL qV sL_nil)))
    (sS_one (sS_while pas (tCmp hr (qBin qV qV) sE_int)
    (sS_one (sSet S_primes_of.nd (qBin qV qV))))))
    sS_nil)
    (sS_one (sSet S_primes_of.nd (qBin qV sE_int)))))
    (sS_cons (sS_if (tCmp hr qV sE_int)
    (sS_one (sExp (qApp qV (qL qV sL_nil))))
    sS_nil)
    (sS_one (sS_ret qV)))))))
abbrev N_prime_factors : List Str := ["n"]
theorem S_prime_factors : FnScope N_prime_factors ["n"] (defScope (top 16)) := ⟨rfl, rfl, rfl, by decide +kernel, rfl, by decide +kernel, by decide +kernel⟩
theorem ok_prime_factors (T : Txt P w K mg base a fd b fI fe) : FnOkG P w K mg base (L2.CX P w) 4 (a 6) (fd 6) ["n"] (spOf K mg 1 den_prime_factors) := by
  refine ok_defG (k := 3) (N := N_prime_factors) T.d_prime_factors.F S_prime_factors fun cdv A outer s H E hr gd => ?_
  have tk := takes_of (X := cxOf (L2.CX P w) P w K mg base N_prime_factors "prime_factors" (defScope (top 16)) (a 6) cdv A outer s H E) rfl rfl rfl rfl
  have pas := passes_of (X := cxOf (L2.CX P w) P w K mg base N_prime_factors "prime_factors" (defScope (top 16)) (a 6) cdv A outer s H E) rfl
  have hr : Room 3 (cxOf (L2.CX P w) P w K mg base N_prime_factors "prime_factors" (defScope (top 16)) (a 6) cdv A outer s H E).A := hr
  have gd : (cxOf (L2.CX P w) P w K mg base N_prime_factors "prime_factors" (defScope (top 16)) (a 6) cdv A outer s H E).A.guards = some [] := gd
  unfold c_prime_factors
  exact (sS_one (sS_ret (qTy vTuple_ok T.n_tuple bb_tuple (qL (qDG T.d_primes_of (ok_primes_of T) hr gd tk (qL (qDG T.d_check_number (ok_check_number T) hr gd tk (qL qV (qL sE_int sL_nil))) sL_nil)) sL_nil))))
end
end K74
namespace K74
open PySem PySem.Spec PyProof.Rows L2 Den
def spFm (K : PySem.W.Frag) (mg : Str → Option Value) : Sp := fun vs H Q E => vs.length = 1 ∧ ∃ F ρ S x v, RS K F ρ S H ∧ vs = [v] ∧ Dp K F v x ∧ PrN K F v (.d x) ∧ EPost ⟨K, mg, none⟩ (fun cls d _ H => E cls d H) [] F ρ Q (den_fewest_meeting_numbers [.d x] S)
theorem RS.up {K : PySem.W.Frag} {F H H' : Hp} {ρ : Rh} {S : AS} (r : RS K F ρ S H) (e : Same H H') : RS K F ρ S H' :=
  ⟨r.sub.trans e, r.len, r.nd, fun n p o h1 h2 => (r.ob n p o h1 h2).monoF (Z := ⟨K, fun _ => none, none⟩) (Same.refl F) (fun l z => by
    subst z
    exact (r.ob n p _ h1 h2).1) fun u z => e _ _ z, fun p o z => ⟨e _ _ (r.pin p o z).1, (r.pin p o z).2⟩⟩
section
variable {P : Program} {w : World} {K : PySem.W.Frag} {mg : Str → Option Value} {base : Heap} {a : Nat → Addr} {fd : Nat → FuncData} {b : Nat → Addr} {fI : Nat → Addr} {fe : Nat → FuncData}
abbrev N_fm : List Str := ["lots", "start", "chosen", "layer", "following", "left", "number", "rest", "p", "lot"]
theorem S_fm : FnScope N_fm ["lots"] (defScope (top 19)) := ⟨rfl, rfl, rfl, by decide +kernel, rfl, by decide +kernel, by decide +kernel⟩
theorem fm_reading {v : V} {x : D} {F H : Hp} {ρ : Rh} {S : AS} {Q : VK} {E : XK} (rs : RS K F ρ S H) (dv : Dp K F v x) (pn : PrN K F v (.d x)) (q : EPost ⟨K, mg, none⟩ (fun cls d _ H => E cls d H) [] F ρ Q (den_fewest_meeting_numbers [.d x] S)) :
    tWhole K mg (fun cls d _ H => E cls d H) { nx := fun _ H' => Q .non H', rt := Q } (start N_fm [v]) H := by
  cases x with
  | tuple l =>
    replace q : EPost ⟨K, mg, none⟩ (fun cls d _ H => E cls d H) [] F ρ Q (match lotsD? l with | some L => if goodB L = true then match meet L with | some ch => .ok (.d (.tuple (ch.map PyData.int))) S | none => .stuck else .stuck | none => .stuck) := q
    cases e1 : lotsD? l with
    | none => rw [e1] at q; exact q.elim
    | some L =>
      rw [e1] at q
      dsimp only at q
      by_cases g : goodB L = true
      · rw [if_pos g] at q
        obtain ⟨⟨gn, gl⟩, lL⟩ := goodB_ok g
        have el := lotsD?_ok e1
        subst el
        cases e2 : meet L with
        | none => rw [e2] at q; exact q.elim
        | some ch =>
          rw [e2] at q
          refine whole_ok (dp_mono rs.sub _ _ dv) ?_ lL gn e2 fun H' b s0 nb hb => ?_
          · rcases pn with pn | ⟨a, vs, l, rfl, e3, tn, da⟩
            · left
              have pn : PyData.tuple (dLots L) = .tuple [] := pn
              cases L with
              | nil => rfl
              | cons q L => cases pn
            · right
              cases e3
              exact ⟨a, vs, rfl, tn.mono rs.sub, dpA_mono rs.sub _ _ da⟩
          · have nF := RS.fresh (Z := ⟨K, mg, none⟩) rs nb
            refine q (upd F b (.tup (ch.map V.int))) ρ H' _ (Tr.sam (same_upd nF)) (RS.know (Z := ⟨K, mg, none⟩) (RS.up rs s0) hb nF (RS.notin (Z := ⟨K, mg, none⟩) rs nb) (RS.gfree (Z := ⟨K, mg, none⟩) rs nb)) ?_
            exact show Dp K _ _ _ from .tup (SqT.of upd_same) (dpA_of_ints ch)
      · rw [if_neg g] at q
        exact q.elim
  | _ => exact q.elim
theorem okF_fm (T : Txt P w K mg base a fd b fI fe) : FnOkG P w K mg base (L2.CX P w) 1 (a 9) (fd 9) ["lots"] (spFm K mg) := by
  refine fnG_of (k := 0) (N := N_fm) T.d_fewest_meeting_numbers.F S_fm (fun vs H Q E h => h.1) fun cdv A outer s H vs Q E hr gd h => ?_
  obtain ⟨_, F, ρ, S, x, v, rs, rfl, dv, pn, q⟩ := h
  have pas := passes_of (X := cxOf (L2.CX P w) P w K mg base N_fm "fewest_meeting_numbers" (defScope (top 19)) (a 9) cdv A outer s H E) rfl
  have hr : Room 0 (cxOf (L2.CX P w) P w K mg base N_fm "fewest_meeting_numbers" (defScope (top 19)) (a 9) cdv A outer s H E).A := hr
  have hu : (cxOf (L2.CX P w) P w K mg base N_fm "fewest_meeting_numbers" (defScope (top 19)) (a 9) cdv A outer s H E).A.units + 1 < cLine := by have := units64 hr; omega
  have nd := S_fm.nd
  refine ⟨_, pss_cons (ps_set (i := 1) nd rfl (.inl rfl) (pe_callTy call_tuple_of rfl T.n_tuple bb_tuple (pa_cons (qLc (ex := none) (W := fun cls d _ H => E cls d H) (it := iSeq (dVar 0)) (p := fmP) (ct := dC (.bool true)) (ce := dVar 8) (own := [("p", 8), ("lot", 9)]) nd (sI_seq qV) (by show BlkOk N_fm (defScope (top 19)) _ [("p", 8), ("lot", 9)]; exact blkOk_by (by decide +kernel)) (fun s H C cl fp => (gT (gC (gN nd) (gC (gN nd) sGs_nil)))) (fun s H C cl fp => ts_true) (fun s H C cl fp => qV)) pa_nil rfl)))
    (pss_cons (ps_set (i := 2) nd rfl (.inl rfl) (pe_dispT1 hu (pv 1) (pe_tup pa_nil)))
    (pss_cons (ps_set (i := 3) nd rfl (.inl rfl) (pe_lst (pa_cons (pv 1) pa_nil rfl)))
    (pss_cons (ps_while pas (pt_cmp (pc_dnotin hu (pe_tup pa_nil) (pv 2)))
      (pss_cons (ps_set (i := 4) nd rfl (.inl rfl) (pe_lst pa_nil))
      (pss_cons (ps_for pas rfl (pi_sqD (pv 3)) (pg_name (i := 5) nd rfl (.inr rfl))
        (pss_one (ps_for pas rfl (pi_sqD (pe_dget hu (pe_callTy (call_dictPT rfl) rfl T.n_dict bb_dict (pa_cons (pv 0) pa_nil rfl)) (pe_ix ix_tup (pv 5) pe_int (fun _ _ => rfl)) (fun _ _ => rfl))) (pg_name (i := 6) nd rfl (.inr rfl))
          (pss_cons (ps_set (i := 7) nd rfl (.inl rfl) (pe_callTy call_tuple_of rfl T.n_tuple bb_tuple (pa_cons (qLc (ex := none) (W := fun cls d _ H => E cls d H) (it := iSeq (dVar 0)) (p := fmP) (ct := fmT) (ce := dVar 8) (own := [("p", 8), ("lot", 9)]) nd (sI_seq qV) (by show BlkOk N_fm (defScope (top 19)) _ [("p", 8), ("lot", 9)]; exact blkOk_by (by decide +kernel)) (fun s H C cl fp => (gT (gC (gN nd) (gC (gN nd) sGs_nil)))) (fun s H C cl fp => (ts_one (PW.pt (sW_and (tCmp hr qV qV) (sW_and1 (tCmp hr qV qV)))))) (fun s H C cl fp => qV)) pa_nil rfl)))
          (pss_one (ps_if (pt_cmp (pc_dnotin hu (pv 7) (pv 2)))
            (pss_cons (ps_dput hu (pv 2) (pv 7) (pe_op op_catA (pe_dget hu (pv 2) (pv 5) (fun _ _ => rfl)) (pe_tup (pa_cons (pv 6) pa_nil rfl))) rfl)
            (pss_one (ps_expr (pe_bm PySem.F.plainAttrs_list PySem.F.slot_list_append PySem.F.type_list_append mt_append (pv 4) (pa_cons (pv 7) pa_nil rfl)))))
            pss_nil))))))
      (pss_one (ps_set (i := 3) nd rfl (.inl rfl) (pe_callTy call_list_of rfl T.n_list bb_list (pa_cons (pv 4) pa_nil rfl)))))))
    (pss_one (ps_ret (pe_dget hu (pv 2) (pe_tup pa_nil) (fun _ _ => rfl))))))), ?_⟩
  exact fm_reading rs dv pn q
abbrev N_lots_by_prime : List Str := ["numbers", "lo", "hi", "step", "unlike", "lots", "p", "number"]
theorem S_lots_by_prime : FnScope N_lots_by_prime ["numbers"] (defScope (top 17)) := ⟨rfl, rfl, rfl, by decide +kernel, rfl, by decide +kernel, by decide +kernel⟩
theorem okP_lots (T : Txt P w K mg base a fd b fI fe) : FnOkG P w K mg base (L2.CX P w) 2 (a 7) (fd 7) ["numbers"] (spOfP (PrN K) K mg 1 den_lots_by_prime) := by
  refine ok_defP (k := 1) (N := N_lots_by_prime) T.d_lots_by_prime.F S_lots_by_prime (onlyD_seq noRt_unp.d (onlyD_seq (rtD_if rtD_empty noRt_skip.d) (onlyD_seq noRt_asg.d (onlyD_seq noRt_asg.d (onlyD_seq (noRt_for noRt_expr).d onlyD_tupF))))) fun cdv A outer s H E hr gd => ?_
  have tk := takes_of (X := cxOf (L2.CX P w) P w K mg base N_lots_by_prime "lots_by_prime" (defScope (top 17)) (a 7) cdv A outer s H E) rfl rfl rfl rfl
  have pas := passes_of (X := cxOf (L2.CX P w) P w K mg base N_lots_by_prime "lots_by_prime" (defScope (top 17)) (a 7) cdv A outer s H E) rfl
  have hr : Room 1 (cxOf (L2.CX P w) P w K mg base N_lots_by_prime "lots_by_prime" (defScope (top 17)) (a 7) cdv A outer s H E).A := hr
  have gd : (cxOf (L2.CX P w) P w K mg base N_lots_by_prime "lots_by_prime" (defScope (top 17)) (a 7) cdv A outer s H E).A.guards = some [] := gd
  unfold c_lots_by_prime
  exact (sSP_cons noRt_unp.ok (sUnpk (gT (gC (gN S_lots_by_prime.nd) (gC (gN S_lots_by_prime.nd) (gC (gN S_lots_by_prime.nd) sGs_nil)))) (qDG T.d_fence_of_plain (ok_fence_of_plain T) hr gd tk (qL qV sL_nil)))
    (sSP_cons (rtOk_if rtOk_empty noRt_skip.ok) (sS_if (tCmp hr qV sE_int)
    (sS_one (sS_ret (sE_tup sL_nil)))
    sS_nil)
    (sSP_cons noRt_asg.ok (sSet S_lots_by_prime.nd (qSortSet T.n_sorted (ow := [("number", 7)]) S_lots_by_prime.nd (sI_seq qV) (by show BlkOk N_lots_by_prime (defScope (top 17)) _ [("number", 7)]; exact blkOk_by (by decide +kernel)) (fun s H C cl fp => (gN S_lots_by_prime.nd)) (fun s H C cl fp => ts_true) (fun s H C cl fp => qV)))
    (sSP_cons noRt_asg.ok (sSet S_lots_by_prime.nd (sE_lst sL_nil))
    (sSP_cons (noRt_for noRt_expr).ok (sForL pas (sI_seq (qDG T.d_primes_of (ok_primes_of T) hr gd tk (qL (qBin (qBin qV qV) qV) sL_nil))) (gN S_lots_by_prime.nd)
    (sS_one (sExp (qApp qV (qL (sE_tup (qL qV (qL (qTy vTuple_ok T.n_tuple bb_tuple (qL (qLc (own := [("number", 7)]) S_lots_by_prime.nd (sI_seq qV) (by show BlkOk N_lots_by_prime (defScope (top 17)) _ [("number", 7)]; exact blkOk_by (by decide +kernel)) (fun s H C cl fp => (gN S_lots_by_prime.nd)) (fun s H C cl fp => (ts_one (tCmp hr (qBin (qBin (qBin qV qV) qV) qV) sE_int))) (fun s H C cl fp => qV)) sL_nil)) sL_nil))) sL_nil)))))
    (sRetTup T.n_tuple qV))))))
theorem ok_lots_by_prime (T : Txt P w K mg base a fd b fI fe) : FnOkG P w K mg base (L2.CX P w) 2 (a 7) (fd 7) ["numbers"] (spOf K mg 1 den_lots_by_prime) := (okP_lots T).imp fun vs H Q E h => spOf_P h
/-- fm(lots(e)) -/
theorem qFmL {X : Cx} {W : WX} {k : Nat} {x y : Str} {p p2 p3 pos : Pos} {e : Expr} {ce : Dn} {af al : Addr} {fdf fdl : FuncData} {sf sl : Stmt} {lb : List AV → AS → ER} (Tf : DefT X.K X.mg x sf af fdf ["lots"]) (Tl : DefT X.K X.mg y sl al fdl ["numbers"])
    (Ff : FnOkG X.prog X.w X.K X.mg X.base (L2.CX X.prog X.w) 1 af fdf ["lots"] (spFm X.K X.mg)) (Fl : FnOkG X.prog X.w X.K X.mg X.base (L2.CX X.prog X.w) 2 al fdl ["numbers"] (spOfP (PrN X.K) X.K X.mg 1 lb)) (hr : Room k X.A) (gd : X.A.guards = some []) (tk : Takes X W)
    (he : PE X e (tE (zp X none) W ce)) (hk : 2 ≤ k := by decide) (hg : Gl X x := by rfl) (hg2 : Gl X y := by rfl) (hdb : (x == ("__debug__" : Str)) = false := by decide) (hdb2 : (y == ("__debug__" : Str)) = false := by decide)
    (h1 : starEach [e] X.env = (false, eval e X.env) :: starEach [] X.env := by rfl) (h2 : starEach [.Call (.Name y p2) [e] [] p3] X.env = (false, eval (.Call (.Name y p2) [e] [] p3) X.env) :: starEach [] X.env := by rfl) :
    PE X (.Call (.Name x p) [.Call (.Name y p2) [e] [] p3] [] pos) (tE (zp X none) W (dCall (arity 1 den_fewest_meeting_numbers) (lCons (dCall (arity 1 lb) (lCons ce lNil)) lNil))) :=
  (pe_callGs Ff (hr.mono (by omega)) gd hg Tf.g Tf.F.kp Tf.b tk (pa_cons (pe_callGs Fl (hr.mono hk) gd hg2 Tl.g Tl.F.kp Tl.b tk (pa_cons he pa_nil h1) hdb2 h1 rfl) pa_nil h2) hdb h2 rfl).impD fun σ H Q h => by
    have e1 : tE (zp X none) W (fun σ S => (ce σ S).bind fun a S1 => (lb [a] S1).bind fun b S2 => den_fewest_meeting_numbers [b] S2) σ H Q := by
      obtain ⟨F, ρ, S, aσ, rs, st, q⟩ := h
      refine ⟨F, ρ, S, aσ, rs, st, ?_⟩
      replace q : EPost (zp X none) W σ F ρ Q (((((ce aσ S).bindL fun a S1 => LR.cons a (LR.ok [] S1)).bind (arity 1 lb)).bindL fun a S1 => LR.cons a (LR.ok [] S1)).bind (arity 1 den_fewest_meeting_numbers)) := q
      show EPost (zp X none) W σ F ρ Q ((ce aσ S).bind fun a S1 => (lb [a] S1).bind fun b S2 => den_fewest_meeting_numbers [b] S2)
      cases e : ce aσ S with
      | err x S1 => rw [e] at q; exact q
      | stuck => rw [e] at q; exact q
      | ok a S1 =>
        rw [e] at q
        have q : EPost (zp X none) W σ F ρ Q (((lb [a.fz] S1).bindL fun b S2 => LR.ok [b] S2).bind (arity 1 den_fewest_meeting_numbers)) := q
        show EPost (zp X none) W σ F ρ Q ((lb [a.fz] S1).bind fun b S2 => den_fewest_meeting_numbers [b] S2)
        cases e2 : lb [a.fz] S1 with
        | err x S2 => rw [e2] at q; exact q
        | stuck => rw [e2] at q; exact q
        | ok b S2 => rw [e2] at q; exact q
    refine (tE.bind (f := fun _ a S1 => (lb [a] S1).bind fun b S2 => den_fewest_meeting_numbers [b] S2) e1).imp fun v H1 hb => ?_
    obtain ⟨F, ρ, S, a, aσ, rs, rv, st, q⟩ := hb
    refine ⟨rfl, F, ρ, S, [a], rs, .cons rv .nil, ?_⟩
    cases e2 : lb [a] S with
    | err x S2 => rw [e2] at q; exact q
    | stuck => rw [e2] at q; exact q.elim
    | ok b S2 =>
      rw [e2] at q
      have q : EPost (zp X none) W σ F ρ Q (den_fewest_meeting_numbers [b.fz] S2) := q
      intro F' ρ' H' y t rs' rw' pr
      cases b with
      | d x => exact ⟨rfl, F', ρ', S2, x, y, rs', rfl, rw', pr, (EPost.tr t q).wish⟩
      | ref n => exact q.elim
      | own l => exact q.elim
      | exc x => exact q.elim
abbrev N_fewest_values : List Str := ["values", "numbers", "lo", "hi", "step"]
theorem S_fewest_values : FnScope N_fewest_values ["values"] (defScope (top 20)) := ⟨rfl, rfl, rfl, by decide +kernel, rfl, by decide +kernel, by decide +kernel⟩
theorem ok_fewest_values (T : Txt P w K mg base a fd b fI fe) : FnOkG P w K mg base (L2.CX P w) 4 (a 10) (fd 10) ["values"] (spOf K mg 1 den_fewest_values) := by
  refine ok_defG (k := 3) (N := N_fewest_values) T.d_fewest_values.F S_fewest_values fun cdv A outer s H E hr gd => ?_
  have tk := takes_of (X := cxOf (L2.CX P w) P w K mg base N_fewest_values "fewest_values" (defScope (top 20)) (a 10) cdv A outer s H E) rfl rfl rfl rfl
  have pas := passes_of (X := cxOf (L2.CX P w) P w K mg base N_fewest_values "fewest_values" (defScope (top 20)) (a 10) cdv A outer s H E) rfl
  have hr : Room 3 (cxOf (L2.CX P w) P w K mg base N_fewest_values "fewest_values" (defScope (top 20)) (a 10) cdv A outer s H E).A := hr
  have gd : (cxOf (L2.CX P w) P w K mg base N_fewest_values "fewest_values" (defScope (top 20)) (a 10) cdv A outer s H E).A.guards = some [] := gd
  unfold c_fewest_values
  exact (sS_cons (sSet S_fewest_values.nd (qDG T.d_check_integers (ok_check_integers T) hr gd tk (qL qV sL_nil)))
    (sS_cons (sUnpk (gT (gC (gN S_fewest_values.nd) (gC (gN S_fewest_values.nd) (gC (gN S_fewest_values.nd) sGs_nil)))) (qDG T.d_fence_of_plain (ok_fence_of_plain T) hr gd tk (qL qV sL_nil)))
    (sS_cons (sS_if (tCmp hr qV sE_int)
    (sS_one (sS_ret (sE_tup (qL qV sL_nil))))
    sS_nil)
    (sS_one (sS_ret (qTy vTuple_ok T.n_tuple bb_tuple (qL (qB vSortT_ok T.n_sorted bb_sorted (qL (qBin (sE_tup (qL qV (qL qV sL_nil))) (qFmL T.d_fewest_meeting_numbers T.d_lots_by_prime (okF_fm T) (okP_lots T) hr gd tk qV)) sL_nil)) sL_nil)))))))
end
end K74
namespace K74
open PySem PySem.Spec PyProof.Rows L2 Den
section
variable {P : Program} {w : World} {K : PySem.W.Frag} {mg : Str → Option Value} {base : Heap} {a : Nat → Addr} {fd : Nat → FuncData} {b : Nat → Addr} {fI : Nat → Addr} {fe : Nat → FuncData}
abbrev N_prime_lots : List Str := ["values"]
theorem S_prime_lots : FnScope N_prime_lots ["values"] (defScope (top 18)) := ⟨rfl, rfl, rfl, by decide +kernel, rfl, by decide +kernel, by decide +kernel⟩
theorem ok_prime_lots (T : Txt P w K mg base a fd b fI fe) : FnOkG P w K mg base (L2.CX P w) 4 (a 8) (fd 8) ["values"] (spOf K mg 1 den_prime_lots) := by
  refine ok_defG (k := 3) (N := N_prime_lots) T.d_prime_lots.F S_prime_lots fun cdv A outer s H E hr gd => ?_
  have tk := takes_of (X := cxOf (L2.CX P w) P w K mg base N_prime_lots "prime_lots" (defScope (top 18)) (a 8) cdv A outer s H E) rfl rfl rfl rfl
  have pas := passes_of (X := cxOf (L2.CX P w) P w K mg base N_prime_lots "prime_lots" (defScope (top 18)) (a 8) cdv A outer s H E) rfl
  have hr : Room 3 (cxOf (L2.CX P w) P w K mg base N_prime_lots "prime_lots" (defScope (top 18)) (a 8) cdv A outer s H E).A := hr
  have gd : (cxOf (L2.CX P w) P w K mg base N_prime_lots "prime_lots" (defScope (top 18)) (a 8) cdv A outer s H E).A.guards = some [] := gd
  unfold c_prime_lots
  exact (sS_one (sS_ret (qDG T.d_lots_by_prime (ok_lots_by_prime T) hr gd tk (qL (qDG T.d_check_integers (ok_check_integers T) hr gd tk (qL qV sL_nil)) sL_nil))))
abbrev N_fewest_value_number : List Str := ["values"]
theorem S_fewest_value_number : FnScope N_fewest_value_number ["values"] (defScope (top 21)) := ⟨rfl, rfl, rfl, by decide +kernel, rfl, by decide +kernel, by decide +kernel⟩
theorem ok_fewest_value_number (T : Txt P w K mg base a fd b fI fe) : FnOkG P w K mg base (L2.CX P w) 5 (a 11) (fd 11) ["values"] (spOf K mg 1 den_fewest_value_number) := by
  refine ok_defG (k := 4) (N := N_fewest_value_number) T.d_fewest_value_number.F S_fewest_value_number fun cdv A outer s H E hr gd => ?_
  have tk := takes_of (X := cxOf (L2.CX P w) P w K mg base N_fewest_value_number "fewest_value_number" (defScope (top 21)) (a 11) cdv A outer s H E) rfl rfl rfl rfl
  have pas := passes_of (X := cxOf (L2.CX P w) P w K mg base N_fewest_value_number "fewest_value_number" (defScope (top 21)) (a 11) cdv A outer s H E) rfl
  have hr : Room 4 (cxOf (L2.CX P w) P w K mg base N_fewest_value_number "fewest_value_number" (defScope (top 21)) (a 11) cdv A outer s H E).A := hr
  have gd : (cxOf (L2.CX P w) P w K mg base N_fewest_value_number "fewest_value_number" (defScope (top 21)) (a 11) cdv A outer s H E).A.guards = some [] := gd
  unfold c_fewest_value_number
  exact (sS_one (sS_ret (qB vLen_ok T.n_len bb_len (qL (qDG T.d_fewest_values (ok_fewest_values T) hr gd tk (qL qV sL_nil)) sL_nil))))
abbrev N_shows_values : List Str := ["values", "paper", "numbers", "number", "k"]
theorem S_shows_values : FnScope N_shows_values ["values", "paper"] (defScope (top 22)) := ⟨rfl, rfl, rfl, by decide +kernel, rfl, by decide +kernel, by decide +kernel⟩
theorem ok_shows_values (T : Txt P w K mg base a fd b fI fe) : FnOkG P w K mg base (L2.CX P w) 4 (a 12) (fd 12) ["values", "paper"] (spOf K mg 2 den_shows_values) := by
  refine ok_defG (k := 3) (N := N_shows_values) T.d_shows_values.F S_shows_values fun cdv A outer s H E hr gd => ?_
  have tk := takes_of (X := cxOf (L2.CX P w) P w K mg base N_shows_values "shows_values" (defScope (top 22)) (a 12) cdv A outer s H E) rfl rfl rfl rfl
  have pas := passes_of (X := cxOf (L2.CX P w) P w K mg base N_shows_values "shows_values" (defScope (top 22)) (a 12) cdv A outer s H E) rfl
  have hr : Room 3 (cxOf (L2.CX P w) P w K mg base N_shows_values "shows_values" (defScope (top 22)) (a 12) cdv A outer s H E).A := hr
  have gd : (cxOf (L2.CX P w) P w K mg base N_shows_values "shows_values" (defScope (top 22)) (a 12) cdv A outer s H E).A.guards = some [] := gd
  unfold c_shows_values
  exact (sS_cons (sSet S_shows_values.nd (qDG T.d_check_integers (ok_check_integers T) hr gd tk (qL qV sL_nil)))
    (sS_cons (sS_if (PW.pt (sW_or (sT_not (tTru (qIsM T.n_isinstance (yC T.n_tuple bb_tuple (yC T.n_list bb_list .nil)) qV))) (sW_or1 (tCmp hr (qB vLen_ok T.n_len bb_len (qL qV sL_nil)) sE_int))))
    (sS_one (sS_ret sE_bool))
    sS_nil)
    (sS_cons (sS_if (sT_not (tTru (qB (vAll_ok rfl) T.n_all bb_all (qL (qLc (own := [("number", 3)]) S_shows_values.nd (sI_seq qV) (by show BlkOk N_shows_values (defScope (top 22)) _ [("number", 3)]; exact blkOk_by (by decide +kernel)) (fun s H C cl fp => (gN S_shows_values.nd)) (fun s H C cl fp => ts_true) (fun s H C cl fp => (sE_and (qDG T.d_is_int (ok_is_int T) hr gd takes_none5 (qL qV sL_nil)) (sE_one (qCmp hr qV qV))))) sL_nil))))
    (sS_one (sS_ret sE_bool))
    sS_nil)
    (sS_cons (sS_if (sT_not (tTru (qB (vAll_ok rfl) T.n_all bb_all (qL (qLc (own := [("k", 4)]) S_shows_values.nd (iR1 T.n_range (qL (qBin (qB vLen_ok T.n_len bb_len (qL qV sL_nil)) sE_int) sL_nil)) (by show BlkOk N_shows_values (defScope (top 22)) _ [("k", 4)]; exact blkOk_by (by decide +kernel)) (fun s H C cl fp => (gN S_shows_values.nd)) (fun s H C cl fp => ts_true) (fun s H C cl fp => (qCmp hr (qIx qV qV) (qIx qV (qBin qV sE_int))))) sL_nil))))
    (sS_one (sS_ret sE_bool))
    sS_nil)
    (sS_one (sS_ret (qCmp hr (qDG T.d_fence_of_plain (ok_fence_of_plain T) hr gd tk (qL qV sL_nil)) (qDG T.d_fence_of_plain (ok_fence_of_plain T) hr gd tk (qL qV sL_nil)))))))))
abbrev N_law_draws : List Str := ["script", "draws", "at", "cell", "turn"]
theorem S_law_draws : FnScope N_law_draws ["script"] (defScope (top 24)) := ⟨rfl, rfl, rfl, by decide +kernel, rfl, by decide +kernel, by decide +kernel⟩
theorem ok_law_draws (T : Txt P w K mg base a fd b fI fe) : FnOkG P w K mg base (L2.CX P w) 1 (a 13) (fd 13) ["script"] (spOf K mg 1 den_law_draws) := by
  refine ok_defG (k := 0) (N := N_law_draws) T.d_law_draws.F S_law_draws fun cdv A outer s H E hr gd => ?_
  have tk := takes_of (X := cxOf (L2.CX P w) P w K mg base N_law_draws "_law_draws" (defScope (top 24)) (a 13) cdv A outer s H E) rfl rfl rfl rfl
  have pas := passes_of (X := cxOf (L2.CX P w) P w K mg base N_law_draws "_law_draws" (defScope (top 24)) (a 13) cdv A outer s H E) rfl
  have hr : Room 0 (cxOf (L2.CX P w) P w K mg base N_law_draws "_law_draws" (defScope (top 24)) (a 13) cdv A outer s H E).A := hr
  have gd : (cxOf (L2.CX P w) P w K mg base N_law_draws "_law_draws" (defScope (top 24)) (a 13) cdv A outer s H E).A.guards = some [] := gd
  unfold c_law_draws
  exact (sS_cons (sSet S_law_draws.nd (sE_lst sL_nil))
    (sS_cons (sForL pas (iR1 T.n_range (qL (qB (vMin_ok rfl (units64 hr)) T.n_min bb_min (qL (qB vLen_ok T.n_len bb_len (qL qV sL_nil)) (qL sE_int sL_nil))) sL_nil)) (gN S_law_draws.nd)
    (sS_cons (sSet S_law_draws.nd (qTy vInt_ok T.n_int bb_int (qL (qIx qV qV) sL_nil)))
    (sS_cons (sS_if (tCmp hr qV sE_int)
    (sS_one (sSet S_law_draws.nd (qBin sE_int (qBin sE_int qV))))
    sS_nil)
    (sS_cons (sSet S_law_draws.nd (qBin (qTy vInt_ok T.n_int bb_int (qL qV sL_nil)) (qBin sE_int sE_int)))
    (sS_one (sForL pas (iR1 T.n_range (qL sE_int sL_nil)) (gN S_law_draws.nd)
    (sS_cons (sExp (qApp qV (qL (qBin (qTy vInt_ok T.n_int bb_int (qL qV sL_nil)) sE_int) sL_nil)))
    (sS_cons (sSet S_law_draws.nd (qBin qV sE_int))
    (sS_one (sS_if (tCmp hr qV sE_int)
    (sS_one sS_break)
    sS_nil))))))))))
    (sS_cons (sExp (qRev qV))
    (sS_one (sS_ret qV)))))
abbrev N_law_take : List Str := ["draws", "many"]
theorem S_law_take : FnScope N_law_take ["draws", "many"] (defScope (top 25)) := ⟨rfl, rfl, rfl, by decide +kernel, rfl, by decide +kernel, by decide +kernel⟩
theorem ok_law_take (T : Txt P w K mg base a fd b fI fe) : FnOkG P w K mg base (L2.CX P w) 1 (a 14) (fd 14) ["draws", "many"] (spOf K mg 2 den_law_take) := by
  refine ok_defG (k := 0) (N := N_law_take) T.d_law_take.F S_law_take fun cdv A outer s H E hr gd => ?_
  have tk := takes_of (X := cxOf (L2.CX P w) P w K mg base N_law_take "_law_take" (defScope (top 25)) (a 14) cdv A outer s H E) rfl rfl rfl rfl
  have pas := passes_of (X := cxOf (L2.CX P w) P w K mg base N_law_take "_law_take" (defScope (top 25)) (a 14) cdv A outer s H E) rfl
  have hr : Room 0 (cxOf (L2.CX P w) P w K mg base N_law_take "_law_take" (defScope (top 25)) (a 14) cdv A outer s H E).A := hr
  have gd : (cxOf (L2.CX P w) P w K mg base N_law_take "_law_take" (defScope (top 25)) (a 14) cdv A outer s H E).A.guards = some [] := gd
  unfold c_law_take
  exact (sS_cons (sS_if (tCmp hr (qB vLen_ok T.n_len bb_len (qL qV sL_nil)) sE_int)
    (sS_one (sS_ret sE_int))
    sS_nil)
    (sS_one (sS_ret (qBin (qTy vInt_ok T.n_int bb_int (qL (qPop qV) sL_nil)) qV))))
abbrev N_law_gcd : List Str := ["a", "b", "turn"]
theorem S_law_gcd : FnScope N_law_gcd ["a", "b"] (defScope (top 26)) := ⟨rfl, rfl, rfl, by decide +kernel, rfl, by decide +kernel, by decide +kernel⟩
theorem ok_law_gcd (T : Txt P w K mg base a fd b fI fe) : FnOkG P w K mg base (L2.CX P w) 1 (a 15) (fd 15) ["a", "b"] (spOf K mg 2 den_law_gcd) := by
  refine ok_defG (k := 0) (N := N_law_gcd) T.d_law_gcd.F S_law_gcd fun cdv A outer s H E hr gd => ?_
  have tk := takes_of (X := cxOf (L2.CX P w) P w K mg base N_law_gcd "_law_gcd" (defScope (top 26)) (a 15) cdv A outer s H E) rfl rfl rfl rfl
  have pas := passes_of (X := cxOf (L2.CX P w) P w K mg base N_law_gcd "_law_gcd" (defScope (top 26)) (a 15) cdv A outer s H E) rfl
  have hr : Room 0 (cxOf (L2.CX P w) P w K mg base N_law_gcd "_law_gcd" (defScope (top 26)) (a 15) cdv A outer s H E).A := hr
  have gd : (cxOf (L2.CX P w) P w K mg base N_law_gcd "_law_gcd" (defScope (top 26)) (a 15) cdv A outer s H E).A.guards = some [] := gd
  unfold c_law_gcd
  exact (sS_cons (sSet S_law_gcd.nd (qB vAbs_ok T.n_abs bb_abs (qL qV sL_nil)))
    (sS_cons (sSet S_law_gcd.nd (qB vAbs_ok T.n_abs bb_abs (qL qV sL_nil)))
    (sS_cons (sForL pas (iR1 T.n_range (qL sE_int sL_nil)) (gN S_law_gcd.nd)
    (sS_cons (sS_if (tCmp hr qV sE_int)
    (sS_one sS_break)
    sS_nil)
    (sS_one (sPar2 S_law_gcd.nd (qL qV (qL (qBin (qTy vInt_ok T.n_int bb_int (qL qV sL_nil)) (qTy vInt_ok T.n_int bb_int (qL qV sL_nil))) sL_nil))))))
    (sS_one (sS_ret qV)))))
abbrev N_law_just : List Str := ["told", "due"]
theorem S_law_just : FnScope N_law_just ["told", "due"] (defScope (top 27)) := ⟨rfl, rfl, rfl, by decide +kernel, rfl, by decide +kernel, by decide +kernel⟩
theorem ok_law_just (T : Txt P w K mg base a fd b fI fe) : FnOkG P w K mg base (L2.CX P w) 1 (a 16) (fd 16) ["told", "due"] (spOf K mg 2 den_law_just) := by
  refine ok_defG (k := 0) (N := N_law_just) T.d_law_just.F S_law_just fun cdv A outer s H E hr gd => ?_
  have tk := takes_of (X := cxOf (L2.CX P w) P w K mg base N_law_just "_law_just" (defScope (top 27)) (a 16) cdv A outer s H E) rfl rfl rfl rfl
  have pas := passes_of (X := cxOf (L2.CX P w) P w K mg base N_law_just "_law_just" (defScope (top 27)) (a 16) cdv A outer s H E) rfl
  have hr : Room 0 (cxOf (L2.CX P w) P w K mg base N_law_just "_law_just" (defScope (top 27)) (a 16) cdv A outer s H E).A := hr
  have gd : (cxOf (L2.CX P w) P w K mg base N_law_just "_law_just" (defScope (top 27)) (a 16) cdv A outer s H E).A.guards = some [] := gd
  unfold c_law_just
  exact (sS_one (sS_ret (sE_and (qCmp hr (qB (vRepr_ok hr gd) T.n_repr bb_repr (qL qV sL_nil)) (qB (vRepr_ok hr gd) T.n_repr bb_repr (qL qV sL_nil))) (sE_one (qCmp hr qV qV)))))
abbrev N_law_fence : List Str := ["values", "lo", "step", "value"]
theorem S_law_fence : FnScope N_law_fence ["values"] (defScope (top 28)) := ⟨rfl, rfl, rfl, by decide +kernel, rfl, by decide +kernel, by decide +kernel⟩
theorem ok_law_fence (T : Txt P w K mg base a fd b fI fe) : FnOkG P w K mg base (L2.CX P w) 2 (a 17) (fd 17) ["values"] (spOf K mg 1 den_law_fence) := by
  refine ok_defG (k := 1) (N := N_law_fence) T.d_law_fence.F S_law_fence fun cdv A outer s H E hr gd => ?_
  have tk := takes_of (X := cxOf (L2.CX P w) P w K mg base N_law_fence "_law_fence" (defScope (top 28)) (a 17) cdv A outer s H E) rfl rfl rfl rfl
  have pas := passes_of (X := cxOf (L2.CX P w) P w K mg base N_law_fence "_law_fence" (defScope (top 28)) (a 17) cdv A outer s H E) rfl
  have hr : Room 1 (cxOf (L2.CX P w) P w K mg base N_law_fence "_law_fence" (defScope (top 28)) (a 17) cdv A outer s H E).A := hr
  have gd : (cxOf (L2.CX P w) P w K mg base N_law_fence "_law_fence" (defScope (top 28)) (a 17) cdv A outer s H E).A.guards = some [] := gd
  unfold c_law_fence
  exact (sS_cons (sSet S_law_fence.nd (qB (vMin_ok rfl (units64 hr)) T.n_min bb_min (qL qV sL_nil)))
    (sS_cons (sSet S_law_fence.nd sE_int)
    (sS_cons (sForL pas (sI_seq qV) (gN S_law_fence.nd)
    (sS_one (sSet S_law_fence.nd (qDG T.d_law_gcd (ok_law_gcd T) hr gd tk (qL qV (qL (qBin qV qV) sL_nil))))))
    (sS_one (sS_ret (sE_tup (qL qV (qL (qB (vMax_ok rfl (units64 hr)) T.n_max bb_max (qL qV sL_nil)) (qL qV sL_nil)))))))))
abbrev N_law_primes : List Str := ["number", "primes", "left", "p", "turn"]
theorem S_law_primes : FnScope N_law_primes ["number"] (defScope (top 29)) := ⟨rfl, rfl, rfl, by decide +kernel, rfl, by decide +kernel, by decide +kernel⟩
theorem ok_law_primes (T : Txt P w K mg base a fd b fI fe) : FnOkG P w K mg base (L2.CX P w) 1 (a 18) (fd 18) ["number"] (spOf K mg 1 den_law_primes) := by
  refine ok_defG (k := 0) (N := N_law_primes) T.d_law_primes.F S_law_primes fun cdv A outer s H E hr gd => ?_
  have tk := takes_of (X := cxOf (L2.CX P w) P w K mg base N_law_primes "_law_primes" (defScope (top 29)) (a 18) cdv A outer s H E) rfl rfl rfl rfl
  have pas := passes_of (X := cxOf (L2.CX P w) P w K mg base N_law_primes "_law_primes" (defScope (top 29)) (a 18) cdv A outer s H E) rfl
  have hr : Room 0 (cxOf (L2.CX P w) P w K mg base N_law_primes "_law_primes" (defScope (top 29)) (a 18) cdv A outer s H E).A := hr
  have gd : (cxOf (L2.CX P w) P w K mg base N_law_primes "_law_primes" (defScope (top 29)) (a 18) cdv A outer s H E).A.guards = some [] := gd
  unfold c_law_primes
  exact (sS_cons (sSet S_law_primes.nd (sE_lst sL_nil))
    (sS_cons (sSet S_law_primes.nd qV)
    (sS_cons (sForL pas (iR2 T.n_range (qL sE_int (qL sE_int sL_nil))) (gN S_law_primes.nd)
    (sS_one (sS_if (tCmp hr (qBin qV qV) sE_int)
    (sS_cons (sExp (qApp qV (qL qV sL_nil)))
    (sS_one (sForL pas (iR1 T.n_range (qL sE_int sL_nil)) (gN S_law_primes.nd)
    (sS_cons (sS_if (tCmp hr (qBin qV qV) sE_int)
    (sS_one sS_break)
    sS_nil)
    (sS_one (sSet S_law_primes.nd (qBin qV qV)))))))
    sS_nil)))
    (sS_one (sS_ret qV)))))
abbrev N_law_unlike : List Str := ["values", "unlike", "value"]
theorem S_law_unlike : FnScope N_law_unlike ["values"] (defScope (top 30)) := ⟨rfl, rfl, rfl, by decide +kernel, rfl, by decide +kernel, by decide +kernel⟩
theorem ok_law_unlike (T : Txt P w K mg base a fd b fI fe) : FnOkG P w K mg base (L2.CX P w) 1 (a 19) (fd 19) ["values"] (spOf K mg 1 den_law_unlike) := by
  refine ok_defG (k := 0) (N := N_law_unlike) T.d_law_unlike.F S_law_unlike fun cdv A outer s H E hr gd => ?_
  have tk := takes_of (X := cxOf (L2.CX P w) P w K mg base N_law_unlike "_law_unlike" (defScope (top 30)) (a 19) cdv A outer s H E) rfl rfl rfl rfl
  have pas := passes_of (X := cxOf (L2.CX P w) P w K mg base N_law_unlike "_law_unlike" (defScope (top 30)) (a 19) cdv A outer s H E) rfl
  have hr : Room 0 (cxOf (L2.CX P w) P w K mg base N_law_unlike "_law_unlike" (defScope (top 30)) (a 19) cdv A outer s H E).A := hr
  have gd : (cxOf (L2.CX P w) P w K mg base N_law_unlike "_law_unlike" (defScope (top 30)) (a 19) cdv A outer s H E).A.guards = some [] := gd
  unfold c_law_unlike
  exact (sS_cons (sSet S_law_unlike.nd (sE_lst sL_nil))
    (sS_cons (sForL pas (sI_seq (qB vSortT_ok T.n_sorted bb_sorted (qL qV sL_nil))) (gN S_law_unlike.nd)
    (sS_one (sS_if (tCmp hr qV qV)
    (sS_one (sExp (qApp qV (qL qV sL_nil))))
    sS_nil)))
    (sS_one (sS_ret qV))))
abbrev N_law_own_lots : List Str := ["values", "primes", "fence", "lots", "p", "one"]
theorem S_law_own_lots : FnScope N_law_own_lots ["values", "primes"] (defScope (top 31)) := ⟨rfl, rfl, rfl, by decide +kernel, rfl, by decide +kernel, by decide +kernel⟩
theorem ok_law_own_lots (T : Txt P w K mg base a fd b fI fe) : FnOkG P w K mg base (L2.CX P w) 3 (a 20) (fd 20) ["values", "primes"] (spOf K mg 2 den_law_own_lots) := by
  refine ok_defG (k := 2) (N := N_law_own_lots) T.d_law_own_lots.F S_law_own_lots fun cdv A outer s H E hr gd => ?_
  have tk := takes_of (X := cxOf (L2.CX P w) P w K mg base N_law_own_lots "_law_own_lots" (defScope (top 31)) (a 20) cdv A outer s H E) rfl rfl rfl rfl
  have pas := passes_of (X := cxOf (L2.CX P w) P w K mg base N_law_own_lots "_law_own_lots" (defScope (top 31)) (a 20) cdv A outer s H E) rfl
  have hr : Room 2 (cxOf (L2.CX P w) P w K mg base N_law_own_lots "_law_own_lots" (defScope (top 31)) (a 20) cdv A outer s H E).A := hr
  have gd : (cxOf (L2.CX P w) P w K mg base N_law_own_lots "_law_own_lots" (defScope (top 31)) (a 20) cdv A outer s H E).A.guards = some [] := gd
  unfold c_law_own_lots
  exact (sS_cons (sSet S_law_own_lots.nd (qDG T.d_law_fence (ok_law_fence T) hr gd tk (qL qV sL_nil)))
    (sS_cons (sSet S_law_own_lots.nd (sE_lst sL_nil))
    (sS_cons (sForL pas (sI_seq qV) (gN S_law_own_lots.nd)
    (sS_one (sExp (qApp qV (qL (sE_tup (qL qV (qL (qTy vTuple_ok T.n_tuple bb_tuple (qL (qLc (own := [("one", 5)]) S_law_own_lots.nd (sI_seq (qDG T.d_law_unlike (ok_law_unlike T) hr gd tk (qL qV sL_nil))) (by show BlkOk N_law_own_lots (defScope (top 31)) _ [("one", 5)]; exact blkOk_by (by decide +kernel)) (fun s H C cl fp => (gN S_law_own_lots.nd)) (fun s H C cl fp => (ts_one (tCmp hr (qBin (qBin (qBin qV (qIx qV sE_int)) (qIx qV sE_int)) qV) sE_int))) (fun s H C cl fp => qV)) sL_nil)) sL_nil))) sL_nil)))))
    (sS_one (sS_ret (qTy vTuple_ok T.n_tuple bb_tuple (qL qV sL_nil)))))))
abbrev N_law_tries : List Str := ["values", "fence", "rows", "value", "best", "row"]
theorem S_law_tries : FnScope N_law_tries ["values"] (defScope (top 32)) := ⟨rfl, rfl, rfl, by decide +kernel, rfl, by decide +kernel, by decide +kernel⟩
theorem ok_law_tries (T : Txt P w K mg base a fd b fI fe) : FnOkG P w K mg base (L2.CX P w) 3 (a 21) (fd 21) ["values"] (spOf K mg 1 den_law_tries) := by
  refine ok_defG (k := 2) (N := N_law_tries) T.d_law_tries.F S_law_tries fun cdv A outer s H E hr gd => ?_
  have tk := takes_of (X := cxOf (L2.CX P w) P w K mg base N_law_tries "_law_tries" (defScope (top 32)) (a 21) cdv A outer s H E) rfl rfl rfl rfl
  have pas := passes_of (X := cxOf (L2.CX P w) P w K mg base N_law_tries "_law_tries" (defScope (top 32)) (a 21) cdv A outer s H E) rfl
  have hr : Room 2 (cxOf (L2.CX P w) P w K mg base N_law_tries "_law_tries" (defScope (top 32)) (a 21) cdv A outer s H E).A := hr
  have gd : (cxOf (L2.CX P w) P w K mg base N_law_tries "_law_tries" (defScope (top 32)) (a 21) cdv A outer s H E).A.guards = some [] := gd
  unfold c_law_tries
  exact (sS_cons (sSet S_law_tries.nd (qDG T.d_law_fence (ok_law_fence T) hr gd tk (qL qV sL_nil)))
    (sS_cons (sSet S_law_tries.nd (sE_lst (qL (sE_tup sL_nil) sL_nil)))
    (sS_cons (sForL pas (sI_seq (qDG T.d_law_unlike (ok_law_unlike T) hr gd tk (qL qV sL_nil))) (gN S_law_tries.nd)
    (sS_one (sSet S_law_tries.nd (qBin qV (qLc (own := [("row", 5)]) S_law_tries.nd (sI_seq qV) (by show BlkOk N_law_tries (defScope (top 32)) _ [("row", 5)]; exact blkOk_by (by decide +kernel)) (fun s H C cl fp => (gN S_law_tries.nd)) (fun s H C cl fp => ts_true) (fun s H C cl fp => (qBin qV (sE_tup (qL qV sL_nil)))))))))
    (sS_cons (sSet S_law_tries.nd sE_none)
    (sS_cons (sForL pas (sI_seq qV) (gN S_law_tries.nd)
    (sS_one (sS_if (PW.pt (sW_and (tCmp hr (qB vLen_ok T.n_len bb_len (qL qV sL_nil)) sE_int) (sW_and (PW.pt (sW_or (tCmp hr qV sE_none) (sW_or1 (tCmp hr (qB vLen_ok T.n_len bb_len (qL qV sL_nil)) (qB vLen_ok T.n_len bb_len (qL qV sL_nil)))))) (sW_and1 (tCmp hr (qDG T.d_law_fence (ok_law_fence T) hr gd tk (qL qV sL_nil)) qV)))))
    (sS_one (sSet S_law_tries.nd qV))
    sS_nil)))
    (sS_one (sS_ret qV)))))))
abbrev N_law_shows : List Str := ["values", "paper", "one", "at"]
theorem S_law_shows : FnScope N_law_shows ["values", "paper"] (defScope (top 33)) := ⟨rfl, rfl, rfl, by decide +kernel, rfl, by decide +kernel, by decide +kernel⟩
theorem ok_law_shows (T : Txt P w K mg base a fd b fI fe) : FnOkG P w K mg base (L2.CX P w) 3 (a 22) (fd 22) ["values", "paper"] (spOf K mg 2 den_law_shows) := by
  refine ok_defG (k := 2) (N := N_law_shows) T.d_law_shows.F S_law_shows fun cdv A outer s H E hr gd => ?_
  have tk := takes_of (X := cxOf (L2.CX P w) P w K mg base N_law_shows "_law_shows" (defScope (top 33)) (a 22) cdv A outer s H E) rfl rfl rfl rfl
  have pas := passes_of (X := cxOf (L2.CX P w) P w K mg base N_law_shows "_law_shows" (defScope (top 33)) (a 22) cdv A outer s H E) rfl
  have hr : Room 2 (cxOf (L2.CX P w) P w K mg base N_law_shows "_law_shows" (defScope (top 33)) (a 22) cdv A outer s H E).A := hr
  have gd : (cxOf (L2.CX P w) P w K mg base N_law_shows "_law_shows" (defScope (top 33)) (a 22) cdv A outer s H E).A.guards = some [] := gd
  unfold c_law_shows
  exact (sS_cons (sS_if (PW.pt (sW_or (sT_not (tTru (qIsM T.n_isinstance (yC T.n_list bb_list (yC T.n_tuple bb_tuple .nil)) qV))) (sW_or1 (tCmp hr (qB vLen_ok T.n_len bb_len (qL qV sL_nil)) sE_int))))
    (sS_one (sS_ret sE_bool))
    sS_nil)
    (sS_cons (sForL pas (sI_seq qV) (gN S_law_shows.nd)
    (sS_one (sS_if (PW.pt (sW_or (sT_not (tTru (qIs T.n_isinstance T.n_int bb_int qV))) (sW_or (tTru (qIs T.n_isinstance T.n_bool bb_bool qV)) (sW_or1 (tCmp hr qV qV)))))
    (sS_one (sS_ret sE_bool))
    sS_nil)))
    (sS_cons (sForL pas (iR1 T.n_range (qL (qBin (qB vLen_ok T.n_len bb_len (qL qV sL_nil)) sE_int) sL_nil)) (gN S_law_shows.nd)
    (sS_one (sS_if (sT_not (tCmp hr (qIx qV qV) (qIx qV (qBin qV sE_int))))
    (sS_one (sS_ret sE_bool))
    sS_nil)))
    (sS_one (sS_ret (qCmp hr (qDG T.d_law_fence (ok_law_fence T) hr gd tk (qL qV sL_nil)) (qDG T.d_law_fence (ok_law_fence T) hr gd tk (qL qV sL_nil))))))))
abbrev N_law_papers : List Str := ["values", "best", "pick", "unlike", "at", "papers", "middle", "one"]
theorem S_law_papers : FnScope N_law_papers ["values", "best", "pick"] (defScope (top 34)) := ⟨rfl, rfl, rfl, by decide +kernel, rfl, by decide +kernel, by decide +kernel⟩
theorem ok_law_papers (T : Txt P w K mg base a fd b fI fe) : FnOkG P w K mg base (L2.CX P w) 2 (a 23) (fd 23) ["values", "best", "pick"] (spOf K mg 3 den_law_papers) := by
  refine ok_defG (k := 1) (N := N_law_papers) T.d_law_papers.F S_law_papers fun cdv A outer s H E hr gd => ?_
  have tk := takes_of (X := cxOf (L2.CX P w) P w K mg base N_law_papers "_law_papers" (defScope (top 34)) (a 23) cdv A outer s H E) rfl rfl rfl rfl
  have pas := passes_of (X := cxOf (L2.CX P w) P w K mg base N_law_papers "_law_papers" (defScope (top 34)) (a 23) cdv A outer s H E) rfl
  have hr : Room 1 (cxOf (L2.CX P w) P w K mg base N_law_papers "_law_papers" (defScope (top 34)) (a 23) cdv A outer s H E).A := hr
  have gd : (cxOf (L2.CX P w) P w K mg base N_law_papers "_law_papers" (defScope (top 34)) (a 23) cdv A outer s H E).A.guards = some [] := gd
  unfold c_law_papers
  exact (sS_cons (sSet S_law_papers.nd (qDG T.d_law_unlike (ok_law_unlike T) hr gd tk (qL qV sL_nil)))
    (sS_cons (sSet S_law_papers.nd (qBin qV (qB vLen_ok T.n_len bb_len (qL qV sL_nil))))
    (sS_cons (sSet S_law_papers.nd (sE_lst (qL (qTy vTuple_ok T.n_tuple bb_tuple (qL qV sL_nil)) (qL (qTy vList_ok T.n_list bb_list (qL qV sL_nil)) (qL (qBin (qSl0 qV qV) (qSl1 qV (qBin qV sE_int))) (qL (qRevT qV) (qL (qBin qV (qSl1 qV (sE_neg sE_int))) (qL (sE_tup sL_nil) (qL sE_int (qL sE_none (qL sE_str sL_nil)))))))))))
    (sS_cons (sSet S_law_papers.nd (qBin qV (sE_lst (qL (qTy vTuple_ok T.n_tuple bb_tuple (qL (qBin (qSl0 qV qV) (qSl1 qV (qBin qV sE_int))) sL_nil)) (qL (qSl1 qV sE_int) (qL (qSl0 qV (sE_neg sE_int)) (qL (sE_tup (qL (qIx qV sE_int) (qL (qIx qV (sE_neg sE_int)) sL_nil))) (qL (sE_lst (qL (qTy vStrI_ok T.n_str bb_str (qL (qIx qV sE_int) sL_nil)) sL_nil)) sL_nil))))))))
    (sS_cons (sSet S_law_papers.nd (qBin qV (sE_lst (qL (qBin (qSl0 qV (sE_neg sE_int)) (sE_tup (qL (qBin (qIx qV (sE_neg sE_int)) sE_int) sL_nil))) (qL (qBin (sE_tup (qL (qBin (qIx qV sE_int) sE_int) sL_nil)) qV) (qL (qTy vTuple_ok T.n_tuple bb_tuple (qL (qLc (own := [("one", 7)]) S_law_papers.nd (sI_seq qV) (by show BlkOk N_law_papers (defScope (top 34)) _ [("one", 7)]; exact blkOk_by (by decide +kernel)) (fun s H C cl fp => (gN S_law_papers.nd)) (fun s H C cl fp => ts_true) (fun s H C cl fp => (qCmp hr qV sE_int))) sL_nil)) (qL (sE_tup (qL qV sL_nil)) sL_nil)))))))
    (sS_cons (sSetLc (own := [("one", 7)]) S_law_papers.nd (sI_seq qV) (by show BlkOk N_law_papers (defScope (top 34)) _ [("one", 7)]; exact blkOk_by (by decide +kernel)) (fun s H C cl fp => (gN S_law_papers.nd)) (fun s H C cl fp => (ts_one (tCmp hr qV qV))) (fun s H C cl fp => qV))
    (sS_cons (sForL pas (sI_seq (qSl0 qV sE_int)) (gN S_law_papers.nd)
    (sS_cons (sExp (qApp qV (qL (qBin (qBin (qSl0 qV qV) (sE_tup (qL qV sL_nil))) (qSl1 qV (qBin qV sE_int))) sL_nil)))
    (sS_one (sExp (qApp qV (qL (qTy vTuple_ok T.n_tuple bb_tuple (qL (qB vSortT_ok T.n_sorted bb_sorted (qL (qBin (qTy vList_ok T.n_list bb_list (qL qV sL_nil)) (sE_lst (qL qV sL_nil))) sL_nil)) sL_nil)) sL_nil))))))
    (sS_one (sS_ret qV)))))))))
abbrev N_law_values_told : List Str := ["values", "primes", "least", "pick", "handed", "before", "told", "best", "paper", "one"]
theorem S_law_values_told : FnScope N_law_values_told ["values", "primes", "least", "pick"] (defScope (top 35)) := ⟨rfl, rfl, rfl, by decide +kernel, rfl, by decide +kernel, by decide +kernel⟩
theorem ok_law_values_told (T : Txt P w K mg base a fd b fI fe) : FnOkG P w K mg base (L2.CX P w) 6 (a 24) (fd 24) ["values", "primes", "least", "pick"] (spOf K mg 4 den_law_values_told) := by
  refine ok_defG (k := 5) (N := N_law_values_told) T.d_law_values_told.F S_law_values_told fun cdv A outer s H E hr gd => ?_
  have tk := takes_of (X := cxOf (L2.CX P w) P w K mg base N_law_values_told "_law_values_told" (defScope (top 35)) (a 24) cdv A outer s H E) rfl rfl rfl rfl
  have pas := passes_of (X := cxOf (L2.CX P w) P w K mg base N_law_values_told "_law_values_told" (defScope (top 35)) (a 24) cdv A outer s H E) rfl
  have hr : Room 5 (cxOf (L2.CX P w) P w K mg base N_law_values_told "_law_values_told" (defScope (top 35)) (a 24) cdv A outer s H E).A := hr
  have gd : (cxOf (L2.CX P w) P w K mg base N_law_values_told "_law_values_told" (defScope (top 35)) (a 24) cdv A outer s H E).A.guards = some [] := gd
  unfold c_law_values_told
  exact (sS_cons (sForL pas (sI_seq (sE_lst (qL (qTy vTuple_ok T.n_tuple bb_tuple (qL qV sL_nil)) (qL (qTy vList_ok T.n_list bb_list (qL qV sL_nil)) sL_nil)))) (gN S_law_values_told.nd)
    (sS_cons (sSet S_law_values_told.nd (qB (vRepr_ok hr gd) T.n_repr bb_repr (qL qV sL_nil)))
    (sS_cons (sSet S_law_values_told.nd (qDG T.d_fewest_values (ok_fewest_values T) hr gd tk (qL qV sL_nil)))
    (sS_cons (sS_if (PW.pt (sW_or (sT_not (tTru (qIs T.n_isinstance T.n_tuple bb_tuple qV))) (sW_or (tCmp hr (qB vLen_ok T.n_len bb_len (qL qV sL_nil)) qV) (sW_or1 (sT_not (tTru (qDG T.d_law_shows (ok_law_shows T) hr gd tk (qL qV (qL qV sL_nil)))))))))
    (sS_one (sS_ret sE_bool))
    sS_nil)
    (sS_cons (sS_if (tCmp hr (qB (vRepr_ok hr gd) T.n_repr bb_repr (qL qV sL_nil)) (qB (vRepr_ok hr gd) T.n_repr bb_repr (qL (qTy vTuple_ok T.n_tuple bb_tuple (qL (qLc (own := [("one", 9)]) S_law_values_told.nd (sI_seq (qDG T.d_law_unlike (ok_law_unlike T) hr gd tk (qL qV sL_nil))) (by show BlkOk N_law_values_told (defScope (top 35)) _ [("one", 9)]; exact blkOk_by (by decide +kernel)) (fun s H C cl fp => (gN S_law_values_told.nd)) (fun s H C cl fp => (ts_one (tCmp hr qV qV))) (fun s H C cl fp => qV)) sL_nil)) sL_nil)))
    (sS_one (sS_ret sE_bool))
    sS_nil)
    (sS_cons (sS_if (sT_not (tTru (qDG T.d_law_just (ok_law_just T) hr gd tk (qL (qDG T.d_fewest_value_number (ok_fewest_value_number T) hr gd tk (qL qV sL_nil)) (qL qV sL_nil)))))
    (sS_one (sS_ret sE_bool))
    sS_nil)
    (sS_one (sS_if (PW.pt (sW_or (sT_not (tTru (qDG T.d_law_just (ok_law_just T) hr gd tk (qL (qDG T.d_prime_lots (ok_prime_lots T) hr gd tk (qL qV sL_nil)) (qL (qDG T.d_law_own_lots (ok_law_own_lots T) hr gd tk (qL qV (qL qV sL_nil))) sL_nil))))) (sW_or1 (tCmp hr (qB (vRepr_ok hr gd) T.n_repr bb_repr (qL qV sL_nil)) qV))))
    (sS_one (sS_ret sE_bool))
    sS_nil))))))))
    (sS_cons (sSet S_law_values_told.nd (qDG T.d_law_tries (ok_law_tries T) hr gd tk (qL qV sL_nil)))
    (sS_cons (sForL pas (sI_seq (qDG T.d_law_papers (ok_law_papers T) hr gd tk (qL qV (qL qV (qL qV sL_nil))))) (gN S_law_values_told.nd)
    (sS_cons (sSet S_law_values_told.nd (qDG T.d_shows_values (ok_shows_values T) hr gd tk (qL (qTy vList_ok T.n_list bb_list (qL qV sL_nil)) (qL qV sL_nil))))
    (sS_one (sS_if (PW.pt (sW_or (PW.pt (sW_and (tCmp hr qV sE_bool) (sW_and1 (tCmp hr qV sE_bool)))) (sW_or1 (tCmp hr qV (qDG T.d_law_shows (ok_law_shows T) hr gd tk (qL qV (qL qV sL_nil)))))))
    (sS_one (sS_ret sE_bool))
    sS_nil))))
    (sS_one (sS_ret sE_bool)))))
abbrev N_law_family : List Str := ["draws", "primes", "p", "step", "begin", "whole", "values", "least"]
theorem S_law_family : FnScope N_law_family ["draws"] (defScope (top 36)) := ⟨rfl, rfl, rfl, by decide +kernel, rfl, by decide +kernel, by decide +kernel⟩
theorem ok_law_family (T : Txt P w K mg base a fd b fI fe) : FnOkG P w K mg base (L2.CX P w) 2 (a 25) (fd 25) ["draws"] (spOf K mg 1 den_law_family) := by
  refine ok_defG (k := 1) (N := N_law_family) T.d_law_family.F S_law_family fun cdv A outer s H E hr gd => ?_
  have tk := takes_of (X := cxOf (L2.CX P w) P w K mg base N_law_family "_law_family" (defScope (top 36)) (a 25) cdv A outer s H E) rfl rfl rfl rfl
  have pas := passes_of (X := cxOf (L2.CX P w) P w K mg base N_law_family "_law_family" (defScope (top 36)) (a 25) cdv A outer s H E) rfl
  have hr : Room 1 (cxOf (L2.CX P w) P w K mg base N_law_family "_law_family" (defScope (top 36)) (a 25) cdv A outer s H E).A := hr
  have gd : (cxOf (L2.CX P w) P w K mg base N_law_family "_law_family" (defScope (top 36)) (a 25) cdv A outer s H E).A.guards = some [] := gd
  unfold c_law_family
  exact (sS_cons (sSet S_law_family.nd (sE_lst sL_nil))
    (sS_cons (sForL pas (sI_seq (sE_lst (qL sE_int (qL sE_int (qL sE_int (qL sE_int (qL sE_int (qL sE_int sL_nil)))))))) (gN S_law_family.nd)
    (sS_one (sS_if (tCmp hr (qDG T.d_law_take (ok_law_take T) hr gd tk (qL qV (qL sE_int sL_nil))) sE_int)
    (sS_one (sExp (qApp qV (qL qV sL_nil))))
    sS_nil)))
    (sS_cons (sSet S_law_family.nd (qIx (sE_lst (qL sE_int (qL (qBin sE_int sE_int) (qL sE_int (qL sE_int sL_nil))))) (qDG T.d_law_take (ok_law_take T) hr gd tk (qL qV (qL sE_int sL_nil)))))
    (sS_cons (sSet S_law_family.nd (qIx (sE_lst (qL sE_int (qL (sE_neg (qBin sE_int sE_int)) (qL sE_int (qL sE_int sL_nil))))) (qDG T.d_law_take (ok_law_take T) hr gd tk (qL qV (qL sE_int sL_nil)))))
    (sS_cons (sSet S_law_family.nd sE_int)
    (sS_cons (sForL pas (sI_seq qV) (gN S_law_family.nd)
    (sS_one (sSet S_law_family.nd (qBin qV qV))))
    (sS_cons (sSet S_law_family.nd (sE_lst (qL qV (qL (qBin qV (qBin qV qV)) sL_nil))))
    (sS_cons (sForL pas (sI_seq qV) (gN S_law_family.nd)
    (sS_one (sExp (qApp qV (qL (qBin qV (qBin (qBin qV qV) qV)) sL_nil)))))
    (sS_cons (sS_if (tCmp hr (qDG T.d_law_take (ok_law_take T) hr gd tk (qL qV (qL sE_int sL_nil))) sE_int)
    (sS_one (sExp (qRev qV)))
    sS_nil)
    (sS_cons (sSet S_law_family.nd (qBin sE_int (qB vLen_ok T.n_len bb_len (qL qV sL_nil))))
    (sS_one (sS_ret (sE_tup (qL qV (qL qV (qL qV sL_nil))))))))))))))))
abbrev N_law_call : List Str := ["which", "thing"]
theorem S_law_call : FnScope N_law_call ["which", "thing"] (defScope (top 37)) := ⟨rfl, rfl, rfl, by decide +kernel, rfl, by decide +kernel, by decide +kernel⟩
theorem ok_law_call (T : Txt P w K mg base a fd b fI fe) : FnOkG P w K mg base (L2.CX P w) 6 (a 26) (fd 26) ["which", "thing"] (spOf K mg 2 den_law_call) := by
  refine ok_defG (k := 5) (N := N_law_call) T.d_law_call.F S_law_call fun cdv A outer s H E hr gd => ?_
  have tk := takes_of (X := cxOf (L2.CX P w) P w K mg base N_law_call "_law_call" (defScope (top 37)) (a 26) cdv A outer s H E) rfl rfl rfl rfl
  have pas := passes_of (X := cxOf (L2.CX P w) P w K mg base N_law_call "_law_call" (defScope (top 37)) (a 26) cdv A outer s H E) rfl
  have hr : Room 5 (cxOf (L2.CX P w) P w K mg base N_law_call "_law_call" (defScope (top 37)) (a 26) cdv A outer s H E).A := hr
  have gd : (cxOf (L2.CX P w) P w K mg base N_law_call "_law_call" (defScope (top 37)) (a 26) cdv A outer s H E).A.guards = some [] := gd
  unfold c_law_call
  exact (sS_cons (sS_if (tCmp hr qV sE_int)
    (sS_one (sS_ret (qDG T.d_fewest_values (ok_fewest_values T) hr gd tk (qL qV sL_nil))))
    sS_nil)
    (sS_cons (sS_if (tCmp hr qV sE_int)
    (sS_one (sS_ret (qDG T.d_fewest_value_number (ok_fewest_value_number T) hr gd tk (qL qV sL_nil))))
    sS_nil)
    (sS_cons (sS_if (tCmp hr qV sE_int)
    (sS_one (sS_ret (qDG T.d_prime_lots (ok_prime_lots T) hr gd tk (qL qV sL_nil))))
    sS_nil)
    (sS_cons (sS_if (tCmp hr qV sE_int)
    (sS_one (sS_ret (qDG T.d_shows_values (ok_shows_values T) hr gd tk (qL qV (qL (sE_tup (qL sE_int sL_nil)) sL_nil)))))
    sS_nil)
    (sS_one (sS_ret (qDG T.d_prime_factors (ok_prime_factors T) hr gd tk (qL qV sL_nil))))))))
abbrev N_law_refused : List Str := ["which", "thing", "told", "wrong"]
theorem S_law_refused : FnScope N_law_refused ["which", "thing"] (defScope (top 38)) := ⟨rfl, rfl, rfl, by decide +kernel, rfl, by decide +kernel, by decide +kernel⟩
theorem ok_law_refused (T : Txt P w K mg base a fd b fI fe) : FnOkG P w K mg base (L2.CX P w) 7 (a 27) (fd 27) ["which", "thing"] (spOf K mg 2 den_law_refused) := by
  refine ok_defG (k := 6) (N := N_law_refused) T.d_law_refused.F S_law_refused fun cdv A outer s H E hr gd => ?_
  have tk := takes_of (X := cxOf (L2.CX P w) P w K mg base N_law_refused "_law_refused" (defScope (top 38)) (a 27) cdv A outer s H E) rfl rfl rfl rfl
  have pas := passes_of (X := cxOf (L2.CX P w) P w K mg base N_law_refused "_law_refused" (defScope (top 38)) (a 27) cdv A outer s H E) rfl
  have hr : Room 6 (cxOf (L2.CX P w) P w K mg base N_law_refused "_law_refused" (defScope (top 38)) (a 27) cdv A outer s H E).A := hr
  have gd : (cxOf (L2.CX P w) P w K mg base N_law_refused "_law_refused" (defScope (top 38)) (a 27) cdv A outer s H E).A.guards = some [] := gd
  unfold c_law_refused
  exact (sS_cons (sSet S_law_refused.nd (sE_tup (qL sE_str sL_nil)))
    (sS_cons (sS_try rfl rfl S_law_refused.nd tk (fun W pn xe tk1 pas1 => (sS_one (sSet S_law_refused.nd (sE_tup (qL sE_str (qL (qDG T.d_law_call (ok_law_call T) hr gd tk1 (qL qV (qL qV sL_nil))) sL_nil)))))) (.named (i := 3) (ts := SuD _ (sAsg 2 false (dCallV vTupD (lCons (dC (.str "row")) (lCons (dFldT "at" ["BadNumber", "BadLook", "BadRow", "BadCase"] (dVar 3)) (lCons (dIsE [("BadNumber", true), ("BadLook", true), ("BadRow", true), ("BadCase", true)] (dVar 3)) (lCons (dIsE [("BadNumber", true), ("BadLook", true), ("BadRow", false), ("BadCase", true)] (dVar 3)) lNil))))))) T.nm_BadRow rfl rfl (fun a oe cls d pn hz hf => (sS_one (sSet S_law_refused.nd (sE_tup (qL sE_str (qL (qAtE (T.fld_at _ (by decide)) hz hf) (qL (qIsE (T.is_VariesError _) hz hf T.n_isinstance T.g_VariesError) (qL (qIsEM (T.ism_BadNumber_BadCase_BadLook _) hz hf T.n_isinstance (yX T.g_BadNumber (yX T.g_BadCase (yX T.g_BadLook .nil)))) sL_nil)))))))) (.named (i := 3) (ts := SuD _ (sAsg 2 false (dCallV vTupD (lCons (dC (.str "number")) (lCons (dFldT "at" ["BadNumber", "BadLook", "BadRow", "BadCase"] (dVar 3)) (lCons (dIsE [("BadNumber", true), ("BadLook", true), ("BadRow", true), ("BadCase", true)] (dVar 3)) (lCons (dIsE [("BadNumber", false), ("BadLook", true), ("BadRow", true), ("BadCase", true)] (dVar 3)) lNil))))))) T.nm_BadNumber rfl rfl (fun a oe cls d pn hz hf => (sS_one (sSet S_law_refused.nd (sE_tup (qL sE_str (qL (qAtE (T.fld_at _ (by decide)) hz hf) (qL (qIsE (T.is_VariesError _) hz hf T.n_isinstance T.g_VariesError) (qL (qIsEM (T.ism_BadRow_BadCase_BadLook _) hz hf T.n_isinstance (yX T.g_BadRow (yX T.g_BadCase (yX T.g_BadLook .nil)))) sL_nil)))))))) (.bare (ts := SuD _ (sAsg 2 false (dCallV vTupD (lCons (dC (.str "other")) lNil)))) T.nm_VariesError (fun a oe cls d pn hz hf => (sS_one (sSet S_law_refused.nd (sE_tup (qL sE_str sL_nil))))) .nil))) (.cons (T.tb_BadRow _) (.cons (T.tb_BadNumber _) (.cons (T.tb_VariesError _) .nil))))
    (sS_one (sS_ret qV))))
abbrev N_law_refuses : List Str := ["values", "pick", "bad", "which", "thing"]
theorem S_law_refuses : FnScope N_law_refuses ["values", "pick"] (defScope (top 39)) := ⟨rfl, rfl, rfl, by decide +kernel, rfl, by decide +kernel, by decide +kernel⟩
theorem ok_law_refuses (T : Txt P w K mg base a fd b fI fe) : FnOkG P w K mg base (L2.CX P w) 8 (a 28) (fd 28) ["values", "pick"] (spOf K mg 2 den_law_refuses) := by
  refine ok_defG (k := 7) (N := N_law_refuses) T.d_law_refuses.F S_law_refuses fun cdv A outer s H E hr gd => ?_
  have tk := takes_of (X := cxOf (L2.CX P w) P w K mg base N_law_refuses "_law_refuses" (defScope (top 39)) (a 28) cdv A outer s H E) rfl rfl rfl rfl
  have pas := passes_of (X := cxOf (L2.CX P w) P w K mg base N_law_refuses "_law_refuses" (defScope (top 39)) (a 28) cdv A outer s H E) rfl
  have hr : Room 7 (cxOf (L2.CX P w) P w K mg base N_law_refuses "_law_refuses" (defScope (top 39)) (a 28) cdv A outer s H E).A := hr
  have gd : (cxOf (L2.CX P w) P w K mg base N_law_refuses "_law_refuses" (defScope (top 39)) (a 28) cdv A outer s H E).A.guards = some [] := gd
  unfold c_law_refuses
  exact (sS_cons (sSet S_law_refuses.nd (qIx (sE_lst (qL sE_bool (qL sE_str (qL sE_none (qL (sE_lst (qL sE_int sL_nil)) (qL (sE_tup sL_nil) (qL sE_bool sL_nil))))))) (qBin qV sE_int)))
    (sS_cons (sForL pas (iR1 T.n_range (qL sE_int sL_nil)) (gN S_law_refuses.nd)
    (sS_cons (sForL pas (sI_seq (sE_lst (qL (sE_tup sL_nil) (qL (sE_lst sL_nil) (qL sE_int (qL sE_str (qL sE_none sL_nil))))))) (gN S_law_refuses.nd)
    (sS_one (sS_if (sT_not (tTru (qDG T.d_law_just (ok_law_just T) hr gd tk (qL (qDG T.d_law_refused (ok_law_refused T) hr gd tk (qL qV (qL qV sL_nil))) (qL (sE_tup (qL sE_str (qL (sE_neg sE_int) (qL sE_bool (qL sE_bool sL_nil))))) sL_nil)))))
    (sS_one (sS_ret sE_bool))
    sS_nil)))
    (sS_one (sS_if (sT_not (tTru (qDG T.d_law_just (ok_law_just T) hr gd tk (qL (qDG T.d_law_refused (ok_law_refused T) hr gd tk (qL qV (qL (qBin qV (sE_lst (qL qV (qL sE_none sL_nil)))) sL_nil))) (qL (sE_tup (qL sE_str (qL (qB vLen_ok T.n_len bb_len (qL qV sL_nil)) (qL sE_bool (qL sE_bool sL_nil))))) sL_nil)))))
    (sS_one (sS_ret sE_bool))
    sS_nil))))
    (sS_cons (sForL pas (sI_seq (sE_lst (qL sE_int (qL (sE_neg sE_int) (qL sE_bool (qL sE_str (qL sE_none (qL (sE_tup (qL sE_int sL_nil)) sL_nil)))))))) (gN S_law_refuses.nd)
    (sS_one (sS_if (sT_not (tTru (qDG T.d_law_just (ok_law_just T) hr gd tk (qL (qDG T.d_law_refused (ok_law_refused T) hr gd tk (qL sE_int (qL qV sL_nil))) (qL (sE_tup (qL sE_str (qL qV (qL sE_bool (qL sE_bool sL_nil))))) sL_nil)))))
    (sS_one (sS_ret sE_bool))
    sS_nil)))
    (sS_one (sS_ret (qDG T.d_law_just (ok_law_just T) hr gd tk (qL (qDG T.d_law_refused (ok_law_refused T) hr gd tk (qL sE_int (qL (sE_lst (qL sE_int sL_nil)) sL_nil))) (qL (sE_tup (qL sE_str (qL (sE_tup (qL sE_int sL_nil)) (qL sE_bool (qL sE_bool sL_nil))))) sL_nil))))))))
abbrev N_law_factors_told : List Str := ["draws", "number", "due", "turn", "p"]
theorem S_law_factors_told : FnScope N_law_factors_told ["draws"] (defScope (top 40)) := ⟨rfl, rfl, rfl, by decide +kernel, rfl, by decide +kernel, by decide +kernel⟩
theorem ok_law_factors_told (T : Txt P w K mg base a fd b fI fe) : FnOkG P w K mg base (L2.CX P w) 5 (a 29) (fd 29) ["draws"] (spOf K mg 1 den_law_factors_told) := by
  refine ok_defG (k := 4) (N := N_law_factors_told) T.d_law_factors_told.F S_law_factors_told fun cdv A outer s H E hr gd => ?_
  have tk := takes_of (X := cxOf (L2.CX P w) P w K mg base N_law_factors_told "_law_factors_told" (defScope (top 40)) (a 29) cdv A outer s H E) rfl rfl rfl rfl
  have pas := passes_of (X := cxOf (L2.CX P w) P w K mg base N_law_factors_told "_law_factors_told" (defScope (top 40)) (a 29) cdv A outer s H E) rfl
  have hr : Room 4 (cxOf (L2.CX P w) P w K mg base N_law_factors_told "_law_factors_told" (defScope (top 40)) (a 29) cdv A outer s H E).A := hr
  have gd : (cxOf (L2.CX P w) P w K mg base N_law_factors_told "_law_factors_told" (defScope (top 40)) (a 29) cdv A outer s H E).A.guards = some [] := gd
  unfold c_law_factors_told
  exact (sS_cons (sSet S_law_factors_told.nd sE_int)
    (sS_cons (sSet S_law_factors_told.nd (sE_lst sL_nil))
    (sS_cons (sForL pas (iR1 T.n_range (qL sE_int sL_nil)) (gN S_law_factors_told.nd)
    (sS_cons (sSet S_law_factors_told.nd (qIx (sE_lst (qL sE_int (qL sE_int (qL sE_int (qL sE_int (qL sE_int (qL sE_int (qL sE_int (qL sE_int sL_nil))))))))) (qDG T.d_law_take (ok_law_take T) hr gd tk (qL qV (qL sE_int sL_nil)))))
    (sS_one (sS_if (PW.pt (sW_and (tCmp hr (qBin qV qV) (qBin sE_int sE_int)) (sW_and1 (tCmp hr (qDG T.d_law_take (ok_law_take T) hr gd tk (qL qV (qL sE_int sL_nil))) sE_int))))
    (sS_cons (sSet S_law_factors_told.nd (qBin qV qV))
    (sS_one (sS_if (tCmp hr qV qV)
    (sS_one (sExp (qApp qV (qL qV sL_nil))))
    sS_nil)))
    sS_nil))))
    (sS_cons (sS_if (tCmp hr (qDG T.d_law_take (ok_law_take T) hr gd tk (qL qV (qL sE_int sL_nil))) sE_int)
    (sS_cons (sSet S_law_factors_told.nd sE_int)
    (sS_one (sSet S_law_factors_told.nd (sE_lst (qL sE_int sL_nil)))))
    sS_nil)
    (sS_one (sS_ret (sE_and (qDG T.d_law_just (ok_law_just T) hr gd tk (qL (qDG T.d_prime_factors (ok_prime_factors T) hr gd tk (qL qV sL_nil)) (qL (qTy vTuple_ok T.n_tuple bb_tuple (qL (qB vSortT_ok T.n_sorted bb_sorted (qL qV sL_nil)) sL_nil)) sL_nil))) (sE_one (qDG T.d_law_just (ok_law_just T) hr gd tk (qL (qDG T.d_prime_factors (ok_prime_factors T) hr gd tk (qL sE_int sL_nil)) (qL (sE_tup sL_nil) sL_nil)))))))))))
abbrev N_law : List Str := ["script", "draws", "base", "values", "turn", "worth", "family", "pick", "fence", "primes"]
theorem S_law : FnScope N_law ["script"] (defScope (top 41)) := ⟨rfl, rfl, rfl, by decide +kernel, rfl, by decide +kernel, by decide +kernel⟩
theorem ok_law (T : Txt P w K mg base a fd b fI fe) : FnOkG P w K mg base (L2.CX P w) 9 (a 30) (fd 30) ["script"] (spOf K mg 1 den_law) := by
  refine ok_defG (k := 8) (N := N_law) T.d_law.F S_law fun cdv A outer s H E hr gd => ?_
  have tk := takes_of (X := cxOf (L2.CX P w) P w K mg base N_law "law" (defScope (top 41)) (a 30) cdv A outer s H E) rfl rfl rfl rfl
  have pas := passes_of (X := cxOf (L2.CX P w) P w K mg base N_law "law" (defScope (top 41)) (a 30) cdv A outer s H E) rfl
  have hr : Room 8 (cxOf (L2.CX P w) P w K mg base N_law "law" (defScope (top 41)) (a 30) cdv A outer s H E).A := hr
  have gd : (cxOf (L2.CX P w) P w K mg base N_law "law" (defScope (top 41)) (a 30) cdv A outer s H E).A.guards = some [] := gd
  unfold c_law
  exact (sS_cons (sSet S_law.nd (qDG T.d_law_draws (ok_law_draws T) hr gd tk (qL qV sL_nil)))
    (sS_cons (sSet S_law.nd (qIx (sE_lst (qL sE_int (qL sE_int (qL sE_int (qL sE_int (qL sE_int (qL sE_int sL_nil))))))) (qDG T.d_law_take (ok_law_take T) hr gd tk (qL qV (qL sE_int sL_nil)))))
    (sS_cons (sSet S_law.nd (sE_lst sL_nil))
    (sS_cons (sForL pas (iR1 T.n_range (qL (qBin sE_int (qDG T.d_law_take (ok_law_take T) hr gd tk (qL qV (qL sE_int sL_nil)))) sL_nil)) (gN S_law.nd)
    (sS_cons (sSet S_law.nd (qBin (qBin sE_int (qBin (qDG T.d_law_take (ok_law_take T) hr gd tk (qL qV (qL sE_int sL_nil))) sE_int)) (qDG T.d_law_take (ok_law_take T) hr gd tk (qL qV (qL sE_int sL_nil)))))
    (sS_one (sExp (qApp qV (qL (qBin qV (qBin qV sE_int)) sL_nil))))))
    (sS_cons (sS_if (tCmp hr (qDG T.d_law_take (ok_law_take T) hr gd tk (qL qV (qL sE_int sL_nil))) sE_int)
    (sS_one (sExp (qApp qV (qL (qIx qV sE_int) sL_nil))))
    sS_nil)
    (sS_cons (sSet S_law.nd (qDG T.d_law_family (ok_law_family T) hr gd tk (qL qV sL_nil)))
    (sS_cons (sSet S_law.nd (qDG T.d_law_take (ok_law_take T) hr gd tk (qL qV (qL sE_int sL_nil))))
    (sS_cons (sSet S_law.nd (qDG T.d_law_fence (ok_law_fence T) hr gd tk (qL qV sL_nil)))
    (sS_cons (sSet S_law.nd (sE_lst sL_nil))
    (sS_cons (sS_if (tCmp hr (qIx qV sE_int) sE_int)
    (sS_one (sSet S_law.nd (qDG T.d_law_primes (ok_law_primes T) hr gd tk (qL (qBin (qBin (qIx qV sE_int) (qIx qV sE_int)) (qIx qV sE_int)) sL_nil))))
    sS_nil)
    (sS_cons (sS_if (sT_not (tTru (qDG T.d_law_factors_told (ok_law_factors_told T) hr gd tk (qL qV sL_nil))))
    (sS_one (sS_ret sE_bool))
    sS_nil)
    (sS_cons (sS_if (sT_not (tTru (qDG T.d_law_values_told (ok_law_values_told T) hr gd tk (qL qV (qL qV (qL (qB vLen_ok T.n_len bb_len (qL (qDG T.d_law_tries (ok_law_tries T) hr gd tk (qL qV sL_nil)) sL_nil)) (qL qV sL_nil)))))))
    (sS_one (sS_ret sE_bool))
    sS_nil)
    (sS_cons (sS_if (tCmp hr (qB vLen_ok T.n_len bb_len (qL (qIx qV sE_int) sL_nil)) sE_int)
    (sS_one (sSet S_law.nd (sE_tup (qL (sE_lst (qL sE_int (qL sE_int sL_nil))) (qL (sE_lst sL_nil) (qL sE_int sL_nil))))))
    sS_nil)
    (sS_one (sS_ret (sE_and (qDG T.d_law_values_told (ok_law_values_told T) hr gd tk (qL (qIx qV sE_int) (qL (qIx qV sE_int) (qL (qIx qV sE_int) (qL qV sL_nil))))) (sE_one (qDG T.d_law_refuses (ok_law_refuses T) hr gd tk (qL qV (qL qV sL_nil))))))))))))))))))))
end
end K74
namespace K74
open PySem PySem.Spec PyProof.Rows L2 Den
set_option maxHeartbeats 8000000 in
theorem all_mk {P : Program} {w : World} {K : PySem.W.Frag} {h : Heap} {mg : Str → Option Value} {fa : Addr} (X : K.In h) (G : h.Ns mainGlobals mg) (hfa : mg "law" = some (.ref fa))
    {e0 : Addr}
    {e1 : Addr}
    {e2 : Addr}
    {e3 : Addr}
    {e4 : Addr}
    {nm1 q1 : Str} {N1 : Addr} {bs1 bm1 : List Value} {sn1 : List Str} {sub1 : List Value} {ab1 : Bool} {col1 : Option Bool} {dd1 : Option Addr} {x1a x1b x1c x1d x1e : Option Value} {i1 : Addr} {od1I an1I : Option Addr} {sl1I : Array (Option Value)} {oc1I kV1I dc1I pm1I cd1I ct1I : Value}
    {nm2 q2 : Str} {N2 : Addr} {bs2 bm2 : List Value} {sn2 : List Str} {sub2 : List Value} {ab2 : Bool} {col2 : Option Bool} {dd2 : Option Addr} {x2a x2b x2c x2d x2e : Option Value} {i2 : Addr} {od2I an2I : Option Addr} {sl2I : Array (Option Value)} {oc2I kV2I dc2I pm2I cd2I ct2I : Value}
    {nm3 q3 : Str} {N3 : Addr} {bs3 bm3 : List Value} {sn3 : List Str} {sub3 : List Value} {ab3 : Bool} {col3 : Option Bool} {dd3 : Option Addr} {x3a x3b x3c x3d x3e : Option Value} {i3 : Addr} {od3I an3I : Option Addr} {sl3I : Array (Option Value)} {oc3I kV3I dc3I pm3I cd3I ct3I : Value}
    {nm4 q4 : Str} {N4 : Addr} {bs4 bm4 : List Value} {sn4 : List Str} {sub4 : List Value} {ab4 : Bool} {col4 : Option Bool} {dd4 : Option Addr} {x4a x4b x4c x4d x4e : Option Value} {i4 : Addr} {od4I an4I : Option Addr} {sl4I : Array (Option Value)} {oc4I kV4I dc4I pm4I cd4I ct4I : Value}
    {f0 : Addr} {od0 an0 : Option Addr} {sl0 : Array (Option Value)} {oc0 kV0 dc0 pm0 cd0 ct0 : Value}
    {f1 : Addr} {od1 an1 : Option Addr} {sl1 : Array (Option Value)} {oc1 kV1 dc1 pm1 cd1 ct1 : Value}
    {f2 : Addr} {od2 an2 : Option Addr} {sl2 : Array (Option Value)} {oc2 kV2 dc2 pm2 cd2 ct2 : Value}
    {f3 : Addr} {od3 an3 : Option Addr} {sl3 : Array (Option Value)} {oc3 kV3 dc3 pm3 cd3 ct3 : Value}
    {f4 : Addr} {od4 an4 : Option Addr} {sl4 : Array (Option Value)} {oc4 kV4 dc4 pm4 cd4 ct4 : Value}
    {f5 : Addr} {od5 an5 : Option Addr} {sl5 : Array (Option Value)} {oc5 kV5 dc5 pm5 cd5 ct5 : Value}
    {f6 : Addr} {od6 an6 : Option Addr} {sl6 : Array (Option Value)} {oc6 kV6 dc6 pm6 cd6 ct6 : Value}
    {f7 : Addr} {od7 an7 : Option Addr} {sl7 : Array (Option Value)} {oc7 kV7 dc7 pm7 cd7 ct7 : Value}
    {f8 : Addr} {od8 an8 : Option Addr} {sl8 : Array (Option Value)} {oc8 kV8 dc8 pm8 cd8 ct8 : Value}
    {f9 : Addr} {od9 an9 : Option Addr} {sl9 : Array (Option Value)} {oc9 kV9 dc9 pm9 cd9 ct9 : Value}
    {f10 : Addr} {od10 an10 : Option Addr} {sl10 : Array (Option Value)} {oc10 kV10 dc10 pm10 cd10 ct10 : Value}
    {f11 : Addr} {od11 an11 : Option Addr} {sl11 : Array (Option Value)} {oc11 kV11 dc11 pm11 cd11 ct11 : Value}
    {f12 : Addr} {od12 an12 : Option Addr} {sl12 : Array (Option Value)} {oc12 kV12 dc12 pm12 cd12 ct12 : Value}
    {f13 : Addr} {od13 an13 : Option Addr} {sl13 : Array (Option Value)} {oc13 kV13 dc13 pm13 cd13 ct13 : Value}
    {f14 : Addr} {od14 an14 : Option Addr} {sl14 : Array (Option Value)} {oc14 kV14 dc14 pm14 cd14 ct14 : Value}
    {f15 : Addr} {od15 an15 : Option Addr} {sl15 : Array (Option Value)} {oc15 kV15 dc15 pm15 cd15 ct15 : Value}
    {f16 : Addr} {od16 an16 : Option Addr} {sl16 : Array (Option Value)} {oc16 kV16 dc16 pm16 cd16 ct16 : Value}
    {f17 : Addr} {od17 an17 : Option Addr} {sl17 : Array (Option Value)} {oc17 kV17 dc17 pm17 cd17 ct17 : Value}
    {f18 : Addr} {od18 an18 : Option Addr} {sl18 : Array (Option Value)} {oc18 kV18 dc18 pm18 cd18 ct18 : Value}
    {f19 : Addr} {od19 an19 : Option Addr} {sl19 : Array (Option Value)} {oc19 kV19 dc19 pm19 cd19 ct19 : Value}
    {f20 : Addr} {od20 an20 : Option Addr} {sl20 : Array (Option Value)} {oc20 kV20 dc20 pm20 cd20 ct20 : Value}
    {f21 : Addr} {od21 an21 : Option Addr} {sl21 : Array (Option Value)} {oc21 kV21 dc21 pm21 cd21 ct21 : Value}
    {f22 : Addr} {od22 an22 : Option Addr} {sl22 : Array (Option Value)} {oc22 kV22 dc22 pm22 cd22 ct22 : Value}
    {f23 : Addr} {od23 an23 : Option Addr} {sl23 : Array (Option Value)} {oc23 kV23 dc23 pm23 cd23 ct23 : Value}
    {f24 : Addr} {od24 an24 : Option Addr} {sl24 : Array (Option Value)} {oc24 kV24 dc24 pm24 cd24 ct24 : Value}
    {f25 : Addr} {od25 an25 : Option Addr} {sl25 : Array (Option Value)} {oc25 kV25 dc25 pm25 cd25 ct25 : Value}
    {f26 : Addr} {od26 an26 : Option Addr} {sl26 : Array (Option Value)} {oc26 kV26 dc26 pm26 cd26 ct26 : Value}
    {f27 : Addr} {od27 an27 : Option Addr} {sl27 : Array (Option Value)} {oc27 kV27 dc27 pm27 cd27 ct27 : Value}
    {f28 : Addr} {od28 an28 : Option Addr} {sl28 : Array (Option Value)} {oc28 kV28 dc28 pm28 cd28 ct28 : Value}
    {f29 : Addr} {od29 an29 : Option Addr} {sl29 : Array (Option Value)} {oc29 kV29 dc29 pm29 cd29 ct29 : Value}
    {f30 : Addr} {od30 an30 : Option Addr} {sl30 : Array (Option Value)} {oc30 kV30 dc30 pm30 cd30 ct30 : Value}
    (z_abs : PySem.W.nsIn K mainGlobals "abs" = some none)
    (z_all : PySem.W.nsIn K mainGlobals "all" = some none)
    (z_bool : PySem.W.nsIn K mainGlobals "bool" = some none)
    (z_dict : PySem.W.nsIn K mainGlobals "dict" = some none)
    (z_enumerate : PySem.W.nsIn K mainGlobals "enumerate" = some none)
    (z_int : PySem.W.nsIn K mainGlobals "int" = some none)
    (z_isinstance : PySem.W.nsIn K mainGlobals "isinstance" = some none)
    (z_len : PySem.W.nsIn K mainGlobals "len" = some none)
    (z_list : PySem.W.nsIn K mainGlobals "list" = some none)
    (z_max : PySem.W.nsIn K mainGlobals "max" = some none)
    (z_min : PySem.W.nsIn K mainGlobals "min" = some none)
    (z_range : PySem.W.nsIn K mainGlobals "range" = some none)
    (z_repr : PySem.W.nsIn K mainGlobals "repr" = some none)
    (z_sorted : PySem.W.nsIn K mainGlobals "sorted" = some none)
    (z_str : PySem.W.nsIn K mainGlobals "str" = some none)
    (z_tuple : PySem.W.nsIn K mainGlobals "tuple" = some none)
    (m_gcd : PySem.W.nsIn K mainGlobals "gcd" = some (some (.builtin "math.gcd")))
    (ea0 : PySem.W.nsIn K mainGlobals "VariesError" = some (some (.ref e0)))
    (ea1 : PySem.W.nsIn K mainGlobals "BadNumber" = some (some (.ref e1)))
    (ea2 : PySem.W.nsIn K mainGlobals "BadLook" = some (some (.ref e2)))
    (ea3 : PySem.W.nsIn K mainGlobals "BadRow" = some (some (.ref e3)))
    (ea4 : PySem.W.nsIn K mainGlobals "BadCase" = some (some (.ref e4)))
    (kx0 : PySem.W.subIn K (.ref e0) (.type "BaseException") = some true)
    (kt0 : PySem.W.typeIn K (.ref e0) = some (.type "type"))
    (kh0 : PySem.W.hasDictIn K e0 = true)
    (kx1 : PySem.W.subIn K (.ref e1) (.type "BaseException") = some true)
    (kt1 : PySem.W.typeIn K (.ref e1) = some (.type "type"))
    (kh1 : PySem.W.hasDictIn K e1 = true)
    (xl1 : K.lookup e1 = some (excClassObj nm1 q1 e1 N1 bs1 bm1 true sn1 sub1 ab1 col1 dd1 x1a x1b x1c x1d x1e "ValueError.__new__"))
    (xv1 : PySem.HandSPX.refsVE bm1 = true)
    (sa1 : PySem.W.findIn K (.ref e1) "__setattr__" = some (some (.builtin "object.__setattr__")))
    (kp1 : PySem.W.keepIn K (.ref e1) = true)
    (nf1 : PySem.W.findIn K (.ref e1) "at" = some none)
    (fi1 : PySem.W.findIn K (.ref e1) "__init__" = some (some (.ref i1)))
    (ti1 : PySem.W.typeIn K (.ref i1) = some (.type "function"))
    (li1 : K.lookup i1 = some ⟨oc1I, od1I, .func (PySem.W.fnOf "__init__" "BadNumber.__init__" (defArgs (inClass (top 3) 0)) (defBody (inClass (top 3) 0)) (defScope (inClass (top 3) 0)) .none kV1I dc1I pm1I an1I cd1I ct1I), sl1I⟩)
    (ci1 : PySem.W.codeIn K cd1I "BadNumber.__init__" = true)
    (ki1 : PySem.W.keepIn K (.ref i1) = true)
    (ga1 : PySem.W.findIn K (.ref e1) "__getattribute__" = some (some (.builtin "BaseException.__getattribute__")))
    (gg1 : PySem.W.findIn K (.ref e1) "__getattr__" = some none)
    (ic1 : PySem.W.isClsIn K e1 = true)
    (cc1 : PySem.W.findIn K (.ref e1) "__class__" = some (some (.builtin "object.__class__")))
    (hn1 : PySem.W.specialIn K (.builtin "object.__class__") "__get__" = some (some (.builtin "getset_descriptor.__get__")))
    (tk1 : PySem.W.takesIn K (.builtin "object.__class__") = some true)
    (mo1 : PySem.W.mroIn K e1 (.type "object") = some true)
    (kx2 : PySem.W.subIn K (.ref e2) (.type "BaseException") = some true)
    (kt2 : PySem.W.typeIn K (.ref e2) = some (.type "type"))
    (kh2 : PySem.W.hasDictIn K e2 = true)
    (xl2 : K.lookup e2 = some (excClassObj nm2 q2 e2 N2 bs2 bm2 true sn2 sub2 ab2 col2 dd2 x2a x2b x2c x2d x2e "ValueError.__new__"))
    (xv2 : PySem.HandSPX.refsVE bm2 = true)
    (sa2 : PySem.W.findIn K (.ref e2) "__setattr__" = some (some (.builtin "object.__setattr__")))
    (kp2 : PySem.W.keepIn K (.ref e2) = true)
    (nf2 : PySem.W.findIn K (.ref e2) "at" = some none)
    (fi2 : PySem.W.findIn K (.ref e2) "__init__" = some (some (.ref i2)))
    (ti2 : PySem.W.typeIn K (.ref i2) = some (.type "function"))
    (li2 : K.lookup i2 = some ⟨oc2I, od2I, .func (PySem.W.fnOf "__init__" "BadLook.__init__" (defArgs (inClass (top 4) 0)) (defBody (inClass (top 4) 0)) (defScope (inClass (top 4) 0)) .none kV2I dc2I pm2I an2I cd2I ct2I), sl2I⟩)
    (ci2 : PySem.W.codeIn K cd2I "BadLook.__init__" = true)
    (ki2 : PySem.W.keepIn K (.ref i2) = true)
    (ga2 : PySem.W.findIn K (.ref e2) "__getattribute__" = some (some (.builtin "BaseException.__getattribute__")))
    (gg2 : PySem.W.findIn K (.ref e2) "__getattr__" = some none)
    (ic2 : PySem.W.isClsIn K e2 = true)
    (cc2 : PySem.W.findIn K (.ref e2) "__class__" = some (some (.builtin "object.__class__")))
    (hn2 : PySem.W.specialIn K (.builtin "object.__class__") "__get__" = some (some (.builtin "getset_descriptor.__get__")))
    (tk2 : PySem.W.takesIn K (.builtin "object.__class__") = some true)
    (mo2 : PySem.W.mroIn K e2 (.type "object") = some true)
    (kx3 : PySem.W.subIn K (.ref e3) (.type "BaseException") = some true)
    (kt3 : PySem.W.typeIn K (.ref e3) = some (.type "type"))
    (kh3 : PySem.W.hasDictIn K e3 = true)
    (xl3 : K.lookup e3 = some (excClassObj nm3 q3 e3 N3 bs3 bm3 true sn3 sub3 ab3 col3 dd3 x3a x3b x3c x3d x3e "ValueError.__new__"))
    (xv3 : PySem.HandSPX.refsVE bm3 = true)
    (sa3 : PySem.W.findIn K (.ref e3) "__setattr__" = some (some (.builtin "object.__setattr__")))
    (kp3 : PySem.W.keepIn K (.ref e3) = true)
    (nf3 : PySem.W.findIn K (.ref e3) "at" = some none)
    (fi3 : PySem.W.findIn K (.ref e3) "__init__" = some (some (.ref i3)))
    (ti3 : PySem.W.typeIn K (.ref i3) = some (.type "function"))
    (li3 : K.lookup i3 = some ⟨oc3I, od3I, .func (PySem.W.fnOf "__init__" "BadRow.__init__" (defArgs (inClass (top 5) 0)) (defBody (inClass (top 5) 0)) (defScope (inClass (top 5) 0)) .none kV3I dc3I pm3I an3I cd3I ct3I), sl3I⟩)
    (ci3 : PySem.W.codeIn K cd3I "BadRow.__init__" = true)
    (ki3 : PySem.W.keepIn K (.ref i3) = true)
    (ga3 : PySem.W.findIn K (.ref e3) "__getattribute__" = some (some (.builtin "BaseException.__getattribute__")))
    (gg3 : PySem.W.findIn K (.ref e3) "__getattr__" = some none)
    (ic3 : PySem.W.isClsIn K e3 = true)
    (cc3 : PySem.W.findIn K (.ref e3) "__class__" = some (some (.builtin "object.__class__")))
    (hn3 : PySem.W.specialIn K (.builtin "object.__class__") "__get__" = some (some (.builtin "getset_descriptor.__get__")))
    (tk3 : PySem.W.takesIn K (.builtin "object.__class__") = some true)
    (mo3 : PySem.W.mroIn K e3 (.type "object") = some true)
    (kx4 : PySem.W.subIn K (.ref e4) (.type "BaseException") = some true)
    (kt4 : PySem.W.typeIn K (.ref e4) = some (.type "type"))
    (kh4 : PySem.W.hasDictIn K e4 = true)
    (xl4 : K.lookup e4 = some (excClassObj nm4 q4 e4 N4 bs4 bm4 true sn4 sub4 ab4 col4 dd4 x4a x4b x4c x4d x4e "ValueError.__new__"))
    (xv4 : PySem.HandSPX.refsVE bm4 = true)
    (sa4 : PySem.W.findIn K (.ref e4) "__setattr__" = some (some (.builtin "object.__setattr__")))
    (kp4 : PySem.W.keepIn K (.ref e4) = true)
    (nf4 : PySem.W.findIn K (.ref e4) "at" = some none)
    (fi4 : PySem.W.findIn K (.ref e4) "__init__" = some (some (.ref i4)))
    (ti4 : PySem.W.typeIn K (.ref i4) = some (.type "function"))
    (li4 : K.lookup i4 = some ⟨oc4I, od4I, .func (PySem.W.fnOf "__init__" "BadCase.__init__" (defArgs (inClass (top 6) 0)) (defBody (inClass (top 6) 0)) (defScope (inClass (top 6) 0)) .none kV4I dc4I pm4I an4I cd4I ct4I), sl4I⟩)
    (ci4 : PySem.W.codeIn K cd4I "BadCase.__init__" = true)
    (ki4 : PySem.W.keepIn K (.ref i4) = true)
    (ga4 : PySem.W.findIn K (.ref e4) "__getattribute__" = some (some (.builtin "BaseException.__getattribute__")))
    (gg4 : PySem.W.findIn K (.ref e4) "__getattr__" = some none)
    (ic4 : PySem.W.isClsIn K e4 = true)
    (cc4 : PySem.W.findIn K (.ref e4) "__class__" = some (some (.builtin "object.__class__")))
    (hn4 : PySem.W.specialIn K (.builtin "object.__class__") "__get__" = some (some (.builtin "getset_descriptor.__get__")))
    (tk4 : PySem.W.takesIn K (.builtin "object.__class__") = some true)
    (mo4 : PySem.W.mroIn K e4 (.type "object") = some true)
    (su1_0 : PySem.W.subIn K (.ref e1) (.ref e0) = some true)
    (kk1_0 : PySem.W.kitOne K (.ref e1) (.ref e0) = some true)
    (su1_1 : PySem.W.subIn K (.ref e1) (.ref e1) = some true)
    (kk1_1 : PySem.W.kitOne K (.ref e1) (.ref e1) = some true)
    (su1_2 : PySem.W.subIn K (.ref e1) (.ref e2) = some false)
    (kk1_2 : PySem.W.kitOne K (.ref e1) (.ref e2) = some false)
    (su1_3 : PySem.W.subIn K (.ref e1) (.ref e3) = some false)
    (kk1_3 : PySem.W.kitOne K (.ref e1) (.ref e3) = some false)
    (su1_4 : PySem.W.subIn K (.ref e1) (.ref e4) = some false)
    (kk1_4 : PySem.W.kitOne K (.ref e1) (.ref e4) = some false)
    (su2_0 : PySem.W.subIn K (.ref e2) (.ref e0) = some true)
    (kk2_0 : PySem.W.kitOne K (.ref e2) (.ref e0) = some true)
    (su2_1 : PySem.W.subIn K (.ref e2) (.ref e1) = some false)
    (kk2_1 : PySem.W.kitOne K (.ref e2) (.ref e1) = some false)
    (su2_2 : PySem.W.subIn K (.ref e2) (.ref e2) = some true)
    (kk2_2 : PySem.W.kitOne K (.ref e2) (.ref e2) = some true)
    (su2_3 : PySem.W.subIn K (.ref e2) (.ref e3) = some false)
    (kk2_3 : PySem.W.kitOne K (.ref e2) (.ref e3) = some false)
    (su2_4 : PySem.W.subIn K (.ref e2) (.ref e4) = some false)
    (kk2_4 : PySem.W.kitOne K (.ref e2) (.ref e4) = some false)
    (su3_0 : PySem.W.subIn K (.ref e3) (.ref e0) = some true)
    (kk3_0 : PySem.W.kitOne K (.ref e3) (.ref e0) = some true)
    (su3_1 : PySem.W.subIn K (.ref e3) (.ref e1) = some false)
    (kk3_1 : PySem.W.kitOne K (.ref e3) (.ref e1) = some false)
    (su3_2 : PySem.W.subIn K (.ref e3) (.ref e2) = some false)
    (kk3_2 : PySem.W.kitOne K (.ref e3) (.ref e2) = some false)
    (su3_3 : PySem.W.subIn K (.ref e3) (.ref e3) = some true)
    (kk3_3 : PySem.W.kitOne K (.ref e3) (.ref e3) = some true)
    (su3_4 : PySem.W.subIn K (.ref e3) (.ref e4) = some false)
    (kk3_4 : PySem.W.kitOne K (.ref e3) (.ref e4) = some false)
    (su4_0 : PySem.W.subIn K (.ref e4) (.ref e0) = some true)
    (kk4_0 : PySem.W.kitOne K (.ref e4) (.ref e0) = some true)
    (su4_1 : PySem.W.subIn K (.ref e4) (.ref e1) = some false)
    (kk4_1 : PySem.W.kitOne K (.ref e4) (.ref e1) = some false)
    (su4_2 : PySem.W.subIn K (.ref e4) (.ref e2) = some false)
    (kk4_2 : PySem.W.kitOne K (.ref e4) (.ref e2) = some false)
    (su4_3 : PySem.W.subIn K (.ref e4) (.ref e3) = some false)
    (kk4_3 : PySem.W.kitOne K (.ref e4) (.ref e3) = some false)
    (su4_4 : PySem.W.subIn K (.ref e4) (.ref e4) = some true)
    (kk4_4 : PySem.W.kitOne K (.ref e4) (.ref e4) = some true)
    (a0 : PySem.W.nsIn K mainGlobals "is_int" = some (some (.ref f0)))
    (l0 : K.lookup f0 = some ⟨oc0, od0, .func (PySem.W.fnOf "is_int" "is_int" (defArgs (top 8)) (defBody (top 8)) (defScope (top 8)) .none kV0 dc0 pm0 an0 cd0 ct0), sl0⟩)
    (c0 : PySem.W.codeIn K cd0 "is_int" = true)
    (k0 : PySem.W.keepIn K (.ref f0) = true)
    (a1 : PySem.W.nsIn K mainGlobals "plain_form" = some (some (.ref f1)))
    (l1 : K.lookup f1 = some ⟨oc1, od1, .func (PySem.W.fnOf "plain_form" "plain_form" (defArgs (top 9)) (defBody (top 9)) (defScope (top 9)) .none kV1 dc1 pm1 an1 cd1 ct1), sl1⟩)
    (c1 : PySem.W.codeIn K cd1 "plain_form" = true)
    (k1 : PySem.W.keepIn K (.ref f1) = true)
    (a2 : PySem.W.nsIn K mainGlobals "check_number" = some (some (.ref f2)))
    (l2 : K.lookup f2 = some ⟨oc2, od2, .func (PySem.W.fnOf "check_number" "check_number" (defArgs (top 10)) (defBody (top 10)) (defScope (top 10)) .none kV2 dc2 pm2 an2 cd2 ct2), sl2⟩)
    (c2 : PySem.W.codeIn K cd2 "check_number" = true)
    (k2 : PySem.W.keepIn K (.ref f2) = true)
    (a3 : PySem.W.nsIn K mainGlobals "check_integers" = some (some (.ref f3)))
    (l3 : K.lookup f3 = some ⟨oc3, od3, .func (PySem.W.fnOf "check_integers" "check_integers" (defArgs (top 12)) (defBody (top 12)) (defScope (top 12)) .none kV3 dc3 pm3 an3 cd3 ct3), sl3⟩)
    (c3 : PySem.W.codeIn K cd3 "check_integers" = true)
    (k3 : PySem.W.keepIn K (.ref f3) = true)
    (a4 : PySem.W.nsIn K mainGlobals "fence_of_plain" = some (some (.ref f4)))
    (l4 : K.lookup f4 = some ⟨oc4, od4, .func (PySem.W.fnOf "fence_of_plain" "fence_of_plain" (defArgs (top 13)) (defBody (top 13)) (defScope (top 13)) .none kV4 dc4 pm4 an4 cd4 ct4), sl4⟩)
    (c4 : PySem.W.codeIn K cd4 "fence_of_plain" = true)
    (k4 : PySem.W.keepIn K (.ref f4) = true)
    (a5 : PySem.W.nsIn K mainGlobals "primes_of" = some (some (.ref f5)))
    (l5 : K.lookup f5 = some ⟨oc5, od5, .func (PySem.W.fnOf "primes_of" "primes_of" (defArgs (top 15)) (defBody (top 15)) (defScope (top 15)) .none kV5 dc5 pm5 an5 cd5 ct5), sl5⟩)
    (c5 : PySem.W.codeIn K cd5 "primes_of" = true)
    (k5 : PySem.W.keepIn K (.ref f5) = true)
    (a6 : PySem.W.nsIn K mainGlobals "prime_factors" = some (some (.ref f6)))
    (l6 : K.lookup f6 = some ⟨oc6, od6, .func (PySem.W.fnOf "prime_factors" "prime_factors" (defArgs (top 16)) (defBody (top 16)) (defScope (top 16)) .none kV6 dc6 pm6 an6 cd6 ct6), sl6⟩)
    (c6 : PySem.W.codeIn K cd6 "prime_factors" = true)
    (k6 : PySem.W.keepIn K (.ref f6) = true)
    (a7 : PySem.W.nsIn K mainGlobals "lots_by_prime" = some (some (.ref f7)))
    (l7 : K.lookup f7 = some ⟨oc7, od7, .func (PySem.W.fnOf "lots_by_prime" "lots_by_prime" (defArgs (top 17)) (defBody (top 17)) (defScope (top 17)) .none kV7 dc7 pm7 an7 cd7 ct7), sl7⟩)
    (c7 : PySem.W.codeIn K cd7 "lots_by_prime" = true)
    (k7 : PySem.W.keepIn K (.ref f7) = true)
    (a8 : PySem.W.nsIn K mainGlobals "prime_lots" = some (some (.ref f8)))
    (l8 : K.lookup f8 = some ⟨oc8, od8, .func (PySem.W.fnOf "prime_lots" "prime_lots" (defArgs (top 18)) (defBody (top 18)) (defScope (top 18)) .none kV8 dc8 pm8 an8 cd8 ct8), sl8⟩)
    (c8 : PySem.W.codeIn K cd8 "prime_lots" = true)
    (k8 : PySem.W.keepIn K (.ref f8) = true)
    (a9 : PySem.W.nsIn K mainGlobals "fewest_meeting_numbers" = some (some (.ref f9)))
    (l9 : K.lookup f9 = some ⟨oc9, od9, .func (PySem.W.fnOf "fewest_meeting_numbers" "fewest_meeting_numbers" (defArgs (top 19)) (defBody (top 19)) (defScope (top 19)) .none kV9 dc9 pm9 an9 cd9 ct9), sl9⟩)
    (c9 : PySem.W.codeIn K cd9 "fewest_meeting_numbers" = true)
    (k9 : PySem.W.keepIn K (.ref f9) = true)
    (a10 : PySem.W.nsIn K mainGlobals "fewest_values" = some (some (.ref f10)))
    (l10 : K.lookup f10 = some ⟨oc10, od10, .func (PySem.W.fnOf "fewest_values" "fewest_values" (defArgs (top 20)) (defBody (top 20)) (defScope (top 20)) .none kV10 dc10 pm10 an10 cd10 ct10), sl10⟩)
    (c10 : PySem.W.codeIn K cd10 "fewest_values" = true)
    (k10 : PySem.W.keepIn K (.ref f10) = true)
    (a11 : PySem.W.nsIn K mainGlobals "fewest_value_number" = some (some (.ref f11)))
    (l11 : K.lookup f11 = some ⟨oc11, od11, .func (PySem.W.fnOf "fewest_value_number" "fewest_value_number" (defArgs (top 21)) (defBody (top 21)) (defScope (top 21)) .none kV11 dc11 pm11 an11 cd11 ct11), sl11⟩)
    (c11 : PySem.W.codeIn K cd11 "fewest_value_number" = true)
    (k11 : PySem.W.keepIn K (.ref f11) = true)
    (a12 : PySem.W.nsIn K mainGlobals "shows_values" = some (some (.ref f12)))
    (l12 : K.lookup f12 = some ⟨oc12, od12, .func (PySem.W.fnOf "shows_values" "shows_values" (defArgs (top 22)) (defBody (top 22)) (defScope (top 22)) .none kV12 dc12 pm12 an12 cd12 ct12), sl12⟩)
    (c12 : PySem.W.codeIn K cd12 "shows_values" = true)
    (k12 : PySem.W.keepIn K (.ref f12) = true)
    (a13 : PySem.W.nsIn K mainGlobals "_law_draws" = some (some (.ref f13)))
    (l13 : K.lookup f13 = some ⟨oc13, od13, .func (PySem.W.fnOf "_law_draws" "_law_draws" (defArgs (top 24)) (defBody (top 24)) (defScope (top 24)) .none kV13 dc13 pm13 an13 cd13 ct13), sl13⟩)
    (c13 : PySem.W.codeIn K cd13 "_law_draws" = true)
    (k13 : PySem.W.keepIn K (.ref f13) = true)
    (a14 : PySem.W.nsIn K mainGlobals "_law_take" = some (some (.ref f14)))
    (l14 : K.lookup f14 = some ⟨oc14, od14, .func (PySem.W.fnOf "_law_take" "_law_take" (defArgs (top 25)) (defBody (top 25)) (defScope (top 25)) .none kV14 dc14 pm14 an14 cd14 ct14), sl14⟩)
    (c14 : PySem.W.codeIn K cd14 "_law_take" = true)
    (k14 : PySem.W.keepIn K (.ref f14) = true)
    (a15 : PySem.W.nsIn K mainGlobals "_law_gcd" = some (some (.ref f15)))
    (l15 : K.lookup f15 = some ⟨oc15, od15, .func (PySem.W.fnOf "_law_gcd" "_law_gcd" (defArgs (top 26)) (defBody (top 26)) (defScope (top 26)) .none kV15 dc15 pm15 an15 cd15 ct15), sl15⟩)
    (c15 : PySem.W.codeIn K cd15 "_law_gcd" = true)
    (k15 : PySem.W.keepIn K (.ref f15) = true)
    (a16 : PySem.W.nsIn K mainGlobals "_law_just" = some (some (.ref f16)))
    (l16 : K.lookup f16 = some ⟨oc16, od16, .func (PySem.W.fnOf "_law_just" "_law_just" (defArgs (top 27)) (defBody (top 27)) (defScope (top 27)) .none kV16 dc16 pm16 an16 cd16 ct16), sl16⟩)
    (c16 : PySem.W.codeIn K cd16 "_law_just" = true)
    (k16 : PySem.W.keepIn K (.ref f16) = true)
    (a17 : PySem.W.nsIn K mainGlobals "_law_fence" = some (some (.ref f17)))
    (l17 : K.lookup f17 = some ⟨oc17, od17, .func (PySem.W.fnOf "_law_fence" "_law_fence" (defArgs (top 28)) (defBody (top 28)) (defScope (top 28)) .none kV17 dc17 pm17 an17 cd17 ct17), sl17⟩)
    (c17 : PySem.W.codeIn K cd17 "_law_fence" = true)
    (k17 : PySem.W.keepIn K (.ref f17) = true)
    (a18 : PySem.W.nsIn K mainGlobals "_law_primes" = some (some (.ref f18)))
    (l18 : K.lookup f18 = some ⟨oc18, od18, .func (PySem.W.fnOf "_law_primes" "_law_primes" (defArgs (top 29)) (defBody (top 29)) (defScope (top 29)) .none kV18 dc18 pm18 an18 cd18 ct18), sl18⟩)
    (c18 : PySem.W.codeIn K cd18 "_law_primes" = true)
    (k18 : PySem.W.keepIn K (.ref f18) = true)
    (a19 : PySem.W.nsIn K mainGlobals "_law_unlike" = some (some (.ref f19)))
    (l19 : K.lookup f19 = some ⟨oc19, od19, .func (PySem.W.fnOf "_law_unlike" "_law_unlike" (defArgs (top 30)) (defBody (top 30)) (defScope (top 30)) .none kV19 dc19 pm19 an19 cd19 ct19), sl19⟩)
    (c19 : PySem.W.codeIn K cd19 "_law_unlike" = true)
    (k19 : PySem.W.keepIn K (.ref f19) = true)
    (a20 : PySem.W.nsIn K mainGlobals "_law_own_lots" = some (some (.ref f20)))
    (l20 : K.lookup f20 = some ⟨oc20, od20, .func (PySem.W.fnOf "_law_own_lots" "_law_own_lots" (defArgs (top 31)) (defBody (top 31)) (defScope (top 31)) .none kV20 dc20 pm20 an20 cd20 ct20), sl20⟩)
    (c20 : PySem.W.codeIn K cd20 "_law_own_lots" = true)
    (k20 : PySem.W.keepIn K (.ref f20) = true)
    (a21 : PySem.W.nsIn K mainGlobals "_law_tries" = some (some (.ref f21)))
    (l21 : K.lookup f21 = some ⟨oc21, od21, .func (PySem.W.fnOf "_law_tries" "_law_tries" (defArgs (top 32)) (defBody (top 32)) (defScope (top 32)) .none kV21 dc21 pm21 an21 cd21 ct21), sl21⟩)
    (c21 : PySem.W.codeIn K cd21 "_law_tries" = true)
    (k21 : PySem.W.keepIn K (.ref f21) = true)
    (a22 : PySem.W.nsIn K mainGlobals "_law_shows" = some (some (.ref f22)))
    (l22 : K.lookup f22 = some ⟨oc22, od22, .func (PySem.W.fnOf "_law_shows" "_law_shows" (defArgs (top 33)) (defBody (top 33)) (defScope (top 33)) .none kV22 dc22 pm22 an22 cd22 ct22), sl22⟩)
    (c22 : PySem.W.codeIn K cd22 "_law_shows" = true)
    (k22 : PySem.W.keepIn K (.ref f22) = true)
    (a23 : PySem.W.nsIn K mainGlobals "_law_papers" = some (some (.ref f23)))
    (l23 : K.lookup f23 = some ⟨oc23, od23, .func (PySem.W.fnOf "_law_papers" "_law_papers" (defArgs (top 34)) (defBody (top 34)) (defScope (top 34)) .none kV23 dc23 pm23 an23 cd23 ct23), sl23⟩)
    (c23 : PySem.W.codeIn K cd23 "_law_papers" = true)
    (k23 : PySem.W.keepIn K (.ref f23) = true)
    (a24 : PySem.W.nsIn K mainGlobals "_law_values_told" = some (some (.ref f24)))
    (l24 : K.lookup f24 = some ⟨oc24, od24, .func (PySem.W.fnOf "_law_values_told" "_law_values_told" (defArgs (top 35)) (defBody (top 35)) (defScope (top 35)) .none kV24 dc24 pm24 an24 cd24 ct24), sl24⟩)
    (c24 : PySem.W.codeIn K cd24 "_law_values_told" = true)
    (k24 : PySem.W.keepIn K (.ref f24) = true)
    (a25 : PySem.W.nsIn K mainGlobals "_law_family" = some (some (.ref f25)))
    (l25 : K.lookup f25 = some ⟨oc25, od25, .func (PySem.W.fnOf "_law_family" "_law_family" (defArgs (top 36)) (defBody (top 36)) (defScope (top 36)) .none kV25 dc25 pm25 an25 cd25 ct25), sl25⟩)
    (c25 : PySem.W.codeIn K cd25 "_law_family" = true)
    (k25 : PySem.W.keepIn K (.ref f25) = true)
    (a26 : PySem.W.nsIn K mainGlobals "_law_call" = some (some (.ref f26)))
    (l26 : K.lookup f26 = some ⟨oc26, od26, .func (PySem.W.fnOf "_law_call" "_law_call" (defArgs (top 37)) (defBody (top 37)) (defScope (top 37)) .none kV26 dc26 pm26 an26 cd26 ct26), sl26⟩)
    (c26 : PySem.W.codeIn K cd26 "_law_call" = true)
    (k26 : PySem.W.keepIn K (.ref f26) = true)
    (a27 : PySem.W.nsIn K mainGlobals "_law_refused" = some (some (.ref f27)))
    (l27 : K.lookup f27 = some ⟨oc27, od27, .func (PySem.W.fnOf "_law_refused" "_law_refused" (defArgs (top 38)) (defBody (top 38)) (defScope (top 38)) .none kV27 dc27 pm27 an27 cd27 ct27), sl27⟩)
    (c27 : PySem.W.codeIn K cd27 "_law_refused" = true)
    (k27 : PySem.W.keepIn K (.ref f27) = true)
    (a28 : PySem.W.nsIn K mainGlobals "_law_refuses" = some (some (.ref f28)))
    (l28 : K.lookup f28 = some ⟨oc28, od28, .func (PySem.W.fnOf "_law_refuses" "_law_refuses" (defArgs (top 39)) (defBody (top 39)) (defScope (top 39)) .none kV28 dc28 pm28 an28 cd28 ct28), sl28⟩)
    (c28 : PySem.W.codeIn K cd28 "_law_refuses" = true)
    (k28 : PySem.W.keepIn K (.ref f28) = true)
    (a29 : PySem.W.nsIn K mainGlobals "_law_factors_told" = some (some (.ref f29)))
    (l29 : K.lookup f29 = some ⟨oc29, od29, .func (PySem.W.fnOf "_law_factors_told" "_law_factors_told" (defArgs (top 40)) (defBody (top 40)) (defScope (top 40)) .none kV29 dc29 pm29 an29 cd29 ct29), sl29⟩)
    (c29 : PySem.W.codeIn K cd29 "_law_factors_told" = true)
    (k29 : PySem.W.keepIn K (.ref f29) = true)
    (a30 : PySem.W.nsIn K mainGlobals "law" = some (some (.ref f30)))
    (l30 : K.lookup f30 = some ⟨oc30, od30, .func (PySem.W.fnOf "law" "law" (defArgs (top 41)) (defBody (top 41)) (defScope (top 41)) .none kV30 dc30 pm30 an30 cd30 ct30), sl30⟩)
    (c30 : PySem.W.codeIn K cd30 "law" = true)
    (k30 : PySem.W.keepIn K (.ref f30) = true)
    : ∃ fd : FuncData, (∀ (s : Shared) (v : Value), BindsTo s fd ⟨[v], []⟩ [("script", v)]) ∧ ∀ base : Heap, K.In base → base.Ns mainGlobals mg → FnOkG P w K mg base (L2.CX P w) 9 fa fd ["script"] (spOf K mg 1 den_law) := by
  have e := hfa.symm.trans (PySem.W.mg_of X G a30)
  cases e
  have I1 := fun_mk (st := (inClass (top 3) 0)) li1 ci1 ki1
  have I2 := fun_mk (st := (inClass (top 4) 0)) li2 ci2 ki2
  have I3 := fun_mk (st := (inClass (top 5) 0)) li3 ci3 ki3
  have I4 := fun_mk (st := (inClass (top 6) 0)) li4 ci4 ki4
  have F0 := fun_mk (st := top 8) l0 c0 k0
  have F1 := fun_mk (st := top 9) l1 c1 k1
  have F2 := fun_mk (st := top 10) l2 c2 k2
  have F3 := fun_mk (st := top 12) l3 c3 k3
  have F4 := fun_mk (st := top 13) l4 c4 k4
  have F5 := fun_mk (st := top 15) l5 c5 k5
  have F6 := fun_mk (st := top 16) l6 c6 k6
  have F7 := fun_mk (st := top 17) l7 c7 k7
  have F8 := fun_mk (st := top 18) l8 c8 k8
  have F9 := fun_mk (st := top 19) l9 c9 k9
  have F10 := fun_mk (st := top 20) l10 c10 k10
  have F11 := fun_mk (st := top 21) l11 c11 k11
  have F12 := fun_mk (st := top 22) l12 c12 k12
  have F13 := fun_mk (st := top 24) l13 c13 k13
  have F14 := fun_mk (st := top 25) l14 c14 k14
  have F15 := fun_mk (st := top 26) l15 c15 k15
  have F16 := fun_mk (st := top 27) l16 c16 k16
  have F17 := fun_mk (st := top 28) l17 c17 k17
  have F18 := fun_mk (st := top 29) l18 c18 k18
  have F19 := fun_mk (st := top 30) l19 c19 k19
  have F20 := fun_mk (st := top 31) l20 c20 k20
  have F21 := fun_mk (st := top 32) l21 c21 k21
  have F22 := fun_mk (st := top 33) l22 c22 k22
  have F23 := fun_mk (st := top 34) l23 c23 k23
  have F24 := fun_mk (st := top 35) l24 c24 k24
  have F25 := fun_mk (st := top 36) l25 c25 k25
  have F26 := fun_mk (st := top 37) l26 c26 k26
  have F27 := fun_mk (st := top 38) l27 c27 k27
  have F28 := fun_mk (st := top 39) l28 c28 k28
  have F29 := fun_mk (st := top 40) l29 c29 k29
  have F30 := fun_mk (st := top 41) l30 c30 k30
  have T : ∀ base, Txt P w K mg base (fun i => ([f0, f1, f2, f3, f4, f5, f6, f7, f8, f9, f10, f11, f12, f13, f14, f15, f16, f17, f18, f19, f20, f21, f22, f23, f24, f25, f26, f27, f28, f29, fa] : List _).getD i 0) (fun i => ([PySem.W.fnOf "is_int" "is_int" (defArgs (top 8)) (defBody (top 8)) (defScope (top 8)) .none kV0 dc0 pm0 an0 cd0 ct0, PySem.W.fnOf "plain_form" "plain_form" (defArgs (top 9)) (defBody (top 9)) (defScope (top 9)) .none kV1 dc1 pm1 an1 cd1 ct1, PySem.W.fnOf "check_number" "check_number" (defArgs (top 10)) (defBody (top 10)) (defScope (top 10)) .none kV2 dc2 pm2 an2 cd2 ct2, PySem.W.fnOf "check_integers" "check_integers" (defArgs (top 12)) (defBody (top 12)) (defScope (top 12)) .none kV3 dc3 pm3 an3 cd3 ct3, PySem.W.fnOf "fence_of_plain" "fence_of_plain" (defArgs (top 13)) (defBody (top 13)) (defScope (top 13)) .none kV4 dc4 pm4 an4 cd4 ct4, PySem.W.fnOf "primes_of" "primes_of" (defArgs (top 15)) (defBody (top 15)) (defScope (top 15)) .none kV5 dc5 pm5 an5 cd5 ct5, PySem.W.fnOf "prime_factors" "prime_factors" (defArgs (top 16)) (defBody (top 16)) (defScope (top 16)) .none kV6 dc6 pm6 an6 cd6 ct6, PySem.W.fnOf "lots_by_prime" "lots_by_prime" (defArgs (top 17)) (defBody (top 17)) (defScope (top 17)) .none kV7 dc7 pm7 an7 cd7 ct7, PySem.W.fnOf "prime_lots" "prime_lots" (defArgs (top 18)) (defBody (top 18)) (defScope (top 18)) .none kV8 dc8 pm8 an8 cd8 ct8, PySem.W.fnOf "fewest_meeting_numbers" "fewest_meeting_numbers" (defArgs (top 19)) (defBody (top 19)) (defScope (top 19)) .none kV9 dc9 pm9 an9 cd9 ct9, PySem.W.fnOf "fewest_values" "fewest_values" (defArgs (top 20)) (defBody (top 20)) (defScope (top 20)) .none kV10 dc10 pm10 an10 cd10 ct10, PySem.W.fnOf "fewest_value_number" "fewest_value_number" (defArgs (top 21)) (defBody (top 21)) (defScope (top 21)) .none kV11 dc11 pm11 an11 cd11 ct11, PySem.W.fnOf "shows_values" "shows_values" (defArgs (top 22)) (defBody (top 22)) (defScope (top 22)) .none kV12 dc12 pm12 an12 cd12 ct12, PySem.W.fnOf "_law_draws" "_law_draws" (defArgs (top 24)) (defBody (top 24)) (defScope (top 24)) .none kV13 dc13 pm13 an13 cd13 ct13, PySem.W.fnOf "_law_take" "_law_take" (defArgs (top 25)) (defBody (top 25)) (defScope (top 25)) .none kV14 dc14 pm14 an14 cd14 ct14, PySem.W.fnOf "_law_gcd" "_law_gcd" (defArgs (top 26)) (defBody (top 26)) (defScope (top 26)) .none kV15 dc15 pm15 an15 cd15 ct15, PySem.W.fnOf "_law_just" "_law_just" (defArgs (top 27)) (defBody (top 27)) (defScope (top 27)) .none kV16 dc16 pm16 an16 cd16 ct16, PySem.W.fnOf "_law_fence" "_law_fence" (defArgs (top 28)) (defBody (top 28)) (defScope (top 28)) .none kV17 dc17 pm17 an17 cd17 ct17, PySem.W.fnOf "_law_primes" "_law_primes" (defArgs (top 29)) (defBody (top 29)) (defScope (top 29)) .none kV18 dc18 pm18 an18 cd18 ct18, PySem.W.fnOf "_law_unlike" "_law_unlike" (defArgs (top 30)) (defBody (top 30)) (defScope (top 30)) .none kV19 dc19 pm19 an19 cd19 ct19, PySem.W.fnOf "_law_own_lots" "_law_own_lots" (defArgs (top 31)) (defBody (top 31)) (defScope (top 31)) .none kV20 dc20 pm20 an20 cd20 ct20, PySem.W.fnOf "_law_tries" "_law_tries" (defArgs (top 32)) (defBody (top 32)) (defScope (top 32)) .none kV21 dc21 pm21 an21 cd21 ct21, PySem.W.fnOf "_law_shows" "_law_shows" (defArgs (top 33)) (defBody (top 33)) (defScope (top 33)) .none kV22 dc22 pm22 an22 cd22 ct22, PySem.W.fnOf "_law_papers" "_law_papers" (defArgs (top 34)) (defBody (top 34)) (defScope (top 34)) .none kV23 dc23 pm23 an23 cd23 ct23, PySem.W.fnOf "_law_values_told" "_law_values_told" (defArgs (top 35)) (defBody (top 35)) (defScope (top 35)) .none kV24 dc24 pm24 an24 cd24 ct24, PySem.W.fnOf "_law_family" "_law_family" (defArgs (top 36)) (defBody (top 36)) (defScope (top 36)) .none kV25 dc25 pm25 an25 cd25 ct25, PySem.W.fnOf "_law_call" "_law_call" (defArgs (top 37)) (defBody (top 37)) (defScope (top 37)) .none kV26 dc26 pm26 an26 cd26 ct26, PySem.W.fnOf "_law_refused" "_law_refused" (defArgs (top 38)) (defBody (top 38)) (defScope (top 38)) .none kV27 dc27 pm27 an27 cd27 ct27, PySem.W.fnOf "_law_refuses" "_law_refuses" (defArgs (top 39)) (defBody (top 39)) (defScope (top 39)) .none kV28 dc28 pm28 an28 cd28 ct28, PySem.W.fnOf "_law_factors_told" "_law_factors_told" (defArgs (top 40)) (defBody (top 40)) (defScope (top 40)) .none kV29 dc29 pm29 an29 cd29 ct29, PySem.W.fnOf "law" "law" (defArgs (top 41)) (defBody (top 41)) (defScope (top 41)) .none kV30 dc30 pm30 an30 cd30 ct30] : List _).getD i (PySem.W.fnOf "law" "law" (defArgs (top 41)) (defBody (top 41)) (defScope (top 41)) .none kV30 dc30 pm30 an30 cd30 ct30)) (fun i => ([e0, e1, e2, e3, e4] : List _).getD i 0) (fun i => ([0, i1, i2, i3, i4] : List _).getD i 0) (fun i => ([PySem.W.fnOf "law" "law" (defArgs (top 41)) (defBody (top 41)) (defScope (top 41)) .none kV30 dc30 pm30 an30 cd30 ct30, PySem.W.fnOf "__init__" "BadNumber.__init__" (defArgs (inClass (top 3) 0)) (defBody (inClass (top 3) 0)) (defScope (inClass (top 3) 0)) .none kV1I dc1I pm1I an1I cd1I ct1I, PySem.W.fnOf "__init__" "BadLook.__init__" (defArgs (inClass (top 4) 0)) (defBody (inClass (top 4) 0)) (defScope (inClass (top 4) 0)) .none kV2I dc2I pm2I an2I cd2I ct2I, PySem.W.fnOf "__init__" "BadRow.__init__" (defArgs (inClass (top 5) 0)) (defBody (inClass (top 5) 0)) (defScope (inClass (top 5) 0)) .none kV3I dc3I pm3I an3I cd3I ct3I, PySem.W.fnOf "__init__" "BadCase.__init__" (defArgs (inClass (top 6) 0)) (defBody (inClass (top 6) 0)) (defScope (inClass (top 6) 0)) .none kV4I dc4I pm4I an4I cd4I ct4I] : List _).getD i (PySem.W.fnOf "law" "law" (defArgs (top 41)) (defBody (top 41)) (defScope (top 41)) .none kV30 dc30 pm30 an30 cd30 ct30)) := fun base => {
    n_abs := PySem.W.mg_none_of X G z_abs,
    n_all := PySem.W.mg_none_of X G z_all,
    n_bool := PySem.W.mg_none_of X G z_bool,
    n_dict := PySem.W.mg_none_of X G z_dict,
    n_enumerate := PySem.W.mg_none_of X G z_enumerate,
    n_int := PySem.W.mg_none_of X G z_int,
    n_isinstance := PySem.W.mg_none_of X G z_isinstance,
    n_len := PySem.W.mg_none_of X G z_len,
    n_list := PySem.W.mg_none_of X G z_list,
    n_max := PySem.W.mg_none_of X G z_max,
    n_min := PySem.W.mg_none_of X G z_min,
    n_range := PySem.W.mg_none_of X G z_range,
    n_repr := PySem.W.mg_none_of X G z_repr,
    n_sorted := PySem.W.mg_none_of X G z_sorted,
    n_str := PySem.W.mg_none_of X G z_str,
    n_tuple := PySem.W.mg_none_of X G z_tuple,
    m_gcd := PySem.W.mg_of X G m_gcd,
    d_is_int := ⟨PySem.W.mg_of X G a0, F0, F0.binds (ps := ["x"]) fun _ _ _ _ _ _ us hl => match us, hl with | [_], _ => rfl⟩,
    d_plain_form := ⟨PySem.W.mg_of X G a1, F1, F1.binds (ps := ["x"]) fun _ _ _ _ _ _ us hl => match us, hl with | [_], _ => rfl⟩,
    d_check_number := ⟨PySem.W.mg_of X G a2, F2, F2.binds (ps := ["x", "least"]) fun _ _ _ _ _ _ us hl => match us, hl with | [_, _], _ => rfl⟩,
    d_check_integers := ⟨PySem.W.mg_of X G a3, F3, F3.binds (ps := ["numbers"]) fun _ _ _ _ _ _ us hl => match us, hl with | [_], _ => rfl⟩,
    d_fence_of_plain := ⟨PySem.W.mg_of X G a4, F4, F4.binds (ps := ["numbers"]) fun _ _ _ _ _ _ us hl => match us, hl with | [_], _ => rfl⟩,
    d_primes_of := ⟨PySem.W.mg_of X G a5, F5, F5.binds (ps := ["n"]) fun _ _ _ _ _ _ us hl => match us, hl with | [_], _ => rfl⟩,
    d_prime_factors := ⟨PySem.W.mg_of X G a6, F6, F6.binds (ps := ["n"]) fun _ _ _ _ _ _ us hl => match us, hl with | [_], _ => rfl⟩,
    d_lots_by_prime := ⟨PySem.W.mg_of X G a7, F7, F7.binds (ps := ["numbers"]) fun _ _ _ _ _ _ us hl => match us, hl with | [_], _ => rfl⟩,
    d_prime_lots := ⟨PySem.W.mg_of X G a8, F8, F8.binds (ps := ["values"]) fun _ _ _ _ _ _ us hl => match us, hl with | [_], _ => rfl⟩,
    d_fewest_meeting_numbers := ⟨PySem.W.mg_of X G a9, F9, F9.binds (ps := ["lots"]) fun _ _ _ _ _ _ us hl => match us, hl with | [_], _ => rfl⟩,
    d_fewest_values := ⟨PySem.W.mg_of X G a10, F10, F10.binds (ps := ["values"]) fun _ _ _ _ _ _ us hl => match us, hl with | [_], _ => rfl⟩,
    d_fewest_value_number := ⟨PySem.W.mg_of X G a11, F11, F11.binds (ps := ["values"]) fun _ _ _ _ _ _ us hl => match us, hl with | [_], _ => rfl⟩,
    d_shows_values := ⟨PySem.W.mg_of X G a12, F12, F12.binds (ps := ["values", "paper"]) fun _ _ _ _ _ _ us hl => match us, hl with | [_, _], _ => rfl⟩,
    d_law_draws := ⟨PySem.W.mg_of X G a13, F13, F13.binds (ps := ["script"]) fun _ _ _ _ _ _ us hl => match us, hl with | [_], _ => rfl⟩,
    d_law_take := ⟨PySem.W.mg_of X G a14, F14, F14.binds (ps := ["draws", "many"]) fun _ _ _ _ _ _ us hl => match us, hl with | [_, _], _ => rfl⟩,
    d_law_gcd := ⟨PySem.W.mg_of X G a15, F15, F15.binds (ps := ["a", "b"]) fun _ _ _ _ _ _ us hl => match us, hl with | [_, _], _ => rfl⟩,
    d_law_just := ⟨PySem.W.mg_of X G a16, F16, F16.binds (ps := ["told", "due"]) fun _ _ _ _ _ _ us hl => match us, hl with | [_, _], _ => rfl⟩,
    d_law_fence := ⟨PySem.W.mg_of X G a17, F17, F17.binds (ps := ["values"]) fun _ _ _ _ _ _ us hl => match us, hl with | [_], _ => rfl⟩,
    d_law_primes := ⟨PySem.W.mg_of X G a18, F18, F18.binds (ps := ["number"]) fun _ _ _ _ _ _ us hl => match us, hl with | [_], _ => rfl⟩,
    d_law_unlike := ⟨PySem.W.mg_of X G a19, F19, F19.binds (ps := ["values"]) fun _ _ _ _ _ _ us hl => match us, hl with | [_], _ => rfl⟩,
    d_law_own_lots := ⟨PySem.W.mg_of X G a20, F20, F20.binds (ps := ["values", "primes"]) fun _ _ _ _ _ _ us hl => match us, hl with | [_, _], _ => rfl⟩,
    d_law_tries := ⟨PySem.W.mg_of X G a21, F21, F21.binds (ps := ["values"]) fun _ _ _ _ _ _ us hl => match us, hl with | [_], _ => rfl⟩,
    d_law_shows := ⟨PySem.W.mg_of X G a22, F22, F22.binds (ps := ["values", "paper"]) fun _ _ _ _ _ _ us hl => match us, hl with | [_, _], _ => rfl⟩,
    d_law_papers := ⟨PySem.W.mg_of X G a23, F23, F23.binds (ps := ["values", "best", "pick"]) fun _ _ _ _ _ _ us hl => match us, hl with | [_, _, _], _ => rfl⟩,
    d_law_values_told := ⟨PySem.W.mg_of X G a24, F24, F24.binds (ps := ["values", "primes", "least", "pick"]) fun _ _ _ _ _ _ us hl => match us, hl with | [_, _, _, _], _ => rfl⟩,
    d_law_family := ⟨PySem.W.mg_of X G a25, F25, F25.binds (ps := ["draws"]) fun _ _ _ _ _ _ us hl => match us, hl with | [_], _ => rfl⟩,
    d_law_call := ⟨PySem.W.mg_of X G a26, F26, F26.binds (ps := ["which", "thing"]) fun _ _ _ _ _ _ us hl => match us, hl with | [_, _], _ => rfl⟩,
    d_law_refused := ⟨PySem.W.mg_of X G a27, F27, F27.binds (ps := ["which", "thing"]) fun _ _ _ _ _ _ us hl => match us, hl with | [_, _], _ => rfl⟩,
    d_law_refuses := ⟨PySem.W.mg_of X G a28, F28, F28.binds (ps := ["values", "pick"]) fun _ _ _ _ _ _ us hl => match us, hl with | [_, _], _ => rfl⟩,
    d_law_factors_told := ⟨PySem.W.mg_of X G a29, F29, F29.binds (ps := ["draws"]) fun _ _ _ _ _ _ us hl => match us, hl with | [_], _ => rfl⟩,
    d_law := ⟨PySem.W.mg_of X G a30, F30, F30.binds (ps := ["script"]) fun _ _ _ _ _ _ us hl => match us, hl with | [_], _ => rfl⟩,
    g_VariesError := PySem.W.mg_of X G ea0,
    xc_VariesError := ⟨kx0, kt0, kh0⟩,
    g_BadNumber := PySem.W.mg_of X G ea1,
    xc_BadNumber := ⟨kx1, kt1, kh1⟩,
    o_BadNumber := ⟨⟨nm1, q1, N1, bs1, bm1, sn1, sub1, ab1, col1, dd1, x1a, x1b, x1c, x1d, x1e, xl1, xv1⟩, sa1, kx1, kt1, kp1⟩,
    no_BadNumber := nf1,
    iC_BadNumber := fi1,
    tI_BadNumber := ti1,
    fn_BadNumber := I1,
    bi_BadNumber := I1.binds (ps := ["self", "at"]) fun _ _ _ _ _ _ us hl => match us, hl with | [_, _], _ => rfl,
    xf_BadNumber := ⟨ga1, gg1, kx1, kh1⟩,
    ic_BadNumber := ⟨ic1, ga1, gg1, kx1, cc1, hn1, tk1, mo1⟩,
    g_BadLook := PySem.W.mg_of X G ea2,
    xc_BadLook := ⟨kx2, kt2, kh2⟩,
    o_BadLook := ⟨⟨nm2, q2, N2, bs2, bm2, sn2, sub2, ab2, col2, dd2, x2a, x2b, x2c, x2d, x2e, xl2, xv2⟩, sa2, kx2, kt2, kp2⟩,
    no_BadLook := nf2,
    iC_BadLook := fi2,
    tI_BadLook := ti2,
    fn_BadLook := I2,
    bi_BadLook := I2.binds (ps := ["self", "at"]) fun _ _ _ _ _ _ us hl => match us, hl with | [_, _], _ => rfl,
    xf_BadLook := ⟨ga2, gg2, kx2, kh2⟩,
    ic_BadLook := ⟨ic2, ga2, gg2, kx2, cc2, hn2, tk2, mo2⟩,
    g_BadRow := PySem.W.mg_of X G ea3,
    xc_BadRow := ⟨kx3, kt3, kh3⟩,
    o_BadRow := ⟨⟨nm3, q3, N3, bs3, bm3, sn3, sub3, ab3, col3, dd3, x3a, x3b, x3c, x3d, x3e, xl3, xv3⟩, sa3, kx3, kt3, kp3⟩,
    no_BadRow := nf3,
    iC_BadRow := fi3,
    tI_BadRow := ti3,
    fn_BadRow := I3,
    bi_BadRow := I3.binds (ps := ["self", "at"]) fun _ _ _ _ _ _ us hl => match us, hl with | [_, _], _ => rfl,
    xf_BadRow := ⟨ga3, gg3, kx3, kh3⟩,
    ic_BadRow := ⟨ic3, ga3, gg3, kx3, cc3, hn3, tk3, mo3⟩,
    g_BadCase := PySem.W.mg_of X G ea4,
    xc_BadCase := ⟨kx4, kt4, kh4⟩,
    o_BadCase := ⟨⟨nm4, q4, N4, bs4, bm4, sn4, sub4, ab4, col4, dd4, x4a, x4b, x4c, x4d, x4e, xl4, xv4⟩, sa4, kx4, kt4, kp4⟩,
    no_BadCase := nf4,
    iC_BadCase := fi4,
    tI_BadCase := ti4,
    fn_BadCase := I4,
    bi_BadCase := I4.binds (ps := ["self", "at"]) fun _ _ _ _ _ _ us hl => match us, hl with | [_, _], _ => rfl,
    xf_BadCase := ⟨ga4, gg4, kx4, kh4⟩,
    ic_BadCase := ⟨ic4, ga4, gg4, kx4, cc4, hn4, tk4, mo4⟩,
    su_BadNumber_VariesError := su1_0,
    ki_BadNumber_VariesError := kk1_0,
    su_BadNumber_BadNumber := su1_1,
    ki_BadNumber_BadNumber := kk1_1,
    su_BadNumber_BadLook := su1_2,
    ki_BadNumber_BadLook := kk1_2,
    su_BadNumber_BadRow := su1_3,
    ki_BadNumber_BadRow := kk1_3,
    su_BadNumber_BadCase := su1_4,
    ki_BadNumber_BadCase := kk1_4,
    su_BadLook_VariesError := su2_0,
    ki_BadLook_VariesError := kk2_0,
    su_BadLook_BadNumber := su2_1,
    ki_BadLook_BadNumber := kk2_1,
    su_BadLook_BadLook := su2_2,
    ki_BadLook_BadLook := kk2_2,
    su_BadLook_BadRow := su2_3,
    ki_BadLook_BadRow := kk2_3,
    su_BadLook_BadCase := su2_4,
    ki_BadLook_BadCase := kk2_4,
    su_BadRow_VariesError := su3_0,
    ki_BadRow_VariesError := kk3_0,
    su_BadRow_BadNumber := su3_1,
    ki_BadRow_BadNumber := kk3_1,
    su_BadRow_BadLook := su3_2,
    ki_BadRow_BadLook := kk3_2,
    su_BadRow_BadRow := su3_3,
    ki_BadRow_BadRow := kk3_3,
    su_BadRow_BadCase := su3_4,
    ki_BadRow_BadCase := kk3_4,
    su_BadCase_VariesError := su4_0,
    ki_BadCase_VariesError := kk4_0,
    su_BadCase_BadNumber := su4_1,
    ki_BadCase_BadNumber := kk4_1,
    su_BadCase_BadLook := su4_2,
    ki_BadCase_BadLook := kk4_2,
    su_BadCase_BadRow := su4_3,
    ki_BadCase_BadRow := kk4_3,
    su_BadCase_BadCase := su4_4,
    ki_BadCase_BadCase := kk4_4 }
  exact ⟨PySem.W.fnOf "law" "law" (defArgs (top 41)) (defBody (top 41)) (defScope (top 41)) .none kV30 dc30 pm30 an30 cd30 ct30, fun s v => .of_eq rfl, fun base _ _ => ok_law (T base)⟩
end K74
namespace K74
open PySem PySem.Spec PyProof.Rows L2 Den
theorem mul_mono {x y z : Int} (hz : 0 < z) (h : x ≤ y) : x * z ≤ y * z := Int.mul_le_mul_of_nonneg_right h (Int.le_of_lt hz)
theorem gcd_mod (a b : Int) : Int.gcd (a % b) b = Int.gcd a b := by
  have em := Int.ediv_mul_add_emod a b
  refine Nat.dvd_antisymm (Int.ofNat_dvd.mp (Int.dvd_coe_gcd ?_ (Int.gcd_dvd_right ..))) (Int.ofNat_dvd.mp (Int.dvd_coe_gcd ?_ (Int.gcd_dvd_right ..)))
  · have h := Int.dvd_add (Int.dvd_trans (Int.gcd_dvd_right (a := a % b) (b := b)) (Int.dvd_mul_left (a / b) b)) (Int.gcd_dvd_left (a := a % b) (b := b))
    rwa [em] at h
  · have h := Int.dvd_sub (Int.gcd_dvd_left (a := a) (b := b)) (Int.dvd_trans (Int.gcd_dvd_right (a := a) (b := b)) (Int.dvd_mul_left (a / b) b))
    rwa [show a - a / b * b = a % b by omega] at h
def gcdF (v0 : Int) (l : List Int) (s : Int) : Int := l.foldl (fun s v => ((Int.gcd s (v - v0) : Nat) : Int)) s
theorem gcdF_nn (v0 : Int) : ∀ (l : List Int) (s : Int), 0 ≤ s → 0 ≤ gcdF v0 l s
  | [], s, h => h
  | v :: l, s, _ => gcdF_nn v0 l _ (Int.natCast_nonneg _)
theorem gcdF_dvd (v0 : Int) : ∀ (l : List Int) (s : Int), gcdF v0 l s ∣ s ∧ ∀ x ∈ l, gcdF v0 l s ∣ x - v0
  | [], s => ⟨Int.dvd_refl s, fun x h => by cases h⟩
  | v :: l, s => by
    obtain ⟨h1, h2⟩ := gcdF_dvd v0 l (Int.gcd s (v - v0) : Nat)
    refine ⟨Int.dvd_trans h1 (Int.gcd_dvd_left ..), fun x hx => ?_⟩
    rcases List.mem_cons.mp hx with rfl | hx
    · exact Int.dvd_trans h1 (Int.gcd_dvd_right ..)
    · exact h2 x hx
theorem gcdF_gr (v0 : Int) : ∀ (l : List Int) (s d : Int), d ∣ s → (∀ x ∈ l, d ∣ x - v0) → d ∣ gcdF v0 l s
  | [], s, d, h, _ => h
  | v :: l, s, d, h, k => gcdF_gr v0 l _ d (Int.dvd_coe_gcd h (k v List.mem_cons_self)) fun x hx => k x (List.mem_cons_of_mem _ hx)
theorem r_is_int (x : Int) (S : AS) : den_is_int [.d (.int x)] S = .ok (.d (.bool true)) S := by
  unfold den_is_int c_is_int
  rw [den_of]
  simp [dVar, kitS]
abbrev tri (a b c : Int) : D := .tuple [.int a, .int b, .int c]
def ds (l : List Int) : List D := l.map PyData.int
@[simp] theorem ds_len (l : List Int) : (ds l).length = l.length := by unfold ds; rw [List.length_map]
theorem ds_app (l m : List Int) : ds l ++ ds m = ds (l ++ m) := by unfold ds; rw [List.map_append]
theorem ds_ints (l : List Int) : ints? (ds l) = some l := ints?_map _
theorem chk_loop : ∀ (l : List Int) (k : Nat) (a : AV) (x y : Option AV) (S : AS), ∃ x' y', forGo (.tp (.cons (.nm 1) (.cons (.nm 2) .nil)))
    (sIf (dNot (dTru (dCall (arity 1 den_is_int) (lCons (dVar 2) lNil))))
    (sRaise "BadRow" "at" (lCons (dVar 1) lNil))
    sSkip) (enumL (ds l) k) [some a, x, y] S = .nx [some a, x', y'] S
  | [], k, a, x, y, S => ⟨x, y, rfl⟩
  | n :: l, k, a, x, y, S => by
    obtain ⟨x', y', h⟩ := chk_loop l (k + 1) a (some (.d (.int k))) (some (.d (.int n))) S
    refine ⟨x', y', ?_⟩
    show forGo _ _ (.tuple [.int (k : Nat), .int n] :: enumL (ds l) (k + 1)) _ _ = _
    rw [for_cons]
    simp [dVar, r_is_int]
    exact h
theorem min_loop (lo : Int) : ∀ (l : List Int) (a : AV) (s : Int) (x : Option AV) (S : AS), ∃ x', forGo (.nm 3)
    (sAsg 2 false (dCallV vGcd (lCons (dVar 2) (lCons (dBin bSub (dVar 3) (dVar 1)) lNil)))) (ds l) [some a, some (.d (.int lo)), some (.d (.int s)), x] S = .nx [some a, some (.d (.int lo)), some (.d (.int (gcdF lo l s))), x'] S
  | [], a, s, x, S => ⟨x, rfl⟩
  | n :: l, a, s, x, S => by
    obtain ⟨x', h⟩ := min_loop lo l a (Int.gcd s (n - lo) : Nat) (some (.d (.int n))) S
    refine ⟨x', ?_⟩
    show forGo _ _ (.int n :: ds l) _ _ = _
    rw [for_cons]
    simp [dVar]
    exact h
def L3 (l : List Int) : D := tri (minI l) (maxI l) (gcdF (minI l) l 0)
theorem r_plain (n : Int) (r : List Int) (S : AS) : den_fence_of_plain [.d (.tuple (ds (n :: r)))] S = .ok (.d (L3 (n :: r))) S := by
  have e : ints? (ds (n :: r)) = some (n :: r) := ints?_map _
  have v1 : ∀ S, vMin [.d (.tuple (ds (n :: r)))] S = some (.d (.int (minI (n :: r))), S) := fun S => by
    show (match ints? (ds (n :: r)) with | some (n :: ns) => some (AV.d (.int (minI (n :: ns))), S) | _ => none) = _
    rw [e]
  have v2 : ∀ S, vMax [.d (.tuple (ds (n :: r)))] S = some (.d (.int (maxI (n :: r))), S) := fun S => by
    show (match ints? (ds (n :: r)) with | some (n :: ns) => some (AV.d (.int (maxI (n :: ns))), S) | _ => none) = _
    rw [e]
  obtain ⟨x', h⟩ := min_loop (minI (n :: r)) (n :: r) (.d (.tuple (ds (n :: r)))) 0 none S
  unfold den_fence_of_plain c_fence_of_plain
  rw [den_of]
  generalize hl : ds (n :: r) = l at *
  simp [dVar, v1, v2, iSeq, frzD, h]
  rfl
theorem r_ints_seq (b : Bool) (n : Int) (r : List Int) (S : AS) : den_check_integers [.d (if b then .list (ds (n :: r)) else .tuple (ds (n :: r)))] S = .ok (.d (.tuple (ds (n :: r)))) S := by
  unfold den_check_integers c_check_integers
  rw [den_of]
  have hne : ((ds (n :: r)).length : Int) ≠ 0 := by simp; omega
  have h := fun a => chk_loop (n :: r) 0 a none none S
  generalize hl : ds (n :: r) = l at *
  cases b
  · obtain ⟨x', y', h⟩ := h (.d (.tuple l))
    simp only [Bool.false_eq_true, if_false]
    simp [dVar, kitS, fEnumS, frzD, h]
    have hn2 : ¬ l = [] := fun z => by rw [z] at hne; exact hne rfl
    simp [hn2, dVar, h]
  · obtain ⟨x', y', h⟩ := h (.d (.list l))
    simp only [if_true]
    simp [dVar, kitS, fEnumS, frzD, h]
    have hn2 : ¬ l = [] := fun z => by rw [z] at hne; exact hne rfl
    simp [hn2, dVar, h]
theorem gcd_loop : ∀ (k : Nat) (its : List D) (a b : Int) (x : Option AV) (S : AS), 0 ≤ a → 0 ≤ b → b.natAbs < 2 ^ k → 2 * k + 1 ≤ its.length → ∃ y z, forGo (.nm 2)
    (sSeq (sIf (dBin (cop .Eq) (dVar 1) (dC (.int 0)))
    sBreak
    sSkip)
    (sPar 0 1 (lCons (dVar 1) (lCons (dBin bMod (dCallV vInt (lCons (dVar 0) lNil)) (dCallV vInt (lCons (dVar 1) lNil))) lNil)))) its [some (.d (.int a)), some (.d (.int b)), x] S = .nx [some (.d (.int (Int.gcd a b : Nat))), y, z] S := by
  intro k
  induction k with
  | zero =>
    intro its a b x S ha hb hk hl
    have b0 : b = 0 := by
      have : b.natAbs < 1 := hk
      omega
    subst b0
    cases its with
    | nil => simp at hl
    | cons i its =>
      refine ⟨some (.d (.int 0)), some (.d i), ?_⟩
      have e : ((Int.gcd a 0 : Nat) : Int) = a := by rw [Int.gcd_zero_right]; omega
      rw [for_cons, e]
      simp [dVar]
  | succ k ih =>
    intro its a b x S ha hb hk hl
    match its, hl with
    | i :: j :: its, hl =>
      by_cases b0 : b = 0
      · subst b0
        refine ⟨some (.d (.int 0)), some (.d i), ?_⟩
        rw [for_cons]
        have : ((Int.gcd a 0 : Nat) : Int) = a := by rw [Int.gcd_zero_right]; omega
        rw [this]
        simp [dVar]
      · have hb' : 0 < b := by omega
        have r0 := Int.emod_nonneg a b0
        have r1 := Int.emod_lt_of_pos a hb'
        obtain ⟨r, hr⟩ : ∃ r, a % b = r := ⟨_, rfl⟩
        rw [hr] at r0 r1
        have g1 : Int.gcd b r = Int.gcd a b := by rw [← hr, Int.gcd_comm, gcd_mod]
        by_cases r00 : r = 0
        · subst r00
          refine ⟨some (.d (.int 0)), some (.d j), ?_⟩
          have : ((Int.gcd a b : Nat) : Int) = b := by rw [← g1, Int.gcd_zero_right]; omega
          rw [this, for_cons]
          simp [dVar, b0, mod_i, hb', hr]
          rw [for_cons]
          simp [dVar]
        · have hr' : 0 < r := by omega
          have q0 := Int.emod_nonneg b r00
          have q1 := Int.emod_lt_of_pos b hr'
          have em := Int.ediv_mul_add_emod b r
          obtain ⟨q, hq⟩ : ∃ q, b % r = q := ⟨_, rfl⟩
          rw [hq] at q0 q1 em
          have g2 : Int.gcd r q = Int.gcd a b := by rw [← g1, ← hq, Int.gcd_comm, gcd_mod]
          have d1 : 1 ≤ b / r := by
            rw [Int.le_ediv_iff_mul_le hr']
            omega
          have d2 := mul_mono hr' d1
          have half : q.natAbs < 2 ^ k := by
            rw [Nat.pow_succ] at hk
            omega
          obtain ⟨y, z, h⟩ := ih its r q (some (.d j)) S (by omega) q0 half (by simp at hl; omega)
          refine ⟨y, z, ?_⟩
          rw [g2] at h
          rw [for_cons]
          simp [dVar, b0, mod_i, hb', hr]
          rw [for_cons]
          simp [dVar, r00, mod_i, hr', hq]
          exact h
theorem r_gcd {a b : Int} (hb : b.natAbs < 2 ^ 140) (S : AS) : den_law_gcd [.d (.int a), .d (.int b)] S = .ok (.d (.int (Int.gcd a b : Nat))) S := by
  obtain ⟨y, z, h⟩ := gcd_loop 140 (rngL 0 300 1) (a.natAbs : Int) (b.natAbs : Int) none S (by omega) (by omega) (by simpa using hb) (by rw [rngL_len]; decide)
  have e : Int.gcd (a.natAbs : Int) (b.natAbs : Int) = Int.gcd a b := by
    show Nat.gcd (Int.natAbs (a.natAbs : Int)) (Int.natAbs (b.natAbs : Int)) = Nat.gcd a.natAbs b.natAbs
    rw [Int.natAbs_natCast, Int.natAbs_natCast]
  rw [e] at h
  have ea : (if a < 0 then -a else a) = (a.natAbs : Int) := by split <;> omega
  have eb : (if b < 0 then -b else b) = (b.natAbs : Int) := by split <;> omega
  unfold den_law_gcd c_law_gcd
  rw [den_of]
  generalize hi : rngL 0 300 1 = its at *
  have fr : ∀ S, fRng1 [.d (.int 300)] S = some (its, S) := fun S => by
    rw [← hi]
    rfl
  simp [dVar, ea, eb, fr, h]
def Dr (l : List Int) : Prop := ∀ x ∈ l, 0 ≤ x ∧ x < 30
theorem Dr.drop {l : List Int} (h : Dr l) : Dr l.dropLast := fun x hx => h x (List.dropLast_subset l hx)
theorem ds_dropLast (l : List Int) : (ds l).dropLast = ds l.dropLast := by
  unfold ds
  rw [List.map_dropLast]
theorem r_take {l : List Int} (h : Dr l) {m : Int} (hm : 0 < m) (S0 : AS) : ∃ (v : Int) (l' : List Int), den_law_take [.ref 0, .d (.int m)] (.lst (ds l) :: S0) = .ok (.d (.int v)) (.lst (ds l') :: S0) ∧ Dr l' ∧ 0 ≤ v ∧ v < m ∧ v < 30 := by
  unfold den_law_take c_law_take
  rw [den_of]
  by_cases e : l = []
  · subst e
    refine ⟨0, [], ?_, h, Int.le_refl _, hm, by decide⟩
    have v : vLen [.ref 0] (.lst (ds []) :: S0) = some (.d (.int 0), .lst (ds []) :: S0) := rfl
    simp [dVar, v]
  · have hl : 0 < l.length := List.length_pos_iff.mpr e
    have hi : l.length - 1 < l.length := by omega
    obtain ⟨x, hx⟩ : ∃ x, l[l.length - 1]? = some x := ⟨_, List.getElem?_eq_getElem hi⟩
    have xr := h x (List.mem_of_getElem? hx)
    have v : vLen [.ref 0] (.lst (ds l) :: S0) = some (.d (.int l.length), .lst (ds l) :: S0) := by
      show some (AV.d (.int ((ds l).length : Nat)), _) = _
      rw [ds_len]
    have p : mPop (.ref 0) [] (.lst (ds l) :: S0) = some (.d (.int x), .lst (ds l.dropLast) :: S0) := by
      have e1 : (ds l)[(ds l).length - 1]? = some (.int x) := by
        rw [ds_len]
        unfold ds
        rw [List.getElem?_map, hx]
        rfl
      show (match (ds l)[(ds l).length - 1]? with | some x => some (AV.d x, _) | none => none) = _
      rw [e1, ← ds_dropLast]
      rfl
    have il : isL (.lst (ds l) :: S0) (.ref 0) = true := rfl
    have b0 := Int.emod_nonneg x (by omega : m ≠ 0)
    have b1 := Int.emod_lt_of_pos x hm
    have b2 : x % m ≤ x := (by have em := Int.ediv_mul_add_emod x m; have := Int.mul_nonneg (Int.ediv_nonneg xr.1 (Int.le_of_lt hm)) (Int.le_of_lt hm); omega)
    refine ⟨x % m, l.dropLast, ?_, h.drop, b0, b1, by omega⟩
    have ln : ((l.length : Int) = 0) = False := by
      apply eq_false
      omega
    simp [dVar, v, ln, e, p, il, mod_i, hm]
theorem at_ds {l : List Int} {v : Int} (h0 : 0 ≤ v) (h1 : v < l.length) : ∃ x, x ∈ l ∧ atD (ds l) v = some (.int x) := by
  have hi : v.toNat < l.length := by omega
  refine ⟨l[v.toNat], List.getElem_mem hi, ?_⟩
  have e := at_nat (l := ds l) (i := v.toNat) (x := .int l[v.toNat]) (by unfold ds; rw [List.getElem?_map, List.getElem?_eq_getElem hi]; rfl)
  rwa [Int.toNat_of_nonneg h0] at e
def drawB : Sn := (sSeq (sExpr (dMeth mAppend (dVar 1) (lCons (dBin bMod (dCallV vInt (lCons (dVar 3) lNil)) (dC (.int 30))) lNil)))
    (sSeq (sAsg 3 false (dBin bFdiv (dVar 3) (dC (.int 30))))
    (sIf (dBin (cop .Eq) (dVar 3) (dC (.int 0)))
    sBreak
    sSkip)))
theorem draw_in (s0 s2 : Option AV) : ∀ (its : List D) (acc : List Int) (cell : Int) (x : Option AV), Dr acc → acc.length + its.length ≤ 1000000 → ∃ (acc' : List Int) (y z : Option AV), forGo (.nm 4) drawB its [s0, some (.ref 0), s2, some (.d (.int cell)), x] [.lst (ds acc)] = .nx [s0, some (.ref 0), s2, y, z] [.lst (ds acc')] ∧ Dr acc' ∧ acc'.length ≤ acc.length + its.length
  | [], acc, cell, x, h, _ => ⟨acc, _, _, rfl, h, Nat.le_refl _⟩
  | o :: its, acc, cell, x, h, hl => by
    have hl : acc.length + (its.length + 1) ≤ 1000000 := hl
    have b0 := Int.emod_nonneg cell (show (30 : Int) ≠ 0 by decide)
    have b1 := Int.emod_lt_of_pos cell (show (0 : Int) < 30 by decide)
    have h' : Dr (acc ++ [cell % 30]) := fun z hz => by
      rcases List.mem_append.mp hz with q | q
      · exact h z q
      · have : z = cell % 30 := by simpa using q
        subst this
        exact ⟨b0, b1⟩
    have md : ∀ S, bMod (.d (.int cell)) (.d (.int 30)) S = some (.d (.int (cell % 30)), S) := fun S => mod_i (by decide)
    have fd : ∀ S, bFdiv (.d (.int cell)) (.d (.int 30)) S = some (.d (.int (cell / 30)), S) := fun S => fdiv_i (by decide) (by decide)
    have ap : mAppend (.ref 0) [.d (.int (cell % 30))] [.lst (ds acc)] = some (.d .none, [.lst (ds (acc ++ [cell % 30]))]) := by
      show (if (ds acc).length < cap then some (AV.d .none, [AO.lst (ds acc ++ [PyData.int (cell % 30)])]) else none) = _
      rw [if_pos (by rw [ds_len]; show acc.length < 1000000; omega), ← ds_app]
      rfl
    have il : isL [.lst (ds acc)] (.ref 0) = true := rfl
    obtain ⟨q, hq⟩ : ∃ q, cell / 30 = q := ⟨_, rfl⟩
    rw [hq] at fd
    by_cases q0 : q = 0
    · refine ⟨acc ++ [cell % 30], some (.d (.int 0)), some (.d o), ?_, h', by simp⟩
      rw [for_cons]
      unfold drawB
      simp [dVar, il, md, ap, fd, q0]
    · obtain ⟨acc', y, z, e, d, l⟩ := draw_in s0 s2 its (acc ++ [cell % 30]) q (some (.d o)) h' (by simp; omega)
      refine ⟨acc', y, z, ?_, d, by
        rw [List.length_append, List.length_singleton] at l
        show acc'.length ≤ acc.length + (its.length + 1)
        omega⟩
      rw [for_cons]
      unfold drawB at e ⊢
      simp [dVar, il, md, ap, fd, q0]
      exact e
def drawO : Sn := (sSeq (sAsg 3 false (dCallV vInt (lCons (dBin vIx (dVar 0) (dVar 2)) lNil)))
    (sSeq (sIf (dBin (cop .Lt) (dVar 3) (dC (.int 0)))
    (sAsg 3 false (dBin bSub (dC (.int 11)) (dBin bMul (dC (.int 2)) (dVar 3))))
    sSkip)
    (sSeq (sAsg 3 false (dBin bMod (dCallV vInt (lCons (dVar 3) lNil)) (dBin bPow (dC (.int 30)) (dC (.int 24)))))
    (sFor (itL (lCons (dC (.int 24)) lNil) fRng1) (.nm 4) drawB))))
theorem draw_out (ns : List Int) (hb : ∀ z ∈ ns, z.natAbs.log2 ≤ 1048576) : ∀ (is : List Nat) (acc : List Int) (x y z : Option AV), (∀ i ∈ is, i < ns.length) → Dr acc → acc.length + 24 * is.length ≤ 1000000 → ∃ (acc' : List Int) (x' y' z' : Option AV), forGo (.nm 2) drawO (is.map fun i => PyData.int (i : Nat)) [some (.d (.list (ds ns))), some (.ref 0), x, y, z] [.lst (ds acc)] = .nx [some (.d (.list (ds ns))), some (.ref 0), x', y', z'] [.lst (ds acc')] ∧ Dr acc'
  | [], acc, x, y, z, _, h, _ => ⟨acc, _, _, _, rfl, h⟩
  | i :: is, acc, x, y, z, hi, h, hl => by
    have hl : acc.length + 24 * (is.length + 1) ≤ 1000000 := hl
    have ii := hi i List.mem_cons_self
    obtain ⟨c, hc⟩ : ∃ c, ns[i]? = some c := ⟨_, List.getElem?_eq_getElem ii⟩
    have cb := hb c (List.mem_of_getElem? hc)
    have at_ : atD (ds ns) (i : Int) = some (.int c) := at_nat (by unfold ds; rw [List.getElem?_map, hc]; rfl)
    have pw : ∀ S, bPow (.d (.int 30)) (.d (.int 24)) S = some (.d (.int 282429536481000000000000000000000000), S) := fun S => by rfl
    have fr : ∀ S, fRng1 [.d (.int 24)] S = some (rngL 0 24 1, S) := fun S => rfl
    have ml : ∀ S, bMul (.d (.int 2)) (.d (.int c)) S = some (.d (.int (2 * c)), S) := fun S => mul_i (by
      have : (2 : Int).natAbs.log2 = 1 := by decide
      rw [this]
      omega)
    have md : ∀ (v : Int) S, bMod (.d (.int v)) (.d (.int 282429536481000000000000000000000000)) S = some (.d (.int (v % 282429536481000000000000000000000000)), S) := fun v S => mod_i (by decide)
    have step : ∀ v : Int, ∃ (acc1 : List Int) (y1 z1 : Option AV), forGo (.nm 4) drawB (rngL 0 24 1) [some (.d (.list (ds ns))), some (.ref 0), some (.d (.int i)), some (.d (.int v)), z] [.lst (ds acc)] = .nx [some (.d (.list (ds ns))), some (.ref 0), some (.d (.int i)), y1, z1] [.lst (ds acc1)] ∧ Dr acc1 ∧ acc1.length ≤ acc.length + 24 := fun v => by
      obtain ⟨a, b, c, e, d, l⟩ := draw_in (some (.d (.list (ds ns)))) (some (.d (.int i))) (rngL 0 24 1) acc v z h (by rw [rngL_len]; omega)
      rw [rngL_len] at l
      exact ⟨a, b, c, e, d, l⟩
    show ∃ acc' x' y' z', forGo (.nm 2) drawO (PyData.int (i : Nat) :: is.map fun i => PyData.int (i : Nat)) _ _ = _ ∧ _
    generalize hR : rngL 0 24 1 = R at *
    by_cases neg : c < 0
    · obtain ⟨acc1, y1, z1, e1, d1, l1⟩ := step ((11 - 2 * c) % 282429536481000000000000000000000000)
      obtain ⟨acc', x', y', z', e2, d2⟩ := draw_out ns hb is acc1 (some (.d (.int i))) y1 z1 (fun j hj => hi j (List.mem_cons_of_mem _ hj)) d1 (by omega)
      refine ⟨acc', x', y', z', ?_, d2⟩
      rw [for_cons]
      unfold drawO at e2 ⊢
      simp [dVar, at_, neg, ml, pw, md, fr, e1]
      exact e2
    · obtain ⟨acc1, y1, z1, e1, d1, l1⟩ := step (c % 282429536481000000000000000000000000)
      obtain ⟨acc', x', y', z', e2, d2⟩ := draw_out ns hb is acc1 (some (.d (.int i))) y1 z1 (fun j hj => hi j (List.mem_cons_of_mem _ hj)) d1 (by omega)
      refine ⟨acc', x', y', z', ?_, d2⟩
      rw [for_cons]
      unfold drawO at e2 ⊢
      simp [dVar, at_, neg, ml, pw, md, fr, e1]
      exact e2
theorem itL_of {l : Ln} {f : List AV → AS → Option (List D × AS)} {σ : ASt} {S S1 S2 : AS} {as : List AV} {m : List D} (h : l σ S = .ok as S1) (k : f as S1 = some (m, S2)) : itL l f σ S = .ok m S2 := by
  rw [x_itL, h]
  show (match f as S1 with | some (m, S2) => IR.ok m S2 | none => .stuck) = _
  rw [k]
theorem r_draws {ns : List Int} (hn : ns.length ≤ 63) (hb : ∀ z ∈ ns, z.natAbs.log2 ≤ 1048576) : ∃ l, den_law_draws [.d (.list (ds ns))] [] = .ok (.own (ds l)) [] ∧ Dr l := by
  obtain ⟨acc, x, y, z, e, d⟩ := draw_out ns hb (List.range ns.length) [] none none none (fun i hi => List.mem_range.mp hi) (fun x hx => by cases hx) (by rw [List.length_range, List.length_nil]; omega)
  refine ⟨acc.reverse, ?_, fun v hv => d v (List.mem_reverse.mp hv)⟩
  have fr : ∀ S, fRng1 [.d (.int ns.length)] S = some ((List.range ns.length).map fun i => PyData.int (i : Nat), S) := fun S => by
    show (if -big62 ≤ (ns.length : Int) ∧ (ns.length : Int) < big62 then some (rngL 0 (ns.length : Int).toNat 1, S) else none) = _
    rw [if_pos (by unfold big62; omega), Int.toNat_natCast]
    have er : rngL 0 ns.length 1 = (List.range ns.length).map fun i => PyData.int (i : Nat) := by
      unfold rngL
      refine List.map_congr_left fun i _ => ?_
      rw [Int.zero_add, Int.mul_one]
    rw [er]
  have mn : (if (63 : Int) < (ns.length : Int) then (63 : Int) else (ns.length : Int)) = ns.length := if_neg (by omega)
  have e0 : ∀ S, vLstD [] S = some (.own [], S) := fun S => rfl
  have rv : mReverse (.ref 0) [] [.lst (ds acc)] = some (.d .none, [.lst (ds acc.reverse)]) := by
    show some (AV.d .none, [AO.lst (ds acc).reverse]) = _
    unfold ds
    rw [List.map_reverse]
  have il : ∀ l, isL [.lst l] (.ref 0) = true := fun l => rfl
  have fin : finA 0 (.ref 0) [.lst (ds acc.reverse)] = .ok (.own (ds acc.reverse)) [] := rfl
  have vm : ∀ S, vMin [.d (.int ns.length), .d (.int 63)] S = some (.d (.int ns.length), S) := fun S => by rw [vmin_i, mn]
  have s1 : sAsg 1 true (dCallV vLstD lNil) [some (.d (.list (ds ns))), none, none, none, none] [] = .nx [some (.d (.list (ds ns))), some (.ref 0), none, none, none] [.lst (ds [])] := rfl
  have s3 : sExpr (dMeth mReverse (dVar 1) lNil) [some (.d (.list (ds ns))), some (.ref 0), x, y, z] [.lst (ds acc)] = .nx [some (.d (.list (ds ns))), some (.ref 0), x, y, z] [.lst (ds acc.reverse)] := by
    simp only [x_Expr, x_Meth, x_bMeth, dVar, List.getElem?_cons_succ, List.getElem?_cons_zero, bind_ok, fz_ref, il, if_true, x_lNil, lbind_ok, rv, lift_some, then_ok]
  have s4 : sRet (dVar 1) [some (.d (.list (ds ns))), some (.ref 0), x, y, z] [.lst (ds acc.reverse)] = .rt (.ref 0) [.lst (ds acc.reverse)] := rfl
  obtain ⟨σ, hσ⟩ : ∃ σ : ASt, [some (.d (.list (ds ns))), some (.ref 0), none, none, none] = σ := ⟨_, rfl⟩
  obtain ⟨S, hS⟩ : ∃ S : AS, [.lst (ds [])] = S := ⟨_, rfl⟩
  have a0 : dCallV vLen (lCons (dVar 0) lNil) σ S = .ok (.d (.int ns.length)) S := by
    have e1 : vLen [.d (.list (ds ns))] S = some (.d (.int ns.length), S) := by
      rw [len_l, ds_len]
    have e2 : (lCons (dVar 0) lNil) σ S = .ok [.d (.list (ds ns))] S := by rw [← hσ]; rfl
    rw [x_CallV, e2, lbind_ok, e1, lift_some]
  have a2 : dCallV vMin (lCons (dCallV vLen (lCons (dVar 0) lNil)) (lCons (dC (.int 63)) lNil)) σ S = .ok (.d (.int ns.length)) S := by
    have e2 : (lCons (dCallV vLen (lCons (dVar 0) lNil)) (lCons (dC (.int 63)) lNil)) σ S = .ok [.d (.int ns.length), .d (.int 63)] S := by
      rw [x_lCons, a0, bindL_ok, fz_d]
      rfl
    rw [x_CallV, e2, lbind_ok, vm, lift_some]
  have a1 : (lCons (dCallV vMin (lCons (dCallV vLen (lCons (dVar 0) lNil)) (lCons (dC (.int 63)) lNil))) lNil) σ S = .ok [.d (.int ns.length)] S := by
    rw [x_lCons, a2, bindL_ok, fz_d]
    rfl
  have it : itL (lCons (dCallV vMin (lCons (dCallV vLen (lCons (dVar 0) lNil)) (lCons (dC (.int 63)) lNil))) lNil) fRng1 σ S = .ok ((List.range ns.length).map fun i => PyData.int (i : Nat)) S := by
    exact itL_of a1 (fr S)
  rw [← hσ, ← hS] at it
  have s2 : sFor (itL (lCons (dCallV vMin (lCons (dCallV vLen (lCons (dVar 0) lNil)) (lCons (dC (.int 63)) lNil))) lNil) fRng1) (.nm 2) drawO [some (.d (.list (ds ns))), some (.ref 0), none, none, none] [.lst (ds [])] = .nx [some (.d (.list (ds ns))), some (.ref 0), x, y, z] [.lst (ds acc)] := by
    rw [x_For, it]
    exact e
  have sq : ∀ {c1 c2 : Sn} {σ σ1 : ASt} {S S1 : AS}, c1 σ S = .nx σ1 S1 → sSeq c1 c2 σ S = c2 σ1 S1 := fun h => by rw [x_Seq, h]
  have whole : c_law_draws [some (.d (.list (ds ns))), none, none, none, none] [] = .rt (.ref 0) [.lst (ds acc.reverse)] := (sq s1).trans ((sq s2).trans ((sq s3).trans s4))
  show (match c_law_draws [some (.d (.list (ds ns))), none, none, none, none] [] with
    | .nx _ S' => ER.ok (.d .none) (S'.take 0)
    | .rt a S' => finA 0 a S'
    | .er x _ S' => .err x (S'.take 0)
    | _ => .stuck) = _
  rw [whole]
  exact fin
end K74
namespace K74
/-! primes, by trial division -/
def Pr (p : Nat) : Prop := 2 ≤ p ∧ ∀ d, d ∣ p → d = 1 ∨ d = p
/-- no divisor from 2 to p - 1 -/
def Low (p n : Nat) : Prop := ∀ d, 2 ≤ d → d < p → ¬ d ∣ n
theorem Pr.euclid {q a b : Nat} (h : Pr q) (k : q ∣ a * b) : q ∣ a ∨ q ∣ b := by
  rcases h.2 _ (Nat.gcd_dvd_left q a) with g | g
  · exact .inr (Nat.Coprime.dvd_of_dvd_mul_left (k := q) (m := a) (n := b) g k)
  · exact .inl (by rw [← g]; exact Nat.gcd_dvd_right q a)
theorem Low.pr {p n : Nat} (h : Low p n) (h2 : 2 ≤ p) (hd : p ∣ n) (hn : 0 < n) : Pr p := by
  refine ⟨h2, fun d dd => ?_⟩
  by_cases d1 : d = 1
  · exact .inl d1
  · by_cases dp : d = p
    · exact .inr dp
    · have dl := Nat.le_of_dvd (by omega) dd
      have d0 : d ≠ 0 := fun z => by
        subst z
        have := Nat.eq_zero_of_zero_dvd dd
        omega
      exact absurd (Nat.dvd_trans dd hd) (h d (by omega) (by omega))
/-- nothing below the root: 1 or a prime -/
theorem Low.root {p n : Nat} (h : Low p n) (hp : n < p * p) (hn : 1 < n) : Pr n := by
  refine ⟨hn, fun d dd => ?_⟩
  by_cases d1 : d = 1
  · exact .inl d1
  · obtain ⟨e, he⟩ := dd
    by_cases e1 : e = 1
    · subst e1
      exact .inr (by omega)
    · exfalso
      have d0 : d ≠ 0 := fun z => by subst z; omega
      have e0 : e ≠ 0 := fun z => by subst z; omega
      have c1 : p ≤ d := Nat.not_lt.mp fun z => h d (by omega) z ⟨e, he⟩
      have c2 : p ≤ e := Nat.not_lt.mp fun z => h e (by omega) z ⟨d, by rw [he, Nat.mul_comm]⟩
      have := Nat.mul_le_mul c1 c2
      omega
/-- l holds the primes of n that do not divide what is left -/
structure Fac (n : Nat) (l : List Nat) (left p : Nat) : Prop where
  pos : 0 < left
  low : Low p left
  asc : l.Pairwise (· < ·)
  lt : ∀ q ∈ l, q < p
  is : ∀ q, Pr q → (q ∣ n ↔ q ∈ l ∨ q ∣ left)
  pr : ∀ q ∈ l, Pr q
theorem Fac.start {n : Nat} (h : 0 < n) : Fac n [] n 2 := ⟨h, fun d h1 h2 => by omega, List.Pairwise.nil, fun q h => (by cases h), fun q _ => ⟨fun h => .inr h, fun h => by
  rcases h with h | h
  · cases h
  · exact h⟩, fun q h => (by cases h)⟩
theorem Fac.skip {n : Nat} {l : List Nat} {left p : Nat} (h : Fac n l left p) (hd : ¬ p ∣ left) : Fac n l left (p + 1) :=
  ⟨h.pos, fun d h1 h2 => by
    by_cases e : d = p
    · rw [e]; exact hd
    · exact h.low d h1 (by omega), h.asc, fun q hq => Nat.lt_succ_of_lt (h.lt q hq), h.is, h.pr⟩
/-- p is taken out, once -/
theorem Fac.out {n : Nat} {l : List Nat} {left p : Nat} (h2 : 2 ≤ p) (hp : Pr p) (pos : 0 < left) (low : Low p left) (is : ∀ q, Pr q → (q ∣ n ↔ q ∈ l ∨ q ∣ left)) (hl : p ∈ l) (hd : p ∣ left) :
    0 < left / p ∧ Low p (left / p) ∧ (∀ q, Pr q → (q ∣ n ↔ q ∈ l ∨ q ∣ left / p)) ∧ left / p < left := by
  obtain ⟨m, hm⟩ := hd
  have e : left / p = m := by rw [hm, Nat.mul_div_cancel_left _ (by omega)]
  rw [e]
  have m0 : 0 < m := Nat.pos_of_ne_zero fun z => by subst z; omega
  refine ⟨m0, fun d h1 h3 h4 => low d h1 h3 (by rw [hm]; exact Nat.dvd_trans h4 (Nat.dvd_mul_left m p)), fun q hq => ?_, ?_⟩
  · rw [is q hq]
    constructor
    · rintro (a | a)
      · exact .inl a
      · rw [hm] at a
        rcases hq.euclid a with b | b
        · rcases hp.2 q b with c | c
          · have := hq.1; omega
          · exact .inl (c ▸ hl)
        · exact .inr b
    · rintro (a | a)
      · exact .inl a
      · exact .inr (by rw [hm]; exact Nat.dvd_trans a (Nat.dvd_mul_left m p))
  · rw [hm]
    have := Nat.mul_le_mul_right m h2
    omega
theorem Fac.found {n : Nat} {l : List Nat} {left p : Nat} (h : Fac n l left p) (h2 : 2 ≤ p) (hd : p ∣ left) : Pr p ∧ (∀ q, Pr q → (q ∣ n ↔ q ∈ l ++ [p] ∨ q ∣ left)) ∧ (l ++ [p]).Pairwise (· < ·) ∧ (∀ q ∈ l ++ [p], Pr q) := by
  have hp := h.low.pr h2 hd h.pos
  refine ⟨hp, fun q hq => ?_, ?_, fun q hq => ?_⟩
  · rw [h.is q hq, List.mem_append, List.mem_singleton]
    constructor
    · rintro (a | a)
      · exact .inl (.inl a)
      · exact .inr a
    · rintro ((a | a) | a)
      · exact .inl a
      · exact .inr (a ▸ hd)
      · exact .inr a
  · refine List.pairwise_append.mpr ⟨h.asc, by simp, fun a ha b hb => ?_⟩
    rw [List.mem_singleton.mp hb]
    exact h.lt a ha
  · rcases List.mem_append.mp hq with hq | hq
    · exact h.pr q hq
    · rw [List.mem_singleton.mp hq]; exact hp
/-- the primes of n, ascending -/
structure PrimesOf (n : Nat) (l : List Nat) : Prop where
  asc : l.Pairwise (· < ·)
  mem : ∀ q, q ∈ l ↔ Pr q ∧ q ∣ n
theorem PrimesOf.one {n : Nat} {l m : List Nat} (h : PrimesOf n l) (k : PrimesOf n m) : l = m := by
  have : ∀ {l m : List Nat}, l.Pairwise (· < ·) → m.Pairwise (· < ·) → (∀ q, q ∈ l ↔ q ∈ m) → l = m := by
    intro l
    induction l with
    | nil =>
      intro m _ _ h
      cases m with
      | nil => rfl
      | cons y m => have := (h y).mpr List.mem_cons_self; cases this
    | cons x l ih =>
      intro m hl hm h
      cases m with
      | nil => have := (h x).mp List.mem_cons_self; cases this
      | cons y m =>
        obtain ⟨l1, l2⟩ := List.pairwise_cons.mp hl
        obtain ⟨m1, m2⟩ := List.pairwise_cons.mp hm
        have e : x = y := by
          rcases List.mem_cons.mp ((h x).mp List.mem_cons_self) with e | e
          · exact e
          · rcases List.mem_cons.mp ((h y).mpr List.mem_cons_self) with f | f
            · exact f.symm
            · have := m1 x e
              have := l1 y f
              omega
        subst e
        rw [ih l2 m2 fun k => ?_]
        constructor
        · intro hk
          rcases List.mem_cons.mp ((h k).mp (List.mem_cons_of_mem _ hk)) with rfl | e
          · exact absurd (l1 k hk) (by omega)
          · exact e
        · intro hk
          rcases List.mem_cons.mp ((h k).mpr (List.mem_cons_of_mem _ hk)) with rfl | e
          · exact absurd (m1 k hk) (by omega)
          · exact e
  exact this h.asc k.asc fun q => (h.mem q).trans (k.mem q).symm
theorem Fac.fin {n : Nat} {l : List Nat} {left p : Nat} (h : Fac n l left p) (hr : left < p * p) : PrimesOf n (if 1 < left then l ++ [left] else l) := by
  by_cases h1 : 1 < left
  · rw [if_pos h1]
    have hp := h.low.root hr h1
    have lp : p ≤ left := Nat.not_lt.mp fun z => h.low left h1 z (Nat.dvd_refl _)
    refine ⟨List.pairwise_append.mpr ⟨h.asc, by simp, fun a ha b hb => ?_⟩, fun q => ?_⟩
    · rw [List.mem_singleton.mp hb]
      exact Nat.lt_of_lt_of_le (h.lt a ha) lp
    · rw [List.mem_append, List.mem_singleton]
      constructor
      · rintro (a | a)
        · exact ⟨h.pr q a, (h.is q (h.pr q a)).mpr (.inl a)⟩
        · subst a
          exact ⟨hp, (h.is _ hp).mpr (.inr (Nat.dvd_refl _))⟩
      · rintro ⟨a, b⟩
        rcases (h.is q a).mp b with c | c
        · exact .inl c
        · rcases hp.2 q c with d | d
          · have := a.1; omega
          · exact .inr d
  · rw [if_neg h1]
    have l1 : left = 1 := by have := h.pos; omega
    refine ⟨h.asc, fun q => ⟨fun a => ⟨h.pr q a, (h.is q (h.pr q a)).mpr (.inl a)⟩, fun ⟨a, b⟩ => ?_⟩⟩
    rcases (h.is q a).mp b with c | c
    · exact c
    · rw [l1] at c
      have := Nat.le_of_dvd (by decide) c
      have := a.1
      omega
theorem Fac.done {n : Nat} {l : List Nat} {left p : Nat} (h : Fac n l left p) (hr : left < p) : PrimesOf n l ∧ left = 1 := by
  have l1 : left = 1 := by
    have h0 := h.pos
    refine Nat.le_antisymm (Nat.not_lt.mp fun z => ?_) h0
    exact h.low left z hr (Nat.dvd_refl _)
  refine ⟨⟨h.asc, fun q => ⟨fun a => ⟨h.pr q a, (h.is q (h.pr q a)).mpr (.inl a)⟩, fun ⟨a, b⟩ => ?_⟩⟩, l1⟩
  rcases (h.is q a).mp b with c | c
  · exact c
  · rw [l1] at c
    have := Nat.le_of_dvd (by decide) c
    have := a.1
    omega
/-- no divisor, by halves -/
def noDiv (n : Nat) : Nat → Nat → Bool
  | 0, lo => n % lo != 0
  | k + 1, lo => noDiv n k lo && noDiv n k (lo + 2 ^ k)
theorem noDiv_ok {n : Nat} : ∀ {k lo : Nat}, noDiv n k lo = true → ∀ d, lo ≤ d → d < lo + 2 ^ k → ¬ d ∣ n
  | 0, lo, h, d, h1, h2, h3 => by
    have : d = lo := by have : 2 ^ 0 = 1 := rfl; omega
    subst this
    have h : (n % d != 0) = true := h
    rw [Nat.mod_eq_zero_of_dvd h3] at h
    simp at h
  | k + 1, lo, h, d, h1, h2, h3 => by
    unfold noDiv at h
    rw [Bool.and_eq_true] at h
    by_cases c : d < lo + 2 ^ k
    · exact noDiv_ok h.1 d h1 c h3
    · rw [Nat.pow_succ] at h2
      exact noDiv_ok h.2 d (by omega) (by omega) h3
theorem pr_by {n : Nat} (k : Nat) (h : noDiv n k 2 = true) (h2 : 2 ≤ n) (hk : n < (2 + 2 ^ k) * (2 + 2 ^ k)) : Pr n :=
  Low.root (p := 2 + 2 ^ k) (fun d h1 h3 => noDiv_ok h d h1 h3) hk (by omega)
theorem pr_big : Pr 999999937 := pr_by 15 (by decide +kernel) (by decide) (by decide)
theorem pr_2 : Pr 2 := Low.root (p := 2) (fun d h1 h2 => by omega) (by decide) (by decide)
theorem pr_3 : Pr 3 := Low.root (p := 2) (fun d h1 h2 => by omega) (by decide) (by decide)
theorem pr_5 : Pr 5 := pr_by 1 (by decide) (by decide) (by decide)
theorem pr_7 : Pr 7 := pr_by 1 (by decide) (by decide) (by decide)
theorem pr_11 : Pr 11 := pr_by 1 (by decide) (by decide) (by decide)
theorem pr_13 : Pr 13 := pr_by 1 (by decide) (by decide) (by decide)
theorem pr_101 : Pr 101 := pr_by 4 (by decide +kernel) (by decide) (by decide)
theorem pr_997 : Pr 997 := pr_by 5 (by decide +kernel) (by decide) (by decide)
theorem pr_9973 : Pr 9973 := pr_by 7 (by decide +kernel) (by decide) (by decide)
/-- a prime divides -/
theorem has_pr : ∀ (m n : Nat), n ≤ m → 2 ≤ n → ∃ p, Pr p ∧ p ∣ n
  | 0, n, h1, h2 => by omega
  | m + 1, n, h1, h2 => by
    by_cases c : Pr n
    · exact ⟨n, c, Nat.dvd_refl n⟩
    · have : ∃ d, d ∣ n ∧ d ≠ 1 ∧ d ≠ n := Classical.byContradiction fun z => c ⟨h2, fun d dd => Classical.byContradiction fun y => z ⟨d, dd, fun e => y (.inl e), fun e => y (.inr e)⟩⟩
      obtain ⟨d, dd, d1, dn⟩ := this
      have dl := Nat.le_of_dvd (by omega) dd
      have d0 : d ≠ 0 := fun z => by
        subst z
        have := Nat.eq_zero_of_zero_dvd dd
        omega
      obtain ⟨p, hp, pd⟩ := has_pr m d (by omega) (by omega)
      exact ⟨p, hp, Nat.dvd_trans pd dd⟩
end K74
namespace K74
open PySem PySem.Spec PyProof.Rows L2 Den
/-! fences and lots -/
def gF (vs : List Int) : Int := gcdF (minI vs) vs 0
theorem min_in {vs : List Int} (h : vs ≠ []) : minI vs ∈ vs := by
  cases vs with
  | nil => exact absurd rfl h
  | cons n r => exact minI_mem n r
theorem max_in {vs : List Int} (h : vs ≠ []) : maxI vs ∈ vs := by
  cases vs with
  | nil => exact absurd rfl h
  | cons n r => exact maxI_mem n r
theorem gF_dvd {vs : List Int} {x : Int} (h : x ∈ vs) : gF vs ∣ x - minI vs := (gcdF_dvd _ vs 0).2 x h
theorem gF_gr {vs : List Int} {d : Int} (h : ∀ x ∈ vs, d ∣ x - minI vs) : d ∣ gF vs := gcdF_gr _ vs 0 d (Int.dvd_zero d) h
theorem gF_nn (vs : List Int) : 0 ≤ gF vs := gcdF_nn _ vs 0 (Int.le_refl 0)
section
variable {vs : List Int} {ps : List Nat}
/-- the lots of the values -/
def lotsOf (vs : List Int) (ps : List Nat) : Lots := ps.map fun (p : Nat) => ((p : Int), (usrt vs).filter fun u => decide ((u - minI vs) / gF vs % (p : Int) ≠ 0))
theorem mem_lots {q : Int × List Int} : q ∈ lotsOf vs ps ↔ ∃ p ∈ ps, q = ((p : Int), (usrt vs).filter fun u => decide ((u - minI vs) / gF vs % (p : Int) ≠ 0)) := by
  unfold lotsOf
  rw [List.mem_map]
  exact ⟨fun ⟨p, a, b⟩ => ⟨p, a, b.symm⟩, fun ⟨p, a, b⟩ => ⟨p, a, b.symm⟩⟩
theorem mem_lot {p : Nat} {x : Int} : x ∈ ((usrt vs).filter fun u => decide ((u - minI vs) / gF vs % (p : Int) ≠ 0)) ↔ x ∈ vs ∧ ¬ (p : Int) ∣ (x - minI vs) / gF vs := by
  rw [List.mem_filter, usrt_mem, decide_eq_true_iff, Int.dvd_iff_emod_eq_zero]
theorem ne_nil (hg : 0 < gF vs) : vs ≠ [] := fun z => by
  subst z
  exact absurd hg (by decide)
theorem lo_lt_hi (hg : 0 < gF vs) : minI vs < maxI vs := by
  have ne := ne_nil hg
  refine Int.not_le.mp fun z => ?_
  have : (0 : Int) ∣ gF vs := gF_gr fun x hx => by
    have a := minI_least hx
    have b := maxI_most hx
    have : x - minI vs = 0 := by omega
    rw [this]
    exact Int.dvd_refl 0
  have := Int.zero_dvd.mp this
  omega
theorem stp (hg : 0 < gF vs) {x : Int} (hx : x ∈ vs) : x - minI vs = gF vs * ((x - minI vs) / gF vs) := by
  rw [Int.mul_ediv_cancel' (gF_dvd hx)]
theorem N_pos (hg : 0 < gF vs) : 0 < (maxI vs - minI vs) / gF vs := by
  have h := lo_lt_hi hg
  have e := stp hg (max_in (ne_nil hg))
  refine Int.not_le.mp fun z => ?_
  have := Int.mul_le_mul_of_nonneg_left z (Int.le_of_lt hg)
  rw [← e, Int.mul_zero] at this
  omega
/-- a prime that divides all steps can't be -/
theorem not_all (hg : 0 < gF vs) {row : List Int} {p : Nat} (hp : Pr p) (hm : minI row = minI vs) (hr : gF row = gF vs) (sub : ∀ x ∈ row, x ∈ vs) (h : ∀ x ∈ row, (p : Int) ∣ (x - minI vs) / gF vs) : False := by
  have : gF vs * (p : Int) ∣ gF row := gF_gr fun x hx => by
    rw [hm, stp hg (sub x hx)]
    exact Int.mul_dvd_mul (Int.dvd_refl _) (h x hx)
  rw [hr] at this
  have h1 : gF vs * (p : Int) ∣ gF vs * 1 := by rw [Int.mul_one]; exact this
  have h2 : (p : Int) ∣ 1 := Int.dvd_of_mul_dvd_mul_left (by omega) h1
  have h3 := Int.le_of_dvd (by decide) h2
  have := hp.1
  omega
theorem lots_good (hg : 0 < gF vs) (hp : PrimesOf ((maxI vs - minI vs) / gF vs).toNat ps) : Good (lotsOf vs ps) := by
  refine ⟨?_, fun q hq => ?_⟩
  · unfold lotsOf
    rw [List.map_map]
    exact List.Pairwise.map _ (fun a b h z => by
      have z : (a : Int) = b := z
      omega) hp.asc
  · obtain ⟨p, hm, rfl⟩ := mem_lots.mp hq
    intro z
    refine not_all hg ((hp.mem p).mp hm).1 rfl rfl (fun x hx => hx) fun x hx => Classical.byContradiction fun y => ?_
    have z : ((usrt vs).filter fun u => decide ((u - minI vs) / gF vs % (p : Int) ≠ 0)) = [] := z
    have := mem_lot.mpr ⟨hx, y⟩
    rw [z] at this
    cases this
theorem dvd_N {p : Nat} (hg : 0 < gF vs) (hp : PrimesOf ((maxI vs - minI vs) / gF vs).toNat ps) : p ∈ ps ↔ Pr p ∧ (p : Int) ∣ (maxI vs - minI vs) / gF vs := by
  have n0 := N_pos hg
  rw [hp.mem]
  refine and_congr_right fun _ => ?_
  have e : (((maxI vs - minI vs) / gF vs).toNat : Int) = (maxI vs - minI vs) / gF vs := Int.toNat_of_nonneg (Int.le_of_lt n0)
  rw [← Int.natCast_dvd_natCast, e]
theorem in_lot (hg : 0 < gF vs) (hp : PrimesOf ((maxI vs - minI vs) / gF vs).toNat ps) {x : Int} (h : ∃ q ∈ lotsOf vs ps, x ∈ q.2) : x ∈ vs ∧ x ≠ minI vs ∧ x ≠ maxI vs := by
  obtain ⟨q, hq, hx⟩ := h
  obtain ⟨p, hm, rfl⟩ := mem_lots.mp hq
  obtain ⟨a, b⟩ := mem_lot.mp hx
  refine ⟨a, fun z => b ?_, fun z => b ?_⟩
  · rw [z, Int.sub_self, Int.zero_ediv]
    exact Int.dvd_zero _
  · rw [z]
    exact ((dvd_N hg hp).mp hm).2
/-- what the program tells -/
theorem told_ok (hg : 0 < gF vs) (hp : PrimesOf ((maxI vs - minI vs) / gF vs).toNat ps) {ch : List Int} (h1 : ∀ x ∈ ch, ∃ q ∈ lotsOf vs ps, x ∈ q.2) (h2 : ch.Nodup) (h3 : Hits (lotsOf vs ps) ((lotsOf vs ps).map (·.1)) ch) :
    (srtI (minI vs :: maxI vs :: ch)).Pairwise (· < ·) ∧ (∀ x ∈ srtI (minI vs :: maxI vs :: ch), x ∈ vs) ∧ minI (srtI (minI vs :: maxI vs :: ch)) = minI vs ∧ maxI (srtI (minI vs :: maxI vs :: ch)) = maxI vs ∧ gF (srtI (minI vs :: maxI vs :: ch)) = gF vs := by
  have lh := lo_lt_hi hg
  have ne := ne_nil hg
  have pm := srtI_perm (minI vs :: maxI vs :: ch)
  have nd : (minI vs :: maxI vs :: ch).Nodup := by
    refine List.nodup_cons.mpr ⟨fun z => ?_, List.nodup_cons.mpr ⟨fun z => (in_lot hg hp (h1 _ z)).2.2 rfl, h2⟩⟩
    rcases List.mem_cons.mp z with z | z
    · omega
    · exact (in_lot hg hp (h1 _ z)).2.1 rfl
  have mem : ∀ x, x ∈ srtI (minI vs :: maxI vs :: ch) ↔ x = minI vs ∨ x = maxI vs ∨ x ∈ ch := fun x => by
    rw [pm.mem_iff, List.mem_cons, List.mem_cons]
  have sub : ∀ x ∈ srtI (minI vs :: maxI vs :: ch), x ∈ vs := fun x hx => by
    rcases (mem x).mp hx with rfl | rfl | hx
    · exact min_in ne
    · exact max_in ne
    · exact (in_lot hg hp (h1 x hx)).1
  have mlo : minI (srtI (minI vs :: maxI vs :: ch)) = minI vs := (minI_is ((mem _).mpr (.inl rfl)) fun y hy => minI_least (sub y hy)).symm
  have mhi : maxI (srtI (minI vs :: maxI vs :: ch)) = maxI vs := (maxI_is ((mem _).mpr (.inr (.inl rfl))) fun y hy => maxI_most (sub y hy)).symm
  refine ⟨?_, sub, mlo, mhi, ?_⟩
  · have a := srtI_pair (minI vs :: maxI vs :: ch)
    have b := pm.symm.nodup nd
    exact (List.pairwise_and_iff.mpr ⟨a, b⟩).imp fun {x y} h => by omega
  · -- the step
    have d1 : gF vs ∣ gF (srtI (minI vs :: maxI vs :: ch)) := gF_gr fun x hx => by
      rw [mlo]
      exact gF_dvd (sub x hx)
    obtain ⟨m, hm⟩ := d1
    have dv : ∀ x ∈ srtI (minI vs :: maxI vs :: ch), m ∣ (x - minI vs) / gF vs := fun x hx => by
      have := gF_dvd hx
      rw [mlo, hm, stp hg (sub x hx)] at this
      exact Int.dvd_of_mul_dvd_mul_left (by omega) this
    have m0 : 0 ≤ m := by
      refine Int.not_lt.mp fun z => ?_
      have := gF_nn (srtI (minI vs :: maxI vs :: ch))
      rw [hm] at this
      have := Int.mul_neg_of_pos_of_neg hg z
      omega
    have mN := dv _ ((mem (maxI vs)).mpr (.inr (.inl rfl)))
    have n0 := N_pos hg
    have m1 : m ≠ 0 := fun z => by
      subst z
      have := Int.zero_dvd.mp mN
      omega
    by_cases c : m = 1
    · rw [hm, c, Int.mul_one]
    · exfalso
      obtain ⟨p, pp, pd⟩ := has_pr m.toNat m.toNat (Nat.le_refl _) (by omega)
      have pd : (p : Int) ∣ m := by
        have e : ((m.toNat : Nat) : Int) = m := Int.toNat_of_nonneg m0
        rw [← e]
        exact Int.natCast_dvd_natCast.mpr pd
      have pin : p ∈ ps := (dvd_N hg hp).mpr ⟨pp, Int.dvd_trans pd mN⟩
      obtain ⟨x, hx, hl⟩ := h3 _ (mem_lots.mpr ⟨p, pin, rfl⟩) (List.mem_map_of_mem (mem_lots.mpr ⟨p, pin, rfl⟩))
      exact (mem_lot.mp hl).2 (Int.dvd_trans pd (dv x ((mem x).mpr (.inr (.inr hx)))))
/-- no row with this fence is shorter than two and a meeting row -/
theorem row_long (hg : 0 < gF vs) (hp : PrimesOf ((maxI vs - minI vs) / gF vs).toNat ps) {row : List Int} (sub : ∀ x ∈ row, x ∈ vs) (h0 : row ≠ []) (hm : minI row = minI vs) (hM : maxI row = maxI vs) (hr : gF row = gF vs) :
    ∃ T : List Int, Hits (lotsOf vs ps) ((lotsOf vs ps).map (·.1)) T ∧ T.length + 2 ≤ row.length := by
  have lh := lo_lt_hi hg
  have li := min_in h0
  have hi := max_in h0
  rw [hm] at li
  rw [hM] at hi
  have hi2 : maxI vs ∈ row.erase (minI vs) := (List.mem_erase_of_ne (by omega)).mpr hi
  refine ⟨(row.erase (minI vs)).erase (maxI vs), fun q hq _ => ?_, ?_⟩
  · obtain ⟨p, pin, rfl⟩ := mem_lots.mp hq
    refine Classical.byContradiction fun z => ?_
    obtain ⟨pp, pN⟩ := (dvd_N hg hp).mp pin
    refine not_all hg pp hm hr sub fun x hx => Classical.byContradiction fun y => ?_
    by_cases x1 : x = minI vs
    · rw [x1, Int.sub_self, Int.zero_ediv] at y
      exact y (Int.dvd_zero _)
    · by_cases x2 : x = maxI vs
      · rw [x2] at y
        exact y pN
      · exact z ⟨x, (List.mem_erase_of_ne x2).mpr ((List.mem_erase_of_ne x1).mpr hx), mem_lot.mpr ⟨sub x hx, y⟩⟩
  · rw [List.length_erase_of_mem hi2, List.length_erase_of_mem li]
    have := List.length_pos_of_mem li
    have := List.length_pos_of_mem hi2
    rw [List.length_erase_of_mem li] at this
    omega
/-- a meeting row there is, and how the told row stands to all rows -/
theorem fewest (hg : 0 < gF vs) (hp : PrimesOf ((maxI vs - minI vs) / gF vs).toNat ps) : ∃ ch, meet (lotsOf vs ps) = some ch ∧ (srtI (minI vs :: maxI vs :: ch)).Pairwise (· < ·) ∧ (∀ x ∈ srtI (minI vs :: maxI vs :: ch), x ∈ vs) ∧
    minI (srtI (minI vs :: maxI vs :: ch)) = minI vs ∧ maxI (srtI (minI vs :: maxI vs :: ch)) = maxI vs ∧ gF (srtI (minI vs :: maxI vs :: ch)) = gF vs ∧ (srtI (minI vs :: maxI vs :: ch)).length = ch.length + 2 ∧
    (∀ row : List Int, (∀ x ∈ row, x ∈ vs) → row ≠ [] → minI row = minI vs → maxI row = maxI vs → gF row = gF vs → ch.length + 2 ≤ row.length) ∧ (∀ T, Hits (lotsOf vs ps) ((lotsOf vs ps).map (·.1)) T → ch.length ≤ T.length) ∧ Hits (lotsOf vs ps) ((lotsOf vs ps).map (·.1)) ch ∧ ch.Nodup := by
  obtain ⟨ch, e, h1, h2, h3, h4⟩ := meet_ok (lots_good hg hp)
  obtain ⟨a, b, c, d, f⟩ := told_ok hg hp h1 h2 h3
  refine ⟨ch, e, a, b, c, d, f, ?_, fun row sub h0 hm hM hr => ?_, h4, h3, h2⟩
  · rw [(srtI_perm _).length_eq]
    rfl
  · obtain ⟨T, t1, t2⟩ := row_long hg hp sub h0 hm hM hr
    have := h4 T t1
    omega
end
end K74
namespace K74
open PySem PySem.Spec PyProof.Rows L2 Den
/-! ### a local list at the store's end -/
section
variable {S : AS} {l : List D}
@[simp] theorem loc_get : (S ++ [AO.lst l])[S.length]? = some (.lst l) := by
  rw [List.getElem?_append_right (Nat.le_refl _), Nat.sub_self]
  rfl
@[simp] theorem loc_rd : rdSeq (S ++ [AO.lst l]) (.ref S.length) = some (true, l) := by
  unfold rdSeq
  simp only [loc_get]
@[simp] theorem loc_isL : isL (S ++ [AO.lst l]) (.ref S.length) = true := by
  unfold isL
  rw [loc_rd]
theorem loc_app {x : D} (h : l.length < cap) : mAppend (.ref S.length) [.d x] (S ++ [AO.lst l]) = some (.d .none, S ++ [AO.lst (l ++ [x])]) := by
  unfold mAppend
  have e : (S ++ [AO.lst l]).set S.length (.lst (l ++ [x])) = S ++ [AO.lst (l ++ [x])] := by
    rw [List.set_append_right _ _ (Nat.le_refl _), Nat.sub_self]
    rfl
  simp only [loc_get, frzD, if_pos h, e]
@[simp] theorem loc_fin : finA S.length (.ref S.length) (S ++ [AO.lst l]) = .ok (.own l) S := by
  unfold finA
  simp only [Nat.lt_irrefl, if_false, loc_get, List.take_left']
@[simp] theorem loc_take : (S ++ [AO.lst l]).take S.length = S := List.take_left' rfl
@[simp] theorem vtuple_loc : vTuple [.ref S.length] (S ++ [AO.lst l]) = some (.d (.tuple l), S ++ [AO.lst l]) := by
  unfold vTuple
  simp only [loc_rd]
@[simp] theorem vtupleF_loc : vTupleF [.ref S.length] (S ++ [AO.lst l]) = some (.d (.tuple l), S ++ [AO.lst l]) := by
  unfold vTupleF
  simp only [loc_rd]
@[simp] theorem vlist_loc : vList [.ref S.length] (S ++ [AO.lst l]) = some (.own l, S ++ [AO.lst l]) := by
  unfold vList
  simp only [loc_rd]
end
/-! ### the values, as they are handed around -/
def VA (a : AV) (S : AS) (vs : List Int) : Prop := a = .d (.list (ds vs)) ∨ ∃ n, a = .ref n ∧ S[n]? = some (.froz (ds vs))
/-- .. or a tuple -/
def VT (a : AV) (S : AS) (vs : List Int) : Prop := VA a S vs ∨ a = .d (.tuple (ds vs))
theorem VA.ext {a : AV} {S : AS} {vs : List Int} (h : VA a S vs) (X : AS) : VA a (S ++ X) vs := by
  rcases h with h | ⟨n, h, k⟩
  · exact .inl h
  · exact .inr ⟨n, h, by rw [List.getElem?_append_left (List.getElem?_eq_some_iff.mp k).1]; exact k⟩
theorem VT.ext {a : AV} {S : AS} {vs : List Int} (h : VT a S vs) (X : AS) : VT a (S ++ X) vs := by
  rcases h with h | h
  · exact .inl (h.ext X)
  · exact .inr h
theorem VT.fz {a : AV} {S : AS} {vs : List Int} (h : VT a S vs) : a.fz = a := by
  rcases h with (rfl | ⟨n, rfl, _⟩) | rfl <;> rfl
theorem VA.rd {a : AV} {S : AS} {vs : List Int} (h : VA a S vs) : rdSeq S a = some (true, ds vs) := by
  rcases h with rfl | ⟨n, rfl, k⟩
  · rfl
  · unfold rdSeq
    simp only [k]
theorem VT.rd {a : AV} {S : AS} {vs : List Int} (h : VT a S vs) : ∃ b, rdSeq S a = some (b, ds vs) := by
  rcases h with h | rfl
  · exact ⟨true, h.rd⟩
  · exact ⟨false, rfl⟩
theorem VT.seq {a : AV} {S : AS} {vs : List Int} (h : VT a S vs) (i : Nat) {σ : ASt} (e : σ[i]? = some (some a)) : iSeq (dVar i) σ S = .ok (ds vs) S := by
  unfold iSeq dVar
  simp only [e]
  rcases h with (rfl | ⟨n, rfl, k⟩) | rfl
  · rfl
  · simp only [fz_ref, frzD, k]
  · rfl
theorem VT.min {a : AV} {S : AS} {n : Int} {r : List Int} (h : VT a S (n :: r)) : vMin [a] S = some (.d (.int (minI (n :: r))), S) := by
  obtain ⟨b, e⟩ := h.rd
  unfold vMin
  rcases h with (rfl | ⟨m, rfl, k⟩) | rfl <;> simp only [e, ds_ints]
theorem VT.max {a : AV} {S : AS} {n : Int} {r : List Int} (h : VT a S (n :: r)) : vMax [a] S = some (.d (.int (maxI (n :: r))), S) := by
  obtain ⟨b, e⟩ := h.rd
  unfold vMax
  rcases h with (rfl | ⟨m, rfl, k⟩) | rfl <;> simp only [e, ds_ints]
theorem VT.sort {a : AV} {S : AS} {vs : List Int} (h : VT a S vs) : vSortT [a] S = some (.own (ds (srtI vs)), S) := by
  obtain ⟨b, e⟩ := h.rd
  unfold vSortT
  simp only [e, ds_ints]
  rfl
theorem VT.len {a : AV} {S : AS} {vs : List Int} (h : VT a S vs) : vLen [a] S = some (.d (.int vs.length), S) := by
  rcases h with (rfl | ⟨m, rfl, k⟩) | rfl
  · rw [len_l, ds_len]
  · unfold vLen
    simp [rdSeq, k]
  · rw [len_t, ds_len]
theorem VT.tup {a : AV} {S : AS} {vs : List Int} (h : VT a S vs) : vTuple [a] S = some (.d (.tuple (ds vs)), S) := by
  obtain ⟨b, e⟩ := h.rd
  unfold vTuple
  simp only [e]
theorem VT.lst {a : AV} {S : AS} {vs : List Int} (h : VT a S vs) : vList [a] S = some (.own (ds vs), S) := by
  obtain ⟨b, e⟩ := h.rd
  unfold vList
  simp only [e]
/-! ### numbers below 2 ^ 100 -/
def Sm (vs : List Int) : Prop := ∀ x ∈ vs, x.natAbs < 2 ^ 102
theorem r_just (x : D) (S : AS) (h : seqShown x = true) (h2 : SeqAt.shaped x = true) (h3 : PyData.eqv x x = true) : den_law_just [.d x, .d x] S = .ok (.d (.bool true)) S := by
  have hr : vRepr [.d x] S = some (.d (.str x.shown), S) := by
    cases x with
    | list l => show (match some (PyData.list l) with | some x => if seqShown x then some (AV.d (.str x.shown), S) else none | none => none) = _; simp [h]
    | tuple l => show (match some (PyData.tuple l) with | some x => if seqShown x then some (AV.d (.str x.shown), S) else none | none => none) = _; simp [h]
    | _ => exact absurd h (by simp [seqShown, isSeqD])
  have ee : cop .Eq (.d x) (.d x) S = some (.d (.bool true), S) := by
    have e0 : cEq0 (.d x) (.d x) S = some (.d (.bool true), S) := by
      unfold cEq0 eqD toD
      simp [h2, h3]
    cases x with
    | str t => show some (AV.d (.bool (decide (t = t))), S) = _; rw [decide_eq_true rfl]
    | _ => exact e0
  have es : ∀ t : Str, cop .Eq (.d (.str t)) (.d (.str t)) S = some (.d (.bool true), S) := fun t => by
    show some (AV.d (.bool (decide (t = t))), S) = _
    rw [decide_eq_true rfl]
  unfold den_law_just c_law_just
  rw [den_of]
  simp [dVar, hr, es, ee]
theorem r_just_int (i : Int) (h : i.natAbs.log2 < 1920) (S : AS) : den_law_just [.d (.int i), .d (.int i)] S = .ok (.d (.bool true)) S := by
  have hr : vRepr [.d (.int i)] S = some (.d (.str (toString i)), S) := by
    show (if i.natAbs.log2 < 1920 then some (AV.d (.str (toString i)), S) else none) = _
    rw [if_pos h]
  have es : ∀ t : Str, cop .Eq (.d (.str t)) (.d (.str t)) S = some (.d (.bool true), S) := fun t => by
    show some (AV.d (.bool (decide (t = t))), S) = _
    rw [decide_eq_true rfl]
  unfold den_law_just c_law_just
  rw [den_of]
  simp [dVar, hr, es]
/-! ### _law_fence -/
def triF (vs : List Int) : D := tri (minI vs) (maxI vs) (gF vs)
theorem lf_loop (lo : Int) (S : AS) : ∀ (l : List Int) (a : AV) (s : Int) (x : Option AV), (∀ y ∈ l, (y - lo).natAbs < 2 ^ 140) → ∃ x', forGo (.nm 3)
    (sAsg 2 false (dCall (arity 2 den_law_gcd) (lCons (dVar 2) (lCons (dBin bSub (dVar 3) (dVar 1)) lNil)))) (ds l) [some a, some (.d (.int lo)), some (.d (.int s)), x] S = .nx [some a, some (.d (.int lo)), some (.d (.int (gcdF lo l s))), x'] S
  | [], a, s, x, _ => ⟨x, rfl⟩
  | n :: l, a, s, x, h => by
    obtain ⟨x', h'⟩ := lf_loop lo S l a (Int.gcd s (n - lo) : Nat) (some (.d (.int n))) fun y hy => h y (List.mem_cons_of_mem _ hy)
    refine ⟨x', ?_⟩
    have g := r_gcd (a := s) (h n List.mem_cons_self) S
    show forGo _ _ (.int n :: ds l) _ _ = _
    rw [for_cons]
    simp [dVar, g]
    exact h'
theorem Sm.dif {vs : List Int} (h : Sm vs) {x y : Int} (hx : x ∈ vs) (hy : y ∈ vs) : (x - y).natAbs < 2 ^ 140 := by
  have a := h x hx
  have b := h y hy
  have e : (2 : Nat) ^ 140 = 2 ^ 102 * 2 ^ 38 := by rw [← Nat.pow_add]
  have : (x - y).natAbs < 2 * 2 ^ 102 := by omega
  refine Nat.lt_of_lt_of_le this ?_
  rw [e, Nat.mul_comm]
  exact Nat.mul_le_mul_left _ (by decide)
theorem r_lfence {a : AV} {S : AS} {vs : List Int} (h : VT a S vs) (h0 : vs ≠ []) (hs : Sm vs) : den_law_fence [a] S = .ok (.d (triF vs)) S := by
  cases vs with
  | nil => exact absurd rfl h0
  | cons n r =>
    have lo : minI (n :: r) ∈ n :: r := minI_mem n r
    obtain ⟨x', e⟩ := lf_loop (minI (n :: r)) S (n :: r) a 0 none fun y hy => hs.dif hy lo
    have v1 := h.min
    have v2 := h.max
    have sq := h.seq 0 (σ := [some a, some (.d (.int (minI (n :: r)))), some (.d (.int 0)), none]) rfl
    have fz := h.fz
    unfold den_law_fence c_law_fence
    rw [den_of]
    generalize hl : n :: r = vs at *
    simp [dVar, fz, v1, v2, sq, e]
    rfl
theorem r_pfence {a : AV} {S : AS} {vs : List Int} (h : VT a S vs) (h0 : vs ≠ []) : den_fence_of_plain [a] S = .ok (.d (triF vs)) S := by
  cases vs with
  | nil => exact absurd rfl h0
  | cons n r =>
    obtain ⟨x', e⟩ := min_loop (minI (n :: r)) (n :: r) a 0 none S
    have v1 := h.min
    have v2 := h.max
    have sq := h.seq 0 (σ := [some a, some (.d (.int (minI (n :: r)))), some (.d (.int 0)), none]) rfl
    have fz := h.fz
    unfold den_fence_of_plain c_fence_of_plain
    rw [den_of]
    generalize hl : n :: r = vs at *
    simp [dVar, fz, v1, v2, sq, e]
    rfl
end K74
namespace K74
open PySem PySem.Spec PyProof.Rows L2 Den
/-! ### primes_of -/
def dn (l : List Nat) : List Int := l.map fun (k : Nat) => (k : Int)
theorem dn_app (l m : List Nat) : dn (l ++ m) = dn l ++ dn m := by unfold dn; rw [List.map_append]
@[simp] theorem dn_len (l : List Nat) : (dn l).length = l.length := by unfold dn; rw [List.length_map]
theorem while_t {ct : Dn} {body : Sn} {n : Nat} {σ σ1 : ASt} {S S1 S2 : AS} (h : ct σ S = .ok (.d (.bool true)) S1) (k : body σ S1 = .nx σ1 S2) : whileGo ct body (n + 1) σ S = whileGo ct body n σ1 S2 := by
  rw [whileGo]
  simp only [h, then_ok, k]
theorem while_f {ct : Dn} {body : Sn} {n : Nat} {σ : ASt} {S S1 : AS} (h : ct σ S = .ok (.d (.bool false)) S1) : whileGo ct body (n + 1) σ S = .nx σ S1 := by
  rw [whileGo]
  simp only [h, then_ok]
theorem lg {p k : Nat} (h : p < 2 ^ k) : p.log2 ≤ k := by
  by_cases z : p = 0
  · subst z
    exact Nat.zero_le _
  · exact Nat.le_of_lt ((Nat.log2_lt z).mpr h)
theorem mod_n {a p : Nat} (hp : 0 < p) (S : AS) : bMod (.d (.int (a : Nat))) (.d (.int (p : Nat))) S = some (.d (.int ((a % p : Nat) : Int)), S) := by
  rw [mod_i (by omega)]
  rfl
theorem fdiv_n {a p : Nat} (hp : 0 < p) (h : p < 2 ^ 60) (S : AS) : bFdiv (.d (.int (a : Nat))) (.d (.int (p : Nat))) S = some (.d (.int ((a / p : Nat) : Int)), S) := by
  rw [fdiv_i (by omega) (by rw [Int.natAbs_natCast]; have := lg h; omega)]
  rfl
theorem mul_n {a p : Nat} (h1 : a < 2 ^ 60) (h : p < 2 ^ 60) (S : AS) : bMul (.d (.int (a : Nat))) (.d (.int (p : Nat))) S = some (.d (.int ((a * p : Nat) : Int)), S) := by
  rw [mul_i (by rw [Int.natAbs_natCast, Int.natAbs_natCast]; have := lg h; have := lg h1; omega)]
  rfl
def ctD : Dn := (dBin (cop .Eq) (dBin bMod (dVar 2) (dVar 3)) (dC (.int 0)))
theorem ctD_ok {x0 x1 : Option AV} {a p : Nat} (hp : 0 < p) (T : AS) : ctD [x0, x1, some (.d (.int (a : Nat))), some (.d (.int (p : Nat)))] T = .ok (.d (.bool (decide (p ∣ a)))) T := by
  have m := mod_n (a := a) hp T
  have e : decide (((a % p : Nat) : Int) = 0) = decide (p ∣ a) := by
    rw [decide_eq_decide, Nat.dvd_iff_mod_eq_zero]
    omega
  unfold ctD
  simp only [x_Bin, dVar, List.getElem?_cons_succ, List.getElem?_cons_zero, bind_ok, fz_d, m, lift_some, x_C, eq_ii]
  rw [e]
theorem in_loop {n : Nat} {l : List Nat} {p : Nat} (h2 : 2 ≤ p) (hp : Pr p) (pb : p < 2 ^ 60) (hl : p ∈ l) (x0 x1 : Option AV) (T : AS) : ∀ (m left : Nat), left < m → 0 < left → Low p left → (∀ q, Pr q → (q ∣ n ↔ q ∈ l ∨ q ∣ left)) →
    ∃ left', whileGo ctD (sAsg 2 false (dBin bFdiv (dVar 2) (dVar 3))) m [x0, x1, some (.d (.int (left : Nat))), some (.d (.int (p : Nat)))] T = .nx [x0, x1, some (.d (.int (left' : Nat))), some (.d (.int (p : Nat)))] T ∧ 0 < left' ∧ Low p left' ∧ (∀ q, Pr q → (q ∣ n ↔ q ∈ l ∨ q ∣ left')) ∧ ¬ p ∣ left' ∧ left' ≤ left
  | 0, left, h, _, _, _ => by omega
  | m + 1, left, h, pos, low, is => by
    by_cases c : p ∣ left
    · obtain ⟨a1, a2, a3, a4⟩ := Fac.out h2 hp pos low is hl c
      obtain ⟨left', e, r1, r2, r3, r4, r5⟩ := in_loop h2 hp pb hl x0 x1 T m (left / p) (by omega) a1 a2 a3
      refine ⟨left', ?_, r1, r2, r3, r4, by omega⟩
      have t := ctD_ok (x0 := x0) (x1 := x1) (a := left) (p := p) (by omega) T
      rw [decide_eq_true c] at t
      have f := fdiv_n (a := left) (p := p) (by omega) pb T
      rw [while_t (S2 := T) t (σ1 := [x0, x1, some (.d (.int ((left / p : Nat) : Int))), some (.d (.int (p : Nat)))]) (by simp [dVar, f])]
      exact e
    · have t := ctD_ok (x0 := x0) (x1 := x1) (a := left) (p := p) (by omega) T
      rw [decide_eq_false c] at t
      exact ⟨left, while_f t, pos, low, is, c, Nat.le_refl _⟩
def bdO : Sn := (sSeq (sIf (dBin (cop .Eq) (dBin bMod (dVar 2) (dVar 3)) (dC (.int 0)))
    (sSeq (sExpr (dMeth mAppend (dVar 1) (lCons (dVar 3) lNil)))
    (sWhile fuel_primes_of (dBin (cop .Eq) (dBin bMod (dVar 2) (dVar 3)) (dC (.int 0)))
    (sAsg 2 false (dBin bFdiv (dVar 2) (dVar 3)))))
    sSkip)
    (sAsg 3 false (dBin bAdd (dVar 3) (dC (.int 1)))))
def ctO : Dn := (dBin (cop .LtE) (dBin bMul (dVar 3) (dVar 3)) (dVar 2))
theorem sq_lt {p n : Nat} (h : p * p ≤ n) (hn : n < 2 ^ 38) : p < 2 ^ 19 := Nat.not_le.mp fun z => by
  have := Nat.mul_le_mul z z
  have e : (2 : Nat) ^ 19 * 2 ^ 19 = 2 ^ 38 := by rw [← Nat.pow_add]
  omega
theorem out_loop {n : Nat} (hn : n < 2 ^ 38) (x0 : Option AV) (S : AS) : ∀ (m : Nat) (l : List Nat) (left p : Nat), n + 3 ≤ m + p → p ≤ n + 2 → p < 2 ^ 40 → 2 ≤ p → left ≤ n → l.length + 2 ≤ p → l.length ≤ 2 ^ 19 → Fac n l left p →
    ∃ l' left' p', whileGo ctO bdO m [x0, some (.ref S.length), some (.d (.int (left : Nat))), some (.d (.int (p : Nat)))] (S ++ [.lst (ds (dn l))]) = .nx [x0, some (.ref S.length), some (.d (.int (left' : Nat))), some (.d (.int (p' : Nat)))] (S ++ [.lst (ds (dn l'))]) ∧ Fac n l' left' p' ∧ left' < p' * p' ∧ l'.length ≤ 2 ^ 19 ∧ left' ≤ n
  | m, l, left, p, hm, pn2, pb, h2, hln, hlen, hk, fc => by
    have mu := mul_n (a := p) (p := p) (Nat.lt_of_lt_of_le pb (Nat.pow_le_pow_right (by decide) (by decide))) (Nat.lt_of_lt_of_le pb (Nat.pow_le_pow_right (by decide) (by decide)))
    have ct : ctO [x0, some (.ref S.length), some (.d (.int (left : Nat))), some (.d (.int (p : Nat)))] (S ++ [.lst (ds (dn l))]) = .ok (.d (.bool (decide (p * p ≤ left)))) (S ++ [.lst (ds (dn l))]) := by
      have e : decide (((p * p : Nat) : Int) ≤ (left : Nat)) = decide (p * p ≤ left) := by rw [decide_eq_decide]; omega
      unfold ctO
      simp only [x_Bin, dVar, List.getElem?_cons_succ, List.getElem?_cons_zero, bind_ok, fz_d, mu, lift_some, le_i]
      rw [e]
    by_cases c : p * p ≤ left
    · rw [decide_eq_true c] at ct
      have pl := sq_lt (Nat.le_trans c hln) hn
      have pn : p ≤ n := Nat.le_trans (Nat.le_trans (Nat.le_mul_of_pos_right p (by omega)) c) hln
      cases m with
      | zero => omega
      | succ m =>
        by_cases d : p ∣ left
        · obtain ⟨hp, is, asc, pr⟩ := fc.found h2 d
          obtain ⟨left', e, r1, r2, r3, r4, r5⟩ := in_loop (l := l ++ [p]) h2 hp (Nat.lt_of_lt_of_le pb (Nat.pow_le_pow_right (by decide) (by decide))) (List.mem_append_right _ List.mem_cons_self) x0 (some (.ref S.length)) (S ++ [.lst (ds (dn (l ++ [p])))]) (left + 2) left (by omega) fc.pos fc.low is
          have fc2 : Fac n (l ++ [p]) left' (p + 1) := ⟨r1, fun k k1 k2 => by
            by_cases ke : k = p
            · rw [ke]; exact r4
            · exact r2 k k1 (by omega), asc, fun q hq => by
            rcases List.mem_append.mp hq with hq | hq
            · exact Nat.lt_succ_of_lt (fc.lt q hq)
            · rw [List.mem_singleton.mp hq]; exact Nat.lt_succ_self p, r3, pr⟩
          obtain ⟨l', l2, p', e2, q1, q2, q3, q4⟩ := out_loop hn x0 S m (l ++ [p]) left' (p + 1) (by omega) (by omega) (by omega) (by omega) (by omega) (by rw [List.length_append, List.length_singleton]; omega) (by rw [List.length_append, List.length_singleton]; omega) fc2
          refine ⟨l', l2, p', ?_, q1, q2, q3, q4⟩
          have ap : mAppend (.ref S.length) [.d (.int (p : Nat))] (S ++ [.lst (ds (dn l))]) = some (.d .none, S ++ [.lst (ds (dn (l ++ [p])))]) := by
            rw [loc_app (by rw [ds_len, dn_len]; unfold cap; omega), dn_app, ← ds_app]
            rfl
          have t := ctD_ok (x0 := x0) (x1 := some (.ref S.length)) (a := left) (p := p) (by omega) (S ++ [.lst (ds (dn l))])
          rw [decide_eq_true d] at t
          have fu : fuel_primes_of [x0, some (.ref S.length), some (.d (.int (left : Nat))), some (.d (.int (p : Nat)))] (S ++ [.lst (ds (dn (l ++ [p])))]) = left + 2 := rfl
          have bd : bdO [x0, some (.ref S.length), some (.d (.int (left : Nat))), some (.d (.int (p : Nat)))] (S ++ [.lst (ds (dn l))]) = .nx [x0, some (.ref S.length), some (.d (.int (left' : Nat))), some (.d (.int ((p + 1 : Nat) : Int)))] (S ++ [.lst (ds (dn (l ++ [p])))]) := by
            unfold ctD at t e
            unfold bdO sWhile
            rw [x_Seq, x_sIf, t]
            simp only [then_ok, x_Seq, x_Expr, x_Meth, x_bMeth, dVar, List.getElem?_cons_succ, List.getElem?_cons_zero, bind_ok, fz_ref, loc_isL, if_true, x_lCons, x_lNil, bindL_ok, lcons_ok, lbind_ok, fz_d, ap, lift_some, fu, e]
            simp [dVar]
          rw [while_t ct bd]
          exact e2
        · obtain ⟨l', l2, p', e2, q1, q2, q3, q4⟩ := out_loop hn x0 S m l left (p + 1) (by omega) (by omega) (by omega) (by omega) hln (by omega) hk (fc.skip d)
          refine ⟨l', l2, p', ?_, q1, q2, q3, q4⟩
          have t := ctD_ok (x0 := x0) (x1 := some (.ref S.length)) (a := left) (p := p) (by omega) (S ++ [.lst (ds (dn l))])
          rw [decide_eq_false d] at t
          have bd : bdO [x0, some (.ref S.length), some (.d (.int (left : Nat))), some (.d (.int (p : Nat)))] (S ++ [.lst (ds (dn l))]) = .nx [x0, some (.ref S.length), some (.d (.int (left : Nat))), some (.d (.int ((p + 1 : Nat) : Int)))] (S ++ [.lst (ds (dn l))]) := by
            unfold ctD at t
            unfold bdO
            rw [x_Seq, x_sIf, t]
            simp [dVar]
          rw [while_t ct bd]
          exact e2
    · rw [decide_eq_false c] at ct
      cases m with
      | zero =>
        omega
      | succ m =>
        exact ⟨l, left, p, while_f ct, fc, by omega, hk, hln⟩
theorem r_primes {n : Nat} (h0 : 0 < n) (hn : n < 2 ^ 38) (S : AS) : ∃ l, den_primes_of [.d (.int (n : Nat))] S = .ok (.own (ds (dn l))) S ∧ PrimesOf n l ∧ l.length ≤ 600000 := by
  obtain ⟨l, left, p, e, fc, lt, ll, ln⟩ := out_loop hn (some (.d (.int (n : Nat)))) S (n + 2) [] n 2 (by omega) (by omega) (by decide) (Nat.le_refl _) (Nat.le_refl _) (Nat.le_refl _) (Nat.zero_le _) (Fac.start h0)
  refine ⟨_, ?_, fc.fin lt, by split <;> first | (rw [List.length_append, List.length_singleton]; omega) | omega⟩
  have fu : fuel_primes_of [some (.d (.int (n : Nat))), some (.ref S.length), some (.d (.int (n : Nat))), some (.d (.int 2))] (S ++ [.lst []]) = n + 2 := rfl
  unfold bdO ctO at e
  have e : whileGo (dBin (cop .LtE) (dBin bMul (dVar 3) (dVar 3)) (dVar 2)) _ (n + 2) [some (.d (.int (n : Nat))), some (.ref S.length), some (.d (.int (n : Nat))), some (.d (.int 2))] (S ++ [.lst []]) = _ := e
  unfold den_primes_of c_primes_of
  rw [den_of]
  have v0 : ∀ S, vLstD [] S = some (.own [], S) := fun S => rfl
  by_cases c : 1 < left
  · have c2 : (1 : Int) < (left : Int) := by omega
    have ap : mAppend (.ref S.length) [.d (.int (left : Nat))] (S ++ [.lst (ds (dn l))]) = some (.d .none, S ++ [.lst (ds (dn (l ++ [left])))]) := by
      rw [loc_app (by rw [ds_len, dn_len]; unfold cap; omega), dn_app, ← ds_app]
      rfl
    rw [if_pos c]
    simp [dVar, v0, sWhile, fu, e, c2, ap]
  · have c2 : ¬ (1 : Int) < (left : Int) := by omega
    rw [if_neg c]
    simp [dVar, v0, sWhile, fu, e, c2]
theorem r_isint (x : Int) (S : AS) : den_is_int [.d (.int x)] S = .ok (.d (.bool true)) S := r_is_int x S
theorem r_check_number {x : Int} (h : 1 ≤ x) (S : AS) : den_check_number [.d (.int x), .d (.int 1)] S = .ok (.d (.int x)) S := by
  unfold den_check_number c_check_number
  rw [den_of]
  have : ¬ x < 1 := by omega
  simp [dVar, r_is_int, this]
theorem r_pfactors {n : Nat} (h0 : 0 < n) (hn : n < 2 ^ 38) (S : AS) : ∃ l, den_prime_factors [.d (.int (n : Nat))] S = .ok (.d (.tuple (ds (dn l)))) S ∧ PrimesOf n l ∧ l.length ≤ 600000 := by
  obtain ⟨l, e, a, b⟩ := r_primes h0 hn S
  refine ⟨l, ?_, a, b⟩
  unfold den_prime_factors c_prime_factors
  rw [den_of]
  simp [dVar, r_check_number (x := (n : Int)) (by omega), e]
/-! ### _law_primes -/
def lpB : Sn := (sSeq (sIf (dBin (cop .NotEq) (dBin bMod (dVar 2) (dVar 3)) (dC (.int 0)))
    sBreak
    sSkip)
    (sAsg 2 false (dBin bFdiv (dVar 2) (dVar 3))))
theorem lp_in {n : Nat} {l : List Nat} {p : Nat} (h2 : 2 ≤ p) (hp : Pr p) (pb : p < 2 ^ 60) (hl : p ∈ l) (x0 x1 : Option AV) (T : AS) : ∀ (its : List D) (left : Nat) (x4 : Option AV), left < 2 ^ its.length → 0 < left → Low p left → (∀ q, Pr q → (q ∣ n ↔ q ∈ l ∨ q ∣ left)) →
    ∃ left' x4', forGo (.nm 4) lpB its [x0, x1, some (.d (.int (left : Nat))), some (.d (.int (p : Nat))), x4] T = .nx [x0, x1, some (.d (.int (left' : Nat))), some (.d (.int (p : Nat))), x4'] T ∧ 0 < left' ∧ Low p left' ∧ (∀ q, Pr q → (q ∣ n ↔ q ∈ l ∨ q ∣ left')) ∧ ¬ p ∣ left' ∧ left' ≤ left
  | [], left, x4, h, pos, _, _ => by
    have : left < 1 := h
    omega
  | i :: its, left, x4, h, pos, low, is => by
    have m := mod_n (a := left) (p := p) (by omega)
    by_cases c : p ∣ left
    · obtain ⟨a1, a2, a3, a4⟩ := Fac.out h2 hp pos low is hl c
      have half : left / p < 2 ^ its.length := by
        rw [List.length_cons, Nat.pow_succ] at h
        have := Nat.div_le_div_left h2 (by decide : 0 < 2) (a := left)
        have : left / 2 < 2 ^ its.length := by omega
        omega
      obtain ⟨left', x4', e, r1, r2, r3, r4, r5⟩ := lp_in h2 hp pb hl x0 x1 T its (left / p) (some (.d i)) half a1 a2 a3
      refine ⟨left', x4', ?_, r1, r2, r3, r4, by omega⟩
      have f := fdiv_n (a := left) (p := p) (by omega) pb T
      have z : ((left % p : Nat) : Int) = 0 := by rw [Nat.mod_eq_zero_of_dvd c]; rfl
      rw [for_cons]
      unfold lpB at e ⊢
      simp only [bind_nm, List.set_cons_succ, List.set_cons_zero, x_Seq, x_sIf, x_Bin, dVar, List.getElem?_cons_succ, List.getElem?_cons_zero, bind_ok, fz_d, m, z, lift_some, x_C, ne_ii, decide_true, Bool.not_true, then_ok, x_Skip, x_Asg, f, asg_d]
      exact e
    · refine ⟨left, some (.d i), ?_, pos, low, is, c, Nat.le_refl _⟩
      have z : ¬ ((left % p : Nat) : Int) = 0 := fun z => c (Nat.dvd_of_mod_eq_zero (by omega))
      rw [for_cons]
      unfold lpB
      simp only [bind_nm, List.set_cons_succ, List.set_cons_zero, x_Seq, x_sIf, x_Bin, dVar, List.getElem?_cons_succ, List.getElem?_cons_zero, bind_ok, fz_d, m, lift_some, x_C, ne_ii, decide_eq_false z, Bool.not_false, then_ok, x_Break]
def lpO : Sn := (sIf (dBin (cop .Eq) (dBin bMod (dVar 2) (dVar 3)) (dC (.int 0)))
    (sSeq (sExpr (dMeth mAppend (dVar 1) (lCons (dVar 3) lNil)))
    (sFor (itL (lCons (dC (.int 40)) lNil) fRng1) (.nm 4) lpB))
    sSkip)
theorem lp_out {n : Nat} (hn : n < 2 ^ 38) (x0 : Option AV) (S : AS) : ∀ (k p : Nat) (l : List Nat) (left : Nat) (x3 x4 : Option AV), 2 ≤ p → p + k < 10000 → left ≤ n → l.length + 2 ≤ p → Fac n l left p →
    ∃ l' left' x3' x4', forGo (.nm 3) lpO ((List.range k).map fun i => PyData.int ((p + i : Nat) : Int)) [x0, some (.ref S.length), some (.d (.int (left : Nat))), x3, x4] (S ++ [.lst (ds (dn l))]) = .nx [x0, some (.ref S.length), some (.d (.int (left' : Nat))), x3', x4'] (S ++ [.lst (ds (dn l'))]) ∧ Fac n l' left' (p + k) ∧ left' ≤ n
  | 0, p, l, left, x3, x4, h2, pb, hln, hlen, fc => ⟨l, left, x3, x4, rfl, fc, hln⟩
  | k + 1, p, l, left, x3, x4, h2, pb, hln, hlen, fc => by
    have its : ((List.range (k + 1)).map fun i => PyData.int ((p + i : Nat) : Int)) = PyData.int ((p : Nat) : Int) :: (List.range k).map fun i => PyData.int ((p + 1 + i : Nat) : Int) := by
      rw [List.range_succ_eq_map, List.map_cons, List.map_map]
      congr 1
      refine List.map_congr_left fun i _ => ?_
      show PyData.int ((p + (i + 1) : Nat) : Int) = _
      rw [show p + (i + 1) = p + 1 + i by omega]
    have pb6 : p < 2 ^ 60 := Nat.lt_of_lt_of_le (show p < 10000 by omega) (by decide)
    have m := mod_n (a := left) (p := p) (by omega)
    rw [its, show p + (k + 1) = p + 1 + k by omega]
    by_cases d : p ∣ left
    · obtain ⟨hp, is, asc, pr⟩ := fc.found h2 d
      have big : left < 2 ^ (rngL 0 40 1).length := by
        rw [rngL_len]
        exact Nat.lt_of_le_of_lt hln (Nat.lt_of_lt_of_le hn (Nat.pow_le_pow_right (by decide) (by decide)))
      obtain ⟨left', x4', e, r1, r2, r3, r4, r5⟩ := lp_in (l := l ++ [p]) h2 hp pb6 (List.mem_append_right _ List.mem_cons_self) x0 (some (.ref S.length)) (S ++ [.lst (ds (dn (l ++ [p])))]) (rngL 0 40 1) left x4 big fc.pos fc.low is
      have fc2 : Fac n (l ++ [p]) left' (p + 1) := ⟨r1, fun k k1 k2 => by
        by_cases ke : k = p
        · rw [ke]; exact r4
        · exact r2 k k1 (by omega), asc, fun q hq => by
        rcases List.mem_append.mp hq with hq | hq
        · exact Nat.lt_succ_of_lt (fc.lt q hq)
        · rw [List.mem_singleton.mp hq]; exact Nat.lt_succ_self p, r3, pr⟩
      obtain ⟨l', l2, x3', x4'', e2, q1, q2⟩ := lp_out hn x0 S k (p + 1) (l ++ [p]) left' (some (.d (.int (p : Nat)))) x4' (by omega) (by omega) (by omega) (by rw [List.length_append, List.length_singleton]; omega) fc2
      refine ⟨l', l2, x3', x4'', ?_, q1, q2⟩
      have ap : mAppend (.ref S.length) [.d (.int (p : Nat))] (S ++ [.lst (ds (dn l))]) = some (.d .none, S ++ [.lst (ds (dn (l ++ [p])))]) := by
        rw [loc_app (by rw [ds_len, dn_len]; unfold cap; omega), dn_app, ← ds_app]
        rfl
      have z : ((left % p : Nat) : Int) = 0 := by rw [Nat.mod_eq_zero_of_dvd d]; rfl
      have fr : ∀ S, fRng1 [.d (.int 40)] S = some (rngL 0 40 1, S) := fun S => rfl
      generalize hR : rngL 0 40 1 = R at *
      rw [for_cons]
      unfold lpO at e2 ⊢
      simp only [bind_nm, List.set_cons_succ, List.set_cons_zero, x_Seq, x_sIf, x_Bin, dVar, List.getElem?_cons_succ, List.getElem?_cons_zero, bind_ok, fz_d, fz_ref, m, z, lift_some, x_C, eq_ii, decide_true, then_ok, x_Expr, x_Meth, x_bMeth, loc_isL, if_true, x_lCons, x_lNil, bindL_ok, lcons_ok, lbind_ok, ap, x_For, x_itL, fr, e]
      exact e2
    · obtain ⟨l', l2, x3', x4'', e2, q1, q2⟩ := lp_out hn x0 S k (p + 1) l left (some (.d (.int (p : Nat)))) x4 (by omega) (by omega) hln (by omega) (fc.skip d)
      refine ⟨l', l2, x3', x4'', ?_, q1, q2⟩
      have z : ¬ ((left % p : Nat) : Int) = 0 := fun z => d (Nat.dvd_of_mod_eq_zero (by omega))
      rw [for_cons]
      unfold lpO at e2 ⊢
      simp only [bind_nm, List.set_cons_succ, List.set_cons_zero, x_sIf, x_Bin, dVar, List.getElem?_cons_succ, List.getElem?_cons_zero, bind_ok, fz_d, m, lift_some, x_C, eq_ii, decide_eq_false z, then_ok, x_Skip]
      exact e2
theorem r_lprimes {n : Nat} (h0 : 0 < n) (hn : n < 2000) (S : AS) : ∃ l, den_law_primes [.d (.int (n : Nat))] S = .ok (.own (ds (dn l))) S ∧ PrimesOf n l := by
  obtain ⟨l, left, x3, x4, e, fc, ln⟩ := lp_out (Nat.lt_of_lt_of_le hn (by decide)) (some (.d (.int (n : Nat)))) S 1998 2 [] n none none (Nat.le_refl _) (by decide) (Nat.le_refl _) (Nat.le_refl _) (Fac.start h0)
  refine ⟨l, ?_, (fc.done (by omega)).1⟩
  have fr : ∀ S, fRng2 [.d (.int 2), .d (.int 2000)] S = some ((List.range 1998).map fun i => PyData.int ((2 + i : Nat) : Int), S) := fun S => by
    show (if (-big62 ≤ (2 : Int) ∧ (2 : Int) < big62) ∧ (-big62 ≤ (2000 : Int) ∧ (2000 : Int) < big62) then some (rngL 2 ((2000 : Int) - 2).toNat 1, S) else none) = _
    rw [if_pos (by unfold big62; omega)]
    have : rngL 2 ((2000 : Int) - 2).toNat 1 = (List.range 1998).map fun i => PyData.int ((2 + i : Nat) : Int) := by
      unfold rngL
      refine List.map_congr_left fun i _ => ?_
      rw [Int.mul_one]
      rfl
    rw [this]
  have v0 : ∀ S, vLstD [] S = some (.own [], S) := fun S => rfl
  unfold lpO lpB at e
  generalize hR : ((List.range 1998).map fun i => PyData.int ((2 + i : Nat) : Int)) = R at *
  unfold den_law_primes c_law_primes
  rw [den_of]
  have e : forGo _ _ R [some (.d (.int (n : Nat))), some (.ref S.length), some (.d (.int (n : Nat))), none, none] (S ++ [.lst []]) = _ := e
  simp [dVar, v0, fr, e]
end K74
namespace K74
open PySem PySem.Spec PyProof.Rows L2 Den
/-! sizes of texts -/
theorem slen_app (a b : Str) : (a ++ b).length = a.length + b.length := strLen_append a b
theorem tup_len (ts : List Str) : (tupleText ts).length ≤ piled ts + 3 := by
  unfold tupleText
  rw [slen_app, slen_app]
  have e1 : (("(" : String) : Str).length = 1 := rfl
  have e2 : (((if ts.length == 1 then ",)" else ")" : String)) : Str).length ≤ 2 := by split <;> decide
  by_cases h : ts = []
  · subst h
    decide
  · have := join_length_add ts h
    omega
theorem lst_len (ts : List Str) : (listText ts).length ≤ piled ts + 3 := by
  unfold listText
  rw [slen_app]
  have e1 : (("]" : String) : Str).length = 1 := rfl
  have e0 : (("[" : String) : Str).length = 1 := rfl
  cases ts with
  | nil => show (textFrom 0 "[" []).length + _ ≤ _; unfold textFrom; omega
  | cons t r =>
    have e2 : textFrom 0 "[" (t :: r) = textFrom 1 (("[" : Str) ++ ("" : Str) ++ t) r := rfl
    rw [e2, textFrom_length_pos _ _ _ (by decide), slen_app, slen_app, piled_cons]
    have e3 : (("" : String) : Str).length = 0 := rfl
    omega
theorem int_len {i : Int} (h : i.natAbs < 2 ^ 102) : (PyData.shown (.int i)).length ≤ 104 := by
  have hl : i.natAbs.log2 < 103 := by
    by_cases z : i.natAbs = 0
    · rw [z]; decide
    · have := (Nat.log2_lt z).mpr h
      omega
  have := int_text_length_le (a := i) (k := 103) (by decide) hl
  show (Str.ofString (toString i)).length ≤ 104
  rw [PySem.ofString_length]
  exact this
theorem ints_piled : ∀ {l : List Int}, Sm l → piled (PyData.shownAll (ds l)) ≤ 106 * l.length
  | [], _ => by decide
  | x :: l, h => by
    have := ints_piled (l := l) fun y hy => h y (List.mem_cons_of_mem _ hy)
    have e := int_len (h x List.mem_cons_self)
    show piled (PyData.shown (.int x) :: PyData.shownAll (ds l)) ≤ _
    rw [piled_cons, List.length_cons]
    omega
theorem log_sm {i : Int} (h : i.natAbs < 2 ^ 102) : i.natAbs.log2 < 1920 := by
  by_cases z : i.natAbs = 0
  · rw [z]; decide
  · have := (Nat.log2_lt z).mpr h
    omega
theorem ints_showable : ∀ {l : List Int}, Sm l → PyData.showableAll (ds l) = true
  | [], _ => rfl
  | x :: l, h => by
    have := ints_showable (l := l) fun y hy => h y (List.mem_cons_of_mem _ hy)
    show (decide (x.natAbs.log2 < 1920) && PyData.showableAll (ds l)) = true
    rw [this, decide_eq_true (log_sm (h x List.mem_cons_self))]
    rfl
theorem ints_noDict : ∀ l : List Int, PyData.hasDictAll (ds l) = false
  | [] => rfl
  | x :: l => by
    show (false || PyData.hasDictAll (ds l)) = false
    rw [ints_noDict l]
    rfl
theorem ints_depth : ∀ l : List Int, PyData.depthAll (ds l) = 0
  | [] => rfl
  | x :: l => by
    show max 0 (PyData.depthAll (ds l)) = 0
    rw [ints_depth l]
    rfl
theorem ints_lay : ∀ l : List Int, PyData.canLayAll0 (ds l) = true
  | [] => rfl
  | x :: l => by
    show (true && PyData.canLayAll0 (ds l)) = true
    rw [ints_lay l]
    rfl
theorem shown_t {l : List Int} (h : Sm l) (hl : l.length ≤ 1000) : seqShown (.tuple (ds l)) = true := by
  have a := ints_piled h
  have b := tup_len (PyData.shownAll (ds l))
  have c : (PyData.shown (.tuple (ds l))).length ≤ cap := by
    show (tupleText (PyData.shownAll (ds l))).length ≤ 1000000
    omega
  unfold seqShown
  have e1 : PyData.showable (.tuple (ds l)) = true := ints_showable h
  have e2 : PyData.hasDict (.tuple (ds l)) = false := ints_noDict l
  have e3 : PyData.depth (.tuple (ds l)) = 1 := by show PyData.depthAll (ds l) + 1 = 1; rw [ints_depth]
  rw [e1, e2, e3, decide_eq_true c]
  rfl
theorem shown_l {l : List Int} (h : Sm l) (hl : l.length ≤ 1000) : seqShown (.list (ds l)) = true := by
  have a := ints_piled h
  have b := lst_len (PyData.shownAll (ds l))
  have c : (PyData.shown (.list (ds l))).length ≤ cap := by
    show (listText (PyData.shownAll (ds l))).length ≤ 1000000
    omega
  unfold seqShown
  have e1 : PyData.showable (.list (ds l)) = true := ints_showable h
  have e2 : PyData.hasDict (.list (ds l)) = false := ints_noDict l
  have e3 : PyData.depth (.list (ds l)) = 1 := by show PyData.depthAll (ds l) + 1 = 1; rw [ints_depth]
  rw [e1, e2, e3, decide_eq_true c]
  rfl
theorem shaped_t (l : List Int) : SeqAt.shaped (.tuple (ds l)) = true := by
  show (PyData.canLayAll0 (ds l) && decide (PyData.depthAll (ds l) + 1 ≤ 64)) = true
  rw [ints_lay, ints_depth]
  rfl
theorem eqv_t (l : List Int) : PyData.eqv (.tuple (ds l)) (.tuple (ds l)) = true := SeqAt.eqv_refl _ (ints_lay l)
/-! lots -/
def SmL (L : Lots) : Prop := ∀ q ∈ L, q.1.natAbs < 2 ^ 102 ∧ Sm q.2 ∧ q.2.length ≤ 100
theorem lots_piled : ∀ {L : Lots}, SmL L → piled (PyData.shownAll (dLots L)) ≤ 11000 * L.length
  | [], _ => by decide
  | q :: L, h => by
    have ih := lots_piled (L := L) fun y hy => h y (List.mem_cons_of_mem _ hy)
    obtain ⟨h1, h2, h3⟩ := h q List.mem_cons_self
    show piled (PyData.shown (.tuple [.int q.1, .tuple (ds q.2)]) :: PyData.shownAll (dLots L)) ≤ _
    rw [piled_cons, List.length_cons]
    have a := tup_len [PyData.shown (.int q.1), PyData.shown (.tuple (ds q.2))]
    have b := tup_len (PyData.shownAll (ds q.2))
    have c := ints_piled h2
    have d := int_len h1
    have e : piled [PyData.shown (.int q.1), PyData.shown (.tuple (ds q.2))] = (PyData.shown (.int q.1)).length + 2 + ((PyData.shown (.tuple (ds q.2))).length + 2) := by simp [piled]
    have f : (PyData.shown (.tuple [.int q.1, .tuple (ds q.2)])) = tupleText [PyData.shown (.int q.1), PyData.shown (.tuple (ds q.2))] := rfl
    have g : PyData.shown (.tuple (ds q.2)) = tupleText (PyData.shownAll (ds q.2)) := rfl
    rw [f]
    rw [g] at a e ⊢
    omega
theorem lots_showable : ∀ {L : Lots}, SmL L → PyData.showableAll (dLots L) = true
  | [], _ => rfl
  | q :: L, h => by
    have ih := lots_showable (L := L) fun y hy => h y (List.mem_cons_of_mem _ hy)
    obtain ⟨h1, h2, h3⟩ := h q List.mem_cons_self
    show ((decide (q.1.natAbs.log2 < 1920) && (PyData.showableAll (ds q.2) && true)) && PyData.showableAll (dLots L)) = true
    rw [ih, ints_showable h2, decide_eq_true (log_sm h1)]
    rfl
theorem lots_noDict : ∀ L : Lots, PyData.hasDictAll (dLots L) = false
  | [] => rfl
  | q :: L => by
    show ((false || (PyData.hasDictAll (ds q.2) || false)) || PyData.hasDictAll (dLots L)) = false
    rw [lots_noDict L, ints_noDict]
    rfl
theorem lots_depth : ∀ L : Lots, PyData.depthAll (dLots L) ≤ 2
  | [] => by decide
  | q :: L => by
    show max (max 0 (max (PyData.depthAll (ds q.2) + 1) 0) + 1) (PyData.depthAll (dLots L)) ≤ 2
    have := lots_depth L
    rw [ints_depth]
    omega
theorem lots_lay : ∀ L : Lots, PyData.canLayAll0 (dLots L) = true
  | [] => rfl
  | q :: L => by
    show ((true && (PyData.canLayAll0 (ds q.2) && true)) && PyData.canLayAll0 (dLots L)) = true
    rw [lots_lay L, ints_lay]
    rfl
theorem just_lots {L : Lots} (h : SmL L) (hl : L.length ≤ 16) (S : AS) : den_law_just [.d (.tuple (dLots L)), .d (.tuple (dLots L))] S = .ok (.d (.bool true)) S := by
  refine r_just _ S ?_ ?_ (SeqAt.eqv_refl _ (lots_lay L))
  · have a := lots_piled h
    have b := tup_len (PyData.shownAll (dLots L))
    have c : (PyData.shown (.tuple (dLots L))).length ≤ cap := by
      show (tupleText (PyData.shownAll (dLots L))).length ≤ 1000000
      omega
    unfold seqShown
    have e1 : PyData.showable (.tuple (dLots L)) = true := lots_showable h
    have e2 : PyData.hasDict (.tuple (dLots L)) = false := lots_noDict L
    have e3 : PyData.depth (.tuple (dLots L)) ≤ 60 := by
      show PyData.depthAll (dLots L) + 1 ≤ 60
      have := lots_depth L
      omega
    rw [e1, e2, decide_eq_true e3, decide_eq_true c]
    rfl
  · show (PyData.canLayAll0 (dLots L) && decide (PyData.depthAll (dLots L) + 1 ≤ 64)) = true
    have := lots_depth L
    rw [lots_lay, decide_eq_true (by omega)]
    rfl
theorem just_t {l : List Int} (h : Sm l) (hl : l.length ≤ 1000) (S : AS) : den_law_just [.d (.tuple (ds l)), .d (.tuple (ds l))] S = .ok (.d (.bool true)) S := r_just _ S (shown_t h hl) (shaped_t l) (eqv_t l)
end K74
namespace K74
open PySem PySem.Spec PyProof.Rows L2 Den
/-! ### comprehensions that filter -/
theorem lcf_go {i : Nat} {ct : Dn} {σ0 : ASt} {S : AS} {f : Int → Bool} (hi : i < σ0.length) (hct : ∀ x, ct (σ0.set i (some (.d (.int x)))) S = .ok (.d (.bool (f x))) S) : ∀ (l acc : List Int), acc.length + l.length ≤ cap →
    lcGo (.nm i) ct (dVar i) σ0 (ds l) S (ds acc) = .ok (.own (ds (acc ++ l.filter f))) S
  | [], acc, _ => by rw [List.filter_nil, List.append_nil]; rfl
  | x :: l, acc, h => by
    rw [List.length_cons] at h
    have hc : (ds acc).length < cap := by rw [ds_len]; omega
    show lcGo (.nm i) ct (dVar i) σ0 (PyData.int x :: ds l) S (ds acc) = _
    unfold lcGo
    simp only [bind_nm, hct x]
    cases e : f x with
    | true =>
      have ih := lcf_go hi hct l (acc ++ [x]) (by rw [List.length_append, List.length_singleton]; omega)
      rw [← ds_app] at ih
      rw [List.filter_cons, e]
      have dv : dVar i (σ0.set i (some (.d (.int x)))) S = .ok (.d (.int x)) S := by
        unfold dVar
        rw [List.getElem?_set_self hi]
      simp only [dv, fz_d, frzD, if_pos hc, if_true]
      rw [show ds acc ++ [PyData.int x] = ds acc ++ ds [x] from rfl, ih, List.append_assoc]
      rfl
    | false =>
      have ih := lcf_go hi hct l acc (by omega)
      rw [List.filter_cons, e]
      simp only [Bool.false_eq_true, if_false]
      exact ih
theorem lcf {i : Nat} {it : It1} {ct : Dn} {σ : ASt} {S : AS} {l : List Int} {f : Int → Bool} (e : it σ S = .ok (ds l) S) (hi : i < σ.length) (hct : ∀ x, ct ((σ.set i none).set i (some (.d (.int x)))) S = .ok (.d (.bool (f x))) S) (hl : l.length ≤ cap) :
    dLc it (.nm i) ct (dVar i) [i] σ S = .ok (.own (ds (l.filter f))) S := by
  unfold dLc
  rw [e]
  exact lcf_go (σ0 := σ.set i none) (by rw [List.length_set]; exact hi) hct l [] (by rw [List.length_nil]; omega)
/-! ### _law_unlike -/
theorem notin_loc (l : List Int) (x : Int) (S : AS) : cop .NotIn (.d (.int x)) (.ref S.length) (S ++ [.lst (ds l)]) = some (.d (.bool (!l.contains x)), S ++ [.lst (ds l)]) := by
  show (match inD (S ++ [.lst (ds l)]) (.d (.int x)) (.ref S.length) with | some k => some (AV.d (.bool (!k)), _) | none => none) = _
  unfold inD
  rw [loc_rd]
  dsimp only
  unfold ds
  rw [flat_ints, any_ints]
  rfl
theorem un_loop (x0 : Option AV) (S : AS) : ∀ (l acc : List Int) (x2 : Option AV), l.Pairwise (· ≤ ·) → acc.Pairwise (· < ·) → (∀ a ∈ acc, ∀ x ∈ l, a ≤ x) → acc.length + l.length < cap → ∃ acc' x2', forGo (.nm 2) (sIf (dBin (cop .NotIn) (dVar 2) (dVar 1))
    (sExpr (dMeth mAppend (dVar 1) (lCons (dVar 2) lNil)))
    sSkip) (ds l) [x0, some (.ref S.length), x2] (S ++ [.lst (ds acc)]) = .nx [x0, some (.ref S.length), x2'] (S ++ [.lst (ds acc')]) ∧ acc'.Pairwise (· < ·) ∧ ∀ k, k ∈ acc' ↔ k ∈ acc ∨ k ∈ l
  | [], acc, x2, _, ha, _, _ => ⟨acc, x2, rfl, ha, fun k => by simp⟩
  | x :: l, acc, x2, hl, ha, hle, hc => by
    obtain ⟨l1, l2⟩ := List.pairwise_cons.mp hl
    rw [List.length_cons] at hc
    have ni := notin_loc acc x S
    show ∃ acc' x2', forGo _ _ (PyData.int x :: ds l) _ _ = _ ∧ _
    cases c : acc.contains x with
    | true =>
      have hx := List.contains_iff_mem.mp c
      obtain ⟨acc', x2', e, r1, r2⟩ := un_loop x0 S l acc (some (.d (.int x))) l2 ha (fun a h y hy => hle a h y (List.mem_cons_of_mem _ hy)) (by omega)
      refine ⟨acc', x2', ?_, r1, fun k => ?_⟩
      · rw [for_cons]
        rw [c] at ni
        simp [dVar, ni]
        exact e
      · rw [r2 k, List.mem_cons]
        constructor
        · rintro (a | a)
          · exact .inl a
          · exact .inr (.inr a)
        · rintro (a | a | a)
          · exact .inl a
          · exact .inl (a ▸ hx)
          · exact .inr a
    | false =>
      have hx : x ∉ acc := fun z => by
        rw [List.contains_iff_mem.mpr z] at c
        cases c
      have ha2 : (acc ++ [x]).Pairwise (· < ·) := List.pairwise_append.mpr ⟨ha, by simp, fun a h b hb => by
        rw [List.mem_singleton.mp hb]
        have := hle a h x List.mem_cons_self
        have : a ≠ x := fun z => hx (z ▸ h)
        omega⟩
      obtain ⟨acc', x2', e, r1, r2⟩ := un_loop x0 S l (acc ++ [x]) (some (.d (.int x))) l2 ha2 (fun a h y hy => by
        rcases List.mem_append.mp h with h | h
        · exact hle a h y (List.mem_cons_of_mem _ hy)
        · rw [List.mem_singleton.mp h]; exact l1 y hy) (by rw [List.length_append, List.length_singleton]; omega)
      refine ⟨acc', x2', ?_, r1, fun k => ?_⟩
      · have ap : mAppend (.ref S.length) [.d (.int x)] (S ++ [.lst (ds acc)]) = some (.d .none, S ++ [.lst (ds (acc ++ [x]))]) := by
          rw [loc_app (by rw [ds_len]; omega), ← ds_app]
          rfl
        rw [for_cons]
        rw [c] at ni
        simp [dVar, ni, ap]
        exact e
      · rw [r2 k, List.mem_append, List.mem_singleton, List.mem_cons, or_assoc]
theorem r_unlike {a : AV} {S : AS} {vs : List Int} (h : VT a S vs) (hl : vs.length ≤ 1000) : den_law_unlike [a] S = .ok (.own (ds (usrt vs))) S := by
  obtain ⟨acc, x2, e, r1, r2⟩ := un_loop (some a) S (srtI vs) [] none (srtI_pair vs) List.Pairwise.nil (fun a h => by cases h) (by rw [(srtI_perm vs).length_eq]; unfold cap; simp; omega)
  have eu : acc = usrt vs := lt_ext r1 (usrt_lt vs) fun k => by
    rw [r2 k, usrt_mem, (srtI_perm vs).mem_iff]
    simp
  subst eu
  have st := (h.ext [.lst []]).sort
  have fz := h.fz
  have v0 : ∀ S, vLstD [] S = some (.own [], S) := fun S => rfl
  have e : forGo _ _ (ds (srtI vs)) [some a, some (.ref S.length), none] (S ++ [.lst []]) = _ := e
  unfold den_law_unlike c_law_unlike
  rw [den_of]
  simp [dVar, v0, fz, st, iSeq, frzD, e]
/-! ### lots -/
theorem gF_log {vs : List Int} (hs : Sm vs) (hg : 0 < gF vs) : (gF vs).natAbs.log2 < 9000 := by
  have ne := ne_nil hg
  have d := gF_dvd (max_in ne)
  have lh := lo_lt_hi hg
  have := Int.le_of_dvd (by omega) d
  have b := hs.dif (max_in ne) (min_in ne)
  have c : (gF vs).natAbs < 2 ^ 140 := by omega
  have := lg c
  omega
theorem dec_ne (x : Int) : decide (x ≠ 0) = !decide (x = 0) := by
  by_cases h : x = 0
  · subst h; rfl
  · rw [decide_eq_true h, decide_eq_false h]
    rfl
def lotF (vs : List Int) (p : Int) (u : Int) : Bool := !decide ((u - minI vs) / gF vs % p = 0)
theorem lotsOf_eq (vs : List Int) (ps : List Nat) : lotsOf vs ps = ps.map fun (p : Nat) => ((p : Int), (usrt vs).filter (lotF vs p)) := by
  unfold lotsOf lotF
  refine List.map_congr_left fun p _ => ?_
  congr 1
  refine List.filter_congr fun u _ => ?_
  rw [dec_ne]
theorem dLots_app (L M : Lots) : dLots (L ++ M) = dLots L ++ dLots M := by unfold dLots; rw [List.map_append]
@[simp] theorem dLots_len (L : Lots) : (dLots L).length = L.length := by unfold dLots; rw [List.length_map]
def lotsB : Sn := (sExpr (dMeth mAppend (dVar 5) (lCons (dCallV vTupD (lCons (dVar 6) (lCons (dCallV vTuple (lCons (dLc (iSeq (dVar 4)) (.nm 7) (dBin (cop .NotEq) (dBin bMod (dBin bFdiv (dBin bSub (dVar 7) (dVar 1)) (dVar 3)) (dVar 6)) (dC (.int 0))) (dVar 7) [7]) lNil)) lNil))) lNil)))
theorem usrt_len (vs : List Int) : (usrt vs).length ≤ vs.length := nodup_le ((usrt_lt vs).imp fun {a b} h => by omega) fun x hx => usrt_mem.mp hx
theorem lots_loop {vs : List Int} (hs : Sm vs) (hg : 0 < gF vs) (hl : vs.length ≤ 1000) (x0 x2 : Option AV) (S : AS) : ∀ (ps : List Nat) (acc : Lots) (x6 x7 : Option AV), (∀ p ∈ ps, 0 < p) → acc.length + ps.length < cap →
    ∃ x6' x7', forGo (.nm 6) lotsB (ds (dn ps)) [x0, some (.d (.int (minI vs))), x2, some (.d (.int (gF vs))), some (.d (.list (ds (usrt vs)))), some (.ref S.length), x6, x7] (S ++ [.lst (dLots acc)]) = .nx [x0, some (.d (.int (minI vs))), x2, some (.d (.int (gF vs))), some (.d (.list (ds (usrt vs)))), some (.ref S.length), x6', x7'] (S ++ [.lst (dLots (acc ++ lotsOf vs ps))])
  | [], acc, x6, x7, _, _ => ⟨x6, x7, by rw [show lotsOf vs [] = [] from rfl, List.append_nil]; rfl⟩
  | p :: ps, acc, x6, x7, hp, hc => by
    rw [List.length_cons] at hc
    have p0 := hp p List.mem_cons_self
    obtain ⟨x6', x7', e⟩ := lots_loop hs hg hl x0 x2 S ps (acc ++ [((p : Int), (usrt vs).filter (lotF vs p))]) (some (.d (.int (p : Nat)))) x7 (fun q hq => hp q (List.mem_cons_of_mem _ hq)) (by rw [List.length_append, List.length_singleton]; omega)
    refine ⟨x6', x7', ?_⟩
    have el : lotsOf vs (p :: ps) = ((p : Int), (usrt vs).filter (lotF vs p)) :: lotsOf vs ps := by rw [lotsOf_eq, lotsOf_eq]; rfl
    rw [el, show acc ++ ((p : Int), (usrt vs).filter (lotF vs p)) :: lotsOf vs ps = (acc ++ [((p : Int), (usrt vs).filter (lotF vs p))]) ++ lotsOf vs ps by rw [List.append_assoc]; rfl]
    have lc := lcf (i := 7) (it := iSeq (dVar 4)) (ct := (dBin (cop .NotEq) (dBin bMod (dBin bFdiv (dBin bSub (dVar 7) (dVar 1)) (dVar 3)) (dVar 6)) (dC (.int 0)))) (σ := [x0, some (.d (.int (minI vs))), x2, some (.d (.int (gF vs))), some (.d (.list (ds (usrt vs)))), some (.ref S.length), some (.d (.int (p : Nat))), x7]) (S := S ++ [.lst (dLots acc)]) (l := usrt vs) (f := lotF vs p) rfl (by simp) (fun x => by
      have f1 := fdiv_i (i := x - minI vs) (j := gF vs) (S := S ++ [.lst (dLots acc)]) hg (gF_log hs hg)
      have f2 := mod_i (i := (x - minI vs) / gF vs) (j := (p : Int)) (S := S ++ [.lst (dLots acc)]) (by omega)
      simp [dVar, f1, f2, lotF]) (by have := usrt_len vs; unfold cap; omega)
    have ap : mAppend (.ref S.length) [.d (.tuple [.int (p : Nat), .tuple (ds ((usrt vs).filter (lotF vs p)))])] (S ++ [.lst (dLots acc)]) = some (.d .none, S ++ [.lst (dLots (acc ++ [((p : Int), (usrt vs).filter (lotF vs p))]))]) := by
      rw [loc_app (by rw [dLots_len]; omega), dLots_app]
      rfl
    show forGo _ _ (PyData.int (p : Nat) :: ds (dn ps)) _ _ = _
    obtain ⟨S2, hS2⟩ : ∃ S2, S ++ [AO.lst (dLots (acc ++ [((p : Int), (usrt vs).filter (lotF vs p))] ++ lotsOf vs ps))] = S2 := ⟨_, rfl⟩
    rw [hS2] at e ⊢
    rw [for_cons]
    unfold lotsB at e ⊢
    simp [dVar, lc, ap]
    exact e
theorem r_lots0 {vs : List Int} (h0 : vs ≠ []) (hg : gF vs = 0) (S : AS) : den_lots_by_prime [.d (.tuple (ds vs))] S = .ok (.d (.tuple [])) S := by
  have pf := r_pfence (a := .d (.tuple (ds vs))) (S := S) (.inr rfl) h0
  unfold den_lots_by_prime c_lots_by_prime
  rw [den_of]
  simp [dVar, pf, triF, hg]
theorem r_lots {vs : List Int} (hs : Sm vs) (hg : 0 < gF vs) (hl : vs.length < 64) (hN : (maxI vs - minI vs) / gF vs < 274877906944) (S : AS) : ∃ ps, den_lots_by_prime [.d (.tuple (ds vs))] S = .ok (.d (.tuple (dLots (lotsOf vs ps)))) S ∧ PrimesOf ((maxI vs - minI vs) / gF vs).toNat ps := by
  have ne := ne_nil hg
  have n0 := N_pos hg
  have pf := r_pfence (a := .d (.tuple (ds vs))) (S := S) (.inr rfl) ne
  obtain ⟨ps, e1, p1, p2⟩ := r_primes (n := ((maxI vs - minI vs) / gF vs).toNat) (by omega) (by omega) (S ++ [.lst []])
  rw [Int.toNat_of_nonneg (Int.le_of_lt n0)] at e1
  obtain ⟨x6, x7, e2⟩ := lots_loop hs hg (by omega) (some (.d (.tuple (ds vs)))) (some (.d (.int (maxI vs)))) S ps [] none none (fun p hp => by have := ((p1.mem p).mp hp).1.1; omega) (by unfold cap; simp; omega)
  have e2 : forGo _ _ (ds (dn ps)) _ (S ++ [.lst []]) = _ := e2
  refine ⟨ps, ?_, p1⟩
  have g0 : ¬ gF vs = 0 := by omega
  have fd := fun S => fdiv_i (i := maxI vs - minI vs) (j := gF vs) (S := S) hg (gF_log hs hg)
  have v0 : ∀ S, vLstD [] S = some (.own [], S) := fun S => rfl
  have ss : ∀ σ S, σ[0]? = some (some (.d (.tuple (ds vs)))) → dSortSet (iSeq (dVar 0)) (.nm 7) (dC (.bool true)) (dVar 7) [7] σ S = (dLc (iSeq (dVar 0)) (.nm 7) (dC (.bool true)) (dVar 7) [7] σ S).bind fun a S1 => liftV (vUsort a S1) := fun σ S _ => rfl
  have lc := lcf (i := 7) (it := iSeq (dVar 0)) (ct := dC (.bool true)) (σ := [some (.d (.tuple (ds vs))), some (.d (.int (minI vs))), some (.d (.int (maxI vs))), some (.d (.int (gF vs))), none, none, none, none]) (S := S) (l := vs) (f := fun _ => true) rfl (by simp) (fun x => rfl) (by unfold cap; omega)
  have ft : vs.filter (fun _ => true) = vs := List.filter_eq_self.mpr fun _ _ => rfl
  rw [ft] at lc
  have us : ∀ S, vUsort (.d (.list (ds vs))) S = some (.own (ds (usrt vs)), S) := fun S => by
    unfold vUsort
    simp only [ds_ints, if_pos hl]
    rfl
  have s1 : dSortSet (iSeq (dVar 0)) (.nm 7) (dC (.bool true)) (dVar 7) [7] [some (.d (.tuple (ds vs))), some (.d (.int (minI vs))), some (.d (.int (maxI vs))), some (.d (.int (gF vs))), none, none, none, none] S = .ok (.own (ds (usrt vs))) S := by
    unfold dSortSet
    rw [lc, bind_ok, fz_own, us, lift_some]
  unfold lotsB at e2
  rw [List.nil_append] at e2
  unfold den_lots_by_prime c_lots_by_prime
  rw [den_of]
  simp [dVar, pf, triF, g0, s1, v0, iSeq, frzD, fd, e1, e2]
end K74
namespace K74
open PySem PySem.Spec PyProof.Rows L2 Den
/-! ### _law_own_lots -/
def ownB : Sn := (sExpr (dMeth mAppend (dVar 3) (lCons (dCallV vTupD (lCons (dVar 4) (lCons (dCallV vTuple (lCons (dLc (iSeq (dCall (arity 1 den_law_unlike) (lCons (dVar 0) lNil))) (.nm 5) (dBin (cop .NotEq) (dBin bMod (dBin bFdiv (dBin bSub (dVar 5) (dBin vIx (dVar 2) (dC (.int 0)))) (dBin vIx (dVar 2) (dC (.int 2)))) (dVar 4)) (dC (.int 0))) (dVar 5) [5]) lNil)) lNil))) lNil)))
theorem own_loop {a : AV} {vs : List Int} {S : AS} (h : VT a S vs) (hs : Sm vs) (hg : 0 < gF vs) (hl : vs.length ≤ 1000) (x1 : Option AV) : ∀ (ps : List Nat) (acc : Lots) (x4 x5 : Option AV), (∀ p ∈ ps, 0 < p) → acc.length + ps.length < cap →
    ∃ x4' x5', forGo (.nm 4) ownB (ds (dn ps)) [some a, x1, some (.d (triF vs)), some (.ref S.length), x4, x5] (S ++ [.lst (dLots acc)]) = .nx [some a, x1, some (.d (triF vs)), some (.ref S.length), x4', x5'] (S ++ [.lst (dLots (acc ++ lotsOf vs ps))])
  | [], acc, x4, x5, _, _ => ⟨x4, x5, by rw [show lotsOf vs [] = [] from rfl, List.append_nil]; rfl⟩
  | p :: ps, acc, x4, x5, hp, hc => by
    rw [List.length_cons] at hc
    have p0 := hp p List.mem_cons_self
    obtain ⟨x4', x5', e⟩ := own_loop h hs hg hl x1 ps (acc ++ [((p : Int), (usrt vs).filter (lotF vs p))]) (some (.d (.int (p : Nat)))) x5 (fun q hq => hp q (List.mem_cons_of_mem _ hq)) (by rw [List.length_append, List.length_singleton]; omega)
    refine ⟨x4', x5', ?_⟩
    have el : lotsOf vs (p :: ps) = ((p : Int), (usrt vs).filter (lotF vs p)) :: lotsOf vs ps := by rw [lotsOf_eq, lotsOf_eq]; rfl
    rw [el, show acc ++ ((p : Int), (usrt vs).filter (lotF vs p)) :: lotsOf vs ps = (acc ++ [((p : Int), (usrt vs).filter (lotF vs p))]) ++ lotsOf vs ps by rw [List.append_assoc]; rfl]
    have fz := h.fz
    have ul := r_unlike (h.ext [.lst (dLots acc)]) hl
    have it : iSeq (dCall (arity 1 den_law_unlike) (lCons (dVar 0) lNil)) [some a, x1, some (.d (triF vs)), some (.ref S.length), some (.d (.int (p : Nat))), x5] (S ++ [.lst (dLots acc)]) = .ok (ds (usrt vs)) (S ++ [.lst (dLots acc)]) := by
      simp [iSeq, dVar, fz, ul, frzD]
    have lc := lcf (i := 5) (it := iSeq (dCall (arity 1 den_law_unlike) (lCons (dVar 0) lNil))) (ct := (dBin (cop .NotEq) (dBin bMod (dBin bFdiv (dBin bSub (dVar 5) (dBin vIx (dVar 2) (dC (.int 0)))) (dBin vIx (dVar 2) (dC (.int 2)))) (dVar 4)) (dC (.int 0)))) (σ := [some a, x1, some (.d (triF vs)), some (.ref S.length), some (.d (.int (p : Nat))), x5]) (S := S ++ [.lst (dLots acc)]) (l := usrt vs) (f := lotF vs p) it (by simp) (fun x => by
      have f1 := fdiv_i (i := x - minI vs) (j := gF vs) (S := S ++ [.lst (dLots acc)]) hg (gF_log hs hg)
      have f2 := mod_i (i := (x - minI vs) / gF vs) (j := (p : Int)) (S := S ++ [.lst (dLots acc)]) (by omega)
      simp [dVar, triF, f1, f2, lotF]) (by have := usrt_len vs; unfold cap; omega)
    have ap : mAppend (.ref S.length) [.d (.tuple [.int (p : Nat), .tuple (ds ((usrt vs).filter (lotF vs p)))])] (S ++ [.lst (dLots acc)]) = some (.d .none, S ++ [.lst (dLots (acc ++ [((p : Int), (usrt vs).filter (lotF vs p))]))]) := by
      rw [loc_app (by rw [dLots_len]; omega), dLots_app]
      rfl
    obtain ⟨S2, hS2⟩ : ∃ S2, S ++ [AO.lst (dLots (acc ++ [((p : Int), (usrt vs).filter (lotF vs p))] ++ lotsOf vs ps))] = S2 := ⟨_, rfl⟩
    rw [hS2] at e ⊢
    show forGo _ _ (PyData.int (p : Nat) :: ds (dn ps)) _ _ = _
    rw [for_cons]
    unfold ownB at e ⊢
    simp [dVar, lc, ap]
    exact e
theorem r_own {a : AV} {vs : List Int} {S : AS} (h : VT a S vs) (h0 : vs ≠ []) (hs : Sm vs) (hl : vs.length ≤ 1000) {ps : List Nat} (hg : ps = [] ∨ 0 < gF vs) (hp : ∀ p ∈ ps, 0 < p) (hc : ps.length < 1000) : den_law_own_lots [a, .d (.list (ds (dn ps)))] S = .ok (.d (.tuple (dLots (lotsOf vs ps)))) S := by
  have lf := r_lfence h h0 hs
  have fz := h.fz
  have v0 : ∀ S, vLstD [] S = some (.own [], S) := fun S => rfl
  have e : ∃ x4' x5', forGo (.nm 4) ownB (ds (dn ps)) [some a, some (.d (.list (ds (dn ps)))), some (.d (triF vs)), some (.ref S.length), none, none] (S ++ [.lst []]) = .nx [some a, some (.d (.list (ds (dn ps)))), some (.d (triF vs)), some (.ref S.length), x4', x5'] (S ++ [.lst (dLots (lotsOf vs ps))]) := by
    rcases hg with rfl | hg
    · exact ⟨none, none, rfl⟩
    · exact own_loop h hs hg hl _ ps [] none none hp (by unfold cap; simp; omega)
  obtain ⟨x4, x5, e⟩ := e
  have sq : iSeq (dVar 1) [some a, some (.d (.list (ds (dn ps)))), some (.d (triF vs)), some (.ref S.length), none, none] (S ++ [.lst []]) = .ok (ds (dn ps)) (S ++ [.lst []]) := rfl
  unfold ownB at e
  unfold den_law_own_lots c_law_own_lots
  rw [den_of]
  simp [dVar, fz, lf, v0, sq, e]
/-! ### few primes -/
theorem few_primes : ∀ (ps : List Nat) (n : Nat), 0 < n → ps.Pairwise (· < ·) → (∀ p ∈ ps, Pr p ∧ p ∣ n) → 2 ^ ps.length ≤ n
  | [], n, h, _, _ => h
  | p :: ps, n, h, hp, hd => by
    obtain ⟨h1, h2⟩ := List.pairwise_cons.mp hp
    obtain ⟨pp, m, hm⟩ := hd p List.mem_cons_self
    have m0 : 0 < m := Nat.pos_of_ne_zero fun z => by subst z; omega
    have := few_primes ps m m0 h2 fun q hq => by
      obtain ⟨a, b⟩ := hd q (List.mem_cons_of_mem _ hq)
      rw [hm] at b
      refine ⟨a, (a.euclid b).resolve_left fun z => ?_⟩
      rcases pp.2 q z with c | c
      · have := a.1; omega
      · have := h1 q hq; omega
    rw [List.length_cons, Nat.pow_succ, hm]
    have := pp.1
    calc 2 ^ ps.length * 2 ≤ m * 2 := Nat.mul_le_mul_right 2 (by omega)
      _ ≤ m * p := Nat.mul_le_mul_left m this
      _ = p * m := Nat.mul_comm m p
theorem ps_len {n : Nat} {ps : List Nat} (h : PrimesOf n ps) (h0 : 0 < n) (hn : n < 65536) : ps.length ≤ 16 := by
  have := few_primes ps n h0 h.asc fun p hp => (h.mem p).mp hp
  refine Nat.not_lt.mp fun z => ?_
  have := Nat.pow_le_pow_right (n := 2) (by decide) (show 16 ≤ ps.length by omega)
  omega
/-! ### fewest_values -/
theorem r_meet {L : Lots} {ch : List Int} (g : Good L) (hl : L.length ≤ 16) (e : meet L = some ch) (S : AS) : den_fewest_meeting_numbers [.d (.tuple (dLots L))] S = .ok (.d (.tuple (ds ch))) S := by
  have gb : goodB L = true := by
    unfold goodB
    rw [decide_eq_true g.nd, decide_eq_true hl, List.all_eq_true.mpr fun q hq => by
      have := g.ne q hq
      cases e : q.2 with
      | nil => exact absurd e this
      | cons a b => rfl]
    rfl
  show (match lotsD? (dLots L) with | some L => if goodB L = true then match meet L with | some ch => ER.ok (AV.d (.tuple (ch.map PyData.int))) S | none => .stuck else .stuck | none => .stuck) = _
  rw [lotsD?_map]
  dsimp only
  rw [if_pos gb, e]
  rfl
/-- the conditions on values -/
structure Ok (vs : List Int) : Prop where
  ne : vs ≠ []
  sm : Sm vs
  len : vs.length < 20
  N : (maxI vs - minI vs) / gF vs < 65536
theorem lotsOf_len (vs : List Int) (ps : List Nat) : (lotsOf vs ps).length = ps.length := by unfold lotsOf; rw [List.length_map]
abbrev lt2 (b : Bool) (vs : List Int) : AV := .d (if b then .list (ds vs) else .tuple (ds vs))
theorem r_chk (b : Bool) {vs : List Int} (h : vs ≠ []) (S : AS) : den_check_integers [lt2 b vs] S = .ok (.d (.tuple (ds vs))) S := by
  cases vs with
  | nil => exact absurd rfl h
  | cons n r => exact r_ints_seq b n r S
theorem same_all {vs : List Int} (h : gF vs = 0) {x : Int} (hx : x ∈ vs) : x = minI vs := by
  have := gF_dvd hx
  rw [h] at this
  have := Int.zero_dvd.mp this
  omega
theorem triF_inj {a b : List Int} (h : triF a = triF b) : minI a = minI b ∧ maxI a = maxI b ∧ gF a = gF b := by
  unfold triF tri at h
  injection h with h
  injection h with h1 h
  injection h with h2 h
  injection h with h3 h
  exact ⟨PyData.int.inj h1, PyData.int.inj h2, PyData.int.inj h3⟩
theorem r_fewest {vs : List Int} (k : Ok vs) : ∃ told : List Int, (∀ (b : Bool) S, den_fewest_values [lt2 b vs] S = .ok (.d (.tuple (ds told))) S) ∧ told.Pairwise (· < ·) ∧ told ≠ [] ∧ (∀ x ∈ told, x ∈ vs) ∧ triF told = triF vs ∧
    (∀ row : List Int, (∀ x ∈ row, x ∈ vs) → row ≠ [] → triF row = triF vs → told.length ≤ row.length) ∧
    (0 < gF vs → ∀ ps, PrimesOf ((maxI vs - minI vs) / gF vs).toNat ps → (∀ T, Hits (lotsOf vs ps) ((lotsOf vs ps).map (·.1)) T → told.length ≤ T.length + 2) ∧ ∃ ch : List Int, Hits (lotsOf vs ps) ((lotsOf vs ps).map (·.1)) ch ∧ ch.Nodup ∧ told.length = ch.length + 2) ∧ (gF vs = 0 → told = [minI vs]) := by
  have nn := gF_nn vs
  have pf := fun S => r_pfence (a := .d (.tuple (ds vs))) (S := S) (.inr rfl) k.ne
  by_cases g0 : gF vs = 0
  · refine ⟨[minI vs], fun b S => ?_, by simp, by simp, fun x hx => ?_, ?_, fun row _ h _ => ?_, fun h => by omega, fun _ => rfl⟩
    · have ck := r_chk b k.ne S
      unfold den_fewest_values c_fewest_values
      rw [den_of]
      simp [dVar, ck, pf, triF, g0]
      rfl
    · rw [List.mem_singleton.mp hx]
      exact min_in k.ne
    · have a := same_all g0 (max_in k.ne)
      show tri (minI vs) (minI vs) (gF [minI vs]) = tri (minI vs) (maxI vs) (gF vs)
      have : gF [minI vs] = 0 := by
        show ((Int.gcd 0 (minI vs - minI vs) : Nat) : Int) = 0
        rw [Int.sub_self]
        rfl
      rw [this, g0, ← a]
    · have := List.length_pos_iff.mpr h
      show 1 ≤ row.length
      omega
  · have hg : 0 < gF vs := by omega
    have n0 := N_pos hg
    obtain ⟨ps, _, p1⟩ := r_lots k.sm hg (by have := k.len; omega) (by have := k.N; omega) []
    obtain ⟨ch, em, f1, f2, f3, f4, f5, f6, f7, f8, f9, f10⟩ := fewest hg p1
    refine ⟨srtI (minI vs :: maxI vs :: ch), fun b S => ?_, f1, fun z => ?_, f2, ?_, fun row sub h e => ?_, fun _ ps' p1' => ?_, fun z => by omega⟩
    · have ck := r_chk b k.ne S
      obtain ⟨ps2, e2, p2⟩ := r_lots k.sm hg (by have := k.len; omega) (by have := k.N; omega) S
      have := p1.one p2
      subst this
      have mt := r_meet (lots_good hg p1) (by rw [lotsOf_len]; exact ps_len p1 (by omega) (by have := k.N; omega)) em S
      have hl : ch.length + 2 ≤ 20 := by
        have a := f7 vs (fun x h => h) k.ne rfl rfl rfl
        have := k.len
        omega
      have ad : bAdd (.d (.tuple [.int (minI vs), .int (maxI vs)])) (.d (.tuple (ds ch))) S = some (.d (.tuple (ds (minI vs :: maxI vs :: ch))), S) := by
        show (if [PyData.int (minI vs), .int (maxI vs)].length + (ds ch).length ≤ cap then some (AV.d (.tuple ([PyData.int (minI vs), .int (maxI vs)] ++ ds ch)), S) else none) = _
        rw [if_pos (by rw [ds_len]; unfold cap; simp; omega)]
        rfl
      have so := VT.sort (a := .d (.tuple (ds (minI vs :: maxI vs :: ch)))) (S := S) (.inr rfl)
      unfold den_fewest_values c_fewest_values
      rw [den_of]
      simp [dVar, ck, pf, triF, g0, e2, mt, ad, so]
    · rw [z] at f6
      simp at f6
    · unfold triF
      rw [f3, f4, f5]
    · obtain ⟨a, b, c⟩ := triF_inj e
      rw [f6]
      exact f7 row sub h a b c
    · have := p1.one p1'
      subst this
      refine ⟨fun T hT => by have := f8 T hT; omega, ch, f9, f10, f6⟩
theorem r_fnum {vs told : List Int} {b : Bool} {S : AS} (h : den_fewest_values [lt2 b vs] S = .ok (.d (.tuple (ds told))) S) : den_fewest_value_number [lt2 b vs] S = .ok (.d (.int told.length)) S := by
  unfold den_fewest_value_number c_fewest_value_number
  rw [den_of]
  simp [dVar, h]
theorem r_plots0 {vs : List Int} (b : Bool) (h0 : vs ≠ []) (hg : gF vs = 0) (S : AS) : den_prime_lots [lt2 b vs] S = .ok (.d (.tuple [])) S := by
  have a := r_lots0 h0 hg S
  have ck := r_chk b h0 S
  unfold den_prime_lots c_prime_lots
  rw [den_of]
  simp [dVar, ck, a]
theorem r_plots {vs : List Int} (b : Bool) (k : Ok vs) (hg : 0 < gF vs) {ps : List Nat} (hp : PrimesOf ((maxI vs - minI vs) / gF vs).toNat ps) (S : AS) : den_prime_lots [lt2 b vs] S = .ok (.d (.tuple (dLots (lotsOf vs ps)))) S := by
  obtain ⟨ps2, a, p2⟩ := r_lots k.sm hg (by have := k.len; omega) (by have := k.N; omega) S
  have := hp.one p2
  subst this
  have ck := r_chk b k.ne S
  unfold den_prime_lots c_prime_lots
  rw [den_of]
  simp [dVar, ck, a]
end K74
namespace K74
open PySem PySem.Spec PyProof.Rows L2 Den
/-! ### _law_tries -/
def sameB (a b : List Int) : Bool := decide (minI a = minI b) && (decide (maxI a = maxI b) && (decide (gF a = gF b) && true))
theorem sameB_iff {a b : List Int} : sameB a b = true ↔ triF a = triF b := by
  unfold sameB
  simp only [Bool.and_eq_true, decide_eq_true_eq, and_true]
  constructor
  · rintro ⟨h1, h2, h3⟩
    unfold triF
    rw [h1, h2, h3]
  · exact triF_inj
theorem eq_tri (a b : List Int) (S : AS) : cop .Eq (.d (triF a)) (.d (triF b)) S = some (.d (.bool (sameB a b)), S) := by
  have e : PyData.eqv (triF a) (triF b) = sameB a b := by
    show (PyData.eqv (.int (minI a)) (.int (minI b)) && (PyData.eqv (.int (maxI a)) (.int (maxI b)) && (PyData.eqv (.int (gF a)) (.int (gF b)) && true))) = sameB a b
    rw [eqv_ii, eqv_ii, eqv_ii]
    rfl
  show (match (if SeqAt.shaped (triF a) && SeqAt.shaped (triF b) then some (PyData.eqv (triF a) (triF b)) else none) with | some k => some (AV.d (.bool k), S) | none => none) = _
  rw [e, show SeqAt.shaped (triF a) = true from rfl, show SeqAt.shaped (triF b) = true from rfl]
  rfl
def dRows (M : List (List Int)) : List D := M.map fun r => PyData.tuple (ds r)
theorem dRows_app (L M : List (List Int)) : dRows (L ++ M) = dRows L ++ dRows M := by unfold dRows; rw [List.map_append]
@[simp] theorem dRows_len (L : List (List Int)) : (dRows L).length = L.length := by unfold dRows; rw [List.length_map]
theorem rows_lc {x0 x1 x2 x4 : Option AV} {v : Int} {S : AS} : ∀ (M acc : List (List Int)), acc.length + M.length ≤ cap → (∀ r ∈ M, r.length ≤ 1000) →
    lcGo (.nm 5) (dC (.bool true)) (dBin bAdd (dVar 5) (dCallV vTupD (lCons (dVar 3) lNil))) [x0, x1, x2, some (.d (.int v)), x4, none] (dRows M) S (dRows acc) = .ok (.own (dRows (acc ++ M.map fun r => r ++ [v]))) S
  | [], acc, _, _ => by rw [List.map_nil, List.append_nil]; rfl
  | r :: M, acc, h, hr => by
    rw [List.length_cons] at h
    have ih := rows_lc (x0 := x0) (x1 := x1) (x2 := x2) (x4 := x4) (v := v) (S := S) M (acc ++ [r ++ [v]]) (by rw [List.length_append, List.length_singleton]; omega) fun q hq => hr q (List.mem_cons_of_mem _ hq)
    have hc : (dRows acc).length < cap := by rw [dRows_len]; omega
    have ad : bAdd (.d (.tuple (ds r))) (.d (.tuple [.int v])) S = some (.d (.tuple (ds (r ++ [v]))), S) := by
      show (if (ds r).length + [PyData.int v].length ≤ cap then some (AV.d (.tuple (ds r ++ [PyData.int v])), S) else none) = _
      rw [if_pos (by have := hr r List.mem_cons_self; rw [ds_len]; unfold cap; simp; omega), ← ds_app]
      rfl
    show lcGo _ _ _ _ (PyData.tuple (ds r) :: dRows M) S (dRows acc) = _
    unfold lcGo
    simp only [bind_nm, List.set_cons_succ, List.set_cons_zero, x_C, x_Bin, dVar, List.getElem?_cons_succ, List.getElem?_cons_zero, bind_ok, fz_d, x_CallV, x_lCons, x_lNil, bindL_ok, lcons_ok, lbind_ok, tup_d1, lift_some, ad, frzD, if_pos hc]
    rw [dRows_app] at ih
    rw [show dRows acc ++ [PyData.tuple (ds (r ++ [v]))] = dRows acc ++ dRows [r ++ [v]] from rfl, ih, List.append_assoc]
    rfl
def rowsF (rows : List (List Int)) (v : Int) : List (List Int) := rows ++ rows.map fun r => r ++ [v]
def rowsB : Sn := (sAsg 2 false (dBin bAdd (dVar 2) (dLc (iSeq (dVar 2)) (.nm 5) (dC (.bool true)) (dBin bAdd (dVar 5) (dCallV vTupD (lCons (dVar 3) lNil))) [5])))
theorem rows_loop {x0 x1 x4 : Option AV} {S : AS} : ∀ (U : List Int) (rows : List (List Int)) (k : Nat) (x3 x5 : Option AV), rows.length ≤ 2 ^ k → (∀ r ∈ rows, r.length ≤ k) → k + U.length ≤ 19 →
    ∃ x3' x5', forGo (.nm 3) rowsB (ds U) [x0, x1, some (.d (.list (dRows rows))), x3, x4, x5] S = .nx [x0, x1, some (.d (.list (dRows (U.foldl rowsF rows)))), x3', x4, x5'] S ∧ (U.foldl rowsF rows).length ≤ 2 ^ (k + U.length)
  | [], rows, k, x3, x5, h, _, _ => ⟨x3, x5, rfl, h⟩
  | v :: U, rows, k, x3, x5, h, hr, hk => by
    rw [List.length_cons] at hk
    have p1 : rows.length ≤ 2 ^ 18 := Nat.le_trans h (Nat.pow_le_pow_right (by decide) (by omega))
    have n1 : (rowsF rows v).length ≤ 2 ^ (k + 1) := by
      unfold rowsF
      rw [List.length_append, List.length_map, Nat.pow_succ]
      omega
    have n2 : ∀ r ∈ rowsF rows v, r.length ≤ k + 1 := fun r hm => by
      rcases List.mem_append.mp hm with hm | hm
      · exact Nat.le_succ_of_le (hr r hm)
      · obtain ⟨q, hq, rfl⟩ := List.mem_map.mp hm
        rw [List.length_append, List.length_singleton]
        have := hr q hq
        omega
    obtain ⟨x3', x5', e, n3⟩ := rows_loop (x0 := x0) (x1 := x1) (x4 := x4) (S := S) U (rowsF rows v) (k + 1) (some (.d (.int v))) x5 n1 n2 (by omega)
    refine ⟨x3', x5', ?_, by rw [List.length_cons, show k + (U.length + 1) = k + 1 + U.length by omega]; exact n3⟩
    have lc : dLc (iSeq (dVar 2)) (.nm 5) (dC (.bool true)) (dBin bAdd (dVar 5) (dCallV vTupD (lCons (dVar 3) lNil))) [5] [x0, x1, some (.d (.list (dRows rows))), some (.d (.int v)), x4, x5] S = .ok (.own (dRows (rows.map fun r => r ++ [v]))) S := by
      have := rows_lc (x0 := x0) (x1 := x1) (x2 := some (.d (.list (dRows rows)))) (x4 := x4) (v := v) (S := S) rows [] (by unfold cap; simp; omega) (fun r hm => by have := hr r hm; omega)
      exact this
    have ad : bAdd (.d (.list (dRows rows))) (.d (.list (dRows (rows.map fun r => r ++ [v])))) S = some (.own (dRows (rowsF rows v)), S) := by
      show (if (dRows rows).length + (dRows (rows.map fun r => r ++ [v])).length ≤ cap then some (AV.own (dRows rows ++ dRows (rows.map fun r => r ++ [v])), S) else none) = _
      rw [if_pos (by rw [dRows_len, dRows_len, List.length_map]; unfold cap; omega), ← dRows_app]
      rfl
    show forGo _ _ (PyData.int v :: ds U) _ _ = _
    rw [for_cons]
    unfold rowsB at e ⊢
    simp only [bind_nm, List.set_cons_succ, List.set_cons_zero, x_Asg, x_Bin, dVar, List.getElem?_cons_succ, List.getElem?_cons_zero, bind_ok, fz_d, lc, fz_own, ad, lift_some, then_ok, asg_ownF]
    exact e
theorem mem_rows : ∀ {U : List Int} {rows : List (List Int)} {s : List Int}, s ∈ U.foldl rowsF rows ↔ ∃ a ∈ rows, ∃ t : List Int, t.Sublist U ∧ s = a ++ t
  | [], rows, s => by
    constructor
    · intro h
      exact ⟨s, h, [], List.Sublist.refl _, by rw [List.append_nil]⟩
    · rintro ⟨a, ha, t, ht, rfl⟩
      rw [List.sublist_nil.mp ht, List.append_nil]
      exact ha
  | v :: U, rows, s => by
    rw [List.foldl_cons, mem_rows (U := U) (rows := rowsF rows v)]
    constructor
    · rintro ⟨a, ha, t, ht, rfl⟩
      rcases List.mem_append.mp ha with ha | ha
      · exact ⟨a, ha, t, ht.cons v, rfl⟩
      · obtain ⟨q, hq, rfl⟩ := List.mem_map.mp ha
        exact ⟨q, hq, v :: t, ht.cons_cons v, by rw [List.append_assoc]; rfl⟩
    · rintro ⟨a, ha, t, ht, rfl⟩
      cases ht with
      | cons _ ht => exact ⟨a, List.mem_append_left _ ha, t, ht, rfl⟩
      | cons_cons _ ht => exact ⟨a ++ [v], List.mem_append_right _ (List.mem_map.mpr ⟨a, ha, rfl⟩), _, ht, by rw [List.append_assoc]; rfl⟩
def bet (vs : List Int) (best : Option (List Int)) (row : List Int) : Bool := decide (0 < row.length) && ((match best with | none => true | some b => decide (row.length < b.length)) && sameB row vs)
def bAV : Option (List Int) → AV
  | none => .d .none
  | some b => .d (.tuple (ds b))
def bestF (vs : List Int) (best : Option (List Int)) (row : List Int) : Option (List Int) := if bet vs best row = true then some row else best
def bestB : Sn := (sIf (dAnd (dBin (cop .Gt) (dCallV vLen (lCons (dVar 5) lNil)) (dC (.int 0))) (dAnd (dOr (dBin (cop .Is) (dVar 4) (dC .none)) (dBin (cop .Lt) (dCallV vLen (lCons (dVar 5) lNil)) (dCallV vLen (lCons (dVar 4) lNil)))) (dBin (cop .Eq) (dCall (arity 1 den_law_fence) (lCons (dVar 5) lNil)) (dVar 1))))
    (sAsg 4 false (dVar 5))
    sSkip)
theorem best_loop {vs : List Int} (x0 x2 x3 : Option AV) (S : AS) : ∀ (M : List (List Int)) (best : Option (List Int)) (x5 : Option AV), (∀ r ∈ M, Sm r) →
    ∃ x5', forGo (.nm 5) bestB (dRows M) [x0, some (.d (triF vs)), x2, x3, some (bAV best), x5] S = .nx [x0, some (.d (triF vs)), x2, x3, some (bAV (M.foldl (bestF vs) best)), x5'] S
  | [], best, x5, _ => ⟨x5, rfl⟩
  | row :: M, best, x5, h => by
    obtain ⟨x5', e⟩ := best_loop (vs := vs) x0 x2 x3 S M (bestF vs best row) (some (.d (.tuple (ds row)))) fun r hr => h r (List.mem_cons_of_mem _ hr)
    refine ⟨x5', ?_⟩
    show forGo _ _ (PyData.tuple (ds row) :: dRows M) _ _ = _
    rw [for_cons, List.foldl_cons]
    have sm := h row List.mem_cons_self
    unfold bestB at e ⊢
    by_cases r0 : row = []
    · have eb : bestF vs best row = best := by subst r0; rfl
      rw [eb] at e ⊢
      subst r0
      simp [dVar]
      exact e
    · have lf := fun S => r_lfence (a := .d (.tuple (ds row))) (S := S) (.inr rfl) r0 sm
      have l0 : (0 : Int) < (row.length : Int) := by have := List.length_pos_iff.mpr r0; omega
      have l1 : 0 < row.length := List.length_pos_iff.mpr r0
      have et := fun S => eq_tri row vs S
      cases best with
      | none =>
        have eb : bestF vs none row = if sameB row vs = true then some row else none := by
          unfold bestF bet
          rw [decide_eq_true l1, Bool.true_and, Bool.true_and]
        rw [eb] at e ⊢
        cases c : sameB row vs with
        | true =>
          rw [c] at et e
          simp [dVar, bAV, lf, l1, et]
          exact e
        | false =>
          rw [c] at et e
          simp [dVar, bAV, lf, l1, et]
          exact e
      | some b =>
        by_cases c2 : row.length < b.length
        · have eb : bestF vs (some b) row = if sameB row vs = true then some row else some b := by
            show (if (decide (0 < row.length) && (decide (row.length < b.length) && sameB row vs)) = true then some row else some b) = _
            rw [decide_eq_true l1, decide_eq_true c2, Bool.true_and, Bool.true_and]
          have c3 : (row.length : Int) < (b.length : Int) := by omega
          rw [eb] at e ⊢
          cases c : sameB row vs with
          | true =>
            rw [c] at et e
            simp [dVar, bAV, lf, l1, et, c3, c2]
            exact e
          | false =>
            rw [c] at et e
            simp [dVar, bAV, lf, l1, et, c3, c2]
            exact e
        · have eb : bestF vs (some b) row = some b := by
            show (if (decide (0 < row.length) && (decide (row.length < b.length) && sameB row vs)) = true then some row else some b) = _
            rw [decide_eq_false c2, Bool.false_and, Bool.and_false]
            rfl
          have c3 : ¬ (row.length : Int) < (b.length : Int) := by omega
          rw [eb] at e ⊢
          simp [dVar, bAV, l1, c3, c2]
          exact e
theorem best_ok {vs : List Int} : ∀ (M : List (List Int)) (best : Option (List Int)), (∀ b, best = some b → b ≠ [] ∧ triF b = triF vs) →
    (∀ b, M.foldl (bestF vs) best = some b → b ≠ [] ∧ triF b = triF vs ∧ (b ∈ M ∨ best = some b)) ∧ (∀ b0, best = some b0 → ∃ b, M.foldl (bestF vs) best = some b ∧ b.length ≤ b0.length) ∧ (∀ r ∈ M, r ≠ [] → triF r = triF vs → ∃ b, M.foldl (bestF vs) best = some b ∧ b.length ≤ r.length)
  | [], best, h => ⟨fun b e => ⟨(h b e).1, (h b e).2, .inr e⟩, fun b0 e => ⟨b0, e, Nat.le_refl _⟩, fun r hr => by cases hr⟩
  | row :: M, best, h => by
    have h2 : ∀ b, bestF vs best row = some b → b ≠ [] ∧ triF b = triF vs := fun b e => by
      unfold bestF at e
      split at e
      · rename_i c
        cases Option.some.inj e
        unfold bet at c
        simp only [Bool.and_eq_true, decide_eq_true_eq] at c
        exact ⟨List.length_pos_iff.mp c.1, sameB_iff.mp c.2.2⟩
      · exact h b e
    obtain ⟨a1, a2, a3⟩ := best_ok M (bestF vs best row) h2
    rw [List.foldl_cons]
    refine ⟨fun b e => ?_, fun b0 e => ?_, fun r hr r0 rt => ?_⟩
    · obtain ⟨b1, b2, b3⟩ := a1 b e
      refine ⟨b1, b2, ?_⟩
      rcases b3 with b3 | b3
      · exact .inl (List.mem_cons_of_mem _ b3)
      · unfold bestF at b3
        split at b3
        · cases Option.some.inj b3
          exact .inl List.mem_cons_self
        · exact .inr b3
    · by_cases c : bet vs best row = true
      · have eb : bestF vs best row = some row := if_pos c
        obtain ⟨b, e1, e2⟩ := a2 row eb
        refine ⟨b, e1, ?_⟩
        rw [e] at c
        unfold bet at c
        simp only [Bool.and_eq_true, decide_eq_true_eq] at c
        omega
      · have eb : bestF vs best row = best := if_neg c
        exact a2 b0 (eb.trans e)
    · rcases List.mem_cons.mp hr with rfl | hr
      · by_cases c : bet vs best r = true
        · exact a2 r (if_pos c)
        · have eb : bestF vs best r = best := if_neg c
          cases best with
          | none =>
            exfalso
            refine c ?_
            unfold bet
            rw [decide_eq_true (List.length_pos_iff.mpr r0), sameB_iff.mpr rt]
            rfl
          | some b =>
            obtain ⟨b', e1, e2⟩ := a2 b eb
            refine ⟨b', e1, Nat.le_trans e2 (Nat.not_lt.mp fun z => c ?_)⟩
            show (decide (0 < r.length) && (decide (r.length < b.length) && sameB r vs)) = true
            rw [decide_eq_true (List.length_pos_iff.mpr r0), decide_eq_true z, sameB_iff.mpr rt]
            rfl
      · exact a3 r hr r0 rt
theorem asc_sub {told vs : List Int} (h : told.Pairwise (· < ·)) (k : ∀ x ∈ told, x ∈ vs) : told = (usrt vs).filter (fun x => told.contains x) := by
  refine lt_ext h ((usrt_lt vs).filter _) fun x => ?_
  rw [List.mem_filter, usrt_mem, List.contains_iff_mem]
  exact ⟨fun z => ⟨k x z, z⟩, fun z => z.2⟩
theorem r_tries {a : AV} {S : AS} {vs : List Int} (h : VT a S vs) (k : Ok vs) {told : List Int} (t1 : told.Pairwise (· < ·)) (t2 : told ≠ []) (t3 : ∀ x ∈ told, x ∈ vs) (t4 : triF told = triF vs)
    (t5 : ∀ row : List Int, (∀ x ∈ row, x ∈ vs) → row ≠ [] → triF row = triF vs → told.length ≤ row.length) : ∃ best : List Int, den_law_tries [a] S = .ok (.d (.tuple (ds best))) S ∧ best ≠ [] ∧ (∀ x ∈ best, x ∈ vs) ∧ best.length = told.length := by
  have ul := usrt_len vs
  have kl := k.len
  obtain ⟨x3, x5, e1, n1⟩ := rows_loop (x0 := some a) (x1 := some (.d (triF vs))) (x4 := none) (S := S) (usrt vs) [[]] 0 none none (Nat.le_refl _) (fun r hr => by rw [List.mem_singleton.mp hr]; exact Nat.le_refl _) (by omega)
  have sub : ∀ r ∈ (usrt vs).foldl rowsF [[]], ∀ x ∈ r, x ∈ vs := fun r hr x hx => by
    obtain ⟨q, hq, t, ht, rfl⟩ := mem_rows.mp hr
    rw [List.mem_singleton.mp hq] at hx
    exact usrt_mem.mp (ht.mem hx)
  obtain ⟨x5', e2⟩ := best_loop (vs := vs) (some a) (some (.d (.list (dRows ((usrt vs).foldl rowsF [[]]))))) x3 S ((usrt vs).foldl rowsF [[]]) none x5 (fun r hr x hx => k.sm x (sub r hr x hx))
  obtain ⟨b1, _, b3⟩ := best_ok (vs := vs) ((usrt vs).foldl rowsF [[]]) none (fun b e => by cases e)
  have tin : told ∈ (usrt vs).foldl rowsF [[]] := mem_rows.mpr ⟨[], List.mem_cons_self, told, by rw [asc_sub t1 t3]; exact List.filter_sublist, rfl⟩
  obtain ⟨best, e3, l1⟩ := b3 told tin t2 t4
  obtain ⟨c1, c2, c3⟩ := b1 best e3
  have bin : best ∈ (usrt vs).foldl rowsF [[]] := c3.resolve_right fun z => by cases z
  have bsub := sub best bin
  have l2 := t5 best bsub c1 c2
  refine ⟨best, ?_, c1, bsub, by omega⟩
  rw [e3] at e2
  have lf := r_lfence h k.ne k.sm
  have un := r_unlike h (by omega)
  have fz := h.fz
  have q1 : ∀ σ, σ[0]? = some (some a) → iSeq (dCall (arity 1 den_law_unlike) (lCons (dVar 0) lNil)) σ S = .ok (ds (usrt vs)) S := fun σ hσ => by
    simp [iSeq, dVar, hσ, fz, un, frzD]
  have q2 := q1 [some a, some (.d (triF vs)), some (.d (.list (dRows [[]]))), none, none, none] rfl
  have q3 : ∀ M x3 x4 x5, iSeq (dVar 2) [some a, some (.d (triF vs)), some (.d (.list (dRows M))), x3, x4, x5] S = .ok (dRows M) S := fun _ _ _ _ => rfl
  have v1 : ∀ S, vLstD [.d (.tuple [])] S = some (.own (dRows [[]]), S) := fun S => rfl
  unfold rowsB at e1
  unfold bestB bAV at e2
  generalize hR : dRows ((usrt vs).foldl rowsF [[]]) = R at *
  generalize hR0 : dRows [[]] = R0 at *
  unfold den_law_tries c_law_tries
  rw [den_of]
  have q3 : ∀ x3 x4 x5, iSeq (dVar 2) [some a, some (.d (triF vs)), some (.d (.list R)), x3, x4, x5] S = .ok R S := fun _ _ _ => rfl
  simp [dVar, fz, lf, v1, q2, e1, q3, e2]
end K74
namespace K74
open PySem PySem.Spec PyProof.Rows L2 Den
/-! ### shows_values and _law_shows -/
theorem VA.notin {a : AV} {S : AS} {vs : List Int} (h : VA a S vs) (x : Int) : cop .NotIn (.d (.int x)) a S = some (.d (.bool (!vs.contains x)), S) := by
  show (match inD S (.d (.int x)) a with | some k => some (AV.d (.bool (!k)), _) | none => none) = _
  unfold inD
  rw [h.rd]
  dsimp only
  unfold ds
  rw [flat_ints, any_ints]
  rfl
/-- an int of the values? -/
def goodX (vs : List Int) : D → Bool
  | .int x => vs.contains x
  | _ => false
/-- the items of papers: what isinstance can tell -/
def known : D → Bool
  | .none => true | .bool _ => true | .int _ => true | .str _ => true | .list _ => true | .tuple _ => true
  | _ => false
theorem isint_of {x : D} (h : known x = true) (S : AS) : den_is_int [.d x] S = .ok (.d (.bool (match x with | .int _ => true | _ => false))) S := by
  unfold den_is_int c_is_int
  rw [den_of]
  cases x with
  | dict l => cases h
  | _ => simp [dVar, kitS]
theorem sv_go {vs : List Int} {σ0 : ASt} {S : AS} (h2 : σ0[2]? = some (some (.d (.tuple (ds vs))))) (h3 : 3 < σ0.length) : ∀ (l : List D) (acc : List Bool), (∀ x ∈ l, known x = true) → acc.length + l.length ≤ cap →
    lcGo (.nm 3) (dC (.bool true)) (dAnd (dCall (arity 1 den_is_int) (lCons (dVar 3) lNil)) (dBin (cop .In) (dVar 3) (dVar 2))) σ0 l S (acc.map PyData.bool) = .ok (.own ((acc ++ l.map (goodX vs)).map PyData.bool)) S
  | [], acc, _, _ => by rw [List.map_nil, List.append_nil]; rfl
  | x :: l, acc, hk, hc => by
    rw [List.length_cons] at hc
    have ih := sv_go (vs := vs) (S := S) h2 h3 l (acc ++ [goodX vs x]) (fun y hy => hk y (List.mem_cons_of_mem _ hy)) (by rw [List.length_append, List.length_singleton]; omega)
    have kx := hk x List.mem_cons_self
    have hcc : (acc.map PyData.bool).length < cap := by rw [List.length_map]; omega
    have d3 : dVar 3 (σ0.set 3 (some (.d x))) S = .ok (.d x) S := by
      unfold dVar
      rw [List.getElem?_set_self h3]
    have d2 : dVar 2 (σ0.set 3 (some (.d x))) S = .ok (.d (.tuple (ds vs))) S := by
      unfold dVar
      rw [List.getElem?_set_ne (by decide), h2]
    have e : (dAnd (dCall (arity 1 den_is_int) (lCons (dVar 3) lNil)) (dBin (cop .In) (dVar 3) (dVar 2))) (σ0.set 3 (some (.d x))) S = .ok (.d (.bool (goodX vs x))) S := by
      have i1 := isint_of kx S
      cases x with
      | int n =>
        have i2 := in_tI vs n S
        have i2 : cop .In (.d (.int n)) (.d (.tuple (ds vs))) S = some (.d (.bool (vs.contains n)), S) := i2
        simp [d3, d2, i1, i2, goodX]
      | dict l => cases kx
      | _ => simp [d3, i1, goodX]
    unfold lcGo
    simp only [bind_nm, x_C, e, fz_d, frzD, if_pos hcc]
    rw [List.map_append] at ih
    rw [show acc.map PyData.bool ++ [PyData.bool (goodX vs x)] = acc.map PyData.bool ++ [goodX vs x].map PyData.bool from rfl, ih, List.append_assoc]
    rfl
/-- ascending? -/
def ascB (l : List Int) : List Bool := (List.range (l.length - 1)).map fun i => decide (l.getD i 0 < l.getD (i + 1) 0)
theorem at_n {l : List Int} {i : Nat} (h : i < l.length) : atD (ds l) (i : Int) = some (.int (l.getD i 0)) := by
  refine at_nat ?_
  unfold ds
  rw [List.getElem?_map, List.getElem?_eq_getElem h, List.getD_eq_getElem?_getD, List.getElem?_eq_getElem h]
  rfl
theorem at_n1 {l : List Int} {i : Nat} (h : i + 1 < l.length) : atD (ds l) ((i : Int) + 1) = some (.int (l.getD (i + 1) 0)) := by
  have := at_n h
  rw [show ((i + 1 : Nat) : Int) = (i : Int) + 1 by omega] at this
  exact this
/-- a paper: a list or a tuple of ints -/
theorem as_go {b : Bool} {p : List Int} {σ0 : ASt} {S : AS} (h1 : σ0[1]? = some (some (lt2 b p))) (h4 : 4 < σ0.length) : ∀ (l : List Nat) (acc : List Bool), (∀ i ∈ l, i + 1 < p.length) → acc.length + l.length ≤ cap →
    lcGo (.nm 4) (dC (.bool true)) (dBin (cop .Lt) (dBin vIx (dVar 1) (dVar 4)) (dBin vIx (dVar 1) (dBin bAdd (dVar 4) (dC (.int 1))))) σ0 (l.map fun (i : Nat) => PyData.int (i : Nat)) S (acc.map PyData.bool) = .ok (.own ((acc ++ l.map fun i => decide (p.getD i 0 < p.getD (i + 1) 0)).map PyData.bool)) S
  | [], acc, _, _ => by rw [show acc ++ List.map (fun i => decide (p.getD i 0 < p.getD (i + 1) 0)) [] = acc from List.append_nil acc]; rfl
  | i :: l, acc, hi, hc => by
    rw [List.length_cons] at hc
    have ih := as_go (S := S) h1 h4 l (acc ++ [decide (p.getD i 0 < p.getD (i + 1) 0)]) (fun y hy => hi y (List.mem_cons_of_mem _ hy)) (by rw [List.length_append, List.length_singleton]; omega)
    have hcc : (acc.map PyData.bool).length < cap := by rw [List.length_map]; omega
    have a1 := at_n (l := p) (i := i) (by have := hi i List.mem_cons_self; omega)
    have a2 := at_n1 (hi i List.mem_cons_self)
    have d4 : dVar 4 (σ0.set 4 (some (.d (.int (i : Nat))))) S = .ok (.d (.int (i : Nat))) S := by
      unfold dVar
      rw [List.getElem?_set_self h4]
    have d1 : dVar 1 (σ0.set 4 (some (.d (.int (i : Nat))))) S = .ok (lt2 b p) S := by
      unfold dVar
      rw [List.getElem?_set_ne (by decide), h1]
    have e : (dBin (cop .Lt) (dBin vIx (dVar 1) (dVar 4)) (dBin vIx (dVar 1) (dBin bAdd (dVar 4) (dC (.int 1))))) (σ0.set 4 (some (.d (.int (i : Nat))))) S = .ok (.d (.bool (decide (p.getD i 0 < p.getD (i + 1) 0)))) S := by
      cases b <;> simp [d4, d1, a1, a2]
    show lcGo _ _ _ _ (PyData.int (i : Nat) :: l.map fun (i : Nat) => PyData.int (i : Nat)) S _ = _
    unfold lcGo
    simp only [bind_nm, x_C, e, fz_d, frzD, if_pos hcc]
    rw [List.map_append] at ih
    rw [show acc.map PyData.bool ++ [PyData.bool (decide (p.getD i 0 < p.getD (i + 1) 0))] = acc.map PyData.bool ++ [decide (p.getD i 0 < p.getD (i + 1) 0)].map PyData.bool from rfl, ih, List.append_assoc]
    rfl
theorem vall_ok (bs : List Bool) (S : AS) : vAll [.d (.list (bs.map PyData.bool))] S = some (.d (.bool (bs.all id)), S) := by
  show (match bools? (bs.map PyData.bool) with | some bs => some (AV.d (.bool (bs.all id)), S) | none => none) = _
  rw [bools?_map]
theorem all_good {vs : List Int} : ∀ {l : List D}, ((l.map (goodX vs)).all id) = true → ∃ p : List Int, l = ds p ∧ ∀ x ∈ p, x ∈ vs
  | [], _ => ⟨[], rfl, fun x h => by cases h⟩
  | x :: l, h => by
    rw [List.map_cons, List.all_cons, Bool.and_eq_true] at h
    obtain ⟨p, e, k⟩ := all_good h.2
    cases x with
    | int n =>
      refine ⟨n :: p, by rw [e]; rfl, fun y hy => ?_⟩
      rcases List.mem_cons.mp hy with rfl | hy
      · exact List.contains_iff_mem.mp h.1
      · exact k y hy
    | _ => exact absurd h.1 (by simp [goodX])
theorem rg_of (n : Nat) (S : AS) : fRng1 [.d (.int (n : Nat))] S = (if (n : Int) < big62 then some ((List.range n).map fun i => PyData.int (i : Nat), S) else none) := by
  show (if -big62 ≤ (n : Int) ∧ (n : Int) < big62 then some (rngL 0 (n : Int).toNat 1, S) else none) = _
  have er : rngL 0 n 1 = (List.range n).map fun i => PyData.int (i : Nat) := by
    unfold rngL
    refine List.map_congr_left fun i _ => ?_
    rw [Int.zero_add, Int.mul_one]
  rw [Int.toNat_natCast, er]
  by_cases h : (n : Int) < big62
  · rw [if_pos ⟨by unfold big62; omega, h⟩, if_pos h]
  · rw [if_neg (fun z => h z.2), if_neg h]
/-- what both say of a list or tuple of data -/
def saysL (vs : List Int) (l : List D) : Bool := match ints? l with
  | some p => !p.isEmpty && (p.all vs.contains && ((ascB p).all id && sameB p vs))
  | none => false
def says (vs : List Int) : D → Bool
  | .list l => saysL vs l
  | .tuple l => saysL vs l
  | _ => false
theorem says_no {vs : List Int} {l : List D} (h : ((l.map (goodX vs)).all id) = false) : saysL vs l = false := by
  unfold saysL
  cases e : ints? l with
  | none => rfl
  | some p =>
    have e2 := ints?_ok e
    subst e2
    have : (p.all vs.contains) = false := by
      rw [List.map_map, List.all_map] at h
      exact h
    dsimp only
    rw [this]
    simp
theorem says_yes {vs p : List Int} (h : ∀ x ∈ p, x ∈ vs) (h0 : p ≠ []) : saysL vs (ds p) = ((ascB p).all id && sameB p vs) := by
  unfold saysL
  rw [ds_ints]
  have : (p.all vs.contains) = true := List.all_eq_true.mpr fun x hx => List.contains_iff_mem.mpr (h x hx)
  dsimp only
  rw [this]
  cases p with
  | nil => exact absurd rfl h0
  | cons a b => rfl
def paperOk : D → Bool
  | .list l => l.all known && decide (l.length ≤ 1000)
  | .tuple l => l.all known && decide (l.length ≤ 1000)
  | .dict _ => false
  | _ => true
theorem r_shows {vs : List Int} (k : Ok vs) {x : D} (hx : paperOk x = true) (S : AS) : den_shows_values [.d (.list (ds vs)), .d x] S = .ok (.d (.bool (says vs x))) S := by
  have ck := r_chk true k.ne S
  have ck : den_check_integers [.d (.list (ds vs))] S = .ok (.d (.tuple (ds vs))) S := ck
  have fv := r_pfence (a := .d (.tuple (ds vs))) (S := S) (.inr rfl) k.ne
  have main : ∀ (b : Bool) (l : List D), (∀ x ∈ l, known x = true) → l.length ≤ 1000 → den_shows_values [.d (.list (ds vs)), .d (if b then .list l else .tuple l)] S = .ok (.d (.bool (saysL vs l))) S := fun b l hk hl => by
    by_cases l0 : l = []
    · subst l0
      have : saysL vs [] = false := rfl
      rw [this]
      unfold den_shows_values c_shows_values
      rw [den_of]
      cases b <;> simp [dVar, ck, kitS]
    · have ln : ¬ ((l.length : Nat) : Int) = 0 := by have := List.length_pos_iff.mpr l0; omega
      have g1 := sv_go (vs := vs) (σ0 := [some (.d (.list (ds vs))), some (.d (if b then .list l else .tuple l)), some (.d (.tuple (ds vs))), none, none]) (S := S) rfl (by simp) l [] hk (by unfold cap; simp; omega)
      have g1 : dLc (iSeq (dVar 1)) (.nm 3) (dC (.bool true)) (dAnd (dCall (arity 1 den_is_int) (lCons (dVar 3) lNil)) (dBin (cop .In) (dVar 3) (dVar 2))) [3] [some (.d (.list (ds vs))), some (.d (if b then .list l else .tuple l)), some (.d (.tuple (ds vs))), none, none] S = .ok (.own ((l.map (goodX vs)).map PyData.bool)) S := by
        cases b <;> exact g1
      have va := vall_ok (l.map (goodX vs)) S
      cases c : (l.map (goodX vs)).all id with
      | false =>
        rw [says_no c]
        rw [c] at va
        unfold den_shows_values c_shows_values
        rw [den_of]
        generalize hA : (l.map (goodX vs)).map PyData.bool = A at *
        cases b
        · simp only [Bool.false_eq_true, if_false] at g1 ⊢
          simp [dVar, ck, kitS, l0, g1, va]
        · simp only [if_true] at g1 ⊢
          simp [dVar, ck, kitS, l0, g1, va]
      | true =>
        rw [c] at va
        obtain ⟨p, rfl, ps⟩ := all_good c
        have p0 : p ≠ [] := fun z => l0 (by rw [z]; rfl)
        have pl := List.length_pos_iff.mpr p0
        rw [ds_len] at hl
        rw [says_yes ps p0]
        have g2 := as_go (b := b) (p := p) (σ0 := [some (.d (.list (ds vs))), some (lt2 b p), some (.d (.tuple (ds vs))), none, none]) (S := S) rfl (by simp) (List.range (p.length - 1)) [] (fun i hi => by have := List.mem_range.mp hi; omega) (by unfold cap; simp; omega)
        have rg := rg_of (p.length - 1) S
        rw [if_pos (by unfold big62; omega), show ((p.length - 1 : Nat) : Int) = (p.length : Int) - 1 by omega] at rg
        have it : itL (lCons (dBin bSub (dCallV vLen (lCons (dVar 1) lNil)) (dC (.int 1))) lNil) fRng1 [some (.d (.list (ds vs))), some (lt2 b p), some (.d (.tuple (ds vs))), none, none] S = .ok ((List.range (p.length - 1)).map fun i => PyData.int (i : Nat)) S := by
          refine itL_of (as := [.d (.int ((p.length : Int) - 1))]) (S1 := S) ?_ rg
          cases b <;> simp [dVar]
        have g2 : dLc (itL (lCons (dBin bSub (dCallV vLen (lCons (dVar 1) lNil)) (dC (.int 1))) lNil) fRng1) (.nm 4) (dC (.bool true)) (dBin (cop .Lt) (dBin vIx (dVar 1) (dVar 4)) (dBin vIx (dVar 1) (dBin bAdd (dVar 4) (dC (.int 1))))) [4] [some (.d (.list (ds vs))), some (lt2 b p), some (.d (.tuple (ds vs))), none, none] S = .ok (.own ((ascB p).map PyData.bool)) S := by
          unfold dLc
          rw [it]
          exact g2
        have va2 := vall_ok (ascB p) S
        have fp := r_pfence (a := lt2 b p) (S := S) (by cases b; exact .inr rfl; exact .inl (.inl rfl)) p0
        have et := eq_tri p vs S
        unfold den_shows_values c_shows_values
        rw [den_of]
        generalize hA : (List.map (goodX vs) (ds p)).map PyData.bool = A at *
        generalize hB : (ascB p).map PyData.bool = B at *
        cases c2 : (ascB p).all id with
        | false =>
          rw [c2] at va2
          cases b
          · rw [show lt2 false p = .d (.tuple (ds p)) from rfl] at g2
            simp only [Bool.false_eq_true, if_false] at g1 ⊢
            simp [dVar, ck, kitS, p0, g1, va, g2, va2]
          · rw [show lt2 true p = .d (.list (ds p)) from rfl] at g2
            simp only [if_true] at g1 ⊢
            simp [dVar, ck, kitS, p0, g1, va, g2, va2]
        | true =>
          rw [c2] at va2
          cases b
          · rw [show lt2 false p = .d (.tuple (ds p)) from rfl] at g2 fp
            simp only [Bool.false_eq_true, if_false] at g1 ⊢
            simp [dVar, ck, kitS, p0, g1, va, g2, va2, fp, fv, et]
          · rw [show lt2 true p = .d (.list (ds p)) from rfl] at g2 fp
            simp only [if_true] at g1 ⊢
            simp [dVar, ck, kitS, p0, g1, va, g2, va2, fp, fv, et]
  have no : (∀ l, x ≠ .list l) → (∀ l, x ≠ .tuple l) → den_shows_values [.d (.list (ds vs)), .d x] S = .ok (.d (.bool false)) S := fun n1 n2 => by
    unfold den_shows_values c_shows_values
    rw [den_of]
    cases x with
    | dict l => cases hx
    | list l => exact absurd rfl (n1 l)
    | tuple l => exact absurd rfl (n2 l)
    | _ => simp [dVar, ck, kitS]
  cases x with
  | list l =>
    rw [show paperOk (.list l) = (l.all known && decide (l.length ≤ 1000)) from rfl, Bool.and_eq_true, List.all_eq_true, decide_eq_true_eq] at hx
    exact main true l hx.1 hx.2
  | tuple l =>
    rw [show paperOk (.tuple l) = (l.all known && decide (l.length ≤ 1000)) from rfl, Bool.and_eq_true, List.all_eq_true, decide_eq_true_eq] at hx
    exact main false l hx.1 hx.2
  | _ => exact no (fun l z => by cases z) (fun l z => by cases z)
/-! ### _law_shows -/
theorem VA.fz {a : AV} {S : AS} {vs : List Int} (h : VA a S vs) : a.fz = a := VT.fz (.inl h)
def lsB : Sn := sIf (dOr (dNot (dTru (dIsi ["int"] (dVar 2)))) (dOr (dTru (dIsi ["bool"] (dVar 2))) (dBin (cop .NotIn) (dVar 2) (dVar 0))))
    (sRet (dC (.bool false)))
    sSkip
theorem ls_yes {a : AV} {vs : List Int} {S : AS} (h : VA a S vs) {x1 x3 : Option AV} : ∀ (p : List Int) (x2 : Option AV), (∀ x ∈ p, x ∈ vs) → ∃ x2', forGo (.nm 2) lsB (ds p) [some a, x1, x2, x3] S = .nx [some a, x1, x2', x3] S
  | [], x2, _ => ⟨x2, rfl⟩
  | n :: p, x2, k => by
    obtain ⟨x2', e⟩ := ls_yes h (x1 := x1) (x3 := x3) p (some (.d (.int n))) fun x hx => k x (List.mem_cons_of_mem _ hx)
    refine ⟨x2', ?_⟩
    have i := h.notin n
    rw [List.contains_iff_mem.mpr (k n List.mem_cons_self)] at i
    show forGo _ _ (.int n :: ds p) _ _ = _
    rw [for_cons]
    unfold lsB at *
    have hf := VA.fz h; simp [dVar, kitS, hf, i]
    exact e
theorem ls_no {a : AV} {vs : List Int} {S : AS} (h : VA a S vs) {x1 x3 : Option AV} : ∀ (l : List D) (x2 : Option AV), (∀ x ∈ l, known x = true) → (l.map (goodX vs)).all id = false → forGo (.nm 2) lsB l [some a, x1, x2, x3] S = .rt (.d (.bool false)) S
  | [], x2, _, c => by cases c
  | n :: l, x2, k, c => by
    have ih := fun x2 c => ls_no h (x1 := x1) (x3 := x3) l x2 (fun x hx => k x (List.mem_cons_of_mem _ hx)) c
    have kn := k n List.mem_cons_self
    rw [for_cons]
    unfold lsB at *
    cases n with
    | int n =>
      have i := h.notin n
      cases e : vs.contains n with
      | true =>
        rw [e] at i
        have c' : (l.map (goodX vs)).all id = false := by
          rw [List.map_cons, List.all_cons, show goodX vs (.int n) = vs.contains n from rfl, e] at c
          exact c
        have hf := VA.fz h; simp [dVar, kitS, hf, i]
        exact ih _ c'
      | false =>
        rw [e] at i
        have hf := VA.fz h; simp [dVar, kitS, hf, i]
    | dict l => cases kn
    | _ => simp [dVar, kitS]
def asB : Sn := sIf (dNot (dBin (cop .Lt) (dBin vIx (dVar 1) (dVar 3)) (dBin vIx (dVar 1) (dBin bAdd (dVar 3) (dC (.int 1))))))
    (sRet (dC (.bool false)))
    sSkip
theorem asl_yes {b : Bool} {p : List Int} {S : AS} {x0 x2 : Option AV} : ∀ (l : List Nat) (x3 : Option AV), (∀ i ∈ l, i + 1 < p.length) → ((l.map fun i => decide (p.getD i 0 < p.getD (i + 1) 0)).all id) = true → ∃ x3', forGo (.nm 3) asB (l.map fun (i : Nat) => PyData.int (i : Nat)) [x0, some (lt2 b p), x2, x3] S = .nx [x0, some (lt2 b p), x2, x3'] S
  | [], x3, _, _ => ⟨x3, rfl⟩
  | i :: l, x3, k, c => by
    rw [List.map_cons, List.all_cons, Bool.and_eq_true] at c
    obtain ⟨x3', e⟩ := asl_yes (b := b) (S := S) (x0 := x0) (x2 := x2) l (some (.d (.int (i : Nat)))) (fun x hx => k x (List.mem_cons_of_mem _ hx)) c.2
    refine ⟨x3', ?_⟩
    have a1 := at_n (l := p) (i := i) (by have := k i List.mem_cons_self; omega)
    have a2 := at_n1 (k i List.mem_cons_self)
    have c1 : p.getD i 0 < p.getD (i + 1) 0 := of_decide_eq_true c.1
    clear c
    generalize p.getD i 0 = u at *
    generalize p.getD (i + 1) 0 = w at *
    show forGo _ _ (.int (i : Nat) :: l.map fun (i : Nat) => PyData.int (i : Nat)) _ _ = _
    rw [for_cons]
    unfold asB at *
    cases b
    · rw [show lt2 false p = .d (.tuple (ds p)) from rfl] at e ⊢
      simp [dVar, a1, a2, c1]
      exact e
    · rw [show lt2 true p = .d (.list (ds p)) from rfl] at e ⊢
      simp [dVar, a1, a2, c1]
      exact e
theorem asl_no {b : Bool} {p : List Int} {S : AS} {x0 x2 : Option AV} : ∀ (l : List Nat) (x3 : Option AV), (∀ i ∈ l, i + 1 < p.length) → ((l.map fun i => decide (p.getD i 0 < p.getD (i + 1) 0)).all id) = false → forGo (.nm 3) asB (l.map fun (i : Nat) => PyData.int (i : Nat)) [x0, some (lt2 b p), x2, x3] S = .rt (.d (.bool false)) S
  | [], x3, _, c => by cases c
  | i :: l, x3, k, c => by
    rw [List.map_cons, List.all_cons] at c
    have e := fun c => asl_no (b := b) (S := S) (x0 := x0) (x2 := x2) l (some (.d (.int (i : Nat)))) (fun x hx => k x (List.mem_cons_of_mem _ hx)) c
    have a1 := at_n (l := p) (i := i) (by have := k i List.mem_cons_self; omega)
    have a2 := at_n1 (k i List.mem_cons_self)
    show forGo _ _ (.int (i : Nat) :: l.map fun (i : Nat) => PyData.int (i : Nat)) _ _ = _
    rw [for_cons]
    unfold asB at *
    by_cases c1 : p.getD i 0 < p.getD (i + 1) 0
    · have e := e (by rw [show id (decide (p.getD i 0 < p.getD (i + 1) 0)) = true from decide_eq_true c1] at c; exact c)
      clear c
      generalize p.getD i 0 = u at *
      generalize p.getD (i + 1) 0 = w at *
      cases b
      · rw [show lt2 false p = .d (.tuple (ds p)) from rfl] at e ⊢
        simp [dVar, a1, a2, c1]
        exact e
      · rw [show lt2 true p = .d (.list (ds p)) from rfl] at e ⊢
        simp [dVar, a1, a2, c1]
        exact e
    · clear c e
      generalize p.getD i 0 = u at *
      generalize p.getD (i + 1) 0 = w at *
      cases b <;> simp [dVar, a1, a2, c1]
theorem Sm.sub {p vs : List Int} (h : Sm vs) (k : ∀ x ∈ p, x ∈ vs) : Sm p := fun x hx => h x (k x hx)
theorem r_lshows {a : AV} {S : AS} {vs : List Int} (h : VA a S vs) (k : Ok vs) {x : D} (hx : paperOk x = true) : den_law_shows [a, .d x] S = .ok (.d (.bool (says vs x))) S := by
  have fv := r_lfence (.inl h) k.ne k.sm
  have hf := VA.fz h
  have main : ∀ (b : Bool) (l : List D), (∀ x ∈ l, known x = true) → l.length ≤ 1000 → den_law_shows [a, .d (if b then .list l else .tuple l)] S = .ok (.d (.bool (saysL vs l))) S := fun b l hk hl => by
    by_cases l0 : l = []
    · subst l0
      have : saysL vs [] = false := rfl
      rw [this]
      unfold den_law_shows c_law_shows
      rw [den_of]
      cases b <;> simp [dVar, kitS]
    · have ln : ¬ ((l.length : Nat) : Int) = 0 := by have := List.length_pos_iff.mpr l0; omega
      cases c : (l.map (goodX vs)).all id with
      | false =>
        rw [says_no c]
        have g1 := ls_no h (x1 := some (.d (if b then .list l else .tuple l))) (x3 := none) l none hk c
        unfold lsB at g1
        unfold den_law_shows c_law_shows
        rw [den_of]
        cases b
        · simp only [Bool.false_eq_true, if_false] at g1 ⊢
          simp [dVar, kitS, l0, iSeq, frzD, rdSeq, g1]
        · simp only [if_true] at g1 ⊢
          simp [dVar, kitS, l0, iSeq, frzD, rdSeq, g1]
      | true =>
        obtain ⟨p, rfl, ps⟩ := all_good c
        have p0 : p ≠ [] := fun z => l0 (by rw [z]; rfl)
        have pl := List.length_pos_iff.mpr p0
        rw [ds_len] at hl
        rw [says_yes ps p0]
        obtain ⟨x2', g1⟩ := ls_yes h (x1 := some (lt2 b p)) (x3 := none) p none ps
        have rg := rg_of (p.length - 1) S
        rw [if_pos (by unfold big62; omega), show ((p.length - 1 : Nat) : Int) = (p.length : Int) - 1 by omega] at rg
        have it : itL (lCons (dBin bSub (dCallV vLen (lCons (dVar 1) lNil)) (dC (.int 1))) lNil) fRng1 [some a, some (lt2 b p), x2', none] S = .ok ((List.range (p.length - 1)).map fun i => PyData.int (i : Nat)) S := by
          refine itL_of (as := [.d (.int ((p.length : Int) - 1))]) (S1 := S) ?_ rg
          cases b <;> simp [dVar]
        have kr : ∀ i ∈ List.range (p.length - 1), i + 1 < p.length := fun i hi => by have := List.mem_range.mp hi; omega
        have fp := r_lfence (a := lt2 b p) (S := S) (by cases b; exact .inr rfl; exact .inl (.inl rfl)) p0 (k.sm.sub ps)
        have et := eq_tri p vs S
        unfold den_law_shows c_law_shows
        rw [den_of]
        unfold lsB at g1
        cases c2 : (ascB p).all id with
        | false =>
          have g2 := asl_no (b := b) (S := S) (x0 := some a) (x2 := x2') (List.range (p.length - 1)) none kr c2
          unfold asB at g2
          cases b
          · rw [show lt2 false p = .d (.tuple (ds p)) from rfl] at g2 g1 it
            simp only [Bool.false_eq_true, if_false]
            simp [dVar, kitS, p0, iSeq, frzD, rdSeq, g1, rg, it, g2]
          · rw [show lt2 true p = .d (.list (ds p)) from rfl] at g2 g1 it
            simp only [if_true]
            simp [dVar, kitS, p0, iSeq, frzD, rdSeq, g1, rg, it, g2]
        | true =>
          obtain ⟨x3', g2⟩ := asl_yes (b := b) (S := S) (x0 := some a) (x2 := x2') (List.range (p.length - 1)) none kr c2
          unfold asB at g2
          cases b
          · rw [show lt2 false p = .d (.tuple (ds p)) from rfl] at g2 g1 it fp
            simp only [Bool.false_eq_true, if_false]
            simp [dVar, kitS, p0, iSeq, frzD, rdSeq, g1, rg, it, g2, fp, hf, fv, et]
          · rw [show lt2 true p = .d (.list (ds p)) from rfl] at g2 g1 it fp
            simp only [if_true]
            simp [dVar, kitS, p0, iSeq, frzD, rdSeq, g1, rg, it, g2, fp, hf, fv, et]
  have no : (∀ l, x ≠ .list l) → (∀ l, x ≠ .tuple l) → den_law_shows [a, .d x] S = .ok (.d (.bool false)) S := fun n1 n2 => by
    unfold den_law_shows c_law_shows
    rw [den_of]
    cases x with
    | dict l => cases hx
    | list l => exact absurd rfl (n1 l)
    | tuple l => exact absurd rfl (n2 l)
    | _ => simp [dVar, kitS]
  cases x with
  | list l =>
    rw [show paperOk (.list l) = (l.all known && decide (l.length ≤ 1000)) from rfl, Bool.and_eq_true, List.all_eq_true, decide_eq_true_eq] at hx
    exact main true l hx.1 hx.2
  | tuple l =>
    rw [show paperOk (.tuple l) = (l.all known && decide (l.length ≤ 1000)) from rfl, Bool.and_eq_true, List.all_eq_true, decide_eq_true_eq] at hx
    exact main false l hx.1 hx.2
  | _ => exact no (fun l z => by cases z) (fun l z => by cases z)
end K74
namespace K74
open PySem PySem.Spec PyProof.Rows L2 Den
/-! ### _law_papers -/
/-- the part's value, which may be a list of its own -/
def PX (c : Dn) (σ : ASt) (S : AS) (x : D) : Prop := ∃ a, c σ S = .ok a S ∧ a.fz = .d x
def PL (l : Ln) (σ : ASt) (S : AS) (xs : List D) : Prop := l σ S = .ok (xs.map AV.d) S
section
variable {c c1 c2 : Dn} {l : Ln} {σ : ASt} {S : AS} {x y : D} {xs ys : List D}
theorem PX.nil : PL lNil σ S [] := rfl
theorem PX.cons (h : PX c σ S x) (k : PL l σ S xs) : PL (lCons c l) σ S (x :: xs) := by
  obtain ⟨a, e, f⟩ := h
  show lCons c l σ S = _
  rw [x_lCons, e, bindL_ok, k, f]
  rfl
theorem frz_all (S : AS) : ∀ xs : List D, frzAll S (xs.map AV.d) = some (xs, S)
  | [] => rfl
  | x :: xs => by
    show (match frzAll S (xs.map AV.d) with | some (l, S2) => some (x :: l, S2) | none => none) = _
    rw [frz_all S xs]
theorem PX.lst (k : PL l σ S xs) (h : xs.length ≤ cap) : dCallV vLstD l σ S = .ok (.own xs) S := by
  rw [x_CallV, k, lbind_ok]
  unfold vLstD
  rw [frz_all]
  show liftV (if xs.length ≤ cap then _ else _) = _
  rw [if_pos h]
  rfl
theorem PX.lstD (k : PL l σ S xs) (h : xs.length ≤ cap) : PX (dCallV vLstD l) σ S (.list xs) := ⟨_, PX.lst k h, rfl⟩
theorem PX.tupD (k : PL l σ S xs) (h : xs.length ≤ cap) : PX (dCallV vTupD l) σ S (.tuple xs) := by
  refine ⟨.d (.tuple xs), ?_, rfl⟩
  rw [x_CallV, k, lbind_ok]
  unfold vTupD
  rw [frz_all]
  show liftV (if xs.length ≤ cap then _ else _) = _
  rw [if_pos h]
  rfl
theorem PX.d (e : c σ S = .ok (.d x) S) : PX c σ S x := ⟨_, e, rfl⟩
theorem PX.k : PX (dC x) σ S x := ⟨_, rfl, rfl⟩
theorem PX.bin {g : AV → AV → AS → VR} {z : D} (h1 : PX c1 σ S x) (h2 : PX c2 σ S y) (h : ∀ S, g (.d x) (.d y) S = some (.d z, S)) : PX (dBin g c1 c2) σ S z := by
  obtain ⟨a, e1, f1⟩ := h1
  obtain ⟨b, e2, f2⟩ := h2
  refine ⟨.d z, ?_, rfl⟩
  rw [x_Bin, e1, bind_ok, f1, e2, bind_ok, f2, h]
  rfl
theorem PX.add (h1 : PX c1 σ S (.tuple xs)) (h2 : PX c2 σ S (.tuple ys)) (h : xs.length + ys.length ≤ cap) : PX (dBin bAdd c1 c2) σ S (.tuple (xs ++ ys)) :=
  PX.bin h1 h2 fun S => if_pos h
theorem PX.addL (h1 : PX c1 σ S (.list xs)) (h2 : PX c2 σ S (.list ys)) (h : xs.length + ys.length ≤ cap) : PX (dBin bAdd c1 c2) σ S (.list (xs ++ ys)) := by
  obtain ⟨a, e1, f1⟩ := h1
  obtain ⟨b, e2, f2⟩ := h2
  refine ⟨.own (xs ++ ys), ?_, rfl⟩
  rw [x_Bin, e1, bind_ok, f1, e2, bind_ok, f2]
  show liftV (if xs.length + ys.length ≤ cap then _ else _) = _
  rw [if_pos h]
  rfl
theorem PX.tupT (h1 : PX c1 σ S (.tuple xs)) : PX (dCallV vTuple (lCons c1 lNil)) σ S (.tuple xs) := by
  have e := PX.cons h1 PX.nil
  refine ⟨.d (.tuple xs), ?_, rfl⟩
  rw [x_CallV, e, lbind_ok]
  rfl
theorem PX.tupL (h1 : PX c1 σ S (.list xs)) : PX (dCallV vTuple (lCons c1 lNil)) σ S (.tuple xs) := by
  have e := PX.cons h1 PX.nil
  refine ⟨.d (.tuple xs), ?_, rfl⟩
  rw [x_CallV, e, lbind_ok]
  rfl
theorem PX.lstT (h1 : PX c1 σ S (.tuple xs)) : PX (dCallV vList (lCons c1 lNil)) σ S (.list xs) := by
  have e := PX.cons h1 PX.nil
  refine ⟨.own xs, ?_, rfl⟩
  rw [x_CallV, e, lbind_ok]
  rfl
theorem PX.lstL (h1 : PX c1 σ S (.list xs)) : PX (dCallV vList (lCons c1 lNil)) σ S (.list xs) := by
  have e := PX.cons h1 PX.nil
  refine ⟨.own xs, ?_, rfl⟩
  rw [x_CallV, e, lbind_ok]
  rfl
theorem PX.sl0 {j : Int} (h1 : PX c1 σ S (.tuple xs)) (h2 : PX c2 σ S (.int j)) : PX (dSl c1 none (some c2)) σ S (.tuple (cutD xs none (some j))) := by
  obtain ⟨a, e1, f1⟩ := h1
  obtain ⟨b, e2, f2⟩ := h2
  refine ⟨.d (.tuple (cutD xs none (some j))), ?_, rfl⟩
  unfold dSl bPart
  simp only [e1, bind_ok, f1, e2, f2]
  rfl
theorem PX.sl1 {j : Int} (h1 : PX c1 σ S (.tuple xs)) (h2 : PX c2 σ S (.int j)) : PX (dSl c1 (some c2) none) σ S (.tuple (cutD xs (some j) none)) := by
  obtain ⟨a, e1, f1⟩ := h1
  obtain ⟨b, e2, f2⟩ := h2
  refine ⟨.d (.tuple (cutD xs (some j) none)), ?_, rfl⟩
  unfold dSl bPart
  simp only [e1, bind_ok, f1, e2, f2]
  rfl
theorem PX.sl0L {j : Int} (h1 : PX c1 σ S (.list xs)) (h2 : PX c2 σ S (.int j)) : PX (dSl c1 none (some c2)) σ S (.list (cutD xs none (some j))) := by
  obtain ⟨a, e1, f1⟩ := h1
  obtain ⟨b, e2, f2⟩ := h2
  refine ⟨.own (cutD xs none (some j)), ?_, rfl⟩
  unfold dSl bPart
  simp only [e1, bind_ok, f1, e2, f2]
  rfl
theorem PX.sl1L {j : Int} (h1 : PX c1 σ S (.list xs)) (h2 : PX c2 σ S (.int j)) : PX (dSl c1 (some c2) none) σ S (.list (cutD xs (some j) none)) := by
  obtain ⟨a, e1, f1⟩ := h1
  obtain ⟨b, e2, f2⟩ := h2
  refine ⟨.own (cutD xs (some j) none), ?_, rfl⟩
  unfold dSl bPart
  simp only [e1, bind_ok, f1, e2, f2]
  rfl
theorem PX.rev (h1 : PX c1 σ S (.tuple xs)) : PX (dRevT c1) σ S (.tuple xs.reverse) := by
  obtain ⟨a, e1, f1⟩ := h1
  refine ⟨.d (.tuple xs.reverse), ?_, rfl⟩
  unfold dRevT
  rw [e1, bind_ok, f1]
  rfl
theorem PX.neg {j : Int} (h : PX c1 σ S (.int j)) : PX (dNeg c1) σ S (.int (-j)) := by
  obtain ⟨a, e1, f1⟩ := h
  refine ⟨.d (.int (-j)), ?_, rfl⟩
  rw [x_Neg, e1, bind_ok, f1]
  rfl
theorem PX.str {j : Int} (h : PX c1 σ S (.int j)) (hj : j.natAbs.log2 < 1920) : PX (dCallV vStrI (lCons c1 lNil)) σ S (.str (toString j)) := by
  have e := PX.cons h PX.nil
  refine ⟨.d (.str (toString j)), ?_, rfl⟩
  rw [x_CallV, e, lbind_ok]
  show liftV (if _ then _ else _) = _
  rw [if_pos hj]
  rfl
theorem PX.ixT {j : Int} (h1 : PX c1 σ S (.tuple xs)) (h2 : PX c2 σ S (.int j)) (h : atD xs j = some x) : PX (dBin vIx c1 c2) σ S x :=
  PX.bin h1 h2 fun S => by rw [ix_t, h]
theorem PX.ixL {j : Int} (h1 : PX c1 σ S (.list xs)) (h2 : PX c2 σ S (.int j)) (h : atD xs j = some x) : PX (dBin vIx c1 c2) σ S x :=
  PX.bin h1 h2 fun S => by rw [ix_l, h]
end
theorem at_last {l : List Int} (h : l ≠ []) : ∃ x, x ∈ l ∧ atD (ds l) (-1) = some (.int x) := by
  have hp := List.length_pos_iff.mpr h
  refine ⟨l[l.length - 1], List.getElem_mem (by omega), ?_⟩
  have : (ds l)[l.length - 1]? = some (.int l[l.length - 1]) := by
    unfold ds
    rw [List.getElem?_map, List.getElem?_eq_getElem (by omega)]
    rfl
  have e : ixN l.length (-1) = some (l.length - 1) := by
    unfold ixN
    rw [if_neg (by decide), if_pos (by omega)]
    congr 1
    omega
  unfold atD
  rw [ds_len, e]
  exact this
theorem at_first {l : List Int} (h : l ≠ []) : ∃ x, x ∈ l ∧ atD (ds l) 0 = some (.int x) := by
  cases l with
  | nil => exact absurd rfl h
  | cons a r => exact ⟨a, List.mem_cons_self, at_0 ..⟩
/-- items all known, and not many -/
def K1 (n : Nat) (l : List D) : Prop := (∀ x ∈ l, known x = true) ∧ l.length ≤ n
theorem K1.ds (l : List Int) : K1 l.length (ds l) := ⟨fun x hx => by obtain ⟨y, _, rfl⟩ := List.mem_map.mp hx; rfl, by rw [ds_len]; exact Nat.le_refl _⟩
theorem K1.mono {m n : Nat} {l : List D} (h : K1 m l) (k : m ≤ n) : K1 n l := ⟨h.1, Nat.le_trans h.2 k⟩
theorem K1.cut {n : Nat} {l : List D} (h : K1 n l) (lo hi : Option Int) : K1 n (Den.cutD l lo hi) := by
  unfold Den.cutD
  refine ⟨fun x hx => h.1 x (List.mem_of_mem_drop (List.mem_of_mem_take hx)), ?_⟩
  rw [List.length_take, List.length_drop]
  have := h.2
  omega
theorem K1.app {m n : Nat} {l k : List D} (h : K1 m l) (h2 : K1 n k) : K1 (m + n) (l ++ k) := by
  refine ⟨fun x hx => ?_, ?_⟩
  · rcases List.mem_append.mp hx with hx | hx
    · exact h.1 x hx
    · exact h2.1 x hx
  · rw [List.length_append]
    have := h.2
    have := h2.2
    omega
theorem K1.rev {n : Nat} {l : List D} (h : K1 n l) : K1 n l.reverse := ⟨fun x hx => h.1 x (List.mem_reverse.mp hx), by rw [List.length_reverse]; exact h.2⟩
theorem K1.one {x : D} (h : known x = true) : K1 1 [x] := ⟨fun y hy => by rw [List.mem_singleton.mp hy]; exact h, Nat.le_refl _⟩
theorem K1.t {n : Nat} {l : List D} (h : K1 n l) (hn : n ≤ 1000) : paperOk (.tuple l) = true := by
  rw [show paperOk (.tuple l) = (l.all known && decide (l.length ≤ 1000)) from rfl, Bool.and_eq_true, List.all_eq_true, decide_eq_true_eq]
  exact ⟨h.1, Nat.le_trans h.2 hn⟩
theorem K1.l {n : Nat} {l : List D} (h : K1 n l) (hn : n ≤ 1000) : paperOk (.list l) = true := by
  rw [show paperOk (.list l) = (l.all known && decide (l.length ≤ 1000)) from rfl, Bool.and_eq_true, List.all_eq_true, decide_eq_true_eq]
  exact ⟨h.1, Nat.le_trans h.2 hn⟩
theorem PX.v {i : Nat} {σ : ASt} {S : AS} {x : D} (h : σ[i]? = some (some (.d x))) : PX (dVar i) σ S x := by
  refine ⟨.d x, ?_, rfl⟩
  unfold dVar
  simp only [h]
theorem PX.sort {c : Dn} {σ : ASt} {S : AS} {l : List Int} (h : PX c σ S (.list (ds l))) : PX (dCallV vSortT (lCons c lNil)) σ S (.list (ds (srtI l))) := by
  have e := PX.cons h PX.nil
  refine ⟨.own (ds (srtI l)), ?_, rfl⟩
  rw [x_CallV, e, lbind_ok]
  show liftV (vSortT [.d (.list (ds l))] S) = _
  unfold vSortT
  show liftV (match ints? (ds l) with | some ns => some (AV.own ((srtI ns).map PyData.int), S) | none => none) = _
  rw [ds_ints]
  rfl
theorem app_step {c : Dn} {σ : ASt} {i : Nat} {S : AS} {L : List D} {x : D} (hi : σ[i]? = some (some (.ref S.length))) (h : PX c σ (S ++ [.lst L]) x) (hL : L.length < cap) :
    sExpr (dMeth mAppend (dVar i) (lCons c lNil)) σ (S ++ [.lst L]) = .nx σ (S ++ [.lst (L ++ [x])]) := by
  have e := PX.cons h PX.nil
  have d : dVar i σ (S ++ [.lst L]) = .ok (.ref S.length) (S ++ [.lst L]) := by
    unfold dVar
    simp only [hi]
  rw [x_Expr, x_Meth, d, bind_ok, fz_ref, x_bMeth, loc_isL, if_pos rfl, e, lbind_ok]
  show (liftV (mAppend (.ref S.length) [.d x] (S ++ [.lst L]))).then σ _ = _
  rw [loc_app hL]
  rfl
theorem add_loc {S : AS} {L M : List D} (h : L.length + M.length ≤ cap) : bAdd (.ref S.length) (.d (.list M)) (S ++ [.lst L]) = some (.own (L ++ M), S ++ [.lst L]) := by
  show catV (S ++ [.lst L]) (rdSeq (S ++ [.lst L]) (.ref S.length)) (rdSeq (S ++ [.lst L]) (.d (.list M))) = _
  rw [loc_rd]
  exact if_pos h
theorem eq1_go {σ0 : ASt} {S : AS} (h7 : 7 < σ0.length) : ∀ (l : List Int) (acc : List D), acc.length + l.length ≤ cap →
    lcGo (.nm 7) (dC (.bool true)) (dBin (cop .Eq) (dVar 7) (dC (.int 1))) σ0 (ds l) S acc = .ok (.own (acc ++ l.map fun x => PyData.bool (decide (x = 1)))) S
  | [], acc, _ => by rw [List.map_nil, List.append_nil]; rfl
  | x :: l, acc, hc => by
    rw [List.length_cons] at hc
    have ih := eq1_go (S := S) h7 l (acc ++ [PyData.bool (decide (x = 1))]) (by rw [List.length_append, List.length_singleton]; omega)
    have hcc : acc.length < cap := by omega
    have d7 : dVar 7 (σ0.set 7 (some (.d (.int x)))) S = .ok (.d (.int x)) S := by
      unfold dVar
      rw [List.getElem?_set_self h7]
    have e : (dBin (cop .Eq) (dVar 7) (dC (.int 1))) (σ0.set 7 (some (.d (.int x)))) S = .ok (.d (.bool (decide (x = 1)))) S := by
      simp [d7]
    show lcGo _ _ _ _ (PyData.int x :: ds l) S _ = _
    unfold lcGo
    simp only [bind_nm, x_C, e, fz_d, frzD, if_pos hcc]
    rw [ih, List.append_assoc]
    rfl
def AllOk (L : List D) : Prop := ∀ x ∈ L, paperOk x = true
theorem AllOk.nil : AllOk [] := fun x h => by cases h
theorem AllOk.cons {x : D} {L : List D} (h : paperOk x = true) (k : AllOk L) : AllOk (x :: L) := fun y hy => by
  rcases List.mem_cons.mp hy with rfl | hy
  · exact h
  · exact k y hy
theorem AllOk.app {L M : List D} (h : AllOk L) (k : AllOk M) : AllOk (L ++ M) := fun y hy => by
  rcases List.mem_append.mp hy with hy | hy
  · exact h y hy
  · exact k y hy
section
variable {σ : ASt} {S : AS} {best ul : List Int} {i : Int}
theorem papers1 (h1 : σ[1]? = some (some (.d (.tuple (ds best))))) (h3 : σ[3]? = some (some (.d (.list (ds ul))))) (h4 : σ[4]? = some (some (.d (.int i)))) (hb : best.length ≤ 20) (hu : ul.length ≤ 20) :
    ∃ L, AllOk L ∧ L.length = 9 ∧ dCallV vLstD (lCons (dCallV vTuple (lCons (dVar 1) lNil)) (lCons (dCallV vList (lCons (dVar 3) lNil)) (lCons (dBin bAdd (dSl (dVar 1) none (some (dVar 4))) (dSl (dVar 1) (some (dBin bAdd (dVar 4) (dC (.int 1)))) none)) (lCons (dRevT (dVar 1)) (lCons (dBin bAdd (dVar 1) (dSl (dVar 1) (some (dNeg (dC (.int 1)))) none)) (lCons (dCallV vTupD lNil) (lCons (dC (.int 7)) (lCons (dC .none) (lCons (dC (.str "ab")) lNil))))))))) σ S = .ok (.own L) S := by
  have kb := (K1.ds best).mono hb
  have ku := (K1.ds ul).mono hu
  have v1 : PX (dVar 1) σ S (.tuple (ds best)) := PX.v h1
  have v3 : PX (dVar 3) σ S (.list (ds ul)) := PX.v h3
  have v4 : PX (dVar 4) σ S (.int i) := PX.v h4
  have v41 : PX (dBin bAdd (dVar 4) (dC (.int 1))) σ S (.int (i + 1)) := PX.bin v4 PX.k fun _ => rfl
  have c20 : ∀ n, n ≤ 1000 → n ≤ cap := fun n h => by unfold cap; omega
  have a1 := (kb.cut none (some i)).app (kb.cut (some (i + 1)) none)
  have a2 := kb.app (kb.cut (some (-1)) none)
  refine ⟨_, ?_, ?_, PX.lst (PX.cons (PX.tupT v1) (PX.cons (PX.lstL v3) (PX.cons (PX.add (PX.sl0 v1 v4) (PX.sl1 v1 v41) ?_) (PX.cons (PX.rev v1) (PX.cons (PX.add v1 (PX.sl1 v1 (PX.neg PX.k)) ?_) (PX.cons (PX.tupD PX.nil ?_) (PX.cons PX.k (PX.cons PX.k (PX.cons PX.k PX.nil))))))))) ?_⟩
  · exact AllOk.cons (kb.t (by decide)) (AllOk.cons (ku.l (by decide)) (AllOk.cons (a1.t (by decide)) (AllOk.cons (kb.rev.t (by decide)) (AllOk.cons (a2.t (by decide)) (AllOk.cons rfl (AllOk.cons rfl (AllOk.cons rfl (AllOk.cons rfl AllOk.nil))))))))
  · rfl
  · have := a1.2
    rw [List.length_append] at this
    exact c20 _ (by omega)
  · have := a2.2
    rw [List.length_append] at this
    exact c20 _ (by omega)
  · exact c20 _ (by simp)
  · exact c20 _ (by simp)
theorem papers2 (h1 : σ[1]? = some (some (.d (.tuple (ds best))))) (h3 : σ[3]? = some (some (.d (.list (ds ul))))) (h4 : σ[4]? = some (some (.d (.int i)))) (hb : best.length ≤ 20) (hu : ul.length ≤ 20) (b0 : best ≠ []) (u0 : ul ≠ []) (sm : Sm best) :
    ∃ L, AllOk L ∧ L.length = 5 ∧ dCallV vLstD (lCons (dCallV vTuple (lCons (dBin bAdd (dSl (dVar 3) none (some (dVar 4))) (dSl (dVar 3) (some (dBin bAdd (dVar 4) (dC (.int 1)))) none)) lNil)) (lCons (dSl (dVar 1) (some (dC (.int 1))) none) (lCons (dSl (dVar 1) none (some (dNeg (dC (.int 1))))) (lCons (dCallV vTupD (lCons (dBin vIx (dVar 3) (dC (.int 0))) (lCons (dBin vIx (dVar 3) (dNeg (dC (.int 1)))) lNil))) (lCons (dCallV vLstD (lCons (dCallV vStrI (lCons (dBin vIx (dVar 1) (dC (.int 0))) lNil)) lNil)) lNil))))) σ S = .ok (.own L) S := by
  have kb := (K1.ds best).mono hb
  have ku := (K1.ds ul).mono hu
  have v1 : PX (dVar 1) σ S (.tuple (ds best)) := PX.v h1
  have v3 : PX (dVar 3) σ S (.list (ds ul)) := PX.v h3
  have v4 : PX (dVar 4) σ S (.int i) := PX.v h4
  have v41 : PX (dBin bAdd (dVar 4) (dC (.int 1))) σ S (.int (i + 1)) := PX.bin v4 PX.k fun _ => rfl
  have c20 : ∀ n, n ≤ 1000 → n ≤ cap := fun n h => by unfold cap; omega
  have a1 := (ku.cut none (some i)).app (ku.cut (some (i + 1)) none)
  obtain ⟨x, xm, ex⟩ := at_first u0
  obtain ⟨y, ym, ey⟩ := at_last u0
  obtain ⟨z, zm, ez⟩ := at_first b0
  have hz : z.natAbs.log2 < 1920 := by
    have := sm z zm
    rcases Nat.eq_zero_or_pos z.natAbs with h | h
    · rw [h]; decide
    · exact Nat.lt_trans (Nat.log2_lt (by omega) |>.mpr this) (by decide)
  refine ⟨_, ?_, ?_, PX.lst (PX.cons (PX.tupL (PX.addL (PX.sl0L v3 v4) (PX.sl1L v3 v41) ?_)) (PX.cons (PX.sl1 v1 PX.k) (PX.cons (PX.sl0 v1 (PX.neg PX.k)) (PX.cons (PX.tupD (PX.cons (PX.ixL v3 PX.k ex) (PX.cons (PX.ixL v3 (PX.neg PX.k) ey) PX.nil)) ?_) (PX.cons (PX.lstD (PX.cons (PX.str (PX.ixT v1 PX.k ez) hz) PX.nil) ?_) PX.nil))))) ?_⟩
  · exact AllOk.cons (a1.t (by decide)) (AllOk.cons ((kb.cut _ _).t (by decide)) (AllOk.cons ((kb.cut _ _).t (by decide)) (AllOk.cons rfl (AllOk.cons rfl AllOk.nil))))
  · rfl
  · have := a1.2
    rw [List.length_append] at this
    exact c20 _ (by omega)
  · exact c20 _ (by simp)
  · exact c20 _ (by simp)
  · exact c20 _ (by simp)
theorem papers3 (h1 : σ[1]? = some (some (.d (.tuple (ds best))))) (h7 : 7 < σ.length) (hb : best.length ≤ 20) (b0 : best ≠ []) :
    ∃ L, AllOk L ∧ L.length = 4 ∧ dCallV vLstD (lCons (dBin bAdd (dSl (dVar 1) none (some (dNeg (dC (.int 1))))) (dCallV vTupD (lCons (dBin bAdd (dBin vIx (dVar 1) (dNeg (dC (.int 1)))) (dC (.int 1))) lNil))) (lCons (dBin bAdd (dCallV vTupD (lCons (dBin bSub (dBin vIx (dVar 1) (dC (.int 0))) (dC (.int 1))) lNil)) (dVar 1)) (lCons (dCallV vTuple (lCons (dLc (iSeq (dVar 1)) (.nm 7) (dC (.bool true)) (dBin (cop .Eq) (dVar 7) (dC (.int 1))) [7]) lNil)) (lCons (dCallV vTupD (lCons (dVar 1) lNil)) lNil)))) σ S = .ok (.own L) S := by
  have kb := (K1.ds best).mono hb
  have v1 : PX (dVar 1) σ S (.tuple (ds best)) := PX.v h1
  have c20 : ∀ n, n ≤ 1000 → n ≤ cap := fun n h => by unfold cap; omega
  obtain ⟨y, ym, ey⟩ := at_last b0
  obtain ⟨z, zm, ez⟩ := at_first b0
  have lc : PX (dLc (iSeq (dVar 1)) (.nm 7) (dC (.bool true)) (dBin (cop .Eq) (dVar 7) (dC (.int 1))) [7]) σ S (.list (best.map fun x => PyData.bool (decide (x = 1)))) := by
    refine ⟨.own _, ?_, rfl⟩
    have sq : iSeq (dVar 1) σ S = .ok (ds best) S := by
      unfold iSeq dVar
      simp only [h1]
      rfl
    unfold dLc
    rw [sq]
    exact eq1_go (σ0 := σ.set 7 none) (by rw [List.length_set]; exact h7) best [] (by simp; unfold cap; omega)
  have k3 : K1 20 (best.map fun x => PyData.bool (decide (x = 1))) := ⟨fun x hx => by obtain ⟨y, _, rfl⟩ := List.mem_map.mp hx; rfl, by rw [List.length_map]; exact hb⟩
  have a1 := (kb.cut none (some (-1))).app (K1.one (x := .int (y + 1)) rfl)
  have a2 := (K1.one (x := .int (z - 1)) rfl).app kb
  refine ⟨_, ?_, ?_, PX.lst (PX.cons (PX.add (PX.sl0 v1 (PX.neg PX.k)) (PX.tupD (PX.cons (PX.bin (z := .int (y + 1)) (PX.ixT v1 (PX.neg PX.k) ey) PX.k fun _ => rfl) PX.nil) ?_) ?_) (PX.cons (PX.add (PX.tupD (PX.cons (PX.bin (z := .int (z - 1)) (PX.ixT v1 PX.k ez) PX.k fun _ => rfl) PX.nil) ?_) v1 ?_) (PX.cons (PX.tupL lc) (PX.cons (PX.tupD (PX.cons v1 PX.nil) ?_) PX.nil)))) ?_⟩
  · exact AllOk.cons (a1.t (by decide)) (AllOk.cons (a2.t (by decide)) (AllOk.cons (k3.t (by decide)) (AllOk.cons rfl AllOk.nil)))
  · rfl
  · exact c20 _ (by simp)
  · have := a1.2
    rw [List.length_append] at this
    exact c20 _ (by omega)
  · exact c20 _ (by simp)
  · have := a2.2
    rw [List.length_append] at this
    exact c20 _ (by omega)
  · exact c20 _ (by simp)
  · exact c20 _ (by simp)
end
def exB : Sn := (sSeq (sExpr (dMeth mAppend (dVar 5) (lCons (dBin bAdd (dBin bAdd (dSl (dVar 1) none (some (dVar 4))) (dCallV vTupD (lCons (dVar 7) lNil))) (dSl (dVar 1) (some (dBin bAdd (dVar 4) (dC (.int 1)))) none)) lNil)))
    (sExpr (dMeth mAppend (dVar 5) (lCons (dCallV vTuple (lCons (dCallV vSortT (lCons (dBin bAdd (dCallV vList (lCons (dVar 1) lNil)) (dCallV vLstD (lCons (dVar 7) lNil))) lNil)) lNil)) lNil))))
theorem ex_loop {x0 x2 x3 x6 : Option AV} {S : AS} {best : List Int} {i : Int} (hb : best.length ≤ 20) : ∀ (E : List Int) (L : List D) (x7 : Option AV), AllOk L → L.length + 2 * E.length ≤ 1000 →
    ∃ L' x7', forGo (.nm 7) exB (ds E) [x0, some (.d (.tuple (ds best))), x2, x3, some (.d (.int i)), some (.ref S.length), x6, x7] (S ++ [.lst L]) = .nx [x0, some (.d (.tuple (ds best))), x2, x3, some (.d (.int i)), some (.ref S.length), x6, x7'] (S ++ [.lst L']) ∧ AllOk L'
  | [], L, x7, k, _ => ⟨L, x7, rfl, k⟩
  | e :: E, L, x7, k, h => by
    rw [List.length_cons] at h
    have kb := (K1.ds best).mono hb
    have c20 : ∀ n, n ≤ 1000 → n ≤ cap := fun n h => by unfold cap; omega
    let σ : ASt := [x0, some (.d (.tuple (ds best))), x2, x3, some (.d (.int i)), some (.ref S.length), x6, some (.d (.int e))]
    have v1 : ∀ T, PX (dVar 1) σ T (.tuple (ds best)) := fun T => PX.v rfl
    have v4 : ∀ T, PX (dVar 4) σ T (.int i) := fun T => PX.v rfl
    have v7 : ∀ T, PX (dVar 7) σ T (.int e) := fun T => PX.v rfl
    have v41 : ∀ T, PX (dBin bAdd (dVar 4) (dC (.int 1))) σ T (.int (i + 1)) := fun T => PX.bin (v4 T) PX.k fun _ => rfl
    have a1 := (kb.cut none (some i)).app (K1.one (x := .int e) rfl)
    have a2 := a1.app (kb.cut (some (i + 1)) none)
    have l1 := a1.2
    have l2 := a2.2
    rw [List.length_append] at l1 l2
    have p1 : ∀ T, PX _ σ T _ := fun T => PX.add (PX.add (PX.sl0 (v1 T) (v4 T)) (PX.tupD (PX.cons (v7 T) PX.nil) (c20 _ (by simp))) (c20 _ (by omega))) (PX.sl1 (v1 T) (v41 T)) (c20 _ (by omega))
    have p2 : ∀ T, PX _ σ T _ := fun T => PX.tupL (PX.sort (l := best ++ [e]) (by rw [← ds_app]; exact PX.addL (PX.lstT (v1 T)) (PX.lstD (PX.cons (v7 T) PX.nil) (c20 _ (by simp))) (c20 _ (by rw [ds_len]; simp; omega))))
    have s1 := app_step (i := 5) (S := S) (L := L) rfl (p1 _) (by unfold cap; omega)
    have s2 := fun (L2 : List D) (h : L2.length < cap) => app_step (i := 5) (S := S) (L := L2) rfl (p2 _) h
    have ks : K1 21 (ds (srtI (best ++ [e]))) := (K1.ds _).mono (by rw [(srtI_perm _).length_eq, List.length_append]; simp; omega)
    obtain ⟨L', x7', e2, k2⟩ := ex_loop (x0 := x0) (x2 := x2) (x3 := x3) (x6 := x6) (S := S) (best := best) (i := i) hb E _ (some (.d (.int e))) ((k.app (AllOk.cons (a2.t (by decide)) AllOk.nil)).app (AllOk.cons (ks.t (by decide)) AllOk.nil)) (by simp only [List.length_append, List.length_singleton]; omega)
    refine ⟨L', x7', ?_, k2⟩
    show forGo _ _ (.int e :: ds E) _ _ = _
    rw [for_cons]
    show (match exB σ _ with | .nx σ2 S2 => forGo _ _ _ σ2 S2 | .ct σ2 S2 => forGo _ _ _ σ2 S2 | .bk σ2 S2 => .nx σ2 S2 | r' => r') = _
    have eb : exB σ (S ++ [.lst L]) = .nx σ (S ++ [.lst (L ++ [PyData.tuple (Den.cutD (ds best) none (some i) ++ [PyData.int e] ++ Den.cutD (ds best) (some (i + 1)) none)] ++ [PyData.tuple (ds (srtI (best ++ [e])))])]) := by
      unfold exB
      rw [x_Seq, s1]
      exact s2 _ (by rw [List.length_append]; unfold cap; simp; omega)
    rw [eb]
    exact e2
section
variable {c : Dn} {σ σ' : ASt} {S S' : AS} {l : List D} {x : D} {s b : Sn} {i : Nat} {mu : Bool} {it : It1} {p : Pat}
theorem sq_ownT (e : c σ S = .ok (.own l) S) : sSeq (sAsg i true c) s σ S = s (σ.set i (some (.ref S.length))) (S ++ [.lst l]) := by
  rw [x_Seq, x_Asg, e, then_ok, asg_ownT]
theorem sq_ownF (e : c σ S = .ok (.own l) S) : sSeq (sAsg i false c) s σ S = s (σ.set i (some (.d (.list l)))) S := by
  rw [x_Seq, x_Asg, e, then_ok, asg_ownF]
theorem sq_d (e : c σ S = .ok (.d x) S') : sSeq (sAsg i mu c) s σ S = s (σ.set i (some (.d x))) S' := by
  rw [x_Seq, x_Asg, e, then_ok, asg_d]
theorem sq_for {S1 : AS} (e : it σ S = .ok l S1) (k : forGo p b l σ S1 = .nx σ' S') : sSeq (sFor it p b) s σ S = s σ' S' := by
  rw [x_Seq, x_For, e]
  show (match forGo p b l σ S1 with | .nx σ1 S1 => s σ1 S1 | r => r) = _
  rw [k]
theorem sq_ifF {s1 s2 : Sn} (e : c σ S = .ok (.d (.bool false)) S') : sSeq (sIf c s1 s2) s σ S = (match s2 σ S' with | .nx σ1 S1 => s σ1 S1 | r => r) := by
  rw [x_Seq, x_sIf, e, then_ok]
  all_goals rfl
theorem sq_ifT {s1 s2 : Sn} (e : c σ S = .ok (.d (.bool true)) S') : sSeq (sIf c s1 s2) s σ S = (match s1 σ S' with | .nx σ1 S1 => s σ1 S1 | r => r) := by
  rw [x_Seq, x_sIf, e, then_ok]
  all_goals rfl
end
theorem papers_in {x0 : Option AV} {S : AS} {best : List Int} {pick : Int} (b0 : best ≠ []) : bMod (.d (.int pick)) (.d (.int best.length)) S = some (.d (.int (pick % best.length)), S) := mod_i (by have := List.length_pos_iff.mpr b0; omega)
theorem r_papers {a : AV} {S : AS} {vs : List Int} (h : VT a S vs) (k : Ok vs) {best : List Int} (b0 : best ≠ []) (bs : ∀ x ∈ best, x ∈ vs) (bl : best.length ≤ vs.length) (pick : Int) :
    ∃ L, den_law_papers [a, .d (.tuple (ds best)), .d (.int pick)] S = .ok (.own L) S ∧ AllOk L := by
  have kl := k.len
  have ul := r_unlike h (by omega)
  have ull := usrt_len vs
  have u0 : usrt vs ≠ [] := fun z => by
    have : minI vs ∈ usrt vs := usrt_mem.mpr (min_in k.ne)
    rw [z] at this
    cases this
  have hf := h.fz
  obtain ⟨L1, o1, n1, e1⟩ := papers1 (σ := [some a, some (.d (.tuple (ds best))), some (.d (.int pick)), some (.d (.list (ds (usrt vs)))), some (.d (.int (pick % best.length))), none, none, none]) (S := S) (best := best) (ul := usrt vs) rfl rfl rfl (by omega) (by omega)
  obtain ⟨L2, o2, n2, e2⟩ := papers2 (σ := [some a, some (.d (.tuple (ds best))), some (.d (.int pick)), some (.d (.list (ds (usrt vs)))), some (.d (.int (pick % best.length))), some (.ref S.length), none, none]) (S := S ++ [.lst L1]) (best := best) (ul := usrt vs) rfl rfl rfl (by omega) (by omega) b0 u0 (k.sm.sub bs)
  obtain ⟨L3, o3, n3, e3⟩ := papers3 (σ := [some a, some (.d (.tuple (ds best))), some (.d (.int pick)), some (.d (.list (ds (usrt vs)))), some (.d (.int (pick % best.length))), some (.ref (S ++ [AO.lst L1]).length), none, none]) (S := (S ++ [.lst L1]) ++ [.lst (L1 ++ L2)]) (best := best) rfl (by simp) (by omega) b0
  have ad1 := add_loc (S := S) (L := L1) (M := L2) (by unfold cap; omega)
  have ad2 := add_loc (S := S ++ [.lst L1]) (L := L1 ++ L2) (M := L3) (by rw [List.length_append]; unfold cap; omega)
  have bm := papers_in (x0 := none) (S := S) (best := best) (pick := pick) b0
  let T : AS := (S ++ [.lst L1]) ++ [.lst (L1 ++ L2)]
  have hlc := lcf (i := 7) (it := iSeq (dVar 3)) (ct := dBin (cop .NotIn) (dVar 7) (dVar 1)) (σ := [some a, some (.d (.tuple (ds best))), some (.d (.int pick)), some (.d (.list (ds (usrt vs)))), some (.d (.int (pick % best.length))), some (.ref T.length), none, none]) (S := T ++ [.lst (L1 ++ L2 ++ L3)]) (l := usrt vs) (f := fun x => !best.contains x) rfl (by simp) (fun x => by
    have i2 : cop .NotIn (.d (.int x)) (.d (.tuple (ds best))) (T ++ [.lst (L1 ++ L2 ++ L3)]) = some (.d (.bool (!best.contains x)), T ++ [.lst (L1 ++ L2 ++ L3)]) := by
      show (match inD _ (.d (.int x)) (.d (.tuple (ds best))) with | some k => some (AV.d (.bool (!k)), _) | none => none) = _
      unfold inD
      rw [show rdSeq (T ++ [.lst (L1 ++ L2 ++ L3)]) (.d (.tuple (ds best))) = some (false, ds best) from rfl]
      dsimp only
      unfold ds
      rw [flat_ints, any_ints]
      rfl
    generalize T ++ [AO.lst (L1 ++ L2 ++ L3)] = T2 at *
    generalize best.contains x = kk at *
    simp [dVar, i2]) (by unfold cap; omega)
  obtain ⟨E, eE, lE⟩ : ∃ E : List Int, Den.cutD (ds ((usrt vs).filter fun x => !best.contains x)) none (some 3) = ds E ∧ E.length ≤ 20 := by
    unfold Den.cutD ds
    rw [← List.map_drop, ← List.map_take]
    refine ⟨_, rfl, ?_⟩
    rw [List.length_take, List.length_drop]
    have := List.length_filter_le (fun x => !best.contains x) (usrt vs)
    omega
  obtain ⟨L', x7', e5, o5⟩ := ex_loop (x0 := some a) (x2 := some (.d (.int pick))) (x3 := some (.d (.list (ds (usrt vs))))) (x6 := some (.d (.list (ds ((usrt vs).filter fun x => !best.contains x))))) (S := T) (best := best) (i := pick % best.length) (by omega) E (L1 ++ L2 ++ L3) none ((o1.app o2).app o3) (by simp only [List.length_append]; omega)
  refine ⟨L', ?_, o5⟩
  unfold exB at e5
  have sl : iSeq (dSl (dVar 6) none (some (dC (.int 3)))) [some a, some (.d (.tuple (ds best))), some (.d (.int pick)), some (.d (.list (ds (usrt vs)))), some (.d (.int (pick % best.length))), some (.ref T.length), some (.d (.list (ds ((usrt vs).filter fun x => !best.contains x)))), none] (T ++ [.lst (L1 ++ L2 ++ L3)]) = .ok (ds E) (T ++ [.lst (L1 ++ L2 ++ L3)]) := by
    rw [← eE]
    rfl
  have m0 : dBin bMod (dVar 2) (dCallV vLen (lCons (dVar 1) lNil)) [some a, some (.d (.tuple (ds best))), some (.d (.int pick)), some (.d (.list (ds (usrt vs)))), none, none, none, none] S = .ok (.d (.int (pick % best.length))) S := by
    simp [dVar, bm]
  have m1 : dCall (arity 1 den_law_unlike) (lCons (dVar 0) lNil) [some a, some (.d (.tuple (ds best))), some (.d (.int pick)), none, none, none, none, none] S = .ok (.own (ds (usrt vs))) S := by
    simp [dVar, hf, ul]
  have bin : ∀ (c : Dn) (σ : ASt) (n : Nat) (L M : List D) (S : AS), σ[5]? = some (some (.ref S.length)) → c σ (S ++ [.lst L]) = .ok (.own M) (S ++ [.lst L]) → L.length + M.length ≤ cap → dBin bAdd (dVar 5) c σ (S ++ [.lst L]) = .ok (.own (L ++ M)) (S ++ [.lst L]) := fun c σ n L M S h5 hc hh => by
    have d5 : dVar 5 σ (S ++ [.lst L]) = .ok (.ref S.length) (S ++ [.lst L]) := by
      unfold dVar
      simp only [h5]
    rw [x_Bin, d5, bind_ok, hc, bind_ok, fz_ref, fz_own, add_loc hh]
    rfl
  have body : c_law_papers [some a, some (.d (.tuple (ds best))), some (.d (.int pick)), none, none, none, none, none] S = .rt (.ref T.length) (T ++ [.lst L']) := by
    unfold c_law_papers
    refine (sq_ownF m1).trans ?_
    refine (sq_d m0).trans ?_
    refine (sq_ownT e1).trans ?_
    refine (sq_ownT (bin _ _ 5 L1 L2 S rfl e2 (by unfold cap; omega))).trans ?_
    refine (sq_ownT (bin _ _ 5 (L1 ++ L2) L3 (S ++ [.lst L1]) rfl e3 (by rw [List.length_append]; unfold cap; omega))).trans ?_
    refine (sq_ownF hlc).trans ?_
    refine (sq_for sl e5).trans ?_
    rfl
  unfold den_law_papers
  show (match c_law_papers [some a, some (.d (.tuple (ds best))), some (.d (.int pick)), none, none, none, none, none] S with | .nx _ S' => ER.ok (.d .none) (S'.take S.length) | .rt a S' => finA S.length a S' | .er x _ S' => .err x (S'.take S.length) | _ => .stuck) = _
  rw [body]
  have tl : ¬ T.length < S.length := by
    show ¬ ((S ++ [AO.lst L1]) ++ [AO.lst (L1 ++ L2)]).length < S.length
    simp only [List.length_append]
    omega
  unfold finA
  dsimp only
  rw [if_neg tl, loc_get]
  show ER.ok (.own L') (List.take S.length (((S ++ [AO.lst L1]) ++ [AO.lst (L1 ++ L2)]) ++ [AO.lst L'])) = _
  rw [List.append_assoc, List.append_assoc, List.take_left' rfl]
end K74
namespace K74
open PySem PySem.Spec PyProof.Rows L2 Den
/-! ### _law_values_told -/
theorem asc_all {p : List Int} (h : p.Pairwise (· < ·)) : (ascB p).all id = true := by
  unfold ascB
  rw [List.all_map, List.all_eq_true]
  intro i hi
  have hi := List.mem_range.mp hi
  have := List.pairwise_iff_getElem.mp h i (i + 1) (by omega) (by omega) (by omega)
  show decide (p.getD i 0 < p.getD (i + 1) 0) = true
  rw [List.getD_eq_getElem?_getD, List.getD_eq_getElem?_getD, List.getElem?_eq_getElem (by omega), List.getElem?_eq_getElem (by omega)]
  exact decide_eq_true this
def PsOk (vs : List Int) (ps : List Nat) : Prop := (gF vs = 0 ∧ ps = []) ∨ (0 < gF vs ∧ PrimesOf ((maxI vs - minI vs) / gF vs).toNat ps)
theorem lots_sml {vs : List Int} (k : Ok vs) {ps : List Nat} (h : PsOk vs ps) : SmL (lotsOf vs ps) ∧ (lotsOf vs ps).length ≤ 16 := by
  rcases h with ⟨_, rfl⟩ | ⟨hg, hp⟩
  · exact ⟨(fun q hq => by cases hq), Nat.zero_le _⟩
  · have n0 := N_pos hg
    have nn := k.N
    refine ⟨fun q hq => ?_, by rw [lotsOf_len]; exact ps_len hp (by omega) (by omega)⟩
    obtain ⟨p, pm, rfl⟩ := mem_lots.mp hq
    have pd := Nat.le_of_dvd (by omega) ((hp.mem p).mp pm).2
    refine ⟨?_, fun x hx => k.sm x (mem_lot.mp hx).1, ?_⟩
    · show ((p : Int)).natAbs < 2 ^ 102
      rw [Int.natAbs_natCast]
      exact Nat.lt_of_lt_of_le (show p < 65536 by omega) (by decide)
    · have a := List.length_filter_le (fun u => decide ((u - minI vs) / gF vs % (p : Int) ≠ 0)) (usrt vs)
      have b := usrt_len vs
      have c := k.len
      show ((usrt vs).filter fun u => decide ((u - minI vs) / gF vs % (p : Int) ≠ 0)).length ≤ 100
      omega
theorem rep_t {l : List Int} (h : Sm l) (hl : l.length ≤ 1000) : ∃ z, ∀ S, vRepr [.d (.tuple (ds l))] S = some (.d (.str z), S) := by
  have := shown_t h hl
  refine ⟨(PyData.tuple (ds l)).shown, fun S => ?_⟩
  show (match some (PyData.tuple (ds l)) with | some x => if seqShown x then some (AV.d (.str x.shown), S) else none | none => none) = _
  dsimp only
  rw [if_pos this]
theorem rep_lt (b : Bool) {l : List Int} (h : Sm l) (hl : l.length ≤ 1000) : ∃ z, ∀ S, vRepr [lt2 b l] S = some (.d (.str z), S) := by
  cases b
  · exact rep_t h hl
  · have := shown_l h hl
    refine ⟨(PyData.list (ds l)).shown, fun S => ?_⟩
    show (match some (PyData.list (ds l)) with | some x => if seqShown x then some (AV.d (.str x.shown), S) else none | none => none) = _
    dsimp only
    rw [if_pos this]
theorem ne_str (z : Str) (S : AS) : cop .NotEq (.d (.str z)) (.d (.str z)) S = some (.d (.bool false), S) := by
  show some (AV.d (.bool (!decide (z = z))), S) = _
  rw [decide_eq_true rfl]
  rfl
theorem ne_bool (z : Bool) (S : AS) : cop .NotEq (.d (.bool z)) (.d (.bool z)) S = some (.d (.bool false), S) := by cases z <;> rfl
def vtB : Sn := (sSeq (sAsg 5 false (dCallV vRepr (lCons (dVar 4) lNil)))
    (sSeq (sAsg 6 false (dCall (arity 1 den_fewest_values) (lCons (dVar 4) lNil)))
    (sSeq (sIf (dOr (dNot (dTru (dIsi ["tuple"] (dVar 6)))) (dOr (dBin (cop .NotEq) (dCallV vLen (lCons (dVar 6) lNil)) (dVar 2)) (dNot (dTru (dCall (arity 2 den_law_shows) (lCons (dVar 0) (lCons (dVar 6) lNil)))))))
    (sRet (dC (.bool false)))
    sSkip)
    (sSeq (sIf (dBin (cop .NotEq) (dCallV vRepr (lCons (dVar 6) lNil)) (dCallV vRepr (lCons (dCallV vTuple (lCons (dLc (iSeq (dCall (arity 1 den_law_unlike) (lCons (dVar 0) lNil))) (.nm 9) (dBin (cop .In) (dVar 9) (dVar 6)) (dVar 9) [9]) lNil)) lNil)))
    (sRet (dC (.bool false)))
    sSkip)
    (sSeq (sIf (dNot (dTru (dCall (arity 2 den_law_just) (lCons (dCall (arity 1 den_fewest_value_number) (lCons (dVar 4) lNil)) (lCons (dVar 2) lNil)))))
    (sRet (dC (.bool false)))
    sSkip)
    (sIf (dOr (dNot (dTru (dCall (arity 2 den_law_just) (lCons (dCall (arity 1 den_prime_lots) (lCons (dVar 4) lNil)) (lCons (dCall (arity 2 den_law_own_lots) (lCons (dVar 0) (lCons (dVar 1) lNil))) lNil))))) (dBin (cop .NotEq) (dCallV vRepr (lCons (dVar 4) lNil)) (dVar 5)))
    (sRet (dC (.bool false)))
    sSkip))))))
structure Tld (vs told : List Int) : Prop where
  asc : told.Pairwise (· < ·)
  ne : told ≠ []
  sub : ∀ x ∈ told, x ∈ vs
  tri : triF told = triF vs
  few : ∀ (b : Bool) S, den_fewest_values [lt2 b vs] S = .ok (.d (.tuple (ds told))) S
  least : ∀ row : List Int, (∀ x ∈ row, x ∈ vs) → row ≠ [] → triF row = triF vs → told.length ≤ row.length
theorem Tld.says {vs told : List Int} (t : Tld vs told) : K74.says vs (.tuple (ds told)) = true := by
  show saysL vs (ds told) = true
  rw [says_yes t.sub t.ne, asc_all t.asc, sameB_iff.mpr t.tri]
  rfl
theorem Tld.len {vs told : List Int} (t : Tld vs told) : told.length ≤ vs.length := by
  have h0 : vs ≠ [] := by
    cases e : told with
    | nil => exact absurd e t.ne
    | cons x r => intro z; have := t.sub x (by rw [e]; exact List.mem_cons_self); rw [z] at this; cases this
  exact t.least vs (fun x h => h) h0 rfl
theorem vt_step {a : AV} {S : AS} {vs told : List Int} (h : VA a S vs) (k : Ok vs) {ps : List Nat} (hp : PsOk vs ps) (t : Tld vs told) (b : Bool) (pick : Int) (x5 x6 x7 x8 : Option AV) :
    ∃ x5', vtB [some a, some (.d (.list (ds (dn ps)))), some (.d (.int told.length)), some (.d (.int pick)), some (lt2 b vs), x5, x6, x7, x8, none] S = .nx [some a, some (.d (.list (ds (dn ps)))), some (.d (.int told.length)), some (.d (.int pick)), some (lt2 b vs), x5', some (.d (.tuple (ds told))), x7, x8, none] S := by
  have kl := k.len
  have tl := t.len
  have hf := VA.fz h
  obtain ⟨z, rz⟩ := rep_lt b k.sm (by omega)
  obtain ⟨y, ry⟩ := rep_t (k.sm.sub t.sub) (show told.length ≤ 1000 by omega)
  have fw := t.few b S
  have sh := r_lshows h k (x := .tuple (ds told)) (((K1.ds told).mono (show told.length ≤ 1000 by omega)).t (by decide))
  rw [t.says] at sh
  have ul := r_unlike (.inl h) (show vs.length ≤ 1000 by omega)
  have it : ∀ x5', iSeq (dCall (arity 1 den_law_unlike) (lCons (dVar 0) lNil)) [some a, some (.d (.list (ds (dn ps)))), some (.d (.int told.length)), some (.d (.int pick)), some (lt2 b vs), x5', some (.d (.tuple (ds told))), x7, x8, none] S = .ok (ds (usrt vs)) S := fun x5' => by
    simp [iSeq, dVar, hf, ul, frzD]
  have lc := fun x5' => lcf (i := 9) (ct := dBin (cop .In) (dVar 9) (dVar 6)) (f := fun x => told.contains x) (it x5') (by simp) (fun x => by
    have i2 : cop .In (.d (.int x)) (.d (.tuple (ds told))) S = some (.d (.bool (told.contains x)), S) := in_tI told x S
    generalize told.contains x = kk at *
    simp [dVar, i2]) (by have := usrt_len vs; unfold cap; omega)
  rw [← asc_sub t.asc t.sub] at lc
  have fn := r_fnum fw
  have ji := r_just_int told.length (by
    rw [Int.natAbs_natCast]
    rcases Nat.eq_zero_or_pos told.length with h | h
    · rw [h]; decide
    · exact Nat.lt_trans ((Nat.log2_lt (by omega)).mpr (show told.length < 2 ^ 10 by omega)) (by decide)) S
  obtain ⟨ls, ll⟩ := lots_sml k hp
  have pl : den_prime_lots [lt2 b vs] S = .ok (.d (.tuple (dLots (lotsOf vs ps)))) S := by
    rcases hp with ⟨hg, rfl⟩ | ⟨hg, hp⟩
    · exact r_plots0 b k.ne hg S
    · exact r_plots b k hg hp S
  have ow := r_own (.inl h) k.ne k.sm (show vs.length ≤ 1000 by omega) (ps := ps) (by rcases hp with ⟨_, e⟩ | ⟨e, _⟩; exact .inl e; exact .inr e) (fun p pm => by
    rcases hp with ⟨_, rfl⟩ | ⟨_, e⟩
    · cases pm
    · have := ((e.mem p).mp pm).1.1; omega) (by rw [lotsOf_len] at ll; omega)
  have jl := just_lots ls ll S
  have nz := ne_str z S
  have ny := ne_str y S
  unfold vtB
  refine ⟨some (.d (.str z)), ?_⟩
  generalize hLL : dLots (lotsOf vs ps) = LL at *
  generalize hlt : lt2 b vs = lt at *
  have lf : lt.fz = lt := by rw [← hlt]; rfl
  have lc := lc (some (.d (.str z)))
  simp [dVar, lf, rz, ry, fw, sh, hf, ul, kitS, lc, nz, ny, fn, ji, pl, ow, jl]
def vpB : Sn := (sSeq (sAsg 6 false (dCall (arity 2 den_shows_values) (lCons (dCallV vList (lCons (dVar 0) lNil)) (lCons (dVar 8) lNil))))
    (sIf (dOr (dAnd (dBin (cop .IsNot) (dVar 6) (dC (.bool true))) (dBin (cop .IsNot) (dVar 6) (dC (.bool false)))) (dBin (cop .NotEq) (dVar 6) (dCall (arity 2 den_law_shows) (lCons (dVar 0) (lCons (dVar 8) lNil)))))
    (sRet (dC (.bool false)))
    sSkip))
theorem vp_loop {a : AV} {S : AS} {vs : List Int} (h : VA a S vs) (k : Ok vs) {x1 x2 x3 x4 x5 x7 x9 : Option AV} : ∀ (L : List D) (x6 x8 : Option AV), AllOk L → ∃ x6' x8', forGo (.nm 8) vpB L [some a, x1, x2, x3, x4, x5, x6, x7, x8, x9] S = .nx [some a, x1, x2, x3, x4, x5, x6', x7, x8', x9] S
  | [], x6, x8, _ => ⟨x6, x8, rfl⟩
  | p :: L, x6, x8, o => by
    have po := o p List.mem_cons_self
    have sh := r_shows k po S
    have ls := r_lshows h k po
    have hf := VA.fz h
    have hl := VT.lst (.inl h)
    obtain ⟨x6', x8', e⟩ := vp_loop h k (x1 := x1) (x2 := x2) (x3 := x3) (x4 := x4) (x5 := x5) (x7 := x7) (x9 := x9) L (some (.d (.bool (says vs p)))) (some (.d p)) fun x hx => o x (List.mem_cons_of_mem _ hx)
    refine ⟨x6', x8', ?_⟩
    rw [for_cons]
    have nb := ne_bool (says vs p) S
    unfold vpB at *
    generalize says vs p = kk at *
    cases kk <;> (simp [dVar, sh, ls, hf, hl, nb]; exact e)
theorem r_vtold {a : AV} {S : AS} {vs told : List Int} (h : VA a S vs) (k : Ok vs) {ps : List Nat} (hp : PsOk vs ps) (t : Tld vs told) (pick : Int) :
    den_law_values_told [a, .d (.list (ds (dn ps))), .d (.int told.length), .d (.int pick)] S = .ok (.d (.bool true)) S := by
  have hf := VA.fz h
  obtain ⟨y5, e1⟩ := vt_step h k hp t false pick none none none none
  obtain ⟨z5, e2⟩ := vt_step h k hp t true pick y5 (some (.d (.tuple (ds told)))) none none
  obtain ⟨best, e3, b0, bs, bl⟩ := r_tries (.inl h) k t.asc t.ne t.sub t.tri t.least
  obtain ⟨L, e4, o⟩ := r_papers (.inl h) k b0 bs (by have := t.len; omega) pick
  obtain ⟨x6, x8, e5⟩ := vp_loop h k (x1 := some (.d (.list (ds (dn ps))))) (x2 := some (.d (.int told.length))) (x3 := some (.d (.int pick))) (x4 := some (lt2 true vs)) (x5 := z5) (x7 := some (.d (.tuple (ds best)))) (x9 := none) L (some (.d (.tuple (ds told)))) none o
  have g1 : iSeq (dCallV vLstD (lCons (dCallV vTuple (lCons (dVar 0) lNil)) (lCons (dCallV vList (lCons (dVar 0) lNil)) lNil))) [some a, some (.d (.list (ds (dn ps)))), some (.d (.int told.length)), some (.d (.int pick)), none, none, none, none, none, none] S = .ok [.tuple (ds vs), .list (ds vs)] S := by
    have vt := VT.tup (.inl h)
    have vl := VT.lst (.inl h)
    simp [iSeq, dVar, hf, vt, vl, frzD]
  have g2 : forGo (.nm 4) vtB [.tuple (ds vs), .list (ds vs)] [some a, some (.d (.list (ds (dn ps)))), some (.d (.int told.length)), some (.d (.int pick)), none, none, none, none, none, none] S = .nx [some a, some (.d (.list (ds (dn ps)))), some (.d (.int told.length)), some (.d (.int pick)), some (lt2 true vs), z5, some (.d (.tuple (ds told))), none, none, none] S := by
    rw [for_cons, bind_nm]
    show (match vtB [some a, some (.d (.list (ds (dn ps)))), some (.d (.int told.length)), some (.d (.int pick)), some (lt2 false vs), none, none, none, none, none] S with | .nx σ2 S2 => forGo (.nm 4) vtB [.list (ds vs)] σ2 S2 | .ct σ2 S2 => forGo (.nm 4) vtB [.list (ds vs)] σ2 S2 | .bk σ2 S2 => .nx σ2 S2 | r' => r') = _
    rw [e1]
    show forGo (.nm 4) vtB [.list (ds vs)] _ S = _
    rw [for_cons, bind_nm]
    show (match vtB [some a, some (.d (.list (ds (dn ps)))), some (.d (.int told.length)), some (.d (.int pick)), some (lt2 true vs), y5, some (.d (.tuple (ds told))), none, none, none] S with | .nx σ2 S2 => forGo (.nm 4) vtB [] σ2 S2 | .ct σ2 S2 => forGo (.nm 4) vtB [] σ2 S2 | .bk σ2 S2 => .nx σ2 S2 | r' => r') = _
    rw [e2]
    rfl
  have m7 : dCall (arity 1 den_law_tries) (lCons (dVar 0) lNil) [some a, some (.d (.list (ds (dn ps)))), some (.d (.int told.length)), some (.d (.int pick)), some (lt2 true vs), z5, some (.d (.tuple (ds told))), none, none, none] S = .ok (.d (.tuple (ds best))) S := by
    simp [dVar, hf, e3]
  have g3 : iSeq (dCall (arity 3 den_law_papers) (lCons (dVar 0) (lCons (dVar 7) (lCons (dVar 3) lNil)))) [some a, some (.d (.list (ds (dn ps)))), some (.d (.int told.length)), some (.d (.int pick)), some (lt2 true vs), z5, some (.d (.tuple (ds told))), some (.d (.tuple (ds best))), none, none] S = .ok L S := by
    simp [iSeq, dVar, hf, e4, frzD]
  have body : c_law_values_told [some a, some (.d (.list (ds (dn ps)))), some (.d (.int told.length)), some (.d (.int pick)), none, none, none, none, none, none] S = .rt (.d (.bool true)) S := by
    unfold c_law_values_told
    refine (sq_for g1 g2).trans ?_
    refine (sq_d m7).trans ?_
    refine (sq_for g3 e5).trans ?_
    rfl
  unfold den_law_values_told
  show (match c_law_values_told [some a, some (.d (.list (ds (dn ps)))), some (.d (.int told.length)), some (.d (.int pick)), none, none, none, none, none, none] S with | .nx _ S' => ER.ok (.d .none) (S'.take S.length) | .rt a S' => finA S.length a S' | .er x _ S' => .err x (S'.take S.length) | _ => .stuck) = _
  rw [body]
  show ER.ok (.d (.bool true)) (S.take S.length) = _
  rw [List.take_length]
end K74
namespace K74
open PySem PySem.Spec PyProof.Rows L2 Den
/-! ### _law_refused -/
abbrev badR (k : Int) : Exc := ⟨"BadRow", "at", .int k⟩
abbrev rowT (k : Int) : D := .tuple [.str "row", .int k, .bool true, .bool false]
abbrev badN (x : D) : Exc := ⟨"BadNumber", "at", x⟩
abbrev numT (x : D) : D := .tuple [.str "number", x, .bool true, .bool false]
section
variable {x : D} {S : AS} {e : Exc}
theorem e_few (h : den_check_integers [.d x] S = .err e S) : den_fewest_values [.d x] S = .err e S := by
  unfold den_fewest_values c_fewest_values
  rw [den_of]
  simp [dVar, h]
theorem e_num (h : den_check_integers [.d x] S = .err e S) : den_fewest_value_number [.d x] S = .err e S := by
  have := e_few h
  unfold den_fewest_value_number c_fewest_value_number
  rw [den_of]
  simp [dVar, this]
theorem e_lots (h : den_check_integers [.d x] S = .err e S) : den_prime_lots [.d x] S = .err e S := by
  unfold den_prime_lots c_prime_lots
  rw [den_of]
  simp [dVar, h]
theorem e_shows (y : D) (h : den_check_integers [.d x] S = .err e S) : den_shows_values [.d x, .d y] S = .err e S := by
  unfold den_shows_values c_shows_values
  rw [den_of]
  simp [dVar, h]
theorem e_call {c : Int} (hc : c = 0 ∨ c = 1 ∨ c = 2 ∨ c = 3) (h : den_check_integers [.d x] S = .err e S) : den_law_call [.d (.int c), .d x] S = .err e S := by
  have h1 := e_few h
  have h2 := e_num h
  have h3 := e_lots h
  have h4 := fun y => e_shows y h
  unfold den_law_call c_law_call
  rw [den_of]
  rcases hc with rfl | rfl | rfl | rfl <;> simp [dVar, h1, h2, h3, h4]
theorem sq_try {cb s : Sn} {cs : List Cl} {σ σ1 : ASt} {S S1 : AS} {x : Exc} (e : cb σ S = .er x σ1 S1) (n : noX σ1 = true) : sSeq (sTry cb cs) s σ S = (match catchX x σ1 S1 cs with | .nx σ2 S2 => s σ2 S2 | r => r) := by
  rw [x_Seq]
  unfold sTry
  rw [e]
  dsimp only
  rw [if_pos n]
  all_goals (cases catchX x σ1 S1 cs <;> rfl)
theorem e_refused {c k : Int} (hc : c = 0 ∨ c = 1 ∨ c = 2 ∨ c = 3) (h : den_check_integers [.d x] S = .err (badR k) S) : den_law_refused [.d (.int c), .d x] S = .ok (.d (rowT k)) S := by
  have h1 := e_call hc h
  have body : c_law_refused [some (.d (.int c)), some (.d x), none, none] S = .rt (.d (rowT k)) S := by
    unfold c_law_refused
    refine (sq_d (S' := S) (x := .tuple [.str "none"]) rfl).trans ?_
    refine (sq_try (x := badR k) (σ1 := [some (.d (.int c)), some (.d x), some (.d (.tuple [.str "none"])), none]) (S1 := S) (by simp [dVar, h1]) rfl).trans ?_
    rfl
  unfold den_law_refused
  show (match c_law_refused [some (.d (.int c)), some (.d x), none, none] S with | .nx _ S' => ER.ok (.d .none) (S'.take S.length) | .rt a S' => finA S.length a S' | .er x _ S' => .err x (S'.take S.length) | _ => .stuck) = _
  rw [body]
  show ER.ok (.d (rowT k)) (S.take S.length) = _
  rw [List.take_length]
theorem e_refusedN {v : D} (h : den_prime_factors [.d x] S = .err (badN v) S) : den_law_refused [.d (.int 4), .d x] S = .ok (.d (numT v)) S := by
  have h1 : den_law_call [.d (.int 4), .d x] S = .err (badN v) S := by
    unfold den_law_call c_law_call
    rw [den_of]
    simp [dVar, h]
  have body : c_law_refused [some (.d (.int 4)), some (.d x), none, none] S = .rt (.d (numT v)) S := by
    unfold c_law_refused
    refine (sq_d (S' := S) (x := .tuple [.str "none"]) rfl).trans ?_
    refine (sq_try (x := badN v) (σ1 := [some (.d (.int 4)), some (.d x), some (.d (.tuple [.str "none"])), none]) (S1 := S) (by simp [dVar, h1]) rfl).trans ?_
    rfl
  unfold den_law_refused
  show (match c_law_refused [some (.d (.int 4)), some (.d x), none, none] S with | .nx _ S' => ER.ok (.d .none) (S'.take S.length) | .rt a S' => finA S.length a S' | .er x _ S' => .err x (S'.take S.length) | _ => .stuck) = _
  rw [body]
  show ER.ok (.d (numT v)) (S.take S.length) = _
  rw [List.take_length]
end
theorem row_shown : ∀ k : Nat, k < 20 → seqShown (rowT (k : Int)) = true := by decide +kernel
theorem row_shown1 : seqShown (rowT (-1)) = true := by decide +kernel
theorem row_shaped : ∀ k : Nat, k < 20 → SeqAt.shaped (rowT (k : Int)) = true := by decide +kernel
theorem row_shaped1 : SeqAt.shaped (rowT (-1)) = true := by decide +kernel
theorem row_eqv : ∀ k : Nat, k < 20 → PyData.eqv (rowT (k : Int)) (rowT (k : Int)) = true := by decide +kernel
theorem row_eqv1 : PyData.eqv (rowT (-1)) (rowT (-1)) = true := by decide +kernel
theorem just_row {k : Nat} (h : k < 20) (S : AS) : den_law_just [.d (rowT (k : Int)), .d (rowT (k : Int))] S = .ok (.d (.bool true)) S := r_just _ S (row_shown k h) (row_shaped k h) (row_eqv k h)
theorem just_row1 (S : AS) : den_law_just [.d (rowT (-1)), .d (rowT (-1))] S = .ok (.d (.bool true)) S := r_just _ S row_shown1 row_shaped1 row_eqv1
/-- what is no number, as the error tells it -/
def nums : List (D × D) := [(.int 0, .int 0), (.int (-6), .int (-6)), (.bool true, .bool true), (.str "6", .str "6"), (.none, .none), (.tuple [.int 6], .tuple [.int 6]), (.list [.int 6], .tuple [.int 6])]
def numOk (x : D) : Bool := seqShown (numT x) && (SeqAt.shaped (numT x) && PyData.eqv (numT x) (numT x))
theorem numsAll : nums.all (fun q => numOk q.2) = true := by decide +kernel
theorem just_num {q : D × D} (h : q ∈ nums) (S : AS) : den_law_just [.d (numT q.2), .d (numT q.2)] S = .ok (.d (.bool true)) S := by
  have := List.all_eq_true.mp numsAll q h
  unfold numOk at this
  rw [Bool.and_eq_true, Bool.and_eq_true] at this
  exact r_just _ S this.1 this.2.1 this.2.2
theorem pf_t (o1 o2 : AO) : den_plain_form [.d (.tuple [.int 6])] [o1, o2] = .ok (.d (.tuple [.int 6])) [o1, o2] := by rfl
theorem pf_l (o1 o2 : AO) : den_plain_form [.d (.list [.int 6])] [o1, o2] = .ok (.d (.tuple [.int 6])) [o1, o2] := by rfl
theorem pf_all (o1 o2 : AO) : ∀ q ∈ nums, den_prime_factors [.d q.1] [o1, o2] = .err (badN q.2) [o1, o2] := by
  intro q hq
  unfold nums at hq
  simp only [List.mem_cons, List.not_mem_nil, or_false] at hq
  rcases hq with rfl | rfl | rfl | rfl | rfl | rfl | rfl <;> rfl
theorem ref_num (o1 o2 : AO) {q : D × D} (hq : q ∈ nums) : den_law_refused [.d (.int 4), .d q.1] [o1, o2] = .ok (.d (numT q.2)) [o1, o2] := e_refusedN (pf_all o1 o2 q hq)
/-! ### rows that are refused -/
def noRow : List D := [.tuple [], .list [], .int 7, .str "12", .none]
theorem chk_no (o1 o2 : AO) : ∀ x ∈ noRow, den_check_integers [.d x] [o1, o2] = .err (badR (-1)) [o1, o2] := by
  intro q hq
  unfold noRow at hq
  simp only [List.mem_cons, List.not_mem_nil, or_false] at hq
  rcases hq with rfl | rfl | rfl | rfl | rfl <;> rfl
def bads : List D := [.bool true, .str "1", .none, .list [.int 1], .tuple [], .bool false]
theorem bads_no {b : D} (hb : b ∈ bads) (S : AS) : den_is_int [.d b] S = .ok (.d (.bool false)) S := by
  unfold bads at hb
  simp only [List.mem_cons, List.not_mem_nil, or_false] at hb
  rcases hb with rfl | rfl | rfl | rfl | rfl | rfl <;> exact isint_of rfl S
theorem chk_bad {bad : D} (hb : bad ∈ bads) (r : List D) : ∀ (l : List Int) (k : Nat) (a : AV) (x y : Option AV) (S : AS), ∃ x' y', forGo (.tp (.cons (.nm 1) (.cons (.nm 2) .nil)))
    (sIf (dNot (dTru (dCall (arity 1 den_is_int) (lCons (dVar 2) lNil))))
    (sRaise "BadRow" "at" (lCons (dVar 1) lNil))
    sSkip) (enumL (ds l ++ bad :: r) k) [some a, x, y] S = .er (badR ((k + l.length : Nat) : Int)) [some a, x', y'] S
  | [], k, a, x, y, S => by
    refine ⟨some (.d (.int k)), some (.d bad), ?_⟩
    show forGo _ _ (.tuple [.int (k : Nat), bad] :: enumL r (k + 1)) _ _ = _
    rw [for_cons]
    have bn := bads_no hb S
    simp [dVar, bn, sRaise, frzD]
  | n :: l, k, a, x, y, S => by
    obtain ⟨x', y', h⟩ := chk_bad hb r l (k + 1) a (some (.d (.int k))) (some (.d (.int n))) S
    refine ⟨x', y', ?_⟩
    show forGo _ _ (.tuple [.int (k : Nat), .int n] :: enumL (ds l ++ bad :: r) (k + 1)) _ _ = _
    rw [for_cons]
    rw [List.length_cons, show k + (l.length + 1) = k + 1 + l.length by omega]
    simp [dVar, r_is_int]
    simp at h
    exact h
theorem chk_row {bad : D} (hb : bad ∈ bads) {vs : List Int} (S : AS) : den_check_integers [.d (.list (ds vs ++ [bad, .none]))] S = .err (badR (vs.length : Nat)) S := by
  obtain ⟨x', y', h⟩ := chk_bad hb [.none] vs 0 (.d (.list (ds vs ++ [bad, .none]))) none none S
  rw [Nat.zero_add] at h
  have hne : ((ds vs ++ [bad, .none]).length : Int) ≠ 0 := by simp; omega
  have hn : ¬ (ds vs ++ [bad, .none]) = [] := by simp
  unfold den_check_integers c_check_integers
  rw [den_of]
  generalize hl : ds vs ++ [bad, PyData.none] = l at *
  simp [dVar, kitS, fEnumS, frzD, hn, h]
end K74
namespace K74
open PySem PySem.Spec PyProof.Rows L2 Den
/-! ### _law_refuses -/
theorem tup_d4 (x y z w : D) (S : AS) : vTupD [.d x, .d y, .d z, .d w] S = some (.d (.tuple [x, y, z, w]), S) := rfl
def inB : Sn := (sIf (dNot (dTru (dCall (arity 2 den_law_just) (lCons (dCall (arity 2 den_law_refused) (lCons (dVar 3) (lCons (dVar 4) lNil))) (lCons (dCallV vTupD (lCons (dC (.str "row")) (lCons (dNeg (dC (.int 1))) (lCons (dC (.bool true)) (lCons (dC (.bool false)) lNil))))) lNil)))))
    (sRet (dC (.bool false)))
    sSkip)
def rowB : Sn := (sSeq (sFor (iSeq (dCallV vLstD (lCons (dCallV vTupD lNil) (lCons (dCallV vLstD lNil) (lCons (dC (.int 7)) (lCons (dC (.str "12")) (lCons (dC .none) lNil))))))) (.nm 4)
    (sIf (dNot (dTru (dCall (arity 2 den_law_just) (lCons (dCall (arity 2 den_law_refused) (lCons (dVar 3) (lCons (dVar 4) lNil))) (lCons (dCallV vTupD (lCons (dC (.str "row")) (lCons (dNeg (dC (.int 1))) (lCons (dC (.bool true)) (lCons (dC (.bool false)) lNil))))) lNil)))))
    (sRet (dC (.bool false)))
    sSkip))
    (sIf (dNot (dTru (dCall (arity 2 den_law_just) (lCons (dCall (arity 2 den_law_refused) (lCons (dVar 3) (lCons (dBin bAdd (dVar 0) (dCallV vLstD (lCons (dVar 2) (lCons (dC .none) lNil)))) lNil))) (lCons (dCallV vTupD (lCons (dC (.str "row")) (lCons (dCallV vLen (lCons (dVar 0) lNil)) (lCons (dC (.bool true)) (lCons (dC (.bool false)) lNil))))) lNil)))))
    (sRet (dC (.bool false)))
    sSkip))
def numB : Sn := (sIf (dNot (dTru (dCall (arity 2 den_law_just) (lCons (dCall (arity 2 den_law_refused) (lCons (dC (.int 4)) (lCons (dVar 4) lNil))) (lCons (dCallV vTupD (lCons (dC (.str "number")) (lCons (dVar 4) (lCons (dC (.bool true)) (lCons (dC (.bool false)) lNil))))) lNil)))))
    (sRet (dC (.bool false)))
    sSkip)
theorem norow_loop {c : Int} (hc : c = 0 ∨ c = 1 ∨ c = 2 ∨ c = 3) (o1 o2 : AO) {x0 x1 x2 : Option AV} : ∀ (L : List D) (x4 : Option AV), (∀ x ∈ L, x ∈ noRow) → ∃ x4', forGo (.nm 4) inB L [x0, x1, x2, some (.d (.int c)), x4] [o1, o2] = .nx [x0, x1, x2, some (.d (.int c)), x4'] [o1, o2]
  | [], x4, _ => ⟨x4, rfl⟩
  | x :: L, x4, h => by
    obtain ⟨x4', e⟩ := norow_loop hc o1 o2 (x0 := x0) (x1 := x1) (x2 := x2) L (some (.d x)) fun y hy => h y (List.mem_cons_of_mem _ hy)
    refine ⟨x4', ?_⟩
    have r := e_refused hc (chk_no o1 o2 x (h x List.mem_cons_self))
    have j := just_row1 [o1, o2]
    rw [for_cons]
    unfold inB at *
    simp [dVar, r, tup_d4, j]
    exact e
theorem row_step {c : Int} (hc : c = 0 ∨ c = 1 ∨ c = 2 ∨ c = 3) {a : AV} {o1 o2 : AO} {vs : List Int} (h : VA a [o1, o2] vs) (hl : vs.length < 20) {bad : D} (hb : bad ∈ bads) (x1 x4 : Option AV) :
    ∃ x4', rowB [some a, x1, some (.d bad), some (.d (.int c)), x4] [o1, o2] = .nx [some a, x1, some (.d bad), some (.d (.int c)), x4'] [o1, o2] := by
  obtain ⟨x4', e⟩ := norow_loop hc o1 o2 (x0 := some a) (x1 := x1) (x2 := some (.d bad)) noRow x4 fun x h => h
  refine ⟨x4', ?_⟩
  have r := e_refused hc (chk_row hb (vs := vs) [o1, o2])
  have j := just_row hl [o1, o2]
  have hf := VA.fz h
  have ln := VT.len (.inl h)
  have ad : bAdd a (.d (.list [bad, .none])) [o1, o2] = some (.own (ds vs ++ [bad, .none]), [o1, o2]) := by
    have rd := h.rd
    have : bAdd a (.d (.list [bad, .none])) [o1, o2] = catV [o1, o2] (rdSeq [o1, o2] a) (some (true, [bad, .none])) := by
      rcases h with rfl | ⟨n, rfl, _⟩ <;> rfl
    rw [this, rd]
    exact if_pos (by rw [ds_len]; unfold cap; simp; omega)
  have g1 : iSeq (dCallV vLstD (lCons (dCallV vTupD lNil) (lCons (dCallV vLstD lNil) (lCons (dC (.int 7)) (lCons (dC (.str "12")) (lCons (dC .none) lNil)))))) [some a, x1, some (.d bad), some (.d (.int c)), x4] [o1, o2] = .ok noRow [o1, o2] := rfl
  unfold rowB
  refine (sq_for g1 e).trans ?_
  generalize hvl : ds vs ++ [bad, PyData.none] = vl at *
  generalize hkl : ((vs.length : Nat) : Int) = kl at *
  simp [dVar, hf, ad, r, ln, tup_d4, j]
theorem num_loop (o1 o2 : AO) {x0 x1 x2 x3 : Option AV} : ∀ (L : List D) (x4 : Option AV), (∀ x ∈ L, (x, x) ∈ nums) → ∃ x4', forGo (.nm 4) numB L [x0, x1, x2, x3, x4] [o1, o2] = .nx [x0, x1, x2, x3, x4'] [o1, o2]
  | [], x4, _ => ⟨x4, rfl⟩
  | x :: L, x4, h => by
    obtain ⟨x4', e⟩ := num_loop o1 o2 (x0 := x0) (x1 := x1) (x2 := x2) (x3 := x3) L (some (.d x)) fun y hy => h y (List.mem_cons_of_mem _ hy)
    refine ⟨x4', ?_⟩
    have r := ref_num o1 o2 (h x List.mem_cons_self)
    have j := just_num (h x List.mem_cons_self) [o1, o2]
    rw [for_cons]
    unfold numB at *
    simp [dVar, r, tup_d4, j]
    exact e
theorem bad_at (pick : Int) : ∃ b, b ∈ bads ∧ atD bads (pick % 6) = some b := by
  have h1 := Int.emod_nonneg pick (show (6 : Int) ≠ 0 by decide)
  have h2 := Int.emod_lt_of_pos pick (show (0 : Int) < 6 by decide)
  generalize pick % 6 = i at *
  have : i = 0 ∨ i = 1 ∨ i = 2 ∨ i = 3 ∨ i = 4 ∨ i = 5 := by omega
  unfold bads
  rcases this with rfl | rfl | rfl | rfl | rfl | rfl <;> exact ⟨_, by simp, rfl⟩
theorem r_refuses {a : AV} {o1 o2 : AO} {vs : List Int} (h : VA a [o1, o2] vs) (hl : vs.length < 20) (pick : Int) : den_law_refuses [a, .d (.int pick)] [o1, o2] = .ok (.d (.bool true)) [o1, o2] := by
  obtain ⟨bad, hb, eb⟩ := bad_at pick
  obtain ⟨y0, e0⟩ := row_step (.inl rfl) h hl hb (some (.d (.int pick))) none
  obtain ⟨y1, e1⟩ := row_step (.inr (.inl rfl)) h hl hb (some (.d (.int pick))) y0
  obtain ⟨y2, e2⟩ := row_step (.inr (.inr (.inl rfl))) h hl hb (some (.d (.int pick))) y1
  obtain ⟨y3, e3⟩ := row_step (.inr (.inr (.inr rfl))) h hl hb (some (.d (.int pick))) y2
  obtain ⟨z, ez⟩ := num_loop o1 o2 (x0 := some a) (x1 := some (.d (.int pick))) (x2 := some (.d bad)) (x3 := some (.d (.int 3))) [.int 0, .int (-6), .bool true, .str "6", .none, .tuple [.int 6]] y3 (by
    intro x hx
    simp only [List.mem_cons, List.not_mem_nil, or_false] at hx
    unfold nums
    rcases hx with rfl | rfl | rfl | rfl | rfl | rfl <;> simp)
  have r := ref_num o1 o2 (q := (.list [.int 6], .tuple [.int 6])) (by unfold nums; simp)
  have j := just_num (q := (.list [.int 6], .tuple [.int 6])) (by unfold nums; simp) [o1, o2]
  have m2 : dBin vIx (dCallV vLstD (lCons (dC (.bool true)) (lCons (dC (.str "1")) (lCons (dC .none) (lCons (dCallV vLstD (lCons (dC (.int 1)) lNil)) (lCons (dCallV vTupD lNil) (lCons (dC (.bool false)) lNil))))))) (dBin bMod (dVar 1) (dC (.int 6))) [some a, some (.d (.int pick)), none, none, none] [o1, o2] = .ok (.d bad) [o1, o2] := by
    have p1 : PX (dCallV vLstD (lCons (dC (.bool true)) (lCons (dC (.str "1")) (lCons (dC .none) (lCons (dCallV vLstD (lCons (dC (.int 1)) lNil)) (lCons (dCallV vTupD lNil) (lCons (dC (.bool false)) lNil))))))) [some a, some (.d (.int pick)), none, none, none] [o1, o2] (.list bads) := ⟨_, rfl, rfl⟩
    have p2 : PX (dBin bMod (dVar 1) (dC (.int 6))) [some a, some (.d (.int pick)), none, none, none] [o1, o2] (.int (pick % 6)) := PX.bin (x := .int pick) (y := .int 6) (PX.v rfl) PX.k fun S => mod_i (by decide)
    obtain ⟨u, eu, fu⟩ := p1
    obtain ⟨w, ew, fw⟩ := p2
    rw [x_Bin, eu, bind_ok, fu, ew, bind_ok, fw, ix_l, eb]
    rfl
  have g1 : itL (lCons (dC (.int 4)) lNil) fRng1 [some a, some (.d (.int pick)), some (.d bad), none, none] [o1, o2] = .ok [.int 0, .int 1, .int 2, .int 3] [o1, o2] := rfl
  have g2 : forGo (.nm 3) rowB [.int 0, .int 1, .int 2, .int 3] [some a, some (.d (.int pick)), some (.d bad), none, none] [o1, o2] = .nx [some a, some (.d (.int pick)), some (.d bad), some (.d (.int 3)), y3] [o1, o2] := by
    rw [for_cons, bind_nm]
    show (match rowB [some a, some (.d (.int pick)), some (.d bad), some (.d (.int 0)), none] [o1, o2] with | .nx σ2 S2 => forGo (.nm 3) rowB [.int 1, .int 2, .int 3] σ2 S2 | .ct σ2 S2 => forGo (.nm 3) rowB [.int 1, .int 2, .int 3] σ2 S2 | .bk σ2 S2 => .nx σ2 S2 | r' => r') = _
    rw [e0]
    show forGo (.nm 3) rowB [.int 1, .int 2, .int 3] _ _ = _
    rw [for_cons, bind_nm]
    show (match rowB [some a, some (.d (.int pick)), some (.d bad), some (.d (.int 1)), y0] [o1, o2] with | .nx σ2 S2 => forGo (.nm 3) rowB [.int 2, .int 3] σ2 S2 | .ct σ2 S2 => forGo (.nm 3) rowB [.int 2, .int 3] σ2 S2 | .bk σ2 S2 => .nx σ2 S2 | r' => r') = _
    rw [e1]
    show forGo (.nm 3) rowB [.int 2, .int 3] _ _ = _
    rw [for_cons, bind_nm]
    show (match rowB [some a, some (.d (.int pick)), some (.d bad), some (.d (.int 2)), y1] [o1, o2] with | .nx σ2 S2 => forGo (.nm 3) rowB [.int 3] σ2 S2 | .ct σ2 S2 => forGo (.nm 3) rowB [.int 3] σ2 S2 | .bk σ2 S2 => .nx σ2 S2 | r' => r') = _
    rw [e2]
    show forGo (.nm 3) rowB [.int 3] _ _ = _
    rw [for_cons, bind_nm]
    show (match rowB [some a, some (.d (.int pick)), some (.d bad), some (.d (.int 3)), y2] [o1, o2] with | .nx σ2 S2 => forGo (.nm 3) rowB [] σ2 S2 | .ct σ2 S2 => forGo (.nm 3) rowB [] σ2 S2 | .bk σ2 S2 => .nx σ2 S2 | r' => r') = _
    rw [e3]
    rfl
  have g3 : iSeq (dCallV vLstD (lCons (dC (.int 0)) (lCons (dNeg (dC (.int 6))) (lCons (dC (.bool true)) (lCons (dC (.str "6")) (lCons (dC .none) (lCons (dCallV vTupD (lCons (dC (.int 6)) lNil)) lNil))))))) [some a, some (.d (.int pick)), some (.d bad), some (.d (.int 3)), y3] [o1, o2] = .ok [.int 0, .int (-6), .bool true, .str "6", .none, .tuple [.int 6]] [o1, o2] := rfl
  have body : c_law_refuses [some a, some (.d (.int pick)), none, none, none] [o1, o2] = .rt (.d (.bool true)) [o1, o2] := by
    unfold c_law_refuses
    refine (sq_d m2).trans ?_
    refine (sq_for g1 g2).trans ?_
    refine (sq_for g3 ez).trans ?_
    have v1 : vLstD [.d (.int 6)] [o1, o2] = some (.own [.int 6], [o1, o2]) := rfl
    simp [dVar, r, tup_d4, j, v1]
  unfold den_law_refuses
  show (match c_law_refuses [some a, some (.d (.int pick)), none, none, none] [o1, o2] with | .nx _ S' => ER.ok (.d .none) (S'.take 2) | .rt a S' => finA 2 a S' | .er x _ S' => .err x (S'.take 2) | _ => .stuck) = _
  rw [body]
  rfl
end K74
namespace K74
open PySem PySem.Spec PyProof.Rows L2 Den
/-! ### _law_factors_told -/
structure FI (k n : Nat) (due : List Nat) : Prop where
  pos : 0 < n
  le : n ≤ 1000000000
  nd : due.Nodup
  is : ∀ q, Pr q → (q ∣ n ↔ q ∈ due)
  pr : ∀ q ∈ due, Pr q
  len : due.length ≤ k
theorem FI.start : FI 0 1 [] := ⟨by decide, by decide, List.nodup_nil, (fun q h => ⟨fun z => by have := Nat.le_of_dvd (by decide) z; have := h.1; omega, fun z => by cases z⟩), (fun q h => by cases h), Nat.le_refl _⟩
theorem FI.mul {k n p : Nat} {due : List Nat} (h : FI k n due) (hp : Pr p) (hl : n * p ≤ 1000000000) : FI (k + 1) (n * p) (if p ∈ due then due else due ++ [p]) := by
  have p0 := hp.1
  refine ⟨Nat.mul_pos h.pos (by omega), hl, ?_, fun q hq => ?_, fun q hq => ?_, ?_⟩
  · split
    · exact h.nd
    · rename_i c
      exact List.nodup_append.mpr ⟨h.nd, by simp, fun a ha b hb => by rw [List.mem_singleton.mp hb]; intro z; subst z; exact c ha⟩
  · have e : q ∣ n * p ↔ q ∈ due ∨ q = p := by
      constructor
      · intro z
        rcases hq.euclid z with z | z
        · exact .inl ((h.is q hq).mp z)
        · rcases hp.2 q z with c | c
          · have := hq.1; omega
          · exact .inr c
      · rintro (z | rfl)
        · exact Nat.dvd_trans ((h.is q hq).mpr z) (Nat.dvd_mul_right _ _)
        · exact Nat.dvd_mul_left _ _
    rw [e]
    split
    · rename_i c
      exact ⟨fun z => by rcases z with z | rfl; exact z; exact c, .inl⟩
    · rw [List.mem_append, List.mem_singleton]
  · split at hq
    · exact h.pr q hq
    · rcases List.mem_append.mp hq with z | z
      · exact h.pr q z
      · rw [List.mem_singleton.mp z]; exact hp
  · have := h.len
    split
    · omega
    · rw [List.length_append, List.length_singleton]; omega
theorem FI.mono {k m n : Nat} {due : List Nat} (h : FI k n due) (hm : k ≤ m) : FI m n due := ⟨h.pos, h.le, h.nd, h.is, h.pr, Nat.le_trans h.len hm⟩
def eight : List Nat := [2, 3, 5, 7, 11, 101, 997, 9973]
theorem eight_pr : ∀ p ∈ eight, Pr p ∧ p ≤ 9973 := by
  intro p hp
  unfold eight at hp
  simp only [List.mem_cons, List.not_mem_nil, or_false] at hp
  rcases hp with rfl | rfl | rfl | rfl | rfl | rfl | rfl | rfl
  · exact ⟨pr_2, by decide⟩
  · exact ⟨pr_3, by decide⟩
  · exact ⟨pr_5, by decide⟩
  · exact ⟨pr_7, by decide⟩
  · exact ⟨pr_11, by decide⟩
  · exact ⟨pr_101, by decide⟩
  · exact ⟨pr_997, by decide⟩
  · exact ⟨pr_9973, by decide⟩
theorem eight_at {v : Int} (h0 : 0 ≤ v) (h1 : v < 8) : ∃ p, p ∈ eight ∧ atD [.int 2, .int 3, .int 5, .int 7, .int 11, .int 101, .int 997, .int 9973] v = some (.int (p : Nat)) := by
  have : v = 0 ∨ v = 1 ∨ v = 2 ∨ v = 3 ∨ v = 4 ∨ v = 5 ∨ v = 6 ∨ v = 7 := by omega
  rcases this with rfl | rfl | rfl | rfl | rfl | rfl | rfl | rfl
  · exact ⟨2, by simp [eight], rfl⟩
  · exact ⟨3, by simp [eight], rfl⟩
  · exact ⟨5, by simp [eight], rfl⟩
  · exact ⟨7, by simp [eight], rfl⟩
  · exact ⟨11, by simp [eight], rfl⟩
  · exact ⟨101, by simp [eight], rfl⟩
  · exact ⟨997, by simp [eight], rfl⟩
  · exact ⟨9973, by simp [eight], rfl⟩
def ftB : Sn := (sSeq (sAsg 4 false (dBin vIx (dCallV vLstD (lCons (dC (.int 2)) (lCons (dC (.int 3)) (lCons (dC (.int 5)) (lCons (dC (.int 7)) (lCons (dC (.int 11)) (lCons (dC (.int 101)) (lCons (dC (.int 997)) (lCons (dC (.int 9973)) lNil))))))))) (dCall (arity 2 den_law_take) (lCons (dVar 0) (lCons (dC (.int 8)) lNil)))))
    (sIf (dAnd (dBin (cop .LtE) (dBin bMul (dVar 1) (dVar 4)) (dBin bPow (dC (.int 10)) (dC (.int 9)))) (dBin (cop .Lt) (dCall (arity 2 den_law_take) (lCons (dVar 0) (lCons (dC (.int 3)) lNil))) (dC (.int 2))))
    (sSeq (sAsg 1 false (dBin bMul (dVar 1) (dVar 4)))
    (sIf (dBin (cop .NotIn) (dVar 4) (dVar 2))
    (sExpr (dMeth mAppend (dVar 2) (lCons (dVar 4) lNil)))
    sSkip))
    sSkip))
theorem pow_109 (S : AS) : bPow (.d (.int 10)) (.d (.int 9)) S = some (.d (.int 1000000000), S) := rfl
theorem ft_step {l : List Int} (h : Dr l) {S0 : AS} {k n : Nat} {due : List Nat} (I : FI k n due) (hk : k ≤ 100) (x3 x4 : Option AV) : ∃ l' n' due' y4, ftB [some (.ref 0), some (.d (.int (n : Nat))), some (.ref (S0.length + 1)), x3, x4] (.lst (ds l) :: (S0 ++ [.lst (ds (dn due))])) = .nx [some (.ref 0), some (.d (.int (n' : Nat))), some (.ref (S0.length + 1)), x3, y4] (.lst (ds l') :: (S0 ++ [.lst (ds (dn due'))])) ∧ Dr l' ∧ FI (k + 1) n' due' := by
  obtain ⟨v, l1, e1, d1, v0, v8, _⟩ := r_take h (m := 8) (by decide) (S0 ++ [.lst (ds (dn due))])
  obtain ⟨p, pe, pa⟩ := eight_at v0 v8
  obtain ⟨pp, pl⟩ := eight_pr p pe
  obtain ⟨w, l2, e2, d2, w0, w3, _⟩ := r_take d1 (m := 3) (by decide) (S0 ++ [.lst (ds (dn due))])
  have v1 : ∀ S, vLstD [.d (.int 2), .d (.int 3), .d (.int 5), .d (.int 7), .d (.int 11), .d (.int 101), .d (.int 997), .d (.int 9973)] S = some (.own [.int 2, .int 3, .int 5, .int 7, .int 11, .int 101, .int 997, .int 9973], S) := fun S => rfl
  have nl := I.le
  have hm : ∀ S, bMul (.d (.int (n : Nat))) (.d (.int (p : Nat))) S = some (.d (.int ((n : Int) * (p : Int))), S) := fun S => mul_i (by
    have a : ((n : Nat) : Int).natAbs.log2 < 31 := by
      rw [Int.natAbs_natCast]
      rcases Nat.eq_zero_or_pos n with z | z
      · rw [z]; decide
      · exact (Nat.log2_lt (by omega)).mpr (by omega)
    have b : ((p : Nat) : Int).natAbs.log2 < 31 := by
      rw [Int.natAbs_natCast]
      rcases Nat.eq_zero_or_pos p with z | z
      · rw [z]; decide
      · exact (Nat.log2_lt (by omega)).mpr (by omega)
    omega)
  have pw := pow_109
  have stay : ∀ l', Dr l' → ftB [some (.ref 0), some (.d (.int (n : Nat))), some (.ref (S0.length + 1)), x3, x4] (.lst (ds l) :: (S0 ++ [.lst (ds (dn due))])) = .nx [some (.ref 0), some (.d (.int (n : Nat))), some (.ref (S0.length + 1)), x3, some (.d (.int (p : Nat)))] (.lst (ds l') :: (S0 ++ [.lst (ds (dn due))])) → ∃ l' n' due' y4, ftB [some (.ref 0), some (.d (.int (n : Nat))), some (.ref (S0.length + 1)), x3, x4] (.lst (ds l) :: (S0 ++ [.lst (ds (dn due))])) = .nx [some (.ref 0), some (.d (.int (n' : Nat))), some (.ref (S0.length + 1)), x3, y4] (.lst (ds l') :: (S0 ++ [.lst (ds (dn due'))])) ∧ Dr l' ∧ FI (k + 1) n' due' :=
    fun l' d' e => ⟨l', n, due, _, e, d', I.mono (Nat.le_succ _)⟩
  by_cases c1 : n * p ≤ 1000000000
  · have c1' : (n : Int) * (p : Int) ≤ 1000000000 := by rw [← Int.natCast_mul]; omega
    by_cases c2 : w < 2
    · refine ⟨l2, n * p, if p ∈ due then due else due ++ [p], some (.d (.int (p : Nat))), ?_, d2, I.mul pp c1⟩
      have ni := notin_loc (dn due) (p : Int) (.lst (ds l2) :: S0)
      have mem : (dn due).contains (p : Int) = decide (p ∈ due) := by
        rw [Bool.eq_iff_iff, List.contains_iff_mem, decide_eq_true_iff]
        unfold dn
        rw [List.mem_map]
        exact ⟨fun ⟨q, a, b⟩ => by have b : (q : Int) = (p : Int) := b; have : q = p := by omega
                                   subst this; exact a, fun a => ⟨p, a, rfl⟩⟩
      have ni : cop .NotIn (.d (.int (p : Nat))) (.ref (S0.length + 1)) (.lst (ds l2) :: (S0 ++ [.lst (ds (dn due))])) = some (.d (.bool (!(dn due).contains (p : Int))), .lst (ds l2) :: (S0 ++ [.lst (ds (dn due))])) := ni
      rw [mem] at ni
      have ap := loc_app (S := .lst (ds l2) :: S0) (l := ds (dn due)) (x := .int (p : Nat)) (by rw [ds_len, dn_len]; have := I.len; show due.length < 1000000; omega)
      have ap : mAppend (.ref (S0.length + 1)) [.d (.int (p : Nat))] (.lst (ds l2) :: (S0 ++ [.lst (ds (dn due))])) = some (.d .none, .lst (ds l2) :: (S0 ++ [.lst (ds (dn due) ++ [.int (p : Nat)])])) := ap
      have il : isL (.lst (ds l2) :: (S0 ++ [.lst (ds (dn due))])) (.ref (S0.length + 1)) = true := loc_isL (S := .lst (ds l2) :: S0)
      rw [show ((n * p : Nat) : Int) = (n : Int) * (p : Int) from Int.natCast_mul n p]
      unfold ftB
      by_cases c3 : p ∈ due
      · rw [if_pos c3]
        rw [decide_eq_true c3] at ni
        generalize hS : S0 ++ [AO.lst (ds (dn due))] = S2 at *
        simp [dVar, v1, e1, pa, hm, pw, c1', e2, c2, ni]
      · rw [if_neg c3]
        rw [decide_eq_false c3] at ni
        rw [show ds (dn (due ++ [p])) = ds (dn due) ++ [.int (p : Nat)] by unfold dn; rw [List.map_append, ← ds_app]; rfl]
        generalize hS : S0 ++ [AO.lst (ds (dn due))] = S2 at *
        generalize hS3 : S0 ++ [AO.lst (ds (dn due) ++ [PyData.int (p : Nat)])] = S3 at *
        simp [dVar, v1, e1, pa, hm, pw, c1', e2, c2, ni, il, ap]
    · refine stay l2 d2 ?_
      unfold ftB
      generalize hS : S0 ++ [AO.lst (ds (dn due))] = S2 at *
      simp [dVar, v1, e1, pa, hm, pw, c1', e2, c2]
  · have c1' : ¬ (n : Int) * (p : Int) ≤ 1000000000 := fun z => c1 (by rw [← Int.natCast_mul] at z; omega)
    refine stay l1 d1 ?_
    unfold ftB
    generalize hS : S0 ++ [AO.lst (ds (dn due))] = S2 at *
    simp [dVar, v1, e1, pa, hm, pw, c1']
theorem ft_loop {S0 : AS} : ∀ (L : List D) (l : List Int) (k n : Nat) (due : List Nat) (x3 x4 : Option AV), Dr l → FI k n due → k + L.length ≤ 100 → ∃ l' n' due' y3 y4, forGo (.nm 3) ftB L [some (.ref 0), some (.d (.int (n : Nat))), some (.ref (S0.length + 1)), x3, x4] (.lst (ds l) :: (S0 ++ [.lst (ds (dn due))])) = .nx [some (.ref 0), some (.d (.int (n' : Nat))), some (.ref (S0.length + 1)), y3, y4] (.lst (ds l') :: (S0 ++ [.lst (ds (dn due'))])) ∧ Dr l' ∧ FI 100 n' due'
  | [], l, k, n, due, x3, x4, h, I, hk => ⟨l, n, due, x3, x4, rfl, h, I.mono (by rw [List.length_nil] at hk; omega)⟩
  | x :: L, l, k, n, due, x3, x4, h, I, hk => by
    rw [List.length_cons] at hk
    obtain ⟨l1, n1, due1, y4, e1, h1, I1⟩ := ft_step h (S0 := S0) I (by omega) (some (.d x)) x4
    obtain ⟨l2, n2, due2, z3, z4, e2, h2, I2⟩ := ft_loop (S0 := S0) L l1 (k + 1) n1 due1 (some (.d x)) y4 h1 I1 (by omega)
    refine ⟨l2, n2, due2, z3, z4, ?_, h2, I2⟩
    rw [for_cons, bind_nm]
    show (match ftB [some (.ref 0), some (.d (.int (n : Nat))), some (.ref (S0.length + 1)), some (.d x), x4] _ with | .nx σ2 S2 => forGo (.nm 3) ftB L σ2 S2 | .ct σ2 S2 => forGo (.nm 3) ftB L σ2 S2 | .bk σ2 S2 => .nx σ2 S2 | r' => r') = _
    rw [e1]
    exact e2
theorem srt_dn {due l : List Nat} (nd : due.Nodup) (hl : l.Pairwise (· < ·)) (h : ∀ q, q ∈ due ↔ q ∈ l) : srtI (dn due) = dn l := by
  have nd2 : (srtI (dn due)).Nodup := (srtI_perm _).nodup_iff.mpr (by
    unfold dn
    exact List.Pairwise.map _ (fun a b h z => h (by omega)) nd)
  have p1 : (srtI (dn due)).Pairwise (· < ·) := by
    have a := srtI_pair (dn due)
    exact (List.pairwise_and_iff.mpr ⟨a, nd2⟩).imp fun ⟨x, y⟩ => by omega
  refine lt_ext p1 (by unfold dn; exact List.Pairwise.map _ (fun a b h => by omega) hl) fun x => ?_
  rw [(srtI_perm _).mem_iff]
  unfold dn
  rw [List.mem_map, List.mem_map]
  exact ⟨fun ⟨q, a, b⟩ => ⟨q, (h q).mp a, b⟩, fun ⟨q, a, b⟩ => ⟨q, (h q).mpr a, b⟩⟩
theorem ft_just {k n : Nat} {due : List Nat} (I : FI k n due) (S : AS) : den_prime_factors [.d (.int (n : Nat))] S = .ok (.d (.tuple (ds (srtI (dn due))))) S ∧ den_law_just [.d (.tuple (ds (srtI (dn due)))), .d (.tuple (ds (srtI (dn due))))] S = .ok (.d (.bool true)) S := by
  have nl := I.le
  obtain ⟨l, e, p, ll⟩ := r_pfactors (n := n) I.pos (by omega) S
  have es : srtI (dn due) = dn l := srt_dn I.nd p.asc fun q => ⟨fun z => (p.mem q).mpr ⟨I.pr q z, (I.is q (I.pr q z)).mpr z⟩, fun z => (I.is q ((p.mem q).mp z).1).mp ((p.mem q).mp z).2⟩
  rw [es]
  have lb := few_primes l n I.pos p.asc fun q hq => (p.mem q).mp hq
  have l30 : l.length ≤ 30 := Nat.not_lt.mp fun z => by
    have := Nat.pow_le_pow_right (n := 2) (by decide) (show 30 ≤ l.length by omega)
    omega
  refine ⟨e, just_t (fun x hx => ?_) (by unfold dn; rw [List.length_map]; omega) S⟩
  unfold dn at hx
  obtain ⟨q, a, rfl⟩ := List.mem_map.mp hx
  have := Nat.le_of_dvd I.pos ((p.mem q).mp a).2
  show ((q : Int)).natAbs < _
  rw [Int.natAbs_natCast]
  exact Nat.lt_of_le_of_lt (show q ≤ 1000000000 by omega) (by decide)
theorem FI.big : FI 100 999999937 [999999937] := ⟨by decide, by decide, by simp, (fun q h => by
  rw [List.mem_singleton]
  exact ⟨fun z => by
    rcases pr_big.2 q z with c | c
    · have := h.1; omega
    · exact c, fun z => by rw [z]; exact Nat.dvd_refl _⟩), (fun q h => by rw [List.mem_singleton.mp h]; exact pr_big), by decide⟩
theorem sq_skipF {c : Dn} {s1 s : Sn} {σ : ASt} {S S' : AS} (e : c σ S = .ok (.d (.bool false)) S') : sSeq (sIf c s1 sSkip) s σ S = s σ S' := by
  rw [sq_ifF e]
  rfl
theorem sq_skipT {c : Dn} {s1 s : Sn} {σ σ' : ASt} {S S' S2 : AS} (e : c σ S = .ok (.d (.bool true)) S') (k : s1 σ S' = .nx σ' S2) : sSeq (sIf c s1 sSkip) s σ S = s σ' S2 := by
  rw [sq_ifT e, k]
theorem sort_loc (S : AS) (l : List Int) : vSortT [.ref S.length] (S ++ [.lst (ds l)]) = some (.own (ds (srtI l)), S ++ [.lst (ds l)]) := by
  unfold vSortT
  simp only [loc_rd, ds_ints]
  rfl
theorem r_ftold {l : List Int} (h : Dr l) (S0 : AS) : ∃ l', den_law_factors_told [.ref 0] (.lst (ds l) :: S0) = .ok (.d (.bool true)) (.lst (ds l') :: S0) ∧ Dr l' := by
  obtain ⟨l1, n, due, y3, y4, e1, h1, I⟩ := ft_loop (S0 := S0) [.int 0, .int 1, .int 2, .int 3, .int 4, .int 5] l 0 1 [] none none h FI.start (by decide)
  obtain ⟨v, l2, e2, h2, v0, v8, _⟩ := r_take h1 (m := 8) (by decide) (S0 ++ [.lst (ds (dn due))])
  refine ⟨l2, ?_, h2⟩
  have g1 : itL (lCons (dC (.int 6)) lNil) fRng1 [some (.ref 0), some (.d (.int 1)), some (.ref (S0.length + 1)), none, none] (.lst (ds l) :: (S0 ++ [.lst []])) = .ok [.int 0, .int 1, .int 2, .int 3, .int 4, .int 5] (.lst (ds l) :: (S0 ++ [.lst []])) := rfl
  have one := fun S => ft_just (k := 0) FI.start S
  have s0 : srtI (dn []) = [] := rfl
  simp only [s0, show ds [] = [] from rfl] at one
  have fin : ∀ (T : AS) (L : AS) (n : Nat) (due : List Nat) (m : Nat), FI 100 n due → vSortT [.ref m] T = some (.own (ds (srtI (dn due))), T) → ∀ x4, sRet (dAnd (dCall (arity 2 den_law_just) (lCons (dCall (arity 1 den_prime_factors) (lCons (dVar 1) lNil)) (lCons (dCallV vTuple (lCons (dCallV vSortT (lCons (dVar 2) lNil)) lNil)) lNil))) (dCall (arity 2 den_law_just) (lCons (dCall (arity 1 den_prime_factors) (lCons (dC (.int 1)) lNil)) (lCons (dCallV vTupD lNil) lNil)))) [some (.ref 0), some (.d (.int (n : Nat))), some (.ref m), y3, x4] T = .rt (.d (.bool true)) T := fun T L n due m I hs x4 => by
    obtain ⟨j1, j2⟩ := ft_just I T
    obtain ⟨j3, j4⟩ := one T
    have j3 : den_prime_factors [.d (.int 1)] T = .ok (.d (.tuple [])) T := j3
    simp [dVar, j1, hs, j2, j3, j4]
  have body : ∃ T, c_law_factors_told [some (.ref 0), none, none, none, none] (.lst (ds l) :: S0) = .rt (.d (.bool true)) ((.lst (ds l2) :: S0) ++ T) := by
    unfold c_law_factors_told
    have a2 : sSeq (sAsg 2 true (dCallV vLstD lNil)) = sSeq (sAsg 2 true (dCallV vLstD lNil)) := rfl
    by_cases c : v = 7
    · subst c
      refine ⟨[.lst (ds (dn due)), .lst (ds (dn [999999937]))], ?_⟩
      refine (sq_d (S' := .lst (ds l) :: S0) (x := .int 1) rfl).trans ?_
      refine (sq_ownT (l := []) (S := .lst (ds l) :: S0) rfl).trans ?_
      refine (sq_for g1 e1).trans ?_
      have f := fin (((AO.lst (ds l2) :: S0) ++ [AO.lst (ds (dn due))]) ++ [AO.lst (ds (dn [999999937]))]) [] 999999937 [999999937] ((AO.lst (ds l2) :: S0) ++ [AO.lst (ds (dn due))]).length FI.big (sort_loc ((AO.lst (ds l2) :: S0) ++ [AO.lst (ds (dn due))]) (dn [999999937])) y4
      have e3 : (((AO.lst (ds l2) :: S0) ++ [AO.lst (ds (dn due))]) ++ [AO.lst (ds (dn [999999937]))]) = (AO.lst (ds l2) :: S0) ++ [AO.lst (ds (dn due)), AO.lst (ds (dn [999999937]))] := by rw [List.append_assoc]; rfl
      rw [e3] at f
      have e4 : ∀ T, (sSeq (sAsg 1 false (dC (.int 999999937))) (sAsg 2 true (dCallV vLstD (lCons (dC (.int 999999937)) lNil)))) [some (.ref 0), some (.d (.int (n : Nat))), some (.ref (S0.length + 1)), y3, y4] T = .nx [some (.ref 0), some (.d (.int (999999937 : Nat))), some (.ref T.length), y3, y4] (T ++ [AO.lst (ds (dn [999999937]))]) := fun T => rfl
      refine (sq_skipT (S' := .lst (ds l2) :: (S0 ++ [.lst (ds (dn due))])) (by simp [dVar, e2]) (e4 _)).trans ?_
      rw [← e3] at f ⊢
      exact f
    · refine ⟨[.lst (ds (dn due))], ?_⟩
      refine (sq_d (S' := .lst (ds l) :: S0) (x := .int 1) rfl).trans ?_
      refine (sq_ownT (l := []) (S := .lst (ds l) :: S0) rfl).trans ?_
      refine (sq_for g1 e1).trans ?_
      refine (sq_skipF (S' := .lst (ds l2) :: (S0 ++ [.lst (ds (dn due))])) (by simp [dVar, e2, c])).trans ?_
      have f := fin ((.lst (ds l2) :: S0) ++ [.lst (ds (dn due))]) [] n due (S0.length + 1) I (sort_loc (.lst (ds l2) :: S0) (dn due)) y4
      rw [List.cons_append] at f ⊢
      exact f
  obtain ⟨T, body⟩ := body
  unfold den_law_factors_told
  show (match c_law_factors_told [some (.ref 0), none, none, none, none] (.lst (ds l) :: S0) with | .nx _ S' => ER.ok (.d .none) (S'.take (S0.length + 1)) | .rt a S' => finA (S0.length + 1) a S' | .er x _ S' => .err x (S'.take (S0.length + 1)) | _ => .stuck) = _
  rw [body]
  show ER.ok (.d (.bool true)) (((AO.lst (ds l2) :: S0) ++ T).take (S0.length + 1)) = _
  have tk : ((AO.lst (ds l2) :: S0) ++ T).take (S0.length + 1) = .lst (ds l2) :: S0 := List.take_left' (by rw [List.length_cons])
  rw [tk]
end K74
namespace K74
open PySem PySem.Spec PyProof.Rows L2 Den
/-! ### the family of values -/
def SIX : List Nat := [2, 3, 5, 7, 11, 13]
def picks : List Nat → List (List Nat)
  | [] => [[]]
  | x :: l => picks l ++ (picks l).map (x :: ·)
def prod (P : List Nat) : Nat := P.foldl (fun a p => a * p) 1
def condF (P : List Nat) : Bool :=
  decide (prod P ≤ 30030) && (decide (0 < prod P) && (decide (P.Pairwise (· < ·)) && (P.all (fun p => SIX.contains p && (decide (prod P / p * p = prod P) && P.all fun q => decide ((prod P / p) % q = 0) == decide (q ≠ p))) && (decide (P.foldl (fun g p => Nat.gcd g (prod P / p)) (prod P) = 1) && decide (P.length ≤ 6)))))
theorem cond_all : (picks SIX).all condF = true := by decide +kernel
structure Fam (P : List Nat) : Prop where
  le : prod P ≤ 30030
  pos : 0 < prod P
  asc : P.Pairwise (· < ·)
  pr : ∀ p ∈ P, Pr p
  cut : ∀ p ∈ P, prod P / p * p = prod P
  own : ∀ p ∈ P, ∀ q ∈ P, q ∣ prod P / p ↔ q ≠ p
  one : ∀ d : Nat, d ∣ prod P → (∀ p ∈ P, d ∣ prod P / p) → d = 1
  few : P.length ≤ 6
  only : ∀ q, Pr q → q ∣ prod P → q ∈ P
theorem six_pr : ∀ p ∈ SIX, Pr p := by
  intro p hp
  unfold SIX at hp
  simp only [List.mem_cons, List.not_mem_nil, or_false] at hp
  rcases hp with rfl | rfl | rfl | rfl | rfl | rfl
  · exact pr_2
  · exact pr_3
  · exact pr_5
  · exact pr_7
  · exact pr_11
  · exact pr_13
theorem gcd_fold {d : Nat} {f : Nat → Nat} : ∀ (P : List Nat) (g : Nat), d ∣ g → (∀ p ∈ P, d ∣ f p) → d ∣ P.foldl (fun g p => Nat.gcd g (f p)) g
  | [], g, h, _ => h
  | p :: P, g, h, k => gcd_fold P _ (Nat.dvd_gcd h (k p List.mem_cons_self)) fun q hq => k q (List.mem_cons_of_mem _ hq)
theorem pr_fold {q : Nat} (hq : Pr q) : ∀ (P : List Nat) (a : Nat), q ∣ P.foldl (fun a p => a * p) a → q ∣ a ∨ ∃ p ∈ P, q ∣ p
  | [], a, h => .inl h
  | p :: P, a, h => by
    rcases pr_fold hq P (a * p) h with h | ⟨r, hr, h⟩
    · rcases hq.euclid h with h | h
      · exact .inl h
      · exact .inr ⟨p, List.mem_cons_self, h⟩
    · exact .inr ⟨r, List.mem_cons_of_mem _ hr, h⟩
theorem fam_of {P : List Nat} (h : P ∈ picks SIX) : Fam P := by
  have c := List.all_eq_true.mp cond_all P h
  unfold condF at c
  simp only [Bool.and_eq_true, decide_eq_true_eq, List.all_eq_true, beq_iff_eq] at c
  obtain ⟨c1, c2, c3, c4, c5, c6⟩ := c
  have pr : ∀ p ∈ P, Pr p := fun p hp => six_pr p (List.contains_iff_mem.mp (c4 p hp).1)
  refine ⟨c1, c2, c3, pr, fun p hp => (c4 p hp).2.1, fun p hp q hq => ?_, fun d h1 h2 => ?_, c6, fun q hq h1 => ?_⟩
  · have e := (c4 p hp).2.2 q hq
    rw [Nat.dvd_iff_mod_eq_zero]
    constructor
    · intro z
      rw [decide_eq_true z] at e
      exact of_decide_eq_true e.symm
    · intro z
      rw [decide_eq_true z] at e
      exact of_decide_eq_true e
  · have := gcd_fold (f := fun p => prod P / p) P (prod P) h1 h2
    rw [c5] at this
    exact Nat.dvd_one.mp this
  · rcases pr_fold hq P 1 h1 with z | ⟨p, hp, z⟩
    · have := Nat.dvd_one.mp z
      have := hq.1
      omega
    · rcases (pr p hp).2 q z with w | w
      · have := hq.1; omega
      · rw [w]; exact hp
def famL (P : List Nat) (b s : Int) : List Int := b :: (b + (prod P : Int) * s) :: P.map fun p => b + ((prod P / p : Nat) : Int) * s
theorem nodup_len {L M : List Int} (h : L.Nodup) (k : ∀ x ∈ L, x ∈ M) : L.length ≤ M.length := by
  induction L generalizing M with
  | nil => exact Nat.zero_le _
  | cons x L ih =>
    obtain ⟨h1, h2⟩ := List.nodup_cons.mp h
    have hx := k x List.mem_cons_self
    have := ih (M := M.erase x) h2 fun y hy => (List.mem_erase_of_ne (by intro z; subst z; exact h1 hy)).mpr (k y (List.mem_cons_of_mem _ hy))
    rw [List.length_erase_of_mem hx] at this
    have := List.length_pos_of_mem hx
    rw [List.length_cons]
    omega
section
variable {P : List Nat} {b s : Int} {vs : List Int}
theorem fam_mem {x : Int} (f : Fam P) (h : x ∈ famL P b s) : ∃ k : Nat, k ≤ prod P ∧ x = b + (k : Int) * s := by
  unfold famL at h
  rcases List.mem_cons.mp h with rfl | h
  · exact ⟨0, Nat.zero_le _, by simp⟩
  · rcases List.mem_cons.mp h with rfl | h
    · exact ⟨prod P, Nat.le_refl _, rfl⟩
    · obtain ⟨p, hp, rfl⟩ := List.mem_map.mp h
      exact ⟨prod P / p, Nat.div_le_self _ _, rfl⟩
theorem fam_b : b ∈ famL P b s := List.mem_cons_self
theorem fam_t : b + (prod P : Int) * s ∈ famL P b s := List.mem_cons_of_mem _ List.mem_cons_self
theorem fam_p {p : Nat} (h : p ∈ P) : b + ((prod P / p : Nat) : Int) * s ∈ famL P b s := List.mem_cons_of_mem _ (List.mem_cons_of_mem _ (List.mem_map.mpr ⟨p, h, rfl⟩))
theorem fam_ne (hm : ∀ x, x ∈ vs ↔ x ∈ famL P b s) : vs ≠ [] := fun z => by
  have := (hm b).mpr fam_b
  rw [z] at this
  cases this
theorem fam_min (f : Fam P) (hs : 0 < s) (hm : ∀ x, x ∈ vs ↔ x ∈ famL P b s) : minI vs = b := by
  have a := minI_least ((hm b).mpr fam_b)
  obtain ⟨k, _, e⟩ := fam_mem f ((hm _).mp (min_in (fam_ne hm)))
  have := Int.mul_nonneg (Int.natCast_nonneg k) (Int.le_of_lt hs)
  omega
theorem fam_max (f : Fam P) (hs : 0 < s) (hm : ∀ x, x ∈ vs ↔ x ∈ famL P b s) : maxI vs = b + (prod P : Int) * s := by
  have a := maxI_most ((hm _).mpr fam_t)
  obtain ⟨k, hk, e⟩ := fam_mem f ((hm _).mp (max_in (fam_ne hm)))
  have : (k : Int) * s ≤ (prod P : Int) * s := Int.mul_le_mul_of_nonneg_right (by omega) (Int.le_of_lt hs)
  omega
theorem fam_g (f : Fam P) (hs : 0 < s) (hm : ∀ x, x ∈ vs ↔ x ∈ famL P b s) : gF vs = s := by
  have mn := fam_min f hs hm
  have d1 : s ∣ gF vs := gF_gr fun x hx => by
    obtain ⟨k, _, rfl⟩ := fam_mem f ((hm x).mp hx)
    rw [mn]
    exact ⟨k, by rw [Int.mul_comm s]; omega⟩
  obtain ⟨t, et⟩ := d1
  have nn := gF_nn vs
  have key : ∀ k : Nat, b + (k : Int) * s ∈ vs → t ∣ (k : Int) := fun k hk => by
    have := gF_dvd hk
    rw [mn, et, show b + (k : Int) * s - b = s * (k : Int) by rw [Int.mul_comm s]; omega] at this
    exact Int.dvd_of_mul_dvd_mul_left (by omega) this
  have n1 : t.natAbs ∣ prod P := Int.natAbs_dvd_natAbs.mpr (key _ ((hm _).mpr fam_t))
  have n2 : ∀ p ∈ P, t.natAbs ∣ prod P / p := fun p hp => by
    have := key _ ((hm _).mpr (fam_p hp))
    exact Int.natAbs_dvd_natAbs.mpr this
  have t1 := f.one _ n1 n2
  have : t = 1 ∨ t = -1 := by omega
  rcases this with rfl | rfl
  · omega
  · omega
theorem fam_N (f : Fam P) (hs : 0 < s) (hm : ∀ x, x ∈ vs ↔ x ∈ famL P b s) : (maxI vs - minI vs) / gF vs = (prod P : Int) := by
  rw [fam_min f hs hm, fam_max f hs hm, fam_g f hs hm, show b + (prod P : Int) * s - b = (prod P : Int) * s by omega]
  exact Int.mul_ediv_cancel _ (by omega)
theorem fam_ps (f : Fam P) (hs : 0 < s) (hm : ∀ x, x ∈ vs ↔ x ∈ famL P b s) : PsOk vs P := by
  refine .inr ⟨by rw [fam_g f hs hm]; exact hs, ?_⟩
  rw [fam_N f hs hm, Int.toNat_natCast]
  refine ⟨f.asc, fun q => ⟨fun h => ⟨f.pr q h, ⟨prod P / q, ?_⟩⟩, fun h => f.only q h.1 h.2⟩⟩
  have := f.cut q h
  rw [Nat.mul_comm]
  exact this.symm
theorem fam_ok (f : Fam P) (hs : 0 < s) (hm : ∀ x, x ∈ vs ↔ x ∈ famL P b s) (hb : b.natAbs ≤ 10 ^ 30) (hs2 : s ≤ 10 ^ 20) (hl : vs.length < 20) : Ok vs := by
  refine ⟨fam_ne hm, fun x hx => ?_, hl, ?_⟩
  · obtain ⟨k, hk, rfl⟩ := fam_mem f ((hm x).mp hx)
    have := f.le
    have h1 : (k : Int) * s ≤ 30030 * 10 ^ 20 := Int.mul_le_mul (by omega) hs2 (Int.le_of_lt hs) (by decide)
    have h2 := Int.mul_nonneg (Int.natCast_nonneg k) (Int.le_of_lt hs)
    generalize (k : Int) * s = m at *
    have e : (2 : Nat) ^ 102 = 5070602400912917605986812821504 := by decide
    rw [e]
    omega
  · rw [fam_N f hs hm]
    have := f.le
    omega
theorem fam_told (f : Fam P) (hs : 0 < s) (hm : ∀ x, x ∈ vs ↔ x ∈ famL P b s) {n : Nat} (h : (∀ T, Hits (lotsOf vs P) ((lotsOf vs P).map (·.1)) T → n ≤ T.length + 2) ∧ ∃ ch : List Int, Hits (lotsOf vs P) ((lotsOf vs P).map (·.1)) ch ∧ ch.Nodup ∧ n = ch.length + 2) : n = 2 + P.length := by
  have mn := fam_min f hs hm
  have gg := fam_g f hs hm
  have st : ∀ k : Nat, (b + (k : Int) * s - b) / s = (k : Int) := fun k => by
    rw [show b + (k : Int) * s - b = (k : Int) * s by omega]
    exact Int.mul_ediv_cancel _ (by omega)
  have lot : ∀ p ∈ P, ∀ x, x ∈ ((usrt vs).filter fun u => decide ((u - minI vs) / gF vs % (p : Int) ≠ 0)) ↔ x = b + ((prod P / p : Nat) : Int) * s := fun p hp x => by
    rw [mem_lot, mn, gg]
    constructor
    · rintro ⟨h1, h2⟩
      have h1 := (hm x).mp h1
      unfold famL at h1
      rcases List.mem_cons.mp h1 with rfl | h1
      · exact absurd (by rw [Int.sub_self, Int.zero_ediv]; exact Int.dvd_zero _) h2
      · rcases List.mem_cons.mp h1 with rfl | h1
        · rw [st] at h2
          exact absurd (Int.natCast_dvd_natCast.mpr ⟨prod P / p, by rw [Nat.mul_comm]; exact (f.cut p hp).symm⟩) h2
        · obtain ⟨q, hq, rfl⟩ := List.mem_map.mp h1
          rw [st] at h2
          have : p = q := Classical.byContradiction fun z => h2 (Int.natCast_dvd_natCast.mpr ((f.own q hq p hp).mpr z))
          rw [this]
    · rintro rfl
      refine ⟨(hm _).mpr (fam_p hp), ?_⟩
      rw [st]
      intro z
      exact (f.own p hp p hp).mp (Int.natCast_dvd_natCast.mp z) rfl
  obtain ⟨h1, ch, h2, h3, h4⟩ := h
  have le := h1 (P.map fun p => b + ((prod P / p : Nat) : Int) * s) fun q hq hl => by
    obtain ⟨p, hp, rfl⟩ := mem_lots.mp hq
    exact ⟨_, List.mem_map.mpr ⟨p, hp, rfl⟩, (lot p hp _).mpr rfl⟩
  rw [List.length_map] at le
  have ge : (P.map fun p => b + ((prod P / p : Nat) : Int) * s).length ≤ ch.length := by
    refine nodup_len ?_ fun x hx => ?_
    · refine List.Pairwise.map _ (R := fun p q => p ∈ P ∧ q ∈ P ∧ p ≠ q) (fun p q ⟨hp, hq, ne⟩ z => ne ?_) ?_
      · have z : b + ((prod P / p : Nat) : Int) * s = b + ((prod P / q : Nat) : Int) * s := z
        have e : ((prod P / p : Nat) : Int) * s = ((prod P / q : Nat) : Int) * s := by omega
        have e := Int.eq_of_mul_eq_mul_right (by omega) e
        have e : prod P / p = prod P / q := by omega
        have a := (f.own p hp q hq).mpr (fun z => ne z.symm)
        rw [e] at a
        exact absurd rfl ((f.own q hq q hq).mp a)
      · exact f.asc.imp_of_mem fun {x y} hx hy z => ⟨hx, hy, by omega⟩
    · obtain ⟨p, hp, rfl⟩ := List.mem_map.mp hx
      have hq : ((p : Int), (usrt vs).filter fun u => decide ((u - minI vs) / gF vs % (p : Int) ≠ 0)) ∈ lotsOf vs P := mem_lots.mpr ⟨p, hp, rfl⟩
      obtain ⟨x, xm, xl⟩ := h2 _ hq (List.mem_map.mpr ⟨_, hq, rfl⟩)
      rw [(lot p hp x).mp xl] at xm
      exact xm
  rw [List.length_map] at ge
  omega
end
end K74
namespace K74
open PySem PySem.Spec PyProof.Rows L2 Den
/-! ### _law_family -/
def f1B : Sn := (sIf (dBin (cop .Eq) (dCall (arity 2 den_law_take) (lCons (dVar 0) (lCons (dC (.int 2)) lNil))) (dC (.int 0)))
    (sExpr (dMeth mAppend (dVar 1) (lCons (dVar 2) lNil)))
    sSkip)
theorem f1_loop (o : AO) {x3 x4 x5 x6 x7 : Option AV} : ∀ (R acc : List Nat) (l : List Int) (x2 : Option AV), Dr l → acc.length + R.length ≤ 100 → ∃ P l' y2, P ∈ picks R ∧ forGo (.nm 2) f1B (ds (dn R)) [some (.ref 0), some (.ref 2), x2, x3, x4, x5, x6, x7] [.lst (ds l), o, .lst (ds (dn acc))] = .nx [some (.ref 0), some (.ref 2), y2, x3, x4, x5, x6, x7] [.lst (ds l'), o, .lst (ds (dn (acc ++ P)))] ∧ Dr l'
  | [], acc, l, x2, h, _ => ⟨[], l, x2, List.mem_singleton.mpr rfl, by rw [List.append_nil]; rfl, h⟩
  | p :: R, acc, l, x2, h, hc => by
    rw [List.length_cons] at hc
    obtain ⟨v, l1, e1, h1, v0, v2, _⟩ := r_take h (m := 2) (by decide) [o, .lst (ds (dn acc))]
    by_cases c : v = 0
    · subst c
      obtain ⟨P, l', y2, hp, e, h2⟩ := f1_loop o (x3 := x3) (x4 := x4) (x5 := x5) (x6 := x6) (x7 := x7) R (acc ++ [p]) l1 (some (.d (.int (p : Nat)))) h1 (by rw [List.length_append, List.length_singleton]; omega)
      refine ⟨p :: P, l', y2, ?_, ?_, h2⟩
      · show p :: P ∈ picks R ++ (picks R).map (p :: ·)
        exact List.mem_append.mpr (.inr (List.mem_map.mpr ⟨P, hp, rfl⟩))
      · have ap := loc_app (S := [.lst (ds l1), o]) (l := ds (dn acc)) (x := .int (p : Nat)) (by rw [ds_len, dn_len]; show acc.length < 1000000; omega)
        have ap : mAppend (.ref 2) [.d (.int (p : Nat))] [.lst (ds l1), o, .lst (ds (dn acc))] = some (.d .none, [.lst (ds l1), o, .lst (ds (dn (acc ++ [p])))]) := by
          rw [show ds (dn (acc ++ [p])) = ds (dn acc) ++ [.int (p : Nat)] by unfold dn; rw [List.map_append, ← ds_app]; rfl]
          exact ap
        have il : isL [.lst (ds l1), o, .lst (ds (dn acc))] (.ref 2) = true := rfl
        rw [show acc ++ p :: P = (acc ++ [p]) ++ P by rw [List.append_assoc]; rfl]
        show forGo _ _ (.int (p : Nat) :: ds (dn R)) _ _ = _
        rw [for_cons]
        generalize hC : ds (dn (acc ++ [p] ++ P)) = C at *
        generalize hA : ds (dn acc) = A at *
        generalize hB : ds (dn (acc ++ [p])) = B at *
        unfold f1B at *
        simp [dVar, e1, il, ap]
        exact e
    · obtain ⟨P, l', y2, hp, e, h2⟩ := f1_loop o (x3 := x3) (x4 := x4) (x5 := x5) (x6 := x6) (x7 := x7) R acc l1 (some (.d (.int (p : Nat)))) h1 (by omega)
      refine ⟨P, l', y2, ?_, ?_, h2⟩
      · show P ∈ picks R ++ (picks R).map (p :: ·)
        exact List.mem_append.mpr (.inl hp)
      · show forGo _ _ (.int (p : Nat) :: ds (dn R)) _ _ = _
        rw [for_cons]
        unfold f1B at *
        simp [dVar, e1, c]
        exact e
theorem log_le {n k : Nat} (h : n ≤ 2 ^ k) : n.log2 ≤ k := by
  rcases Nat.eq_zero_or_pos n with z | z
  · rw [z]; exact Nat.zero_le _
  · have := (Nat.log2_lt (k := k + 1) (by omega)).mpr (Nat.lt_of_le_of_lt h (Nat.pow_lt_pow_right (by decide) (by omega)))
    omega
theorem f2_loop {x0 x1 x3 x4 x6 x7 : Option AV} (S : AS) : ∀ (P : List Nat) (w k : Nat) (x2 : Option AV), (∀ p ∈ P, p ≤ 2 ^ 4) → w ≤ 2 ^ k → k + 4 * P.length ≤ 1000 → ∃ y2, forGo (.nm 2) (sAsg 5 false (dBin bMul (dVar 5) (dVar 2))) (ds (dn P)) [x0, x1, x2, x3, x4, some (.d (.int (w : Nat))), x6, x7] S = .nx [x0, x1, y2, x3, x4, some (.d (.int (P.foldl (fun a p => a * p) w : Nat))), x6, x7] S
  | [], w, k, x2, _, _, _ => ⟨x2, rfl⟩
  | p :: P, w, k, x2, hp, hw, hk => by
    rw [List.length_cons] at hk
    have p4 := hp p List.mem_cons_self
    obtain ⟨y2, e⟩ := f2_loop S (x0 := x0) (x1 := x1) (x3 := x3) (x4 := x4) (x6 := x6) (x7 := x7) P (w * p) (k + 4) (some (.d (.int (p : Nat)))) (fun q hq => hp q (List.mem_cons_of_mem _ hq)) (by rw [Nat.pow_add]; exact Nat.mul_le_mul hw p4) (by omega)
    refine ⟨y2, ?_⟩
    have m := mul_i (i := (w : Int)) (j := (p : Int)) (S := S) (by
      rw [Int.natAbs_natCast, Int.natAbs_natCast]
      have := log_le hw
      have := log_le p4
      omega)
    rw [← Int.natCast_mul] at m
    show forGo _ _ (.int (p : Nat) :: ds (dn P)) _ _ = _
    rw [for_cons]
    generalize hwp : ((w * p : Nat) : Int) = wp at *
    simp only [bind_nm, List.set_cons_succ, List.set_cons_zero, x_Asg, x_Bin, dVar, List.getElem?_cons_succ, List.getElem?_cons_zero, bind_ok, fz_d, m, lift_some, then_ok, asg_d]
    exact e
def f3B : Sn := (sExpr (dMeth mAppend (dVar 6) (lCons (dBin bAdd (dVar 4) (dBin bMul (dBin bFdiv (dVar 5) (dVar 2)) (dVar 3))) lNil)))
theorem f3_loop (o1 o2 o3 : AO) {b s : Int} {W : Nat} (hs : s.natAbs ≤ 2 ^ 100) (hW : W ≤ 2 ^ 100) {x0 x1 x7 : Option AV} : ∀ (P : List Nat) (V : List Int) (x2 : Option AV), (∀ p ∈ P, 0 < p ∧ p ≤ 2 ^ 4) → V.length + P.length ≤ 100 → ∃ y2, forGo (.nm 2) f3B (ds (dn P)) [x0, x1, x2, some (.d (.int s)), some (.d (.int b)), some (.d (.int (W : Nat))), some (.ref 3), x7] [o1, o2, o3, .lst (ds V)] = .nx [x0, x1, y2, some (.d (.int s)), some (.d (.int b)), some (.d (.int (W : Nat))), some (.ref 3), x7] [o1, o2, o3, .lst (ds (V ++ P.map fun p => b + ((W / p : Nat) : Int) * s))]
  | [], V, x2, _, _ => ⟨x2, by rw [List.map_nil, List.append_nil]; rfl⟩
  | p :: P, V, x2, hp, hc => by
    rw [List.length_cons] at hc
    obtain ⟨p0, p4⟩ := hp p List.mem_cons_self
    obtain ⟨y2, e⟩ := f3_loop o1 o2 o3 hs hW (b := b) (x0 := x0) (x1 := x1) (x7 := x7) P (V ++ [b + ((W / p : Nat) : Int) * s]) (some (.d (.int (p : Nat)))) (fun q hq => hp q (List.mem_cons_of_mem _ hq)) (by rw [List.length_append, List.length_singleton]; omega)
    refine ⟨y2, ?_⟩
    rw [List.map_cons, show V ++ (b + ((W / p : Nat) : Int) * s) :: P.map (fun p => b + ((W / p : Nat) : Int) * s) = (V ++ [b + ((W / p : Nat) : Int) * s]) ++ P.map (fun p => b + ((W / p : Nat) : Int) * s) by rw [List.append_assoc]; rfl]
    have fd := fun S => fdiv_i (i := (W : Int)) (j := (p : Int)) (S := S) (by omega) (by
      rw [Int.natAbs_natCast]
      have := log_le p4
      omega)
    have m := fun S => mul_i (i := ((W / p : Nat) : Int)) (j := s) (S := S) (by
      rw [Int.natAbs_natCast]
      have := log_le (Nat.le_trans (Nat.div_le_self W p) hW)
      have := log_le hs
      omega)
    have ap := loc_app (S := [o1, o2, o3]) (l := ds V) (x := .int (b + ((W / p : Nat) : Int) * s)) (by rw [ds_len]; show V.length < 1000000; omega)
    have ap : mAppend (.ref 3) [.d (.int (b + ((W / p : Nat) : Int) * s))] [o1, o2, o3, .lst (ds V)] = some (.d .none, [o1, o2, o3, .lst (ds (V ++ [b + ((W / p : Nat) : Int) * s]))]) := by
      rw [← ds_app]
      exact ap
    have il : isL [o1, o2, o3, .lst (ds V)] (.ref 3) = true := rfl
    rw [← Int.natCast_ediv] at fd
    show forGo _ _ (.int (p : Nat) :: ds (dn P)) _ _ = _
    rw [for_cons]
    generalize hC : ds (V ++ [b + ((W / p : Nat) : Int) * s] ++ P.map (fun p => b + ((W / p : Nat) : Int) * s)) = C at *
    generalize hz : ((W / p : Nat) : Int) = z at *
    generalize hA : ds V = A at *
    generalize hB : ds (V ++ [b + z * s]) = B at *
    unfold f3B at *
    simp [dVar, fd, m, il, ap]
    exact e
theorem pow_20 (S : AS) : bPow (.d (.int 10)) (.d (.int 20)) S = some (.d (.int 100000000000000000000), S) := rfl
theorem pow_30 (S : AS) : bPow (.d (.int 10)) (.d (.int 30)) S = some (.d (.int 1000000000000000000000000000000), S) := rfl
theorem step_at {v : Int} (h0 : 0 ≤ v) (h1 : v < 4) : ∃ s : Int, 0 < s ∧ s ≤ 10 ^ 20 ∧ atD [.int 1, .int 100000000000000000000, .int 7, .int 12] v = some (.int s) := by
  have : v = 0 ∨ v = 1 ∨ v = 2 ∨ v = 3 := by omega
  rcases this with rfl | rfl | rfl | rfl <;> exact ⟨_, by decide, by decide, rfl⟩
theorem beg_at {v : Int} (h0 : 0 ≤ v) (h1 : v < 4) : ∃ s : Int, s.natAbs ≤ 10 ^ 30 ∧ atD [.int 0, .int (-1000000000000000000000000000000), .int 5, .int 1] v = some (.int s) := by
  have : v = 0 ∨ v = 1 ∨ v = 2 ∨ v = 3 := by omega
  rcases this with rfl | rfl | rfl | rfl <;> exact ⟨_, by decide, rfl⟩
theorem picks_six {P : List Nat} (h : P ∈ picks SIX) : ∀ p ∈ P, 0 < p ∧ p ≤ 2 ^ 4 := by
  have : (picks SIX).all (fun P => P.all fun p => decide (0 < p ∧ p ≤ 16)) = true := by decide +kernel
  intro p hp
  have := List.all_eq_true.mp (List.all_eq_true.mp this P h) p hp
  exact of_decide_eq_true this
theorem r_family {l : List Int} (h : Dr l) (o : AO) : ∃ (P : List Nat) (V : List Int) (b s : Int) (l' : List Int), den_law_family [.ref 0] [.lst (ds l), o] = .ok (.d (.tuple [.list (ds V), .list (ds (dn P)), .int ((2 + P.length : Nat) : Int)])) [.lst (ds l'), o] ∧ Dr l' ∧ P ∈ picks SIX ∧ 0 < s ∧ s ≤ 10 ^ 20 ∧ b.natAbs ≤ 10 ^ 30 ∧ (∀ x, x ∈ V ↔ x ∈ famL P b s) ∧ V.length = 2 + P.length := by
  obtain ⟨P, l1, y2, hP, e1, h1⟩ := f1_loop o (x3 := none) (x4 := none) (x5 := none) (x6 := none) (x7 := none) SIX [] l none h (by decide)
  rw [List.nil_append] at e1
  have fam := fam_of hP
  have sx := picks_six hP
  obtain ⟨v, l2, e2, h2, v0, v4, _⟩ := r_take h1 (m := 4) (by decide) [o, .lst (ds (dn P))]
  obtain ⟨s, s0, s1, es⟩ := step_at v0 v4
  obtain ⟨w, l3, e3, h3, w0, w4, _⟩ := r_take h2 (m := 4) (by decide) [o, .lst (ds (dn P))]
  obtain ⟨b, b1, eb⟩ := beg_at w0 w4
  have few := fam.few
  obtain ⟨z2, e4⟩ := f2_loop (x0 := some (.ref 0)) (x1 := some (.ref 2)) (x3 := some (.d (.int s))) (x4 := some (.d (.int b))) (x6 := none) (x7 := none) [.lst (ds l3), o, .froz (ds (dn P))] P 1 0 y2 (fun p hp => (sx p hp).2) (by decide) (by omega)
  have W1 : prod P ≤ 2 ^ 100 := Nat.le_trans fam.le (by decide)
  have sa : s.natAbs ≤ 2 ^ 100 := by
    have : s.natAbs ≤ 10 ^ 20 := by omega
    exact Nat.le_trans this (by decide)
  obtain ⟨u2, e5⟩ := f3_loop (.lst (ds l3)) o (.froz (ds (dn P))) (b := b) (W := prod P) sa W1 (x0 := some (.ref 0)) (x1 := some (.ref 2)) (x7 := none) P [b, b + (prod P : Int) * s] z2 sx (by simp; omega)
  have eV : [b, b + (prod P : Int) * s] ++ P.map (fun p => b + ((prod P / p : Nat) : Int) * s) = famL P b s := rfl
  rw [eV] at e5
  obtain ⟨t, l4, e6, h4, t0, t2, _⟩ := r_take h3 (m := 2) (by decide) [o, .froz (ds (dn P)), .lst (ds (famL P b s))]
  have m := fun S => mul_i (i := ((prod P : Nat) : Int)) (j := s) (S := S) (by
    rw [Int.natAbs_natCast]
    have := log_le W1
    have := log_le sa
    omega)
  let V := if t = 1 then (famL P b s).reverse else famL P b s
  have fl : (famL P b s).length = 2 + P.length := by unfold famL; rw [List.length_cons, List.length_cons, List.length_map]; omega
  refine ⟨P, V, b, s, l4, ?_, h4, hP, s0, s1, b1, fun x => ?_, ?_⟩
  · have p2 := pow_20
    have p3 := pow_30
    have v3 : ∀ S, vLstD [.d (.int 1), .d (.int 100000000000000000000), .d (.int 7), .d (.int 12)] S = some (.own [.int 1, .int 100000000000000000000, .int 7, .int 12], S) := fun S => rfl
    have v4' : ∀ S, vLstD [.d (.int 0), .d (.int (-1000000000000000000000000000000)), .d (.int 5), .d (.int 1)] S = some (.own [.int 0, .int (-1000000000000000000000000000000), .int 5, .int 1], S) := fun S => rfl
    have m3 : dBin vIx (dCallV vLstD (lCons (dC (.int 1)) (lCons (dBin bPow (dC (.int 10)) (dC (.int 20))) (lCons (dC (.int 7)) (lCons (dC (.int 12)) lNil))))) (dCall (arity 2 den_law_take) (lCons (dVar 0) (lCons (dC (.int 4)) lNil))) [some (.ref 0), some (.ref 2), y2, none, none, none, none, none] [.lst (ds l1), o, .lst (ds (dn P))] = .ok (.d (.int s)) [.lst (ds l2), o, .lst (ds (dn P))] := by
      simp [dVar, p2, v3, e2, es]
    have m4 : dBin vIx (dCallV vLstD (lCons (dC (.int 0)) (lCons (dNeg (dBin bPow (dC (.int 10)) (dC (.int 30)))) (lCons (dC (.int 5)) (lCons (dC (.int 1)) lNil))))) (dCall (arity 2 den_law_take) (lCons (dVar 0) (lCons (dC (.int 4)) lNil))) [some (.ref 0), some (.ref 2), y2, some (.d (.int s)), none, none, none, none] [.lst (ds l2), o, .lst (ds (dn P))] = .ok (.d (.int b)) [.lst (ds l3), o, .lst (ds (dn P))] := by
      simp [dVar, p3, v4', e3, eb]
    have g1 : iSeq (dCallV vLstD (lCons (dC (.int 2)) (lCons (dC (.int 3)) (lCons (dC (.int 5)) (lCons (dC (.int 7)) (lCons (dC (.int 11)) (lCons (dC (.int 13)) lNil))))))) [some (.ref 0), some (.ref 2), none, none, none, none, none, none] [.lst (ds l), o, .lst []] = .ok (ds (dn SIX)) [.lst (ds l), o, .lst []] := rfl
    have g2 : iSeq (dVar 1) [some (.ref 0), some (.ref 2), y2, some (.d (.int s)), some (.d (.int b)), some (.d (.int 1)), none, none] [.lst (ds l3), o, .lst (ds (dn P))] = .ok (ds (dn P)) [.lst (ds l3), o, .froz (ds (dn P))] := rfl
    have m6 : dCallV vLstD (lCons (dVar 4) (lCons (dBin bAdd (dVar 4) (dBin bMul (dVar 5) (dVar 3))) lNil)) [some (.ref 0), some (.ref 2), z2, some (.d (.int s)), some (.d (.int b)), some (.d (.int (prod P : Nat))), none, none] [.lst (ds l3), o, .froz (ds (dn P))] = .ok (.own (ds [b, b + (prod P : Int) * s])) [.lst (ds l3), o, .froz (ds (dn P))] := by
      simp [dVar, m]
      rfl
    have g3 : iSeq (dVar 1) [some (.ref 0), some (.ref 2), z2, some (.d (.int s)), some (.d (.int b)), some (.d (.int (prod P : Nat))), some (.ref 3), none] [.lst (ds l3), o, .froz (ds (dn P)), .lst (ds [b, b + (prod P : Int) * s])] = .ok (ds (dn P)) [.lst (ds l3), o, .froz (ds (dn P)), .lst (ds [b, b + (prod P : Int) * s])] := rfl
    have ret : ∀ A : List Int, (sSeq (sAsg 7 false (dBin bAdd (dC (.int 2)) (dCallV vLen (lCons (dVar 1) lNil)))) (sRet (dCallV vTupD (lCons (dVar 6) (lCons (dVar 1) (lCons (dVar 7) lNil)))))) [some (.ref 0), some (.ref 2), u2, some (.d (.int s)), some (.d (.int b)), some (.d (.int (prod P : Nat))), some (.ref 3), none] [.lst (ds l4), o, .froz (ds (dn P)), .lst (ds A)] = .rt (.d (.tuple [.list (ds A), .list (ds (dn P)), .int ((2 + P.length : Nat) : Int)])) [.lst (ds l4), o, .froz (ds (dn P)), .froz (ds A)] := fun A => by
      have ln : vLen [.ref 2] [.lst (ds l4), o, .froz (ds (dn P)), .lst (ds A)] = some (.d (.int (P.length : Nat)), [.lst (ds l4), o, .froz (ds (dn P)), .lst (ds A)]) := by
        show some (AV.d (.int ((ds (dn P)).length : Nat)), _) = _
        rw [ds_len, dn_len]
      have tp : ∀ k : Int, vTupD [.ref 3, .ref 2, .d (.int k)] [.lst (ds l4), o, .froz (ds (dn P)), .lst (ds A)] = some (.d (.tuple [.list (ds A), .list (ds (dn P)), .int k]), [.lst (ds l4), o, .froz (ds (dn P)), .froz (ds A)]) := fun k => rfl
      rw [Int.natCast_add]
      simp [dVar, ln, tp]
    have body : ∃ o3, c_law_family [some (.ref 0), none, none, none, none, none, none, none] [.lst (ds l), o] = .rt (.d (.tuple [.list (ds V), .list (ds (dn P)), .int ((2 + P.length : Nat) : Int)])) [.lst (ds l4), o, .froz (ds (dn P)), o3] := by
      refine ⟨.froz (ds V), ?_⟩
      unfold c_law_family
      refine (sq_ownT (l := []) (S := [.lst (ds l), o]) rfl).trans ?_
      refine (sq_for g1 e1).trans ?_
      refine (sq_d m3).trans ?_
      refine (sq_d m4).trans ?_
      refine (sq_d (S' := [.lst (ds l3), o, .lst (ds (dn P))]) (x := .int 1) rfl).trans ?_
      refine (sq_for g2 e4).trans ?_
      refine (sq_ownT m6).trans ?_
      refine (sq_for g3 e5).trans ?_
      by_cases c : t = 1
      · have rv : mReverse (.ref 3) [] [.lst (ds l4), o, .froz (ds (dn P)), .lst (ds (famL P b s))] = some (.d .none, [.lst (ds l4), o, .froz (ds (dn P)), .lst (ds (famL P b s).reverse)]) := by
          show some (AV.d .none, [AO.lst (ds l4), o, .froz (ds (dn P)), .lst (ds (famL P b s)).reverse]) = _
          unfold ds
          rw [List.map_reverse]
        have il : isL [.lst (ds l4), o, .froz (ds (dn P)), .lst (ds (famL P b s))] (.ref 3) = true := rfl
        refine (sq_skipT (S' := [.lst (ds l4), o, .froz (ds (dn P)), .lst (ds (famL P b s))]) (σ' := [some (.ref 0), some (.ref 2), u2, some (.d (.int s)), some (.d (.int b)), some (.d (.int (prod P : Nat))), some (.ref 3), none]) (S2 := [.lst (ds l4), o, .froz (ds (dn P)), .lst (ds (famL P b s).reverse)]) (by simp [dVar, e6, c]) (by simp [dVar, il, rv])).trans ?_
        have eV : V = (famL P b s).reverse := if_pos c
        rw [eV]
        exact ret _
      · refine (sq_skipF (S' := [.lst (ds l4), o, .froz (ds (dn P)), .lst (ds (famL P b s))]) (by simp [dVar, e6, c])).trans ?_
        have eV : V = famL P b s := if_neg c
        rw [eV]
        exact ret _
    obtain ⟨o3, body⟩ := body
    unfold den_law_family
    show (match c_law_family [some (.ref 0), none, none, none, none, none, none, none] [.lst (ds l), o] with | .nx _ S' => ER.ok (.d .none) (S'.take 2) | .rt a S' => finA 2 a S' | .er x _ S' => .err x (S'.take 2) | _ => .stuck) = _
    rw [body]
    rfl
  · show x ∈ (if t = 1 then (famL P b s).reverse else famL P b s) ↔ _
    split
    · exact List.mem_reverse
    · exact Iff.rfl
  · show (if t = 1 then (famL P b s).reverse else famL P b s).length = _
    split
    · rw [List.length_reverse, fl]
    · exact fl
end K74
namespace K74
open PySem PySem.Spec PyProof.Rows L2 Den
/-! ### law -/
def InV (base : Int) (vs : List Int) : Prop := ∀ x ∈ vs, ∃ k : Int, -29 ≤ k ∧ k ≤ 30 ∧ x = base * k
theorem inv_ok {base : Int} {vs : List Int} (h0 : 0 < base) (h1 : base ≤ 30) (h : InV base vs) (ne : vs ≠ []) (hl : vs.length < 20) : Ok vs ∧ (maxI vs - minI vs) / gF vs < 2000 := by
  have dv : base ∣ gF vs := gF_gr fun x hx => by
    obtain ⟨k, _, _, rfl⟩ := h x hx
    obtain ⟨m, _, _, e⟩ := h _ (min_in ne)
    rw [e]
    exact Int.dvd_sub (Int.dvd_mul_right _ _) (Int.dvd_mul_right _ _)
  have nn := gF_nn vs
  have hN : (maxI vs - minI vs) / gF vs < 2000 := by
    rcases Int.lt_or_le 0 (gF vs) with g | g
    · have bg := Int.le_of_dvd g dv
      obtain ⟨k, k1, k2, ek⟩ := h _ (max_in ne)
      obtain ⟨m, m1, m2, em⟩ := h _ (min_in ne)
      refine Int.ediv_lt_of_lt_mul g ?_
      rw [ek, em, ← Int.mul_sub]
      have a : base * (k - m) ≤ base * 59 := Int.mul_le_mul_of_nonneg_left (by omega) (by omega)
      have b : base * 59 ≤ gF vs * 59 := Int.mul_le_mul_of_nonneg_right bg (by decide)
      omega
    · have : gF vs = 0 := by omega
      rw [this, Int.ediv_zero]
      decide
  refine ⟨⟨ne, fun x hx => ?_, hl, by omega⟩, hN⟩
  obtain ⟨k, k1, k2, rfl⟩ := h x hx
  have : (base * k).natAbs ≤ 900 := by
    rw [Int.natAbs_mul]
    exact Nat.mul_le_mul (show base.natAbs ≤ 30 by omega) (show k.natAbs ≤ 30 by omega)
  exact Nat.lt_of_le_of_lt this (by decide)
theorem base_at {v : Int} (h0 : 0 ≤ v) (h1 : v < 6) : ∃ s : Int, 0 < s ∧ s ≤ 30 ∧ atD [.int 1, .int 6, .int 2, .int 30, .int 1, .int 5] v = some (.int s) := by
  have : v = 0 ∨ v = 1 ∨ v = 2 ∨ v = 3 ∨ v = 4 ∨ v = 5 := by omega
  rcases this with rfl | rfl | rfl | rfl | rfl | rfl <;> exact ⟨_, by decide, by decide, rfl⟩
def lvB : Sn := (sSeq (sAsg 5 false (dBin bAdd (dBin bMul (dC (.int 30)) (dBin bMod (dCall (arity 2 den_law_take) (lCons (dVar 1) (lCons (dC (.int 30)) lNil))) (dC (.int 2)))) (dCall (arity 2 den_law_take) (lCons (dVar 1) (lCons (dC (.int 30)) lNil)))))
    (sExpr (dMeth mAppend (dVar 3) (lCons (dBin bMul (dVar 2) (dBin bSub (dVar 5) (dC (.int 29)))) lNil))))
theorem lv_loop {base : Int} (h0 : 0 < base) (h1 : base ≤ 30) {x0 x6 x7 x8 x9 : Option AV} : ∀ (L : List D) (l vs : List Int) (x4 x5 : Option AV), Dr l → InV base vs → vs.length + L.length ≤ 100 → ∃ l' vs' y4 y5, forGo (.nm 4) lvB L [x0, some (.ref 0), some (.d (.int base)), some (.ref 1), x4, x5, x6, x7, x8, x9] [.lst (ds l), .lst (ds vs)] = .nx [x0, some (.ref 0), some (.d (.int base)), some (.ref 1), y4, y5, x6, x7, x8, x9] [.lst (ds l'), .lst (ds vs')] ∧ Dr l' ∧ InV base vs' ∧ vs'.length = vs.length + L.length
  | [], l, vs, x4, x5, h, i, _ => ⟨l, vs, x4, x5, rfl, h, i, rfl⟩
  | x :: L, l, vs, x4, x5, h, i, hc => by
    rw [List.length_cons] at hc
    obtain ⟨u, l1, e1, d1, u0, u1, u2⟩ := r_take h (m := 30) (by decide) [.lst (ds vs)]
    obtain ⟨w, l2, e2, d2, w0, w1, w2⟩ := r_take d1 (m := 30) (by decide) [.lst (ds vs)]
    have m0 := Int.emod_nonneg u (show (2 : Int) ≠ 0 by decide)
    have m1 := Int.emod_lt_of_pos u (show (0 : Int) < 2 by decide)
    have md := mod_i (i := u) (j := 2) (S := [.lst (ds l1), .lst (ds vs)]) (by decide)
    generalize u % 2 = q at *
    have mu := fun S => mul_i (i := 30) (j := q) (S := S) (by
      have : q = 0 ∨ q = 1 := by omega
      rcases this with rfl | rfl <;> decide)
    let k := 30 * q + w - 29
    have k1 : -29 ≤ k := by show -29 ≤ 30 * q + w - 29; omega
    have k2 : k ≤ 30 := by show 30 * q + w - 29 ≤ 30; omega
    have mb := fun S => mul_i (i := base) (j := 30 * q + w - 29) (S := S) (by
      have a := log_le (n := base.natAbs) (k := 10) (by omega)
      have b := log_le (n := (30 * q + w - 29).natAbs) (k := 10) (by omega)
      omega)
    obtain ⟨l', vs', y4, y5, e, d', i', n'⟩ := lv_loop h0 h1 (x0 := x0) (x6 := x6) (x7 := x7) (x8 := x8) (x9 := x9) L l2 (vs ++ [base * (30 * q + w - 29)]) (some (.d x)) (some (.d (.int (30 * q + w)))) d2 (fun y hy => by
      rcases List.mem_append.mp hy with hy | hy
      · exact i y hy
      · exact ⟨30 * q + w - 29, k1, k2, List.mem_singleton.mp hy⟩) (by rw [List.length_append, List.length_singleton]; omega)
    refine ⟨l', vs', y4, y5, ?_, d', i', by rw [n', List.length_append, List.length_singleton, List.length_cons]; omega⟩
    have ap := loc_app (S := [.lst (ds l2)]) (l := ds vs) (x := .int (base * (30 * q + w - 29))) (by rw [ds_len]; show vs.length < 1000000; omega)
    have ap : mAppend (.ref 1) [.d (.int (base * (30 * q + w - 29)))] [.lst (ds l2), .lst (ds vs)] = some (.d .none, [.lst (ds l2), .lst (ds (vs ++ [base * (30 * q + w - 29)]))]) := by
      rw [← ds_app]
      exact ap
    have il : isL [.lst (ds l2), .lst (ds vs)] (.ref 1) = true := rfl
    rw [for_cons]
    generalize hB : ds (vs ++ [base * (30 * q + w - 29)]) = B at *
    generalize hA : ds vs = A at *
    unfold lvB at *
    simp [dVar, e1, md, mu, e2, mb, il, ap]
    exact e
theorem r_lfence1 {o : AO} {vs : List Int} (h0 : vs ≠ []) (hs : Sm vs) : den_law_fence [.ref 1] [o, .lst (ds vs)] = .ok (.d (triF vs)) [o, .froz (ds vs)] := by
  cases vs with
  | nil => exact absurd rfl h0
  | cons n r =>
    have lo : minI (n :: r) ∈ n :: r := minI_mem n r
    obtain ⟨x', e⟩ := lf_loop (minI (n :: r)) [o, .froz (ds (n :: r))] (n :: r) (.ref 1) 0 none fun y hy => hs.dif hy lo
    have v1 : vMin [.ref 1] [o, .lst (ds (n :: r))] = some (.d (.int (minI (n :: r))), [o, .lst (ds (n :: r))]) := by
      have e : rdSeq [o, .lst (ds (n :: r))] (.ref 1) = some (true, ds (n :: r)) := rfl
      unfold vMin
      simp only [e, ds_ints]
    have v2 : vMax [.ref 1] [o, .froz (ds (n :: r))] = some (.d (.int (maxI (n :: r))), [o, .froz (ds (n :: r))]) := by
      have e : rdSeq [o, .froz (ds (n :: r))] (.ref 1) = some (true, ds (n :: r)) := rfl
      unfold vMax
      simp only [e, ds_ints]
    have sq : iSeq (dVar 0) [some (.ref 1), some (.d (.int (minI (n :: r)))), some (.d (.int 0)), none] [o, .lst (ds (n :: r))] = .ok (ds (n :: r)) [o, .froz (ds (n :: r))] := rfl
    unfold den_law_fence c_law_fence
    rw [den_of]
    generalize hl : n :: r = vs at *
    simp [dVar, v1, v2, sq, e]
    rfl
theorem tld_of {vs : List Int} (k : Ok vs) : ∃ told, Tld vs told ∧ (0 < gF vs → ∀ ps, PrimesOf ((maxI vs - minI vs) / gF vs).toNat ps → (∀ T, Hits (lotsOf vs ps) ((lotsOf vs ps).map (·.1)) T → told.length ≤ T.length + 2) ∧ ∃ ch : List Int, Hits (lotsOf vs ps) ((lotsOf vs ps).map (·.1)) ch ∧ ch.Nodup ∧ told.length = ch.length + 2) ∧ (gF vs = 0 → told = [minI vs]) := by
  obtain ⟨told, a, b, c, d, e, f, g, h⟩ := r_fewest k
  exact ⟨told, ⟨b, c, d, e, a, f⟩, g, h⟩
theorem four_ok : Ok [4, 4] := ⟨by simp, (fun x hx => by
  simp only [List.mem_cons, List.not_mem_nil, or_false, or_self] at hx
  rw [hx]
  decide), by decide, by decide⟩
theorem law_run {ns : List Int} {dl : List Int} (e0 : den_law_draws [.d (.list (ds ns))] [] = .ok (.own (ds dl)) []) (dr : Dr dl) : ∃ S, den_law [.d (.list (ds ns))] [] = .ok (.d (.bool true)) S := by
  obtain ⟨v1, d1, e1, dr1, p1, q1, _⟩ := r_take dr (m := 6) (by decide) []
  obtain ⟨base, b0, b1, eb⟩ := base_at p1 q1
  obtain ⟨v2, d2, e2, dr2, p2, q2, _⟩ := r_take dr1 (m := 7) (by decide) [.lst []]
  have rl : (rngL 0 (1 + v2).toNat 1).length = (1 + v2).toNat := by unfold rngL; rw [List.length_map, List.length_range]
  obtain ⟨d3, vs1, y4, y5, e3, dr3, i3, n3⟩ := lv_loop b0 b1 (x0 := some (.d (.list (ds ns)))) (x6 := none) (x7 := none) (x8 := none) (x9 := none) (rngL 0 (1 + v2).toNat 1) d2 [] none none dr2 (fun x hx => by cases hx) (by rw [rl, List.length_nil]; omega)
  rw [rl, List.length_nil] at n3
  have ne1 : vs1 ≠ [] := fun z => by
    rw [z, List.length_nil] at n3
    omega
  obtain ⟨v4, d4, e4, dr4, p4, q4, _⟩ := r_take dr3 (m := 2) (by decide) [.lst (ds vs1)]
  -- the values
  obtain ⟨vs, hvs, step5⟩ : ∃ vs, (InV base vs ∧ vs ≠ [] ∧ vs.length < 20) ∧ ∀ (rest : Sn), sSeq (sIf (dBin (cop .Eq) (dCall (arity 2 den_law_take) (lCons (dVar 1) (lCons (dC (.int 2)) lNil))) (dC (.int 1))) (sExpr (dMeth mAppend (dVar 3) (lCons (dBin vIx (dVar 3) (dC (.int 0))) lNil))) sSkip) rest [some (.d (.list (ds ns))), some (.ref 0), some (.d (.int base)), some (.ref 1), y4, y5, none, none, none, none] [.lst (ds d3), .lst (ds vs1)] = rest [some (.d (.list (ds ns))), some (.ref 0), some (.d (.int base)), some (.ref 1), y4, y5, none, none, none, none] [.lst (ds d4), .lst (ds vs)] := by
    by_cases c : v4 = 1
    · obtain ⟨x, xm, xa⟩ := at_first ne1
      refine ⟨vs1 ++ [x], ⟨fun y hy => ?_, by simp, by rw [List.length_append, List.length_singleton]; omega⟩, fun rest => ?_⟩
      · rcases List.mem_append.mp hy with hy | hy
        · exact i3 y hy
        · rw [List.mem_singleton.mp hy]; exact i3 x xm
      · have ap := loc_app (S := [.lst (ds d4)]) (l := ds vs1) (x := .int x) (by rw [ds_len]; show vs1.length < 1000000; omega)
        have ap : mAppend (.ref 1) [.d (.int x)] [.lst (ds d4), .lst (ds vs1)] = some (.d .none, [.lst (ds d4), .lst (ds (vs1 ++ [x]))]) := by
          rw [← ds_app]
          exact ap
        have il : isL [.lst (ds d4), .lst (ds vs1)] (.ref 1) = true := rfl
        have ix : vIx (.ref 1) (.d (.int 0)) [.lst (ds d4), .lst (ds vs1)] = some (.d (.int x), [.lst (ds d4), .lst (ds vs1)]) := by
          show (match atD (ds vs1) 0 with | some x => some (AV.d x, _) | none => none) = _
          rw [xa]
        refine sq_skipT (S' := [.lst (ds d4), .lst (ds vs1)]) (by simp [dVar, e4, c]) ?_
        generalize ds (vs1 ++ [x]) = B at *
        generalize ds vs1 = A at *
        simp [dVar, il, ix, ap]
    · exact ⟨vs1, ⟨i3, ne1, by omega⟩, fun rest => sq_skipF (S' := [.lst (ds d4), .lst (ds vs1)]) (by simp [dVar, e4, c])⟩
  obtain ⟨iv, ne, nl⟩ := hvs
  obtain ⟨k, hN⟩ := inv_ok b0 b1 iv ne nl
  obtain ⟨P, V, b, s, d5, e5, dr5, hP, s0, s1, bb, mV, lV⟩ := r_family dr4 (.lst (ds vs))
  have fam := fam_of hP
  obtain ⟨pick, d6, e6, dr6, _, _, _⟩ := r_take dr5 (m := 30) (by decide) [.lst (ds vs)]
  have e7 := r_lfence1 (o := .lst (ds d6)) ne k.sm
  obtain ⟨told, tld, tg, t0⟩ := tld_of k
  -- the primes
  have nn := gF_nn vs
  let fm : D := .tuple [.list (ds V), .list (ds (dn P)), .int ((2 + P.length : Nat) : Int)]
  obtain ⟨ps, pok, step10⟩ : ∃ ps, PsOk vs ps ∧ ∀ (rest : Sn), sSeq (sIf (dBin (cop .Gt) (dBin vIx (dVar 8) (dC (.int 2))) (dC (.int 0))) (sAsg 9 false (dCall (arity 1 den_law_primes) (lCons (dBin bFdiv (dBin bSub (dBin vIx (dVar 8) (dC (.int 1))) (dBin vIx (dVar 8) (dC (.int 0)))) (dBin vIx (dVar 8) (dC (.int 2)))) lNil))) sSkip) rest [some (.d (.list (ds ns))), some (.ref 0), some (.d (.int base)), some (.ref 1), y4, y5, some (.d fm), some (.d (.int pick)), some (.d (triF vs)), some (.d (.list []))] [.lst (ds d6), .froz (ds vs)] = rest [some (.d (.list (ds ns))), some (.ref 0), some (.d (.int base)), some (.ref 1), y4, y5, some (.d fm), some (.d (.int pick)), some (.d (triF vs)), some (.d (.list (ds (dn ps))))] [.lst (ds d6), .froz (ds vs)] := by
    rcases Int.lt_or_le 0 (gF vs) with g | g
    · have np := N_pos g
      obtain ⟨ps, ep, pp⟩ := r_lprimes (n := ((maxI vs - minI vs) / gF vs).toNat) (by omega) (by omega) [.lst (ds d6), .froz (ds vs)]
      refine ⟨ps, .inr ⟨g, pp⟩, fun rest => ?_⟩
      rw [Int.toNat_of_nonneg (Int.le_of_lt np)] at ep
      have fd := fdiv_i (i := maxI vs - minI vs) (j := gF vs) (S := [.lst (ds d6), .froz (ds vs)]) g (gF_log k.sm g)
      refine sq_skipT (S' := [.lst (ds d6), .froz (ds vs)]) (by simp [dVar, triF, g]) ?_
      generalize hz : (maxI vs - minI vs) / gF vs = z at *
      simp [dVar, triF, fd, ep]
    · have g0 : gF vs = 0 := by omega
      refine ⟨[], .inl ⟨g0, rfl⟩, fun rest => ?_⟩
      exact sq_skipF (S' := [.lst (ds d6), .froz (ds vs)]) (by simp [dVar, triF, g0])
  obtain ⟨d7, e8, dr7⟩ := r_ftold dr6 [.froz (ds vs)]
  have va : VA (.ref 1) [.lst (ds d7), .froz (ds vs)] vs := .inr ⟨1, rfl, rfl⟩
  obtain ⟨best, e9, _, _, bl⟩ := r_tries (.inl va) k tld.asc tld.ne tld.sub tld.tri tld.least
  have e10 := r_vtold va k pok tld pick
  have e12 := r_refuses va nl pick
  -- the family
  obtain ⟨V2, P2, n2, fok, step13⟩ : ∃ (V2 : List Int) (P2 : List Nat) (n2 : Nat), (Ok V2 ∧ PsOk V2 P2 ∧ ∃ told2, Tld V2 told2 ∧ told2.length = n2) ∧ ∀ (rest : Sn), sSeq (sIf (dBin (cop .Eq) (dCallV vLen (lCons (dBin vIx (dVar 6) (dC (.int 1))) lNil)) (dC (.int 0))) (sAsg 6 false (dCallV vTupD (lCons (dCallV vLstD (lCons (dC (.int 4)) (lCons (dC (.int 4)) lNil))) (lCons (dCallV vLstD lNil) (lCons (dC (.int 1)) lNil))))) sSkip) rest [some (.d (.list (ds ns))), some (.ref 0), some (.d (.int base)), some (.ref 1), y4, y5, some (.d fm), some (.d (.int pick)), some (.d (triF vs)), some (.d (.list (ds (dn ps))))] [.lst (ds d7), .froz (ds vs)] = rest [some (.d (.list (ds ns))), some (.ref 0), some (.d (.int base)), some (.ref 1), y4, y5, some (.d (.tuple [.list (ds V2), .list (ds (dn P2)), .int (n2 : Nat)])), some (.d (.int pick)), some (.d (triF vs)), some (.d (.list (ds (dn ps))))] [.lst (ds d7), .froz (ds vs)] := by
    have ln : vLen [.d (.list (ds (dn P)))] [.lst (ds d7), .froz (ds vs)] = some (.d (.int (P.length : Nat)), [.lst (ds d7), .froz (ds vs)]) := by
      rw [len_l, ds_len, dn_len]
    have ix : vIx (.d fm) (.d (.int 1)) [.lst (ds d7), .froz (ds vs)] = some (.d (.list (ds (dn P))), [.lst (ds d7), .froz (ds vs)]) := rfl
    by_cases c : P = []
    · refine ⟨[4, 4], [], 1, ⟨four_ok, .inl ⟨by decide, rfl⟩, ?_⟩, fun rest => ?_⟩
      · obtain ⟨told2, a, _, z⟩ := tld_of four_ok
        exact ⟨told2, a, by rw [z (by decide)]; rfl⟩
      · have l0 : P.length = 0 := by rw [c]; rfl
        refine sq_skipT (S' := [.lst (ds d7), .froz (ds vs)]) ?_ rfl
        generalize hfm : fm = w at *
        simp [dVar, ix, ln, l0]
    · have fl := fam.few
      have ok2 := fam_ok fam s0 mV bb s1 (by rw [lV]; omega)
      have po2 := fam_ps fam s0 mV
      obtain ⟨told2, a, hh, _⟩ := tld_of ok2
      refine ⟨V, P, 2 + P.length, ⟨ok2, po2, told2, a, ?_⟩, fun rest => ?_⟩
      · have g2 : 0 < gF V := by rw [fam_g fam s0 mV]; exact s0
        rcases po2 with ⟨z, _⟩ | ⟨_, pp⟩
        · omega
        · exact fam_told fam s0 mV (hh g2 P pp)
      · have l0 : ¬ P.length = 0 := fun z => c (List.length_eq_zero_iff.mp z)
        refine sq_skipF (S' := [.lst (ds d7), .froz (ds vs)]) ?_
        generalize hfm : fm = w at *
        simp [dVar, ix, ln, c]
  obtain ⟨ok2, po2, told2, tl2, tn2⟩ := fok
  have e11 := r_vtold (a := .d (.list (ds V2))) (S := [.lst (ds d7), .froz (ds vs)]) (.inl rfl) ok2 po2 tl2 pick
  rw [tn2] at e11
  have body : c_law [some (.d (.list (ds ns))), none, none, none, none, none, none, none, none, none] [] = .rt (.d (.bool true)) [.lst (ds d7), .froz (ds vs)] := by
    unfold c_law
    refine (sq_ownT (l := ds dl) (S := []) (by simp [dVar, e0])).trans ?_
    have w6 : ∀ S, vLstD [.d (.int 1), .d (.int 6), .d (.int 2), .d (.int 30), .d (.int 1), .d (.int 5)] S = some (.own [.int 1, .int 6, .int 2, .int 30, .int 1, .int 5], S) := fun S => rfl
    refine (sq_d (S' := [.lst (ds d1)]) (x := .int base) (by simp [dVar, w6, e1, eb])).trans ?_
    refine (sq_ownT (l := []) (S := [.lst (ds d1)]) rfl).trans ?_
    have it : itL (lCons (dBin bAdd (dC (.int 1)) (dCall (arity 2 den_law_take) (lCons (dVar 1) (lCons (dC (.int 7)) lNil)))) lNil) fRng1 [some (.d (.list (ds ns))), some (.ref 0), some (.d (.int base)), some (.ref 1), none, none, none, none, none, none] [.lst (ds d1), .lst []] = .ok (rngL 0 (1 + v2).toNat 1) [.lst (ds d2), .lst []] := by
      refine itL_of (as := [.d (.int (1 + v2))]) (S1 := [.lst (ds d2), .lst []]) (by simp [dVar, e2]) ?_
      show (if -big62 ≤ 1 + v2 ∧ 1 + v2 < big62 then some (rngL 0 (1 + v2).toNat 1, [AO.lst (ds d2), .lst []]) else none) = _
      rw [if_pos (by unfold big62; omega)]
    refine (sq_for it e3).trans ?_
    refine (step5 _).trans ?_
    refine (sq_d (S' := [.lst (ds d5), .lst (ds vs)]) (x := fm) (by simp [dVar, e5]; rfl)).trans ?_
    refine (sq_d (S' := [.lst (ds d6), .lst (ds vs)]) (x := .int pick) (by simp [dVar, e6])).trans ?_
    refine (sq_d (S' := [.lst (ds d6), .froz (ds vs)]) (x := triF vs) (by simp [dVar, e7])).trans ?_
    refine (sq_ownF (l := []) (S := [.lst (ds d6), .froz (ds vs)]) rfl).trans ?_
    refine (step10 _).trans ?_
    refine (sq_skipF (S' := [.lst (ds d7), .froz (ds vs)]) (by simp [dVar, e8])).trans ?_
    refine (sq_skipF (S' := [.lst (ds d7), .froz (ds vs)]) (by simp [dVar, e9, bl, e10])).trans ?_
    refine (step13 _).trans ?_
    have i0 : ∀ S, vIx (.d (.tuple [.list (ds V2), .list (ds (dn P2)), .int (n2 : Nat)])) (.d (.int 0)) S = some (.d (.list (ds V2)), S) := fun S => rfl
    have i1 : ∀ S, vIx (.d (.tuple [.list (ds V2), .list (ds (dn P2)), .int (n2 : Nat)])) (.d (.int 1)) S = some (.d (.list (ds (dn P2))), S) := fun S => rfl
    have i2 : ∀ S, vIx (.d (.tuple [.list (ds V2), .list (ds (dn P2)), .int (n2 : Nat)])) (.d (.int 2)) S = some (.d (.int (n2 : Nat)), S) := fun S => rfl
    generalize PyData.tuple [.list (ds V2), .list (ds (dn P2)), .int (n2 : Nat)] = T2 at *
    simp [dVar, i0, i1, i2, e11, e12]
  refine ⟨[], ?_⟩
  unfold den_law
  show (match c_law [some (.d (.list (ds ns))), none, none, none, none, none, none, none, none, none] [] with | .nx _ S' => ER.ok (.d .none) (S'.take 0) | .rt a S' => finA 0 a S' | .er x _ S' => .err x (S'.take 0) | _ => .stuck) = _
  rw [body]
  rfl
theorem law_true (ns : List Int) (h : ns.length ≤ 63) (hb : ∀ z ∈ ns, Builtin.Int.intBits z ≤ 1048576) : ∃ S, den_law [.d (.list (ns.map PyData.int))] [] = .ok (.d (.bool true)) S := by
  obtain ⟨dl, e0, dr⟩ := r_draws h fun z hz => by
    by_cases z0 : z.natAbs = 0
    · rw [z0]
      exact Nat.zero_le _
    · have := hb z hz
      unfold Builtin.Int.intBits at this
      split at this
      · rename_i q
        have q2 : z = 0 := by simpa using q
        rw [q2] at z0
        exact absurd rfl z0
      · omega
  exact law_run e0 dr
end K74
namespace K74
open PySem PySem.Spec PyProof.Rows L2 Den
def spL (K : PySem.W.Frag) : Sp := fun vs H Q E => ∀ mg, spOf K mg 1 den_law vs H Q E
theorem spL_here (K : PySem.W.Frag) (H : Hp) (a : Addr) (ns : List Int) (h : ns.length ≤ 63) (hb : ∀ z ∈ ns, Builtin.Int.intBits z ≤ 1048576) (hS : SqL K H a (ns.map V.int)) : spL K [.ref a] H (fun v _ => v = .bl true) fun _ _ _ => False := by
  intro mg
  obtain ⟨S, e⟩ := law_true ns h hb
  refine ⟨rfl, H, ⟨[], fun _ => none⟩, [], [.d (.list (ns.map PyData.int))], ⟨Same.refl H, rfl, List.nodup_nil, fun n p o z => (by cases z), fun p o z => (by cases z)⟩, .cons (show Dp _ _ _ _ from .lst hS (dpA_of_ints ns)) .nil, ?_⟩
  rw [e]
  intro F' ρ' H' v t rs rw'
  exact dbool (show Dp _ F' v _ from rw')
theorem ok_spL {P : Program} {w : World} {K : PySem.W.Frag} {mg : Str → Option Value} {base : Heap} {k : Nat} {f : Addr} {fd : FuncData} (F : FnOkG P w K mg base (L2.CX P w) k f fd ["script"] (spOf K mg 1 den_law)) : FnOkG P w K mg base (L2.CX P w) k f fd ["script"] (spL K) :=
  F.imp fun vs H Q E q => q mg
theorem fin {P : Program} {w : World} {K : PySem.W.Frag} {mg : Str → Option Value} {k : Nat} {fa : Addr}
    (h : ∃ fd : FuncData, (∀ (s : Shared) (v : Value), BindsTo s fd ⟨[v], []⟩ [("script", v)]) ∧ ∀ base : Heap, K.In base → base.Ns mainGlobals mg → FnOkG P w K mg base (L2.CX P w) k fa fd ["script"] (spOf K mg 1 den_law)) :
    ∃ fd : FuncData, (∀ (s : Shared) (v : Value), BindsTo s fd ⟨[v], []⟩ [("script", v)]) ∧ ∀ base : Heap, K.In base → base.Ns mainGlobals mg → FnOkG P w K mg base (L2.CX P w) k fa fd ["script"] (spL K) := by
  obtain ⟨fd, hb, hF⟩ := h
  exact ⟨fd, hb, fun base hi hn => ok_spL (hF base hi hn)⟩
end K74
open PySem PySem.W PyProof.Rows
set_option maxHeartbeats 0 in
theorem PySem.Challenge.cw_onlywhatvaries_k74_fewest_for_a_fence_holds : PySem.Challenge.rw_onlywhatvaries_k74_fewest_for_a_fence.Holds := by
  w_on; o_law; k_head; (case hw => w_witness2)
  k_fill
  refine Den.walk_ofG (l := PySem.Challenge.rw_onlywhatvaries_k74_fewest_for_a_fence) (n := 63) (k := 9) (x := "script") (sp := fun w => K74.spL _) rfl (by decide) rfl ⟨rfl, by decide, by decide⟩ (fun w h Y => PySem.W.kIn_of Y) ?F (fun w H a ns h1 h2 _ hS => K74.spL_here _ H a ns h1 h2 hS)
  case F =>
    intro w mg fa h KX G hmg
    refine K74.fin ?_
    refine' K74.all_mk KX G hmg ?z_abs ?z_all ?z_bool ?z_dict ?z_enumerate ?z_int ?z_isinstance ?z_len ?z_list ?z_max ?z_min ?z_range ?z_repr ?z_sorted ?z_str ?z_tuple ?m_gcd ?ea0 ?ea1 ?ea2 ?ea3 ?ea4 ?kx0 ?kt0 ?kh0 ?kx1 ?kt1 ?kh1 ?xl1 ?xv1 ?sa1 ?kp1 ?nf1 ?fi1 ?ti1 ?li1 ?ci1 ?ki1 ?ga1 ?gg1 ?ic1 ?cc1 ?hn1 ?tk1 ?mo1 ?kx2 ?kt2 ?kh2 ?xl2 ?xv2 ?sa2 ?kp2 ?nf2 ?fi2 ?ti2 ?li2 ?ci2 ?ki2 ?ga2 ?gg2 ?ic2 ?cc2 ?hn2 ?tk2 ?mo2 ?kx3 ?kt3 ?kh3 ?xl3 ?xv3 ?sa3 ?kp3 ?nf3 ?fi3 ?ti3 ?li3 ?ci3 ?ki3 ?ga3 ?gg3 ?ic3 ?cc3 ?hn3 ?tk3 ?mo3 ?kx4 ?kt4 ?kh4 ?xl4 ?xv4 ?sa4 ?kp4 ?nf4 ?fi4 ?ti4 ?li4 ?ci4 ?ki4 ?ga4 ?gg4 ?ic4 ?cc4 ?hn4 ?tk4 ?mo4 ?su1_0 ?kk1_0 ?su1_1 ?kk1_1 ?su1_2 ?kk1_2 ?su1_3 ?kk1_3 ?su1_4 ?kk1_4 ?su2_0 ?kk2_0 ?su2_1 ?kk2_1 ?su2_2 ?kk2_2 ?su2_3 ?kk2_3 ?su2_4 ?kk2_4 ?su3_0 ?kk3_0 ?su3_1 ?kk3_1 ?su3_2 ?kk3_2 ?su3_3 ?kk3_3 ?su3_4 ?kk3_4 ?su4_0 ?kk4_0 ?su4_1 ?kk4_1 ?su4_2 ?kk4_2 ?su4_3 ?kk4_3 ?su4_4 ?kk4_4 ?a0 ?l0 ?c0 ?k0 ?a1 ?l1 ?c1 ?k1 ?a2 ?l2 ?c2 ?k2 ?a3 ?l3 ?c3 ?k3 ?a4 ?l4 ?c4 ?k4 ?a5 ?l5 ?c5 ?k5 ?a6 ?l6 ?c6 ?k6 ?a7 ?l7 ?c7 ?k7 ?a8 ?l8 ?c8 ?k8 ?a9 ?l9 ?c9 ?k9 ?a10 ?l10 ?c10 ?k10 ?a11 ?l11 ?c11 ?k11 ?a12 ?l12 ?c12 ?k12 ?a13 ?l13 ?c13 ?k13 ?a14 ?l14 ?c14 ?k14 ?a15 ?l15 ?c15 ?k15 ?a16 ?l16 ?c16 ?k16 ?a17 ?l17 ?c17 ?k17 ?a18 ?l18 ?c18 ?k18 ?a19 ?l19 ?c19 ?k19 ?a20 ?l20 ?c20 ?k20 ?a21 ?l21 ?c21 ?k21 ?a22 ?l22 ?c22 ?k22 ?a23 ?l23 ?c23 ?k23 ?a24 ?l24 ?c24 ?k24 ?a25 ?l25 ?c25 ?k25 ?a26 ?l26 ?c26 ?k26 ?a27 ?l27 ?c27 ?k27 ?a28 ?l28 ?c28 ?k28 ?a29 ?l29 ?c29 ?k29 ?a30 ?l30 ?c30 ?k30
    (case z_abs => first | k_is | rfl)
    (case z_all => first | k_is | rfl)
    (case z_bool => first | k_is | rfl)
    (case z_dict => first | k_is | rfl)
    (case z_enumerate => first | k_is | rfl)
    (case z_int => first | k_is | rfl)
    (case z_isinstance => first | k_is | rfl)
    (case z_len => first | k_is | rfl)
    (case z_list => first | k_is | rfl)
    (case z_max => first | k_is | rfl)
    (case z_min => first | k_is | rfl)
    (case z_range => first | k_is | rfl)
    (case z_repr => first | k_is | rfl)
    (case z_sorted => first | k_is | rfl)
    (case z_str => first | k_is | rfl)
    (case z_tuple => first | k_is | rfl)
    (case m_gcd => first | k_is | rfl)
    (case ea0 => first | k_is | rfl)
    (case ea1 => first | k_is | rfl)
    (case ea2 => first | k_is | rfl)
    (case ea3 => first | k_is | rfl)
    (case ea4 => first | k_is | rfl)
    (case kx0 => first | k_is | rfl)
    (case kt0 => first | k_is | rfl)
    (case kh0 => first | k_is | rfl)
    (case kx1 => first | k_is | rfl)
    (case kt1 => first | k_is | rfl)
    (case kh1 => first | k_is | rfl)
    (case xl1 => first | k_is | rfl)
    (case xv1 => first | k_is | rfl)
    (case sa1 => first | k_is | rfl)
    (case kp1 => first | k_is | rfl)
    (case nf1 => first | k_is | rfl)
    (case fi1 => first | k_is | rfl)
    (case ti1 => first | k_is | rfl)
    (case li1 => first | k_is | rfl)
    (case ci1 => first | k_is | rfl)
    (case ki1 => first | k_is | rfl)
    (case ga1 => first | k_is | rfl)
    (case gg1 => first | k_is | rfl)
    (case ic1 => first | k_is | rfl)
    (case cc1 => first | k_is | rfl)
    (case hn1 => first | k_is | rfl)
    (case tk1 => first | k_is | rfl)
    (case mo1 => first | k_is | rfl)
    (case kx2 => first | k_is | rfl)
    (case kt2 => first | k_is | rfl)
    (case kh2 => first | k_is | rfl)
    (case xl2 => first | k_is | rfl)
    (case xv2 => first | k_is | rfl)
    (case sa2 => first | k_is | rfl)
    (case kp2 => first | k_is | rfl)
    (case nf2 => first | k_is | rfl)
    (case fi2 => first | k_is | rfl)
    (case ti2 => first | k_is | rfl)
    (case li2 => first | k_is | rfl)
    (case ci2 => first | k_is | rfl)
    (case ki2 => first | k_is | rfl)
    (case ga2 => first | k_is | rfl)
    (case gg2 => first | k_is | rfl)
    (case ic2 => first | k_is | rfl)
    (case cc2 => first | k_is | rfl)
    (case hn2 => first | k_is | rfl)
    (case tk2 => first | k_is | rfl)
    (case mo2 => first | k_is | rfl)
    (case kx3 => first | k_is | rfl)
    (case kt3 => first | k_is | rfl)
    (case kh3 => first | k_is | rfl)
    (case xl3 => first | k_is | rfl)
    (case xv3 => first | k_is | rfl)
    (case sa3 => first | k_is | rfl)
    (case kp3 => first | k_is | rfl)
    (case nf3 => first | k_is | rfl)
    (case fi3 => first | k_is | rfl)
    (case ti3 => first | k_is | rfl)
    (case li3 => first | k_is | rfl)
    (case ci3 => first | k_is | rfl)
    (case ki3 => first | k_is | rfl)
    (case ga3 => first | k_is | rfl)
    (case gg3 => first | k_is | rfl)
    (case ic3 => first | k_is | rfl)
    (case cc3 => first | k_is | rfl)
    (case hn3 => first | k_is | rfl)
    (case tk3 => first | k_is | rfl)
    (case mo3 => first | k_is | rfl)
    (case kx4 => first | k_is | rfl)
    (case kt4 => first | k_is | rfl)
    (case kh4 => first | k_is | rfl)
    (case xl4 => first | k_is | rfl)
    (case xv4 => first | k_is | rfl)
    (case sa4 => first | k_is | rfl)
    (case kp4 => first | k_is | rfl)
    (case nf4 => first | k_is | rfl)
    (case fi4 => first | k_is | rfl)
    (case ti4 => first | k_is | rfl)
    (case li4 => first | k_is | rfl)
    (case ci4 => first | k_is | rfl)
    (case ki4 => first | k_is | rfl)
    (case ga4 => first | k_is | rfl)
    (case gg4 => first | k_is | rfl)
    (case ic4 => first | k_is | rfl)
    (case cc4 => first | k_is | rfl)
    (case hn4 => first | k_is | rfl)
    (case tk4 => first | k_is | rfl)
    (case mo4 => first | k_is | rfl)
    (case su1_0 => first | k_is | rfl)
    (case kk1_0 => first | k_is | rfl)
    (case su1_1 => first | k_is | rfl)
    (case kk1_1 => first | k_is | rfl)
    (case su1_2 => first | k_is | rfl)
    (case kk1_2 => first | k_is | rfl)
    (case su1_3 => first | k_is | rfl)
    (case kk1_3 => first | k_is | rfl)
    (case su1_4 => first | k_is | rfl)
    (case kk1_4 => first | k_is | rfl)
    (case su2_0 => first | k_is | rfl)
    (case kk2_0 => first | k_is | rfl)
    (case su2_1 => first | k_is | rfl)
    (case kk2_1 => first | k_is | rfl)
    (case su2_2 => first | k_is | rfl)
    (case kk2_2 => first | k_is | rfl)
    (case su2_3 => first | k_is | rfl)
    (case kk2_3 => first | k_is | rfl)
    (case su2_4 => first | k_is | rfl)
    (case kk2_4 => first | k_is | rfl)
    (case su3_0 => first | k_is | rfl)
    (case kk3_0 => first | k_is | rfl)
    (case su3_1 => first | k_is | rfl)
    (case kk3_1 => first | k_is | rfl)
    (case su3_2 => first | k_is | rfl)
    (case kk3_2 => first | k_is | rfl)
    (case su3_3 => first | k_is | rfl)
    (case kk3_3 => first | k_is | rfl)
    (case su3_4 => first | k_is | rfl)
    (case kk3_4 => first | k_is | rfl)
    (case su4_0 => first | k_is | rfl)
    (case kk4_0 => first | k_is | rfl)
    (case su4_1 => first | k_is | rfl)
    (case kk4_1 => first | k_is | rfl)
    (case su4_2 => first | k_is | rfl)
    (case kk4_2 => first | k_is | rfl)
    (case su4_3 => first | k_is | rfl)
    (case kk4_3 => first | k_is | rfl)
    (case su4_4 => first | k_is | rfl)
    (case kk4_4 => first | k_is | rfl)
    (case a0 => first | k_is | rfl)
    (case l0 => first | k_is | rfl)
    (case c0 => first | k_is | rfl)
    (case k0 => first | k_is | rfl)
    (case a1 => first | k_is | rfl)
    (case l1 => first | k_is | rfl)
    (case c1 => first | k_is | rfl)
    (case k1 => first | k_is | rfl)
    (case a2 => first | k_is | rfl)
    (case l2 => first | k_is | rfl)
    (case c2 => first | k_is | rfl)
    (case k2 => first | k_is | rfl)
    (case a3 => first | k_is | rfl)
    (case l3 => first | k_is | rfl)
    (case c3 => first | k_is | rfl)
    (case k3 => first | k_is | rfl)
    (case a4 => first | k_is | rfl)
    (case l4 => first | k_is | rfl)
    (case c4 => first | k_is | rfl)
    (case k4 => first | k_is | rfl)
    (case a5 => first | k_is | rfl)
    (case l5 => first | k_is | rfl)
    (case c5 => first | k_is | rfl)
    (case k5 => first | k_is | rfl)
    (case a6 => first | k_is | rfl)
    (case l6 => first | k_is | rfl)
    (case c6 => first | k_is | rfl)
    (case k6 => first | k_is | rfl)
    (case a7 => first | k_is | rfl)
    (case l7 => first | k_is | rfl)
    (case c7 => first | k_is | rfl)
    (case k7 => first | k_is | rfl)
    (case a8 => first | k_is | rfl)
    (case l8 => first | k_is | rfl)
    (case c8 => first | k_is | rfl)
    (case k8 => first | k_is | rfl)
    (case a9 => first | k_is | rfl)
    (case l9 => first | k_is | rfl)
    (case c9 => first | k_is | rfl)
    (case k9 => first | k_is | rfl)
    (case a10 => first | k_is | rfl)
    (case l10 => first | k_is | rfl)
    (case c10 => first | k_is | rfl)
    (case k10 => first | k_is | rfl)
    (case a11 => first | k_is | rfl)
    (case l11 => first | k_is | rfl)
    (case c11 => first | k_is | rfl)
    (case k11 => first | k_is | rfl)
    (case a12 => first | k_is | rfl)
    (case l12 => first | k_is | rfl)
    (case c12 => first | k_is | rfl)
    (case k12 => first | k_is | rfl)
    (case a13 => first | k_is | rfl)
    (case l13 => first | k_is | rfl)
    (case c13 => first | k_is | rfl)
    (case k13 => first | k_is | rfl)
    (case a14 => first | k_is | rfl)
    (case l14 => first | k_is | rfl)
    (case c14 => first | k_is | rfl)
    (case k14 => first | k_is | rfl)
    (case a15 => first | k_is | rfl)
    (case l15 => first | k_is | rfl)
    (case c15 => first | k_is | rfl)
    (case k15 => first | k_is | rfl)
    (case a16 => first | k_is | rfl)
    (case l16 => first | k_is | rfl)
    (case c16 => first | k_is | rfl)
    (case k16 => first | k_is | rfl)
    (case a17 => first | k_is | rfl)
    (case l17 => first | k_is | rfl)
    (case c17 => first | k_is | rfl)
    (case k17 => first | k_is | rfl)
    (case a18 => first | k_is | rfl)
    (case l18 => first | k_is | rfl)
    (case c18 => first | k_is | rfl)
    (case k18 => first | k_is | rfl)
    (case a19 => first | k_is | rfl)
    (case l19 => first | k_is | rfl)
    (case c19 => first | k_is | rfl)
    (case k19 => first | k_is | rfl)
    (case a20 => first | k_is | rfl)
    (case l20 => first | k_is | rfl)
    (case c20 => first | k_is | rfl)
    (case k20 => first | k_is | rfl)
    (case a21 => first | k_is | rfl)
    (case l21 => first | k_is | rfl)
    (case c21 => first | k_is | rfl)
    (case k21 => first | k_is | rfl)
    (case a22 => first | k_is | rfl)
    (case l22 => first | k_is | rfl)
    (case c22 => first | k_is | rfl)
    (case k22 => first | k_is | rfl)
    (case a23 => first | k_is | rfl)
    (case l23 => first | k_is | rfl)
    (case c23 => first | k_is | rfl)
    (case k23 => first | k_is | rfl)
    (case a24 => first | k_is | rfl)
    (case l24 => first | k_is | rfl)
    (case c24 => first | k_is | rfl)
    (case k24 => first | k_is | rfl)
    (case a25 => first | k_is | rfl)
    (case l25 => first | k_is | rfl)
    (case c25 => first | k_is | rfl)
    (case k25 => first | k_is | rfl)
    (case a26 => first | k_is | rfl)
    (case l26 => first | k_is | rfl)
    (case c26 => first | k_is | rfl)
    (case k26 => first | k_is | rfl)
    (case a27 => first | k_is | rfl)
    (case l27 => first | k_is | rfl)
    (case c27 => first | k_is | rfl)
    (case k27 => first | k_is | rfl)
    (case a28 => first | k_is | rfl)
    (case l28 => first | k_is | rfl)
    (case c28 => first | k_is | rfl)
    (case k28 => first | k_is | rfl)
    (case a29 => first | k_is | rfl)
    (case l29 => first | k_is | rfl)
    (case c29 => first | k_is | rfl)
    (case k29 => first | k_is | rfl)
    (case a30 => first | k_is | rfl)
    (case l30 => first | k_is | rfl)
    (case c30 => first | k_is | rfl)
    (case k30 => first | k_is | rfl)
