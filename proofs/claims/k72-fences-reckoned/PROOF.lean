import PyProof.Rows.All
import HandS.ForExc
import HandS.Comp
import HandS.Iter
import HandS.Style
import HandS.TupAny
import HandS.TupLe
import HandS.IsInst
import HandS.NoneIn
import HandS.Gcd
import HandS.Wide
import HandS.ExcInit
import HandS.ExcField
import HandS.ExcIs
import HandS.CallSlots
import HandS.TryMany
import HandS.Flow
import KE.KMathG
import KE.DataMinMax
import KE.KExcIs
import HandS.ExcOwn
import HandS.WordsExc
import HandS.Conv
import KE.GoesEnum
import PySem.Challenge.RW_onlywhatvaries_k72_fences_reckoned
import Wide.All
import OpenK.AllK
import Wide.FinOn
import HandS.EndBits
set_option Elab.async false
set_option linter.all false
set_option maxRecDepth 100000
set_option maxHeartbeats 0
/-! Den1: data trees, a small store, what stands for what (my own layer over the hand layer). -/
namespace Den
open PySem PySem.Spec PyProof.Rows L2

abbrev D := PyData
structure Exc where
  cls : Str
  fld : Str
  val : D
/-- a value: data that never changes | a list of the store | a fresh list on its way | the caught error -/
inductive AV where
  | d (x : D) | ref (n : Nat) | own (l : List D) | exc (x : Exc)
/-- a list that may change | one that is read only from here on -/
inductive AO where
  | lst (l : List D) | froz (l : List D)
abbrev AS := List AO
abbrev ASt := List (Option AV)
inductive ER where
  | ok (a : AV) (S : AS) | err (x : Exc) (S : AS) | stuck
inductive SR where
  | nx (σ : ASt) (S : AS) | rt (a : AV) (S : AS) | bk (σ : ASt) (S : AS) | ct (σ : ASt) (S : AS) | er (x : Exc) (σ : ASt) (S : AS) | stuck
abbrev Dn := ASt → AS → ER
abbrev Sn := ASt → AS → SR
abbrev VR := Option (AV × AS)

/-! ### what stands for what -/
structure Zp where
  K : PySem.W.Frag
  mg : Str → Option Value
  ex : Option (Addr × Value × Option Addr)

section mono
variable {K : PySem.W.Frag} {F F' : Hp}
theorem Same.seqT {a : Addr} {xs : List V} (e : Same F F') (h : SqT K F a xs) : SqT K F' a xs := by
  rcases h with (h | ⟨o, h⟩) | h
  · exact .inl (.inl (e _ _ h))
  · exact .inl (.inr ⟨o, e _ _ h⟩)
  · exact .inr h
mutual
theorem dp_mono (e : Same F F') : ∀ (x : D) (v : V), Dp K F v x → Dp K F' v x
  | .none, _, h => by cases h; exact .non
  | .bool _, _, h => by cases h; exact .bl _
  | .int _, _, h => by cases h; exact .int _
  | .str _, _, h => by cases h; exact .str _
  | .list l, _, h => by
    cases h with
    | lst h1 h2 => exact .lst (e.seq h1) (dpA_mono e l _ h2)
  | .tuple l, _, h => by
    cases h with
    | tup h1 h2 => exact .tup (Same.seqT e h1) (dpA_mono e l _ h2)
  | .dict _, _, h => by cases h
theorem dpA_mono (e : Same F F') : ∀ (l : List D) (vs : List V), DpAll K F vs l → DpAll K F' vs l
  | [], _, h => by cases h; exact .nil
  | x :: l, _, h => by
    cases h with
    | cons h1 h2 => exact .cons (dp_mono e x _ h1) (dpA_mono e l _ h2)
end
theorem dpA_len {vs : List V} : ∀ {l : List D}, DpAll K F vs l → vs.length = l.length := by
  induction vs with
  | nil => intro l h; cases h; rfl
  | cons v vs ih =>
    intro l h
    cases h with
    | cons h1 h2 => rw [List.length_cons, List.length_cons, ih h2]
theorem dpA_get : ∀ {vs : List V} {l : List D} {i : Nat} {x : D}, DpAll K F vs l → l[i]? = some x → ∃ v, vs[i]? = some v ∧ Dp K F v x
  | [], _, _, _, h, e => by cases h; simp at e
  | v :: vs, _, 0, x, h, e => by
    cases h with
    | cons h1 h2 =>
      have e' : _ = x := Option.some.inj e
      subst e'
      exact ⟨v, rfl, h1⟩
  | v :: vs, _, i + 1, x, h, e => by
    cases h with
    | cons h1 h2 => exact dpA_get (i := i) h2 e
theorem dpA_app : ∀ {vs ws : List V} {l m : List D}, DpAll K F vs l → DpAll K F ws m → DpAll K F (vs ++ ws) (l ++ m)
  | [], _, _, _, h, k => by cases h; exact k
  | v :: vs, _, _, _, h, k => by
    cases h with
    | cons h1 h2 => exact .cons h1 (dpA_app h2 k)
theorem dpA_take : ∀ {vs : List V} {l : List D} (n : Nat), DpAll K F vs l → DpAll K F (vs.take n) (l.take n)
  | _, _, 0, _ => .nil
  | [], _, n + 1, h => by cases h; exact .nil
  | v :: vs, _, n + 1, h => by
    cases h with
    | cons h1 h2 => exact .cons h1 (dpA_take n h2)
theorem dpA_drop : ∀ {vs : List V} {l : List D} (n : Nat), DpAll K F vs l → DpAll K F (vs.drop n) (l.drop n)
  | _, _, 0, h => h
  | [], _, n + 1, h => by cases h; exact .nil
  | v :: vs, _, n + 1, h => by
    cases h with
    | cons h1 h2 => exact dpA_drop n h2
theorem dpA_rev : ∀ {vs : List V} {l : List D}, DpAll K F vs l → DpAll K F vs.reverse l.reverse
  | [], _, h => by cases h; exact .nil
  | v :: vs, _, h => by
    cases h with
    | cons h1 h2 =>
      rw [List.reverse_cons, List.reverse_cons]
      exact dpA_app (dpA_rev h2) (.cons h1 .nil)
theorem dpA_dropLast {vs : List V} {l : List D} (h : DpAll K F vs l) : DpAll K F vs.dropLast l.dropLast := by
  rw [List.dropLast_eq_take, List.dropLast_eq_take, dpA_len h]
  exact dpA_take _ h
theorem dpA_set : ∀ {vs : List V} {l : List D} (n : Nat) {v : V} {x : D}, DpAll K F vs l → Dp K F v x → DpAll K F (vs.set n v) (l.set n x)
  | [], _, _, _, _, h, _ => by cases h; exact .nil
  | u :: vs, _, 0, _, _, h, k => by
    cases h with
    | cons h1 h2 => exact .cons k h2
  | u :: vs, _, n + 1, _, _, h, k => by
    cases h with
    | cons h1 h2 => exact .cons h1 (dpA_set n h2 k)
theorem dpA_ints : ∀ {ns : List Int} {vs : List V}, DpAll K F vs (ns.map PyData.int) → vs = ns.map V.int
  | [], _, h => by cases h; rfl
  | n :: ns, _, h => by
    cases h with
    | cons h1 h2 =>
      cases h1
      rw [dpA_ints h2]
      rfl
theorem dpA_of_ints : ∀ (ns : List Int), DpAll K F (ns.map V.int) (ns.map PyData.int)
  | [] => .nil
  | n :: ns => .cons (.int n) (dpA_of_ints ns)
end mono

/-- where the store's lists lie; what is pinned beside them -/
structure Rh where
  l : List Addr
  G : Hp
def ObK (K : PySem.W.Frag) (F H : Hp) (p : Addr) : AO → Prop
  | .lst l => F p = none ∧ ∃ vs, H p = some (.lst vs) ∧ DpAll K F vs l
  | .froz l => ∃ vs, F p = some (.lst vs) ∧ DpAll K F vs l
structure RS (K : PySem.W.Frag) (F : Hp) (ρ : Rh) (S : AS) (H : Hp) : Prop where
  sub : Same F H
  len : ρ.l.length = S.length
  nd : ρ.l.Nodup
  ob : ∀ (n : Nat) (p : Addr) (o : AO), ρ.l[n]? = some p → S[n]? = some o → ObK K F H p o
  pin : ∀ (p : Addr) (o : HO), ρ.G p = some o → H p = some o ∧ F p = none ∧ p ∉ ρ.l
def RepX (Z : Zp) (F : Hp) (x : Exc) (cls : Value) (d : Option Addr) : Prop :=
  ∃ C dd v, cls = Value.ref C ∧ Z.mg x.cls = some (.ref C) ∧ d = some dd ∧ F dd = some (.xd [(x.fld, v)]) ∧ Dp Z.K F v x.val
def RepV (Z : Zp) (F : Hp) (ρ : Rh) : AV → V → Prop
  | .d x, v => Dp Z.K F v x
  | .ref n, v => ∃ p, ρ.l[n]? = some p ∧ v = .ref p
  | .own _, _ => False
  | .exc x, v => ∃ a cls d, Z.ex = some (a, cls, d) ∧ v = .ref a ∧ RepX Z F x cls d
def RepW (Z : Zp) (F : Hp) (ρ : Rh) (H : Hp) : AV → V → Prop
  | .own l, v => ∃ p vs, v = .ref p ∧ p ∉ ρ.l ∧ F p = none ∧ ρ.G p = none ∧ H p = some (.lst vs) ∧ DpAll Z.K F vs l
  | a, v => RepV Z F ρ a v
structure RSt (Z : Zp) (F : Hp) (ρ : Rh) (aσ : ASt) (σ : L2.St) : Prop where
  len : aσ.length = σ.length
  at_ : ∀ (i : Nat) (a : AV), aσ[i]? = some (some a) → ∃ v, σ[i]? = some (some v) ∧ RepV Z F ρ a v
structure Tr (F : Hp) (ρ : Rh) (F' : Hp) (ρ' : Rh) : Prop where
  same : Same F F'
  pre : ρ.l <+: ρ'.l
  g : ρ'.G = ρ.G
theorem Tr.refl {F : Hp} {ρ : Rh} : Tr F ρ F ρ := ⟨Same.refl F, List.prefix_refl ρ.l, rfl⟩
theorem Tr.sam {F F' : Hp} {ρ : Rh} (h : Same F F') : Tr F ρ F' ρ := ⟨h, List.prefix_refl ρ.l, rfl⟩
theorem Tr.trans {F F1 F2 : Hp} {ρ ρ1 ρ2 : Rh} (a : Tr F ρ F1 ρ1) (b : Tr F1 ρ1 F2 ρ2) : Tr F ρ F2 ρ2 := ⟨a.same.trans b.same, a.pre.trans b.pre, b.g.trans a.g⟩
theorem pre_get {ρ ρ' : List Addr} {n : Nat} {p : Addr} (h : ρ <+: ρ') (e : ρ[n]? = some p) : ρ'[n]? = some p := by
  obtain ⟨t, rfl⟩ := h
  rw [List.getElem?_append_left (List.getElem?_eq_some_iff.mp e).1]
  exact e

section rel
variable {Z : Zp} {F F' H H' : Hp} {ρ ρ' : Rh} {S : AS} {a : AV} {v : V} {aσ : ASt} {σ : L2.St}
theorem RepX.mono {x : Exc} {cls : Value} {d : Option Addr} (e : Same F F') (h : RepX Z F x cls d) : RepX Z F' x cls d := by
  obtain ⟨C, dd, v, h1, h2, h3, h4, h5⟩ := h
  exact ⟨C, dd, v, h1, h2, h3, e _ _ h4, dp_mono e _ _ h5⟩
theorem RepV.mono (t : Tr F ρ F' ρ') (h : RepV Z F ρ a v) : RepV Z F' ρ' a v := by
  cases a with
  | d x => exact dp_mono t.same x v h
  | ref n =>
    obtain ⟨p, h1, h2⟩ := h
    exact ⟨p, pre_get t.pre h1, h2⟩
  | own l => exact h
  | exc x =>
    obtain ⟨a, cls, d, h1, h2, h3⟩ := h
    exact ⟨a, cls, d, h1, h2, h3.mono t.same⟩
theorem RepV.w (h : RepV Z F ρ a v) : RepW Z F ρ H a v := by
  cases a with
  | own l => exact h.elim
  | _ => exact h
theorem RSt.mono (t : Tr F ρ F' ρ') (h : RSt Z F ρ aσ σ) : RSt Z F' ρ' aσ σ := ⟨h.len, fun i a e => by
  obtain ⟨v, h1, h2⟩ := h.at_ i a e
  exact ⟨v, h1, h2.mono t⟩⟩
theorem RSt.set {i : Nat} (h : RSt Z F ρ aσ σ) (r : RepV Z F ρ a v) : RSt Z F ρ (aσ.set i (some a)) (σ.set i (some v)) := by
  refine ⟨by rw [List.length_set, List.length_set, h.len], fun j b e => ?_⟩
  by_cases hj : i = j
  · subst hj
    by_cases hl : i < aσ.length
    · rw [List.getElem?_set_self hl] at e
      cases e
      exact ⟨v, List.getElem?_set_self (by rw [← h.len]; exact hl), r⟩
    · rw [List.getElem?_eq_none (by rw [List.length_set]; omega)] at e
      cases e
  · rw [List.getElem?_set_ne hj] at e ⊢
    exact h.at_ j b e
theorem RSt.clear {i : Nat} (h : RSt Z F ρ aσ σ) : RSt Z F ρ (aσ.set i none) (σ.set i none) := by
  refine ⟨by rw [List.length_set, List.length_set, h.len], fun j b e => ?_⟩
  by_cases hj : i = j
  · subst hj
    by_cases hl : i < aσ.length
    · rw [List.getElem?_set_self hl] at e
      cases e
    · rw [List.getElem?_eq_none (by rw [List.length_set]; omega)] at e
      cases e
  · rw [List.getElem?_set_ne hj] at e ⊢
    exact h.at_ j b e
theorem Same.trans' {F F1 F2 : Hp} (a : Same F F1) (b : Same F1 F2) : Same F F2 := a.trans b
theorem same_upd {p : Addr} {o : HO} (h : F p = none) : Same F (upd F p o) := fun b u e => by
  rw [upd_ne (ne_of_none e h)]
  exact e
theorem ObK.monoF {p : Addr} {o : AO} (e : Same F F') (h : ObK Z.K F H p o) (hn : ∀ l, o = .lst l → F' p = none) (hk : ∀ u, H p = some u → H' p = some u) : ObK Z.K F' H' p o := by
  cases o with
  | lst l =>
    obtain ⟨h1, vs, h2, h3⟩ := h
    exact ⟨hn l rfl, vs, hk _ h2, dpA_mono e _ _ h3⟩
  | froz l =>
    obtain ⟨vs, h2, h3⟩ := h
    exact ⟨vs, e _ _ h2, dpA_mono e _ _ h3⟩
theorem RS.there (r : RS Z.K F ρ S H) {n : Nat} {p : Addr} (h : ρ.l[n]? = some p) : ∃ u, H p = some u := by
  have hn : n < S.length := by rw [← r.len]; exact (List.getElem?_eq_some_iff.mp h).1
  have q := r.ob n p S[n] h (List.getElem?_eq_getElem hn)
  cases e : S[n] with
  | lst l =>
    rw [e] at q
    obtain ⟨_, vs, h2, _⟩ := q
    exact ⟨_, h2⟩
  | froz l =>
    rw [e] at q
    obtain ⟨vs, h2, _⟩ := q
    exact ⟨_, r.sub _ _ h2⟩
theorem RS.fresh (r : RS Z.K F ρ S H) {p : Addr} (h : H p = none) : F p = none := r.sub.free h
theorem RS.gfree (r : RS Z.K F ρ S H) {p : Addr} (h : H p = none) : ρ.G p = none := by
  cases e : ρ.G p with
  | none => rfl
  | some o =>
    rw [(r.pin p o e).1] at h
    cases h
theorem RS.notin (r : RS Z.K F ρ S H) {p : Addr} (h : H p = none) : p ∉ ρ.l := fun hp => by
  obtain ⟨n, hn⟩ := List.mem_iff_getElem?.mp hp
  obtain ⟨u, e⟩ := r.there hn
  rw [h] at e
  cases e
/-- a new thing stands in the heap, nobody knows it -/
theorem RS.newH (r : RS Z.K F ρ S H) {p : Addr} {o : HO} (h : H p = none) : RS Z.K F ρ S (upd H p o) := by
  refine ⟨fun b u e => ?_, r.len, r.nd, fun n q u h1 h2 => (r.ob n q u h1 h2).monoF (Same.refl F) (fun l e => ?_) fun w e => ?_, fun q u e => ?_⟩
  · rw [upd_ne (ne_of_none (r.sub b u e) h)]
    exact r.sub b u e
  · subst e
    exact (r.ob n q _ h1 h2).1
  · rw [upd_ne (ne_of_none e h)]
    exact e
  · obtain ⟨h1, h2, h3⟩ := r.pin q u e
    exact ⟨by rw [upd_ne (ne_of_none h1 h)]; exact h1, h2, h3⟩
/-- a thing of the heap that is no list of the store is known for good -/
theorem RS.know (r : RS Z.K F ρ S H) {p : Addr} {o : HO} (h : H p = some o) (hn : F p = none) (hp : p ∉ ρ.l) (hG : ρ.G p = none) : RS Z.K (upd F p o) ρ S H := by
  refine ⟨fun b u e => ?_, r.len, r.nd, fun n q u h1 h2 => (r.ob n q u h1 h2).monoF (same_upd hn) (fun l e => ?_) fun w e => e, fun q u e => ?_⟩
  · by_cases hb : b = p
    · subst hb
      rw [upd_same] at e
      cases e
      exact h
    · rw [upd_ne hb] at e
      exact r.sub b u e
  · subst e
    have hq : q ≠ p := fun z => hp (z ▸ List.mem_of_getElem? h1)
    rw [upd_ne hq]
    exact (r.ob n q _ h1 h2).1
  · obtain ⟨h1, h2, h3⟩ := r.pin q u e
    exact ⟨h1, by rw [upd_ne (ne_of_none e hG)]; exact h2, h3⟩
theorem RS.newF (r : RS Z.K F ρ S H) {p : Addr} {o : HO} (h : H p = none) : RS Z.K (upd F p o) ρ S (upd H p o) :=
  (r.newH h).know upd_same (r.fresh h) (r.notin h) (r.gfree h)
theorem RS.push (r : RS Z.K F ρ S H) {p : Addr} {vs : List V} {l : List D} (hp : p ∉ ρ.l) (hn : F p = none) (hG : ρ.G p = none) (h : H p = some (.lst vs)) (k : DpAll Z.K F vs l) : RS Z.K F ⟨ρ.l ++ [p], ρ.G⟩ (S ++ [.lst l]) H := by
  refine ⟨r.sub, by simp [r.len], List.nodup_append.mpr ⟨r.nd, by simp, fun a ha b hb e => ?_⟩, fun n q u h1 h2 => ?_, fun q u e => ?_⟩
  · have : b = p := by simpa using hb
    subst this
    subst e
    exact hp ha
  · have h1 : (ρ.l ++ [p])[n]? = some q := h1
    by_cases hl : n < ρ.l.length
    · rw [List.getElem?_append_left hl] at h1
      rw [List.getElem?_append_left (by rw [← r.len]; exact hl)] at h2
      exact r.ob n q u h1 h2
    · rw [List.getElem?_append_right (by omega)] at h1
      rw [List.getElem?_append_right (by rw [← r.len]; omega), ← r.len] at h2
      obtain ⟨i, hi⟩ : ∃ i, n - ρ.l.length = i := ⟨_, rfl⟩
      rw [hi] at h1 h2
      cases i with
      | zero =>
        cases Option.some.inj h1
        cases Option.some.inj h2
        exact ⟨hn, vs, h, k⟩
      | succ i => simp at h1
  · obtain ⟨h1, h2, h3⟩ := r.pin q u e
    refine ⟨h1, h2, fun z => ?_⟩
    rcases List.mem_append.mp z with z | z
    · exact h3 z
    · have : q = p := by simpa using z
      subst this
      rw [hG] at e
      cases e
theorem RS.cut (r : RS Z.K F ρ S H) (h : ρ'.l <+: ρ.l) (hg : ρ'.G = ρ.G) : RS Z.K F ρ' (S.take ρ'.l.length) H := by
  obtain ⟨t, ht⟩ := h
  have hl := r.len
  have hnd := r.nd
  rw [← ht] at hnd
  rw [← ht, List.length_append] at hl
  refine ⟨r.sub, by rw [List.length_take]; omega, (List.nodup_append.mp hnd).1, fun n q u h1 h2 => ?_, fun q u e => ?_⟩
  · have hn := (List.getElem?_eq_some_iff.mp h1).1
    rw [List.getElem?_take_of_lt hn] at h2
    exact r.ob n q u (by rw [← ht, List.getElem?_append_left hn]; exact h1) h2
  · rw [hg] at e
    obtain ⟨h1, h2, h3⟩ := r.pin q u e
    exact ⟨h1, h2, fun z => h3 (by rw [← ht]; exact List.mem_append_left _ z)⟩
theorem nd_ne {l : List Addr} (nd : l.Nodup) {n m : Nat} {p q : Addr} (hp : l[n]? = some p) (hq : l[m]? = some q) (h : n ≠ m) : q ≠ p := fun z => h (by
  subst z
  obtain ⟨i1, e1⟩ := List.getElem?_eq_some_iff.mp hp
  obtain ⟨i2, e2⟩ := List.getElem?_eq_some_iff.mp hq
  exact (List.getElem_inj nd).mp (e1.trans e2.symm))
/-- a list of the store changes -/
theorem RS.mut (r : RS Z.K F ρ S H) {n : Nat} {p : Addr} {l0 l : List D} {vs : List V} (hp : ρ.l[n]? = some p) (hS : S[n]? = some (.lst l0)) (k : DpAll Z.K F vs l) : RS Z.K F ρ (S.set n (.lst l)) (upd H p (.lst vs)) := by
  have hF : F p = none := (r.ob n p _ hp hS).1
  have hn : n < S.length := (List.getElem?_eq_some_iff.mp hS).1
  refine ⟨fun b u e => ?_, by rw [List.length_set]; exact r.len, r.nd, fun m q u h1 h2 => ?_, fun q u e => ?_⟩
  · rw [upd_ne (ne_of_none e hF)]
    exact r.sub b u e
  · by_cases hm : n = m
    · subst hm
      rw [hp] at h1
      cases h1
      rw [List.getElem?_set_self hn] at h2
      cases h2
      exact ⟨hF, vs, upd_same, k⟩
    · rw [List.getElem?_set_ne hm] at h2
      have hq : q ≠ p := nd_ne r.nd hp h1 hm
      refine (r.ob m q u h1 h2).monoF (Same.refl F) (fun l e => ?_) fun w e => by rw [upd_ne hq]; exact e
      subst e
      exact (r.ob m q _ h1 h2).1
  · obtain ⟨h1, h2, h3⟩ := r.pin q u e
    exact ⟨by rw [upd_ne (fun z : q = p => h3 (by rw [z]; exact List.mem_of_getElem? hp))]; exact h1, h2, h3⟩
/-- a list of the store is frozen where it stands -/
theorem RS.frz (r : RS Z.K F ρ S H) {n : Nat} {p : Addr} {l : List D} (hp : ρ.l[n]? = some p) (hS : S[n]? = some (.lst l)) :
    ∃ vs, F p = none ∧ H p = some (.lst vs) ∧ DpAll Z.K F vs l ∧ RS Z.K (upd F p (.lst vs)) ρ (S.set n (.froz l)) H := by
  obtain ⟨hF, vs, hH, k⟩ := r.ob n p _ hp hS
  have hn : n < S.length := (List.getElem?_eq_some_iff.mp hS).1
  refine ⟨vs, hF, hH, k, fun b u e => ?_, by rw [List.length_set]; exact r.len, r.nd, fun m q u h1 h2 => ?_, fun q u e => ?_⟩
  · by_cases hb : b = p
    · subst hb
      rw [upd_same] at e
      cases e
      exact hH
    · rw [upd_ne hb] at e
      exact r.sub b u e
  · by_cases hm : n = m
    · subst hm
      rw [hp] at h1
      cases h1
      rw [List.getElem?_set_self hn] at h2
      cases h2
      exact ⟨vs, upd_same, dpA_mono (same_upd hF) _ _ k⟩
    · rw [List.getElem?_set_ne hm] at h2
      have hq : q ≠ p := nd_ne r.nd hp h1 hm
      refine (r.ob m q u h1 h2).monoF (same_upd hF) (fun l e => ?_) fun w e => e
      subst e
      rw [upd_ne hq]
      exact (r.ob m q _ h1 h2).1
  · obtain ⟨h1, h2, h3⟩ := r.pin q u e
    exact ⟨h1, by rw [upd_ne (fun z : q = p => h3 (by rw [z]; exact List.mem_of_getElem? hp))]; exact h2, h3⟩
/-! pins -/
theorem RS.pinUp (r : RS Z.K F ρ S H) {p : Addr} {o : HO} (h : H p = some o) (hn : F p = none) (hp : p ∉ ρ.l) : RS Z.K F ⟨ρ.l, upd ρ.G p o⟩ S H := by
  refine ⟨r.sub, r.len, r.nd, r.ob, fun q u e => ?_⟩
  have e : upd ρ.G p o q = some u := e
  by_cases hq : q = p
  · subst hq
    rw [upd_same] at e
    cases e
    exact ⟨h, hn, hp⟩
  · rw [upd_ne hq] at e
    exact r.pin q u e
theorem RS.unpin {G : Hp} (r : RS Z.K F ρ S H) (h : ∀ q o, G q = some o → ρ.G q = some o) : RS Z.K F ⟨ρ.l, G⟩ S H := ⟨r.sub, r.len, r.nd, r.ob, fun q u e => r.pin q u (h q u e)⟩
theorem RS.pinSet (r : RS Z.K F ρ S H) {p : Addr} {o : HO} (e : ρ.G p = some o) (o' : HO) : RS Z.K F ⟨ρ.l, upd ρ.G p o'⟩ S (upd H p o') := by
  obtain ⟨h1, h2, h3⟩ := r.pin p o e
  refine ⟨fun b u e => ?_, r.len, r.nd, fun n q u h1 k2 => (r.ob n q u h1 k2).monoF (Same.refl F) (fun l e => ?_) fun w e => ?_, fun q u e => ?_⟩
  · rw [upd_ne (ne_of_none e h2)]
    exact r.sub b u e
  · subst e
    exact (r.ob n q _ h1 k2).1
  · rw [upd_ne (fun z : q = p => h3 (by rw [← z]; exact List.mem_of_getElem? h1))]
    exact e
  · have e : upd ρ.G p o' q = some u := e
    by_cases hq : q = p
    · subst hq
      rw [upd_same] at e ⊢
      cases e
      exact ⟨rfl, h2, h3⟩
    · rw [upd_ne hq] at e ⊢
      exact r.pin q u e
end rel

/-! ### results -/
def AV.fz : AV → AV
  | .own l => .d (.list l)
  | a => a
def ER.bind (r : ER) (f : AV → AS → ER) : ER := match r with
  | .ok a S => f a.fz S
  | .err x S => .err x S
  | .stuck => .stuck
def liftV : VR → ER
  | some (a, S) => .ok a S
  | none => .stuck
section post
variable {Z : Zp} {W : WX} {σ : L2.St} {F F1 H : Hp} {ρ ρ1 : Rh} {S : AS} {Q Q' : VK} {r : ER} {a : AV} {v : V}
theorem fzW (rs : RS Z.K F ρ S H) (h : RepW Z F ρ H a v) : ∃ F', Same F F' ∧ RS Z.K F' ρ S H ∧ RepV Z F' ρ a.fz v := by
  cases a with
  | d x => exact ⟨F, Same.refl F, rs, h⟩
  | ref n => exact ⟨F, Same.refl F, rs, h⟩
  | exc x => exact ⟨F, Same.refl F, rs, h⟩
  | own l =>
    obtain ⟨p, vs, rfl, hp, hn, hG, hH, k⟩ := h
    refine ⟨upd F p (.lst vs), same_upd hn, rs.know hH hn hp hG, ?_⟩
    exact Dp.lst (SqL.of upd_same) (dpA_mono (same_upd hn) _ _ k)
def Ewish (Z : Zp) (W : WX) (σ : L2.St) (F : Hp) (ρ : Rh) (x : Exc) (S' : AS) : Prop := ∀ F' ρ' H' cls d, Tr F ρ F' ρ' → RS Z.K F' ρ' S' H' → RepX Z F' x cls d → W cls d σ H'
def EPost (Z : Zp) (W : WX) (σ : L2.St) (F : Hp) (ρ : Rh) (Q : VK) : ER → Prop
  | .ok a S' => ∀ F' ρ' H' v, Tr F ρ F' ρ' → RS Z.K F' ρ' S' H' → RepW Z F' ρ' H' a v → Q v H'
  | .err x S' => Ewish Z W σ F ρ x S'
  | .stuck => False
def VPost (Z : Zp) (F : Hp) (ρ : Rh) (Q : VK) : VR → Prop
  | some (a, S') => ∀ F' ρ' H' v, Tr F ρ F' ρ' → RS Z.K F' ρ' S' H' → RepW Z F' ρ' H' a v → Q v H'
  | none => False
theorem VPost.of {o : VR} (h : EPost Z W σ F ρ Q (liftV o)) : VPost Z F ρ Q o := by
  cases o with
  | none => exact h
  | some p => exact h
theorem EPost.tr (t : Tr F ρ F1 ρ1) (h : EPost Z W σ F ρ Q r) : EPost Z W σ F1 ρ1 Q r := by
  cases r with
  | ok a S => exact fun F' ρ' H' v t' => h F' ρ' H' v (t.trans t')
  | err x S => exact fun F' ρ' H' cls d t' => h F' ρ' H' cls d (t.trans t')
  | stuck => exact h
theorem EPost.imp (h : EPost Z W σ F ρ Q r) (q : ∀ v H, Q v H → Q' v H) : EPost Z W σ F ρ Q' r := by
  cases r with
  | ok a S => exact fun F' ρ' H' v t' rs rw => q _ _ (h F' ρ' H' v t' rs rw)
  | err x S => exact h
  | stuck => exact h
theorem EPost.bind {f : AV → AS → ER} (h : EPost Z W σ F ρ Q (r.bind f)) :
    EPost Z W σ F ρ (fun v H1 => ∃ F1 ρ1 S1 a, Tr F ρ F1 ρ1 ∧ RS Z.K F1 ρ1 S1 H1 ∧ RepV Z F1 ρ1 a v ∧ EPost Z W σ F1 ρ1 Q (f a S1)) r := by
  cases r with
  | ok a S =>
    intro F' ρ' H' v t rs rw
    obtain ⟨F2, e, rs2, rv⟩ := fzW rs rw
    have t2 : Tr F ρ F2 ρ' := t.trans (Tr.sam e)
    have h' : EPost Z W σ F ρ Q (f a.fz S) := h
    exact ⟨F2, ρ', S, a.fz, t2, rs2, rv, h'.tr t2⟩
  | err x S => exact h
  | stuck => exact h
theorem VPost.here {S' : AS} (h : VPost Z F ρ Q (some (a, S'))) (rs : RS Z.K F ρ S' H) (rv : RepW Z F ρ H a v) : Q v H := h F ρ H v Tr.refl rs rv
/-- a result that is plain data over the heap as it stands -/
theorem VPost.dat {S' : AS} {x : D} (h : VPost Z F ρ Q (some (.d x, S'))) (rs : RS Z.K F ρ S' H) (k : Dp Z.K F v x) : Q v H := h F ρ H v Tr.refl rs k
/-- a new tuple -/
theorem VPost.tup {S' : AS} {l : List D} {vs : List V} (h : VPost Z F ρ Q (some (.d (.tuple l), S'))) (rs : RS Z.K F ρ S' H) (k : DpAll Z.K F vs l) (p : Addr) (hp : H p = none) : Q (.ref p) (upd H p (.tup vs)) :=
  h _ ρ _ _ (Tr.sam (same_upd (rs.fresh hp))) (rs.newF hp) (show Dp _ _ _ _ from .tup (SqT.of upd_same) (dpA_mono (same_upd (rs.fresh hp)) _ _ k))
/-- a new list -/
theorem VPost.own {S' : AS} {l : List D} {vs : List V} (h : VPost Z F ρ Q (some (.own l, S'))) (rs : RS Z.K F ρ S' H) (k : DpAll Z.K F vs l) (p : Addr) (hp : H p = none) : Q (.ref p) (upd H p (.lst vs)) :=
  h F ρ _ _ Tr.refl (rs.newH hp) ⟨p, vs, rfl, rs.notin hp, rs.fresh hp, rs.gfree hp, upd_same, k⟩
end post

/-! ### the readings -/
def tE (Z : Zp) (W : WX) (c : Dn) : TE := fun σ H Q => ∃ F ρ S aσ, RS Z.K F ρ S H ∧ RSt Z F ρ aσ σ ∧ EPost Z W σ F ρ Q (c aσ S)
/-- tests: the result is a bool -/
def tB2 (Q : Bool → Hp → Prop) : VK := fun v H => ∃ b, v = .bl b ∧ Q b H
def tT (Z : Zp) (W : WX) (c : Dn) : TT := fun σ H Q => tE Z W c σ H (tB2 Q)
/-- argument lists -/
inductive LR where
  | ok (as : List AV) (S : AS) | err (x : Exc) (S : AS) | stuck
abbrev Ln := ASt → AS → LR
def LR.bind (r : LR) (f : List AV → AS → ER) : ER := match r with
  | .ok as S => f as S
  | .err x S => .err x S
  | .stuck => .stuck
def RepVs (Z : Zp) (F : Hp) (ρ : Rh) : List AV → List V → Prop := Paired (RepV Z F ρ)
theorem RepVs.mono {Z : Zp} {F F' : Hp} {ρ ρ' : Rh} (t : Tr F ρ F' ρ') : ∀ {as : List AV} {vs : List V}, RepVs Z F ρ as vs → RepVs Z F' ρ' as vs
  | _, _, .nil => .nil
  | _, _, .cons r k => .cons (r.mono t) (RepVs.mono t k)
def LPost (Z : Zp) (W : WX) (σ : L2.St) (F : Hp) (ρ : Rh) (Q : List V → Hp → Prop) : LR → Prop
  | .ok as S' => ∀ F' ρ' H' vs, Tr F ρ F' ρ' → RS Z.K F' ρ' S' H' → RepVs Z F' ρ' as vs → Q vs H'
  | .err x S' => Ewish Z W σ F ρ x S'
  | .stuck => False
def tL (Z : Zp) (W : WX) (c : Ln) : TA := fun σ H Q => ∃ F ρ S aσ, RS Z.K F ρ S H ∧ RSt Z F ρ aσ σ ∧ LPost Z W σ F ρ Q (c aσ S)
theorem LPost.tr {Z : Zp} {W : WX} {σ : L2.St} {F F1 : Hp} {ρ ρ1 : Rh} {Q : List V → Hp → Prop} {r : LR} (t : Tr F ρ F1 ρ1) (h : LPost Z W σ F ρ Q r) : LPost Z W σ F1 ρ1 Q r := by
  cases r with
  | ok a S => exact fun F' ρ' H' v t' => h F' ρ' H' v (t.trans t')
  | err x S => exact fun F' ρ' H' cls d t' => h F' ρ' H' cls d (t.trans t')
  | stuck => exact h
theorem LPost.bind {Z : Zp} {W : WX} {σ : L2.St} {F : Hp} {ρ : Rh} {Q : VK} {r : LR} {f : List AV → AS → ER} (h : EPost Z W σ F ρ Q (r.bind f)) :
    LPost Z W σ F ρ (fun vs H1 => ∃ F1 ρ1 S1 as, Tr F ρ F1 ρ1 ∧ RS Z.K F1 ρ1 S1 H1 ∧ RepVs Z F1 ρ1 as vs ∧ EPost Z W σ F1 ρ1 Q (f as S1)) r := by
  cases r with
  | ok as S =>
    intro F' ρ' H' vs t rs rv
    have h' : EPost Z W σ F ρ Q (f as S) := h
    exact ⟨F', ρ', S, as, t, rs, rv, h'.tr t⟩
  | err x S => exact h
  | stuck => exact h
end Den
/-! Den2: the operations on values, and that the machine's own do the same. -/
namespace Den
open PySem PySem.Spec PyProof.Rows L2

abbrev zp (X : Cx) (ex : Option (Addr × Value × Option Addr)) : Zp := ⟨X.K, X.mg, ex⟩
def cap : Nat := 1000000
theorem cap_le : cap ≤ sizeLine := by rw [sizeLine_eq]; decide
theorem cap_lt : cap < sizeLine := by rw [sizeLine_eq]; decide

/-! ### reading a list or a tuple -/
def rdSeq (S : AS) : AV → Option (Bool × List D)
  | .d (.list l) => some (true, l)
  | .d (.tuple l) => some (false, l)
  | .ref n => match S[n]? with
    | some (.lst l) => some (true, l)
    | some (.froz l) => some (true, l)
    | none => none
  | _ => none
/-- the value as data -/
def toD (S : AS) : AV → Option D
  | .d x => some x
  | .ref n => match S[n]? with
    | some (.lst l) => some (.list l)
    | some (.froz l) => some (.list l)
    | none => none
  | _ => none
section
variable {Z : Zp} {F H : Hp} {ρ : Rh} {S : AS} {a : AV} {v : V}
theorem ref_ob (rs : RS Z.K F ρ S H) {n : Nat} (rv : RepV Z F ρ (.ref n) v) {o : AO} (h : S[n]? = some o) : ∃ p, v = .ref p ∧ ρ.l[n]? = some p ∧ ObK Z.K F H p o := by
  obtain ⟨p, h1, h2⟩ := rv
  exact ⟨p, h2, h1, rs.ob n p o h1 h⟩
/-- the items stand for data that is known for good -/
theorem rdSeq_F (rs : RS Z.K F ρ S H) (rv : RepV Z F ρ a v) {b : Bool} {l : List D} (h : rdSeq S a = some (b, l)) :
    ∃ p vs, v = .ref p ∧ DpAll Z.K F vs l ∧ (b = true → SqL Z.K H p vs) ∧ (b = false → SqT Z.K H p vs) := by
  cases a with
  | d x =>
    cases x with
    | list m =>
      have rv : Dp Z.K F v (.list m) := rv
      cases Option.some.inj h
      cases rv with
      | lst h1 h2 => exact ⟨_, _, rfl, h2, fun _ => rs.sub.seq h1, (fun z => nomatch z)⟩
    | tuple m =>
      have rv : Dp Z.K F v (.tuple m) := rv
      cases Option.some.inj h
      cases rv with
      | tup h1 h2 => exact ⟨_, _, rfl, h2, (fun z => nomatch z), fun _ => Same.seqT rs.sub h1⟩
    | _ => cases h
  | ref n =>
    cases e : S[n]? with
    | none => simp only [rdSeq, e] at h; cases h
    | some o =>
      obtain ⟨p, rfl, _, k⟩ := ref_ob rs rv e
      cases o with
      | lst m =>
        simp only [rdSeq, e] at h
        cases Option.some.inj h
        obtain ⟨_, vs, h2, h3⟩ := k
        exact ⟨p, vs, rfl, h3, fun _ => SqL.of h2, fun z => nomatch z⟩
      | froz m =>
        simp only [rdSeq, e] at h
        cases Option.some.inj h
        obtain ⟨vs, h2, h3⟩ := k
        exact ⟨p, vs, rfl, h3, fun _ => SqL.of (rs.sub _ _ h2), fun z => nomatch z⟩
  | own m => cases h
  | exc x => cases h
theorem toD_ok (rs : RS Z.K F ρ S H) (rv : RepV Z F ρ a v) {x : D} (h : toD S a = some x) : Dp Z.K H v x := by
  cases a with
  | d y =>
    cases Option.some.inj h
    exact dp_mono rs.sub _ _ rv
  | ref n =>
    cases e : S[n]? with
    | none => simp only [toD, e] at h; cases h
    | some o =>
      obtain ⟨p, rfl, _, k⟩ := ref_ob rs rv e
      cases o with
      | lst m =>
        simp only [toD, e] at h
        cases Option.some.inj h
        obtain ⟨_, vs, h2, h3⟩ := k
        exact .lst (SqL.of h2) (dpA_mono rs.sub _ _ h3)
      | froz m =>
        simp only [toD, e] at h
        cases Option.some.inj h
        obtain ⟨vs, h2, h3⟩ := k
        exact .lst (SqL.of (rs.sub _ _ h2)) (dpA_mono rs.sub _ _ h3)
  | own m => cases h
  | exc x => cases h
end

/-! ### operators -/
def catV (S : AS) : Option (Bool × List D) → Option (Bool × List D) → VR
  | some (true, l), some (true, m) => if l.length + m.length ≤ cap then some (.own (l ++ m), S) else none
  | some (false, l), some (false, m) => if l.length + m.length ≤ cap then some (.d (.tuple (l ++ m)), S) else none
  | _, _ => none
def ints2 : AV → AV → Option (Int × Int)
  | .d (.int i), .d (.int j) => some (i, j)
  | _, _ => none
def bAdd (a b : AV) (S : AS) : VR := match a, b with
  | .d (.int i), .d (.int j) => some (.d (.int (i + j)), S)
  | .d (.str i), .d (.str j) => if i.length + j.length ≤ cap then some (.d (.str (i ++ j)), S) else none
  | a, b => catV S (rdSeq S a) (rdSeq S b)
def bSub (a b : AV) (S : AS) : VR := match ints2 a b with
  | some (i, j) => some (.d (.int (i - j)), S)
  | none => none
def bMul (a b : AV) (S : AS) : VR := match ints2 a b with
  | some (i, j) => if i.natAbs.log2 + j.natAbs.log2 < 100000000 then some (.d (.int (i * j)), S) else none
  | none => none
def bFdiv (a b : AV) (S : AS) : VR := match ints2 a b with
  | some (i, j) => if 0 < j ∧ j.natAbs.log2 < 9000 then some (.d (.int (i / j)), S) else none
  | none => none
def bMod (a b : AV) (S : AS) : VR := match ints2 a b with
  | some (i, j) => if 0 < j then some (.d (.int (i % j)), S) else none
  | none => none
def bPow (a b : AV) (S : AS) : VR := match ints2 a b with
  | some (i, j) => if 0 ≤ j ∧ j ≤ 1000 ∧ i.natAbs < 18446744073709551616 then some (.d (.int (i ^ j.toNat)), S) else none
  | none => none
def bop : Operator → Option (AV → AV → AS → VR)
  | .Add => some bAdd | .Sub => some bSub | .Mult => some bMul | .FloorDiv => some bFdiv | .Mod => some bMod | .Pow => some bPow
  | _ => none

/-- a two-place operation, by what stands for its values -/
def rB (Z : Zp) (g : AV → AV → AS → VR) : R2 := fun x y H Q => ∃ F ρ S a b, RS Z.K F ρ S H ∧ RepV Z F ρ a x ∧ RepV Z F ρ b y ∧ VPost Z F ρ Q (g a b S)

theorem dint {K : PySem.W.Frag} {F : Hp} {v : V} {i : Int} (h : Dp K F v (.int i)) : v = .int i := by cases h; rfl
theorem dstr {K : PySem.W.Frag} {F : Hp} {v : V} {i : Str} (h : Dp K F v (.str i)) : v = .str i := by cases h; rfl
theorem dbool {K : PySem.W.Frag} {F : Hp} {v : V} {i : Bool} (h : Dp K F v (.bool i)) : v = .bl i := by cases h; rfl
theorem dnone {K : PySem.W.Frag} {F : Hp} {v : V} (h : Dp K F v .none) : v = .non := by cases h; rfl

section
variable {X : Cx} {ex : Option (Addr × Value × Option Addr)}
/-- lists that are read, put one behind the other -/
def rCatL (K : PySem.W.Frag) : R2 := fun x y H Q => ∃ a b xs ys, x = .ref a ∧ y = .ref b ∧ SqL K H a xs ∧ SqL K H b ys ∧ xs.length + ys.length ≤ sizeLine ∧ ∀ p, H p = none → Q (.ref p) (upd H p (.lst (xs ++ ys)))
theorem op_catL : OpR X (binaryOp .Add) (rCatL X.K) := by
  intro pins s σ H x y v u Q I rx ry h
  obtain ⟨a, b, xs, ys, rfl, rfl, ha, hb, hz, q⟩ := h
  cases rx
  cases ry
  obtain ⟨its, r, ⟨⟨c1, d1, t1, s1⟩, n1, e1, k1, _, m1⟩, _⟩ := I.list ha
  obtain ⟨its2, r2, ⟨⟨c2, d2, t2, s2⟩, n2, e2, k2, _, m2⟩, _⟩ := I.list hb
  simp only at k1 m1 k2 m2
  subst k1 m1 k2 m2
  have hl := r.length
  have hl2 := r2.length
  refine concat_meets ⟨_, e1, rfl⟩ ⟨_, e2, rfl⟩ noFill_list_add seq_list_add PySem.F.slot_list_add PySem.F.entry_list_add (PySem.F.args_list_add_2 _ _)
    (list_addW a b its.toArray its2.toArray n1 n2 d1 d2 s1 s2 (by rw [List.size_toArray, List.size_toArray]; omega)) ⟨e1, e2, ?_⟩
  have ea : its.toArray ++ its2.toArray = (its ++ its2).toArray := by simp
  rw [ea]
  have hn : H s.heap.objs.size = none := I.hok.fresh (Nat.le_refl _)
  refine ⟨.ref s.heap.objs.size, _, I.laid (o := .lst (xs ++ ys)) (fun b o e => Heap.get?_push_of_some _ e) (Nat.le_refl _) ⟨by rw [List.length_append]; omega, _, 0, r.append r2, ?_⟩, rfl, q _ hn⟩
  exact Heap.get?_push_size s.heap rfl

theorem rdSeq_tup {S : AS} {a : AV} {l : List D} (h : rdSeq S a = some (false, l)) : a = .d (.tuple l) := by
  cases a with
  | d x =>
    cases x with
    | tuple m => cases Option.some.inj h; rfl
    | list m => cases Option.some.inj h
    | _ => cases h
  | ref n =>
    cases e : S[n]? with
    | none => simp only [rdSeq, e] at h; cases h
    | some o => cases o <;> (simp only [rdSeq, e] at h; cases Option.some.inj h)
  | own m => cases h
  | exc x => cases h
theorem catV_ok {pins : List (Addr × Obj)} {s : Shared} {σ : L2.St} {F H : Hp} {ρ : Rh} {S : AS} {a b : AV} {x y : V} {v u : Value} {Q : VK} (I : Inv X pins σ H s) (rx : RelV x v) (ry : RelV y u)
    (rs : RS X.K F ρ S H) (ra : RepV (zp X ex) F ρ a x) (rb : RepV (zp X ex) F ρ b y) (h : VPost (zp X ex) F ρ Q (catV S (rdSeq S a) (rdSeq S b))) : wpAny (model X.prog X.w) X.A (binaryOp .Add v u) (EP X pins σ Q) X.xe s := by
  cases e1 : rdSeq S a with
  | none => rw [e1] at h; exact h.elim
  | some p1 =>
    obtain ⟨b1, l⟩ := p1
    cases e2 : rdSeq S b with
    | none =>
      rw [e1, e2] at h
      cases b1 <;> exact h.elim
    | some p2 =>
      obtain ⟨b2, m⟩ := p2
      rw [e1, e2] at h
      obtain ⟨p, vs, rfl, k1, L1, T1⟩ := rdSeq_F (Z := zp X ex) rs ra e1
      obtain ⟨q, ws, rfl, k2, L2', T2⟩ := rdSeq_F (Z := zp X ex) rs rb e2
      have n1 := dpA_len k1
      have n2 := dpA_len k2
      have hc := cap_le
      cases b1 <;> cases b2
      · have h2 : VPost (zp X ex) F ρ Q (if l.length + m.length ≤ cap then some (.d (.tuple (l ++ m)), S) else none) := h
        by_cases z : l.length + m.length ≤ cap
        · rw [if_pos z] at h2
          have ea := rdSeq_tup e1
          have eb := rdSeq_tup e2
          subst ea eb
          refine op_catA pins s σ H _ _ v u Q I rx ry ⟨p, q, vs, ws, rfl, rfl, T1 rfl, T2 rfl, by omega, fun e => ?_, fun _ e => ?_, fun _ _ r hr => h2.tup rs (dpA_app k1 k2) r hr⟩
          · subst e
            cases k1
            exact h2.dat rs rb
          · subst e
            cases k2
            rw [List.append_nil] at h2
            exact h2.dat rs ra
        · rw [if_neg z] at h2
          exact h2.elim
      · exact h.elim
      · exact h.elim
      · have h2 : VPost (zp X ex) F ρ Q (if l.length + m.length ≤ cap then some (.own (l ++ m), S) else none) := h
        by_cases z : l.length + m.length ≤ cap
        · rw [if_pos z] at h2
          exact op_catL pins s σ H _ _ v u Q I rx ry ⟨p, q, vs, ws, rfl, rfl, L1 rfl, L2' rfl, by omega, fun r hr => h2.own rs (dpA_app k1 k2) r hr⟩
        · rw [if_neg z] at h2
          exact h2.elim
theorem op_bAdd : OpR X (binaryOp .Add) (rB (zp X ex) bAdd) := by
  intro pins s σ H x y v u Q I rx ry h
  obtain ⟨F, ρ, S, a, b, rs, ra, rb, h⟩ := h
  have gen := fun h => catV_ok (Q := Q) I rx ry rs ra rb h
  cases a with
  | d x1 =>
    cases x1 with
    | int i =>
      cases b with
      | d y1 =>
        cases y1 with
        | int j =>
          cases dint ra
          cases dint rb
          exact op_add pins s σ H _ _ v u Q I rx ry ⟨i, j, rfl, rfl, VPost.dat h rs (.int _)⟩
        | _ => exact gen h
      | _ => exact gen h
    | str i =>
      cases b with
      | d y1 =>
        cases y1 with
        | str j =>
          cases dstr ra
          cases dstr rb
          have h2 : VPost (zp X ex) F ρ Q (if i.length + j.length ≤ cap then some (.d (.str (i ++ j)), S) else none) := h
          by_cases z : i.length + j.length ≤ cap
          · rw [if_pos z] at h2
            exact op_add_str pins s σ H _ _ v u Q I rx ry ⟨i, j, rfl, rfl, Nat.le_trans z cap_le, VPost.dat h2 rs (.str _)⟩
          · rw [if_neg z] at h2
            exact h2.elim
        | _ => exact gen h
      | _ => exact gen h
    | _ => cases b <;> first | exact gen h | (rename_i y1; cases y1 <;> exact gen h)
  | _ => cases b <;> first | exact gen h | (rename_i y1; cases y1 <;> exact gen h)
theorem ints2_ok {a b : AV} {i j : Int} (h : ints2 a b = some (i, j)) : a = .d (.int i) ∧ b = .d (.int j) := by
  cases a with
  | d x =>
    cases x with
    | int i' =>
      cases b with
      | d y =>
        cases y with
        | int j' => cases Option.some.inj h; exact ⟨rfl, rfl⟩
        | _ => cases h
      | _ => cases h
    | _ => cases b <;> first | cases h | (rename_i y; cases y <;> cases h)
  | _ => cases b <;> first | cases h | (rename_i y; cases y <;> cases h)
/-- two ints alone -/
theorem op_ints {f : Value → Value → Sem Value} {g : AV → AV → AS → VR} {r : R2} (hr : OpR X f r) (hn : ∀ a b S, ints2 a b = none → g a b S = none)
    (hi : ∀ (i j : Int) S F ρ H (Q : VK), RS X.K F ρ S H → VPost (zp X ex) F ρ Q (g (.d (.int i)) (.d (.int j)) S) → r (.int i) (.int j) H Q) : OpR X f (rB (zp X ex) g) := by
  intro pins s σ H x y v u Q I rx ry h
  obtain ⟨F, ρ, S, a, b, rs, ra, rb, h⟩ := h
  cases e : ints2 a b with
  | none =>
    rw [hn a b S e] at h
    exact h.elim
  | some p =>
    obtain ⟨i, j⟩ := p
    obtain ⟨rfl, rfl⟩ := ints2_ok e
    cases dint ra
    cases dint rb
    exact hr pins s σ H _ _ v u Q I rx ry (hi i j S F ρ H Q rs h)
theorem op_bSub : OpR X (binaryOp .Sub) (rB (zp X ex) bSub) :=
  op_ints op_sub (fun a b S h => by simp only [bSub, h]) fun i j S F ρ H Q rs h => ⟨i, j, rfl, rfl, VPost.dat h rs (.int _)⟩
def CMulX (i j : Int) : Prop := i.natAbs.log2 + j.natAbs.log2 < 100000000
theorem mulX_ok {i j : Int} (h : CMulX i j) : IntMulOk i j := by
  have bd : ∀ y : Int, Builtin.Int.intBits y ≤ y.natAbs.log2 + 1 := fun y => by
    unfold Builtin.Int.intBits
    split <;> omega
  have b1 := bd i
  have b2 := bd j
  have b3 : i.natAbs.log2 + j.natAbs.log2 < 100000000 := h
  have line : bitsLine = 134217728 := by decide
  intro big
  rw [Bool.and_eq_true] at big
  have big2 := big.2
  unfold Builtin.Int.intTooBig at big2
  have big3 := of_decide_eq_true big2
  rw [line] at big3
  omega
theorem op_mulX : OpR X (binaryOp .Mult) (rI CMulX fun i j => .int (i * j)) := opI fun _ _ _ _ _ _ _ hc q => mul_int q (mulX_ok hc)
theorem op_bMul : OpR X (binaryOp .Mult) (rB (zp X ex) bMul) :=
  op_ints op_mulX (fun a b S h => by simp only [bMul, h]) fun i j S F ρ H Q rs h => by
    have h2 : VPost (zp X ex) F ρ Q (if i.natAbs.log2 + j.natAbs.log2 < 100000000 then some (.d (.int (i * j)), S) else none) := h
    by_cases z : i.natAbs.log2 + j.natAbs.log2 < 100000000
    · rw [if_pos z] at h2
      exact ⟨i, j, rfl, rfl, z, VPost.dat h2 rs (.int _)⟩
    · rw [if_neg z] at h2
      exact h2.elim
theorem op_bFdiv : OpR X (binaryOp .FloorDiv) (rB (zp X ex) bFdiv) :=
  op_ints op_fdivW (fun a b S h => by simp only [bFdiv, h]) fun i j S F ρ H Q rs h => by
    have h2 : VPost (zp X ex) F ρ Q (if 0 < j ∧ j.natAbs.log2 < 9000 then some (.d (.int (i / j)), S) else none) := h
    by_cases z : 0 < j ∧ j.natAbs.log2 < 9000
    · rw [if_pos z] at h2
      exact ⟨i, j, rfl, rfl, z, VPost.dat h2 rs (.int _)⟩
    · rw [if_neg z] at h2
      exact h2.elim
theorem op_bMod : OpR X (binaryOp .Mod) (rB (zp X ex) bMod) :=
  op_ints op_mod (fun a b S h => by simp only [bMod, h]) fun i j S F ρ H Q rs h => by
    have h2 : VPost (zp X ex) F ρ Q (if 0 < j then some (.d (.int (i % j)), S) else none) := h
    by_cases z : 0 < j
    · rw [if_pos z] at h2
      exact ⟨i, j, rfl, rfl, z, VPost.dat h2 rs (.int _)⟩
    · rw [if_neg z] at h2
      exact h2.elim
theorem op_bPow : OpR X (binaryOp .Pow) (rB (zp X ex) bPow) :=
  op_ints op_pow (fun a b S h => by simp only [bPow, h]) fun i j S F ρ H Q rs h => by
    have h2 : VPost (zp X ex) F ρ Q (if 0 ≤ j ∧ j ≤ 1000 ∧ i.natAbs < 18446744073709551616 then some (.d (.int (i ^ j.toNat)), S) else none) := h
    by_cases z : 0 ≤ j ∧ j ≤ 1000 ∧ i.natAbs < 18446744073709551616
    · rw [if_pos z] at h2
      exact ⟨i, j, rfl, rfl, ⟨z.1, by omega, z.2.2⟩, VPost.dat h2 rs (.int _)⟩
    · rw [if_neg z] at h2
      exact h2.elim
theorem op_bop {op : Operator} {g : AV → AV → AS → VR} (h : bop op = some g) : OpR X (binaryOp op) (rB (zp X ex) g) := by
  cases op <;> first
    | (cases Option.some.inj h; first | exact op_bAdd | exact op_bSub | exact op_bMul | exact op_bFdiv | exact op_bMod | exact op_bPow)
    | cases h

/-! ### comparisons -/
def flatD : D → Bool
  | .none => true | .bool _ => true | .int _ => true | .str _ => true | _ => false
def eqD (x y : Option D) : Option Bool := match x, y with
  | some d, some e => if SeqAt.shaped d && SeqAt.shaped e then some (PyData.eqv d e) else none
  | _, _ => none
def cEq (a b : AV) (S : AS) : VR := match eqD (toD S a) (toD S b) with
  | some k => some (.d (.bool k), S)
  | none => none
def cNe (a b : AV) (S : AS) : VR := match eqD (toD S a) (toD S b) with
  | some k => some (.d (.bool (!k)), S)
  | none => none
def cLt (a b : AV) (S : AS) : VR := match ints2 a b with
  | some (i, j) => some (.d (.bool (decide (i < j))), S)
  | none => none
def cLe (a b : AV) (S : AS) : VR := match ints2 a b with
  | some (i, j) => some (.d (.bool (decide (i ≤ j))), S)
  | none => none
def cGt (a b : AV) (S : AS) : VR := match ints2 a b with
  | some (i, j) => some (.d (.bool (decide (j < i))), S)
  | none => none
def cGe (a b : AV) (S : AS) : VR := match ints2 a b with
  | some (i, j) => some (.d (.bool (decide (j ≤ i))), S)
  | none => none
def inD (S : AS) (a b : AV) : Option Bool := match a, rdSeq S b with
  | .d x, some (_, l) => if flatD x && l.all flatD then some (l.any fun y => PyData.eqv y x) else none
  | _, _ => none
def cIn (a b : AV) (S : AS) : VR := match inD S a b with
  | some k => some (.d (.bool k), S)
  | none => none
def cNotIn (a b : AV) (S : AS) : VR := match inD S a b with
  | some k => some (.d (.bool (!k)), S)
  | none => none
def isNoneAV : AV → Bool
  | .d .none => true
  | _ => false
def isV (a b : AV) : Option Bool := match a, b with
  | .d (.bool i), .d (.bool j) => some (decide (i = j))
  | a, .d .none => some (isNoneAV a)
  | _, _ => none
def cIs (a b : AV) (S : AS) : VR := match isV a b with
  | some k => some (.d (.bool k), S)
  | none => none
def cIsNot (a b : AV) (S : AS) : VR := match isV a b with
  | some k => some (.d (.bool (!k)), S)
  | none => none
def cop : CmpOp → AV → AV → AS → VR
  | .Eq => cEq | .NotEq => cNe | .Lt => cLt | .LtE => cLe | .Gt => cGt | .GtE => cGe | .In => cIn | .NotIn => cNotIn | .Is => cIs | .IsNot => cIsNot
theorem op_cEq (hu : X.A.units + 64 < cLine) : OpR X (compareOp .Eq) (rB (zp X ex) cEq) := by
  intro pins s σ H x y v u Q I rx ry h
  obtain ⟨F, ρ, S, a, b, rs, ra, rb, h⟩ := h
  unfold cEq at h
  cases e1 : toD S a with
  | none => rw [e1] at h; exact h.elim
  | some d =>
    cases e2 : toD S b with
    | none => rw [e1, e2] at h; exact h.elim
    | some e =>
      rw [e1, e2] at h
      by_cases z : (SeqAt.shaped d && SeqAt.shaped e) = true
      · have ee : eqD (some d) (some e) = some (PyData.eqv d e) := if_pos z
        rw [ee] at h
        rw [Bool.and_eq_true] at z
        exact op_eqD hu pins s σ H x y v u Q I rx ry ⟨d, e, toD_ok (Z := zp X ex) rs ra e1, toD_ok (Z := zp X ex) rs rb e2, z.1, z.2, VPost.dat h rs (.bl _)⟩
      · have ee : eqD (some d) (some e) = none := if_neg z
        rw [ee] at h
        exact h.elim
theorem op_cNe (hu : X.A.units + 64 < cLine) : OpR X (compareOp .NotEq) (rB (zp X ex) cNe) := by
  intro pins s σ H x y v u Q I rx ry h
  obtain ⟨F, ρ, S, a, b, rs, ra, rb, h⟩ := h
  unfold cNe at h
  cases e1 : toD S a with
  | none => rw [e1] at h; exact h.elim
  | some d =>
    cases e2 : toD S b with
    | none => rw [e1, e2] at h; exact h.elim
    | some e =>
      rw [e1, e2] at h
      by_cases z : (SeqAt.shaped d && SeqAt.shaped e) = true
      · have ee : eqD (some d) (some e) = some (PyData.eqv d e) := if_pos z
        rw [ee] at h
        rw [Bool.and_eq_true] at z
        exact op_neD hu pins s σ H x y v u Q I rx ry ⟨d, e, toD_ok (Z := zp X ex) rs ra e1, toD_ok (Z := zp X ex) rs rb e2, z.1, z.2, VPost.dat h rs (.bl _)⟩
      · have ee : eqD (some d) (some e) = none := if_neg z
        rw [ee] at h
        exact h.elim
theorem op_cLt : OpR X (compareOp .Lt) (rB (zp X ex) cLt) := op_ints op_lt (fun a b S h => by simp only [cLt, h]) fun i j S F ρ H Q rs h => ⟨i, j, rfl, rfl, VPost.dat h rs (.bl _)⟩
theorem op_cLe : OpR X (compareOp .LtE) (rB (zp X ex) cLe) := op_ints op_le (fun a b S h => by simp only [cLe, h]) fun i j S F ρ H Q rs h => ⟨i, j, rfl, rfl, VPost.dat h rs (.bl _)⟩
theorem op_cGt : OpR X (compareOp .Gt) (rB (zp X ex) cGt) := op_ints op_gt (fun a b S h => by simp only [cGt, h]) fun i j S F ρ H Q rs h => ⟨i, j, rfl, rfl, VPost.dat h rs (.bl _)⟩
theorem op_cGe : OpR X (compareOp .GtE) (rB (zp X ex) cGe) := op_ints op_ge (fun a b S h => by simp only [cGe, h]) fun i j S F ρ H Q rs h => ⟨i, j, rfl, rfl, VPost.dat h rs (.bl _)⟩
end
section
variable {K : PySem.W.Frag} {H : Hp}
theorem flat_ok {v : V} {x : D} (h : Dp K H v x) (f : flatD x = true) : flatV v = true := by
  cases h with
  | lst _ _ => cases f
  | tup _ _ => cases f
  | _ => rfl
theorem eqV_ok {v u : V} {x y : D} (h : Dp K H v x) (k : Dp K H u y) (f : flatD x = true) (g : flatD y = true) : eqV v u = PyData.eqv x y := by
  cases h with
  | lst _ _ => cases f
  | tup _ _ => cases f
  | _ => cases k with
    | lst _ _ => cases g
    | tup _ _ => cases g
    | _ => rfl
theorem flats_ok : ∀ {vs : List V} {l : List D}, DpAll K H vs l → l.all flatD = true → vs.all flatV = true
  | [], _, h, _ => rfl
  | v :: vs, _, h, f => by
    cases h with
    | cons h1 h2 =>
      rw [List.all_cons, Bool.and_eq_true] at f
      rw [List.all_cons, Bool.and_eq_true]
      exact ⟨flat_ok h1 f.1, flats_ok h2 f.2⟩
theorem any_ok {u : V} {x : D} (k : Dp K H u x) (g : flatD x = true) : ∀ {vs : List V} {l : List D}, DpAll K H vs l → l.all flatD = true → inV u vs = l.any fun y => PyData.eqv y x
  | [], _, h, _ => by cases h; rfl
  | v :: vs, _, h, f => by
    cases h with
    | cons h1 h2 =>
      rw [List.all_cons, Bool.and_eq_true] at f
      have ih := any_ok k g h2 f.2
      unfold inV at ih ⊢
      rw [List.any_cons, List.any_cons, ih, eqV_ok h1 k f.1 g]
end
section
variable {X : Cx} {ex : Option (Addr × Value × Option Addr)}
theorem inD_ok {F H : Hp} {ρ : Rh} {S : AS} {a b : AV} {x y : V} {k : Bool} (rs : RS X.K F ρ S H) (ra : RepV (zp X ex) F ρ a x) (rb : RepV (zp X ex) F ρ b y) (h : inD S a b = some k) :
    ∃ p xs, y = .ref p ∧ (SqL X.K H p xs ∨ SqT X.K H p xs) ∧ flatV x = true ∧ xs.all flatV = true ∧ inV x xs = k := by
  cases a with
  | d x1 =>
    cases e : rdSeq S b with
    | none => simp only [inD, e] at h; cases h
    | some q =>
      obtain ⟨b1, l⟩ := q
      obtain ⟨p, vs, rfl, k1, L, T⟩ := rdSeq_F (Z := zp X ex) rs rb e
      by_cases z : (flatD x1 && l.all flatD) = true
      · have e2 : inD S (.d x1) b = some (l.any fun y => PyData.eqv y x1) := by simp only [inD, e, z, if_true]
        rw [e2] at h
        rw [Bool.and_eq_true] at z
        refine ⟨p, vs, rfl, ?_, flat_ok ra z.1, flats_ok k1 z.2, ?_⟩
        · cases b1 with
          | true => exact .inl (L rfl)
          | false => exact .inr (T rfl)
        · rw [any_ok ra z.1 k1 z.2]
          exact Option.some.inj h
      · have e2 : inD S (.d x1) b = none := by simp only [inD, e, z, if_false]; rfl
        rw [e2] at h
        cases h
  | _ => cases h
theorem op_cIn : OpR X (compareOp .In) (rB (zp X ex) cIn) := by
  intro pins s σ H x y v u Q I rx ry h
  obtain ⟨F, ρ, S, a, b, rs, ra, rb, h⟩ := h
  unfold cIn at h
  cases e : inD S a b with
  | none => rw [e] at h; exact h.elim
  | some k =>
    rw [e] at h
    obtain ⟨p, xs, h1, h2, h3, h4, h5⟩ := inD_ok rs ra rb e
    refine op_in_seq pins s σ H x y v u Q I rx ry ⟨p, xs, h1, h2, h3, h4, ?_⟩
    show Q (.bl (inV x xs)) H
    rw [h5]
    exact VPost.dat h rs (.bl _)
theorem op_cNotIn : OpR X (compareOp .NotIn) (rB (zp X ex) cNotIn) := by
  intro pins s σ H x y v u Q I rx ry h
  obtain ⟨F, ρ, S, a, b, rs, ra, rb, h⟩ := h
  unfold cNotIn at h
  cases e : inD S a b with
  | none => rw [e] at h; exact h.elim
  | some k =>
    rw [e] at h
    obtain ⟨p, xs, h1, h2, h3, h4, h5⟩ := inD_ok rs ra rb e
    refine op_notIn_seq pins s σ H x y v u Q I rx ry ⟨p, xs, h1, h2, h3, h4, ?_⟩
    show Q (.bl (!inV x xs)) H
    rw [h5]
    exact VPost.dat h rs (.bl _)
theorem isN_ok {F : Hp} {ρ : Rh} {a : AV} {x : V} (ra : RepV (zp X ex) F ρ a x) : decide (x = .non) = isNoneAV a := by
  cases a with
  | d d =>
    cases ra with
    | non => rfl
    | _ => rfl
  | ref n =>
    obtain ⟨p, _, rfl⟩ := ra
    rfl
  | own l => exact ra.elim
  | exc e =>
    obtain ⟨a, _, _, _, rfl, _⟩ := ra
    rfl
theorem isV_ok {F : Hp} {ρ : Rh} {a b : AV} {x y : V} {k : Bool} (ra : RepV (zp X ex) F ρ a x) (rb : RepV (zp X ex) F ρ b y) (h : isV a b = some k) :
    (y = .non ∧ decide (x = .non) = k) ∨ ∃ i j, x = .bl i ∧ y = .bl j ∧ decide (i = j) = k := by
  have gen : isV a b = some (isNoneAV a) → b = .d .none → (y = .non ∧ decide (x = .non) = k) := fun e eb => by
    rw [e] at h
    subst eb
    exact ⟨dnone rb, (isN_ok ra).trans (Option.some.inj h)⟩
  cases b with
  | d d =>
    cases d with
    | none =>
      refine .inl (gen ?_ rfl)
      cases a with
      | d d => cases d <;> rfl
      | _ => rfl
    | bool j =>
      cases a with
      | d d =>
        cases d with
        | bool i =>
          cases dbool ra
          cases dbool rb
          exact .inr ⟨i, j, rfl, rfl, Option.some.inj h⟩
        | _ => cases h
      | _ => cases h
    | _ => cases a with
      | d d => cases d <;> cases h
      | _ => cases h
  | _ => cases a with
    | d d => cases d <;> cases h
    | _ => cases h
theorem op_cIs : OpR X (compareOp .Is) (rB (zp X ex) cIs) := by
  intro pins s σ H x y v u Q I rx ry h
  obtain ⟨F, ρ, S, a, b, rs, ra, rb, h⟩ := h
  unfold cIs at h
  cases e : isV a b with
  | none => rw [e] at h; exact h.elim
  | some k =>
    rw [e] at h
    have q : Q (.bl k) H := VPost.dat h rs (.bl _)
    rcases isV_ok ra rb e with ⟨h1, h2⟩ | ⟨i, j, h1, h2, h3⟩
    · exact op_isN pins s σ H x y v u Q I rx ry ⟨h1, by rw [h2]; exact q⟩
    · exact op_isBl pins s σ H x y v u Q I rx ry ⟨i, j, h1, h2, by rw [h3]; exact q⟩
theorem op_cIsNot : OpR X (compareOp .IsNot) (rB (zp X ex) cIsNot) := by
  intro pins s σ H x y v u Q I rx ry h
  obtain ⟨F, ρ, S, a, b, rs, ra, rb, h⟩ := h
  unfold cIsNot at h
  cases e : isV a b with
  | none => rw [e] at h; exact h.elim
  | some k =>
    rw [e] at h
    have q : Q (.bl (!k)) H := VPost.dat h rs (.bl _)
    rcases isV_ok ra rb e with ⟨h1, h2⟩ | ⟨i, j, h1, h2, h3⟩
    · exact op_notN pins s σ H x y v u Q I rx ry ⟨h1, by rw [h2]; exact q⟩
    · exact op_notBl pins s σ H x y v u Q I rx ry ⟨i, j, h1, h2, by rw [h3]; exact q⟩
theorem op_cop (hu : X.A.units + 64 < cLine) (op : CmpOp) : OpR X (compareOp op) (rB (zp X ex) (cop op)) := by
  cases op
  · exact op_cEq hu
  · exact op_cNe hu
  · exact op_cLt
  · exact op_cLe
  · exact op_cGt
  · exact op_cGe
  · exact op_cIs
  · exact op_cIsNot
  · exact op_cIn
  · exact op_cNotIn
end
end Den
/-! Den3: the built-in functions, methods, subscripts on values. -/
namespace Den
open PySem PySem.Spec PyProof.Rows L2

/-- a call by values -/
def rC (Z : Zp) (g : List AV → AS → VR) : List V → Hp → VK → Prop := fun xs H Q => ∃ F ρ S as, RS Z.K F ρ S H ∧ RepVs Z F ρ as xs ∧ VPost Z F ρ Q (g as S)
def rM (Z : Zp) (g : AV → List AV → AS → VR) : V → List V → Hp → VK → Prop := fun x xs H Q => ∃ F ρ S a as, RS Z.K F ρ S H ∧ RepV Z F ρ a x ∧ RepVs Z F ρ as xs ∧ VPost Z F ρ Q (g a as S)

/-! ### freezing -/
def frzD (S : AS) : AV → Option (D × AS)
  | .d x => some (x, S)
  | .ref n => match S[n]? with
    | some (.lst l) => some (.list l, S.set n (.froz l))
    | some (.froz l) => some (.list l, S)
    | none => none
  | _ => none
def frzAll (S : AS) : List AV → Option (List D × AS)
  | [] => some ([], S)
  | a :: as => match frzD S a with
    | some (x, S1) => match frzAll S1 as with
      | some (l, S2) => some (x :: l, S2)
      | none => none
    | none => none
section
variable {Z : Zp} {H : Hp} {ρ : Rh}
theorem frzD_ok {F : Hp} {S S1 : AS} {a : AV} {v : V} {x : D} (rs : RS Z.K F ρ S H) (rv : RepV Z F ρ a v) (h : frzD S a = some (x, S1)) : ∃ F1, Same F F1 ∧ RS Z.K F1 ρ S1 H ∧ Dp Z.K F1 v x := by
  cases a with
  | d y =>
    cases Option.some.inj h
    exact ⟨F, Same.refl F, rs, rv⟩
  | ref n =>
    cases e : S[n]? with
    | none => simp only [frzD, e] at h; cases h
    | some o =>
      cases o with
      | lst l =>
        simp only [frzD, e] at h
        cases Option.some.inj h
        obtain ⟨p, hp, rfl⟩ := rv
        obtain ⟨vs, hF, hH, k, rs1⟩ := rs.frz hp e
        exact ⟨_, same_upd hF, rs1, .lst (SqL.of upd_same) (dpA_mono (same_upd hF) _ _ k)⟩
      | froz l =>
        simp only [frzD, e] at h
        cases Option.some.inj h
        obtain ⟨p, rfl, _, vs, h2, h3⟩ := ref_ob rs rv e
        exact ⟨F, Same.refl F, rs, .lst (SqL.of h2) h3⟩
  | own l => cases h
  | exc e => cases h
theorem frzAll_ok : ∀ {as : List AV} {vs : List V} {F : Hp} {S S1 : AS} {l : List D}, RS Z.K F ρ S H → RepVs Z F ρ as vs → frzAll S as = some (l, S1) → ∃ F1, Same F F1 ∧ RS Z.K F1 ρ S1 H ∧ DpAll Z.K F1 vs l
  | _, _, F, _, _, _, rs, .nil, h => by
    cases Option.some.inj h
    exact ⟨F, Same.refl F, rs, .nil⟩
  | a :: as, _, F, S, S1, l, rs, .cons r k, h => by
    cases e : frzD S a with
    | none => simp only [frzAll, e] at h; cases h
    | some p =>
      obtain ⟨x, S2⟩ := p
      obtain ⟨F1, s1, rs1, d1⟩ := frzD_ok rs r e
      cases e2 : frzAll S2 as with
      | none => simp only [frzAll, e, e2] at h; cases h
      | some q =>
        obtain ⟨m, S3⟩ := q
        simp only [frzAll, e, e2] at h
        cases Option.some.inj h
        obtain ⟨F2, s2, rs2, d2⟩ := frzAll_ok rs1 (RepVs.mono (Tr.sam s1) k) e2
        exact ⟨F2, s1.trans s2, rs2, .cons (dp_mono s2 _ _ d1) d2⟩
end

/-! ### ints of a list -/
def ints? : List D → Option (List Int)
  | [] => some []
  | .int i :: l => match ints? l with
    | some ns => some (i :: ns)
    | none => none
  | _ => none
theorem ints?_ok : ∀ {l : List D} {ns : List Int}, ints? l = some ns → l = ns.map PyData.int
  | [], _, h => by cases Option.some.inj h; rfl
  | .int i :: l, ns, h => by
    cases e : ints? l with
    | none => simp only [ints?, e] at h; cases h
    | some ms =>
      simp only [ints?, e] at h
      cases Option.some.inj h
      rw [ints?_ok e]
      rfl
  | .none :: _, _, h => by cases h
  | .bool _ :: _, _, h => by cases h
  | .str _ :: _, _, h => by cases h
  | .list _ :: _, _, h => by cases h
  | .tuple _ :: _, _, h => by cases h
  | .dict _ :: _, _, h => by cases h
theorem ints?_map : ∀ ns : List Int, ints? (ns.map PyData.int) = some ns
  | [] => rfl
  | n :: ns => by
    show (match ints? (ns.map PyData.int) with | some ms => some (n :: ms) | none => none) = _
    rw [ints?_map ns]
def minI : List Int → Int
  | [] => 0
  | n :: ns => ns.foldl (fun a y => if y < a then y else a) n
def maxI : List Int → Int
  | [] => 0
  | n :: ns => ns.foldl (fun a y => if a < y then y else a) n

/-! ### functions -/
def vLen (as : List AV) (S : AS) : VR := match as with
  | [.d (.str s)] => if s.length ≤ cap then some (.d (.int s.length), S) else none
  | [a] => match rdSeq S a with
    | some (_, l) => some (.d (.int l.length), S)
    | none => none
  | _ => none
def vAbs (as : List AV) (S : AS) : VR := match as with
  | [.d (.int i)] => some (.d (.int (if i < 0 then -i else i)), S)
  | _ => none
def vInt (as : List AV) (S : AS) : VR := match as with
  | [.d (.int i)] => some (.d (.int i), S)
  | [.d (.bool b)] => some (.d (.int (if b then 1 else 0)), S)
  | _ => none
def vMin (as : List AV) (S : AS) : VR := match as with
  | [.d (.int i), .d (.int j)] => some (.d (.int (if j < i then j else i)), S)
  | [a] => match rdSeq S a with
    | some (_, l) => match ints? l with
      | some (n :: ns) => some (.d (.int (minI (n :: ns))), S)
      | _ => none
    | none => none
  | _ => none
def vMax (as : List AV) (S : AS) : VR := match as with
  | [.d (.int i), .d (.int j)] => some (.d (.int (if j > i then j else i)), S)
  | [a] => match rdSeq S a with
    | some (_, l) => match ints? l with
      | some (n :: ns) => some (.d (.int (maxI (n :: ns))), S)
      | _ => none
    | none => none
  | _ => none
def vTuple (as : List AV) (S : AS) : VR := match as with
  | [a] => match rdSeq S a with
    | some (_, l) => some (.d (.tuple l), S)
    | none => none
  | _ => none
def vList (as : List AV) (S : AS) : VR := match as with
  | [a] => match rdSeq S a with
    | some (_, l) => some (.own l, S)
    | none => none
  | _ => none
def vGcd (as : List AV) (S : AS) : VR := match as with
  | [.d (.int i), .d (.int j)] => some (.d (.int ((Nat.gcd i.natAbs j.natAbs : Nat) : Int)), S)
  | _ => none
def vLcm (as : List AV) (S : AS) : VR := match as with
  | [.d (.int i), .d (.int j)] => if i.natAbs.log2 < 10000 ∧ j.natAbs.log2 < 10000 ∧ (Nat.lcm i.natAbs j.natAbs).log2 < 100000 then some (.d (.int ((Nat.lcm i.natAbs j.natAbs : Nat) : Int)), S) else none
  | _ => none

section
variable {X : Cx} {ex : Option (Addr × Value × Option Addr)}
theorem RepVs.one {Z : Zp} {F : Hp} {ρ : Rh} {a : AV} {vs : List V} (h : RepVs Z F ρ [a] vs) : ∃ v, vs = [v] ∧ RepV Z F ρ a v := by
  cases h with
  | cons r k => cases k; exact ⟨_, rfl, r⟩
theorem RepVs.two {Z : Zp} {F : Hp} {ρ : Rh} {a b : AV} {vs : List V} (h : RepVs Z F ρ [a, b] vs) : ∃ v w, vs = [v, w] ∧ RepV Z F ρ a v ∧ RepV Z F ρ b w := by
  cases h with
  | cons r k =>
    cases k with
    | cons r2 k2 => cases k2; exact ⟨_, _, rfl, r, r2⟩
theorem vLen_ok : CallR X (.builtin "len") (rC (zp X ex) vLen) := by
  intro pins s σ H xs us Q I r h
  obtain ⟨F, ρ, S, as, rs, ra, h⟩ := h
  have gen : ∀ a, as = [a] → VPost (zp X ex) F ρ Q (match rdSeq S a with | some (_, l) => some (.d (.int l.length), S) | none => none) → wpAny (model X.prog X.w) X.A (call (.builtin "len") us) (EP X pins σ Q) X.xe s := by
    clear h
    intro a ea h
    subst ea
    obtain ⟨v, rfl, rv⟩ := ra.one
    cases e : rdSeq S a with
    | none => rw [e] at h; exact h.elim
    | some q =>
      obtain ⟨b, l⟩ := q
      rw [e] at h
      obtain ⟨p, vs, rfl, k, L, T⟩ := rdSeq_F (Z := zp X ex) rs rv e
      have q : Q (.int vs.length) H := by
        rw [dpA_len k]
        exact VPost.dat h rs (.int _)
      refine call_len_seq pins s σ H _ us Q I r ⟨p, vs, rfl, ?_, q⟩
      cases b with
      | true => exact .inl (L rfl)
      | false => exact .inr (T rfl)
  cases as with
  | nil => exact h.elim
  | cons a as =>
    cases as with
    | cons b as => cases a <;> first | exact h.elim | (rename_i x; cases x <;> exact h.elim)
    | nil =>
      cases a with
      | d x =>
        cases x with
        | str z =>
          have h2 : VPost (zp X ex) F ρ Q (if z.length ≤ cap then some (.d (.int z.length), S) else none) := h
          obtain ⟨v, rfl, rv⟩ := ra.one
          cases dstr rv
          by_cases c : z.length ≤ cap
          · rw [if_pos c] at h2
            exact call_len pins s σ H _ us Q I r ⟨_, z.length, rfl, ⟨Nat.le_trans c cap_le, rfl⟩, VPost.dat h2 rs (.int _)⟩
          · rw [if_neg c] at h2
            exact h2.elim
        | _ => exact gen _ rfl h
      | _ => exact gen _ rfl h
theorem vAbs_ok : CallR X (.builtin "abs") (rC (zp X ex) vAbs) := by
  intro pins s σ H xs us Q I r h
  obtain ⟨F, ρ, S, as, rs, ra, h⟩ := h
  unfold vAbs at h
  split at h
  · obtain ⟨v, rfl, rv⟩ := ra.one
    cases dint rv
    exact call_abs pins s σ H _ us Q I r ⟨_, rfl, VPost.dat h rs (.int _)⟩
  · exact h.elim
theorem vInt_ok : CallR X (.type "int") (rC (zp X ex) vInt) := by
  intro pins s σ H xs us Q I r h
  obtain ⟨F, ρ, S, as, rs, ra, h⟩ := h
  unfold vInt at h
  split at h
  · obtain ⟨v, rfl, rv⟩ := ra.one
    cases dint rv
    exact call_int1 pins s σ H _ us Q I r (.inl ⟨_, rfl, VPost.dat h rs (.int _)⟩)
  · obtain ⟨v, rfl, rv⟩ := ra.one
    cases dbool rv
    exact call_int1 pins s σ H _ us Q I r (.inr ⟨_, rfl, VPost.dat h rs (.int _)⟩)
  · exact h.elim
theorem vTuple_ok : CallR X (.type "tuple") (rC (zp X ex) vTuple) := by
  intro pins s σ H xs us Q I r h
  obtain ⟨F, ρ, S, as, rs, ra, h⟩ := h
  unfold vTuple at h
  split at h
  · rename_i a
    obtain ⟨v, rfl, rv⟩ := ra.one
    split at h
    · rename_i b l e
      obtain ⟨p, vs, rfl, k, L, T⟩ := rdSeq_F (Z := zp X ex) rs rv e
      refine call_tuple_of pins s σ H _ us Q I r ⟨p, vs, rfl, ?_⟩
      cases b with
      | true => exact .inl ⟨L rfl, fun q hq => VPost.tup h rs k q hq⟩
      | false =>
        have ea := rdSeq_tup e
        subst ea
        exact .inr ⟨T rfl, VPost.dat h rs rv⟩
    · exact h.elim
  · exact h.elim
theorem vList_ok : CallR X (.type "list") (rC (zp X ex) vList) := by
  intro pins s σ H xs us Q I r h
  obtain ⟨F, ρ, S, as, rs, ra, h⟩ := h
  unfold vList at h
  split at h
  · rename_i a
    obtain ⟨v, rfl, rv⟩ := ra.one
    split at h
    · rename_i b l e
      obtain ⟨p, vs, rfl, k, L, T⟩ := rdSeq_F (Z := zp X ex) rs rv e
      refine call_list_of pins s σ H _ us Q I r ⟨p, vs, rfl, ?_, fun q hq => VPost.own h rs k q hq⟩
      cases b with
      | true => exact .inl (L rfl)
      | false => exact .inr (T rfl)
    · exact h.elim
  · exact h.elim
theorem vGcd_ok : CallR X (.builtin "math.gcd") (rC (zp X ex) vGcd) := by
  intro pins s σ H xs us Q I r h
  obtain ⟨F, ρ, S, as, rs, ra, h⟩ := h
  unfold vGcd at h
  split at h
  · obtain ⟨v, w, rfl, rv, rw'⟩ := ra.two
    cases dint rv
    cases dint rw'
    exact cr_gcd pins s σ H _ us Q I r ⟨_, _, rfl, VPost.dat h rs (.int _)⟩
  · exact h.elim
theorem lcm_one (n : Nat) : Nat.lcm 1 n = n := Nat.lcm_one_left n
theorem vLcm_ok : CallR X (.builtin "math.lcm") (rC (zp X ex) vLcm) := by
  intro pins s σ H xs us Q I r h
  obtain ⟨F, ρ, S, as, rs, ra, h⟩ := h
  unfold vLcm at h
  split at h
  · rename_i i j
    obtain ⟨v, w, rfl, rv, rw'⟩ := ra.two
    cases dint rv
    cases dint rw'
    obtain ⟨t, u, rfl⟩ := Vals.int2 r
    split at h
    · rename_i c
      obtain ⟨c1, c2, c3⟩ := c
      have hb : bitsLine = 134217728 := by decide
      have m1 : (max 1 i.natAbs).log2 < 10000 := by
        rcases Nat.le_total 1 i.natAbs with z | z
        · rw [Nat.max_eq_right z]; exact c1
        · rw [Nat.max_eq_left z]; decide
      have m2 : (max i.natAbs j.natAbs).log2 < 10000 := by
        rcases Nat.le_total i.natAbs j.natAbs with z | z
        · rw [Nat.max_eq_right z]; exact c2
        · rw [Nat.max_eq_left z]; exact c1
      have e : (Nat.lcm 1 i.natAbs).lcm j.natAbs = Nat.lcm i.natAbs j.natAbs := by rw [lcm_one]
      have run := PySem.W.mg_run_lcm i t j u (by omega) (by omega) (by rw [e, Int.natAbs_natCast, hb]; omega)
      rw [e] at run
      exact call_function_meets PySem.W.MGF.kind_lcm PySem.W.MGF.plain_lcm PySem.W.MGF.entry_lcm (PySem.W.MGF.args_lcm _ _) run.meets
        (show EP X pins σ Q _ _ from ⟨.int _, H, I.tok _, ⟨_, rfl⟩, VPost.dat h rs (.int _)⟩)
    · exact h.elim
  · exact h.elim
end

/-! ### least and greatest -/
theorem minI_le : ∀ (ns : List Int) (n : Int), ns.foldl (fun a y => if y < a then y else a) n ≤ n ∧ (∀ y ∈ ns, ns.foldl (fun a y => if y < a then y else a) n ≤ y) ∧ (ns.foldl (fun a y => if y < a then y else a) n = n ∨ ns.foldl (fun a y => if y < a then y else a) n ∈ ns)
  | [], n => ⟨Int.le_refl _, fun _ h => absurd h (by simp), .inl rfl⟩
  | m :: ns, n => by
    rw [List.foldl_cons]
    obtain ⟨h1, h2, h3⟩ := minI_le ns (if m < n then m else n)
    refine ⟨?_, fun y hy => ?_, ?_⟩
    · exact Int.le_trans h1 (by split <;> omega)
    · rcases List.mem_cons.mp hy with rfl | hy
      · exact Int.le_trans h1 (by split <;> omega)
      · exact h2 y hy
    · rcases h3 with h3 | h3
      · rw [h3]
        split
        · exact .inr List.mem_cons_self
        · exact .inl rfl
      · exact .inr (List.mem_cons_of_mem _ h3)
theorem maxI_le : ∀ (ns : List Int) (n : Int), n ≤ ns.foldl (fun a y => if a < y then y else a) n ∧ (∀ y ∈ ns, y ≤ ns.foldl (fun a y => if a < y then y else a) n) ∧ (ns.foldl (fun a y => if a < y then y else a) n = n ∨ ns.foldl (fun a y => if a < y then y else a) n ∈ ns)
  | [], n => ⟨Int.le_refl _, fun _ h => absurd h (by simp), .inl rfl⟩
  | m :: ns, n => by
    rw [List.foldl_cons]
    obtain ⟨h1, h2, h3⟩ := maxI_le ns (if n < m then m else n)
    refine ⟨?_, fun y hy => ?_, ?_⟩
    · exact Int.le_trans (by split <;> omega) h1
    · rcases List.mem_cons.mp hy with rfl | hy
      · exact Int.le_trans (by split <;> omega) h1
      · exact h2 y hy
    · rcases h3 with h3 | h3
      · rw [h3]
        split
        · exact .inr List.mem_cons_self
        · exact .inl rfl
      · exact .inr (List.mem_cons_of_mem _ h3)
theorem minI_mem (n : Int) (ns : List Int) : minI (n :: ns) ∈ n :: ns := by
  rcases (minI_le ns n).2.2 with h | h
  · show ns.foldl _ n ∈ _
    rw [h]
    exact List.mem_cons_self
  · exact List.mem_cons_of_mem _ h
theorem minI_least {l : List Int} {y : Int} (h : y ∈ l) : minI l ≤ y := by
  cases l with
  | nil => cases h
  | cons n ns =>
    rcases List.mem_cons.mp h with rfl | h
    · exact (minI_le ns y).1
    · exact (minI_le ns n).2.1 y h
theorem maxI_mem (n : Int) (ns : List Int) : maxI (n :: ns) ∈ n :: ns := by
  rcases (maxI_le ns n).2.2 with h | h
  · show ns.foldl _ n ∈ _
    rw [h]
    exact List.mem_cons_self
  · exact List.mem_cons_of_mem _ h
theorem maxI_most {l : List Int} {y : Int} (h : y ∈ l) : y ≤ maxI l := by
  cases l with
  | nil => cases h
  | cons n ns =>
    rcases List.mem_cons.mp h with rfl | h
    · exact (maxI_le ns y).1
    · exact (maxI_le ns n).2.1 y h
theorem minI_is {l : List Int} {m : Int} (h : m ∈ l) (k : ∀ y ∈ l, m ≤ y) : m = minI l := by
  cases l with
  | nil => cases h
  | cons n ns => exact Int.le_antisymm (k _ (minI_mem n ns)) (minI_least h)
theorem maxI_is {l : List Int} {m : Int} (h : m ∈ l) (k : ∀ y ∈ l, y ≤ m) : m = maxI l := by
  cases l with
  | nil => cases h
  | cons n ns => exact Int.le_antisymm (maxI_most h) (k _ (maxI_mem n ns))
theorem dataLt_int (a b : Int) : PySem.W.dataLt (.int a) (.int b) = decide (a < b) := by
  unfold PySem.W.dataLt
  simp [PySem.W.keyToks, PyProof.Rows.lexLt, PyProof.Rows.itemOrd, PyProof.Rows.itemLt]
theorem minD_ints : ∀ (ns : List Int) (n : Int), PySem.W.minD (.int n) (ns.map PyData.int) = .int (ns.foldl (fun a y => if y < a then y else a) n)
  | [], n => rfl
  | m :: ns, n => by
    have ih := minD_ints ns (if m < n then m else n)
    unfold PySem.W.minD at ih ⊢
    rw [List.map_cons, List.foldl_cons, List.foldl_cons, ← ih, dataLt_int]
    by_cases c : m < n
    · rw [if_pos c, if_pos (decide_eq_true c)]
    · rw [if_neg c, if_neg (by rw [decide_eq_false c]; decide)]
theorem maxD_ints : ∀ (ns : List Int) (n : Int), PySem.W.maxD (.int n) (ns.map PyData.int) = .int (ns.foldl (fun a y => if a < y then y else a) n)
  | [], n => rfl
  | m :: ns, n => by
    have ih := maxD_ints ns (if n < m then m else n)
    unfold PySem.W.maxD at ih ⊢
    rw [List.map_cons, List.foldl_cons, List.foldl_cons, ← ih, dataLt_int]
    by_cases c : n < m
    · rw [if_pos c, if_pos (decide_eq_true c)]
    · rw [if_neg c, if_neg (by rw [decide_eq_false c]; decide)]
theorem alike_ints (ns : List Int) : PySem.W.AlikeAll (ns.map PyData.int) := by
  refine ⟨fun x hx y hy => ?_, fun x hx => ?_⟩
  · obtain ⟨i, _, rfl⟩ := List.mem_map.mp hx
    obtain ⟨j, _, rfl⟩ := List.mem_map.mp hy
    rfl
  · obtain ⟨i, _, rfl⟩ := List.mem_map.mp hx
    exact fun z => nomatch z
theorem depth_ints : ∀ ns : List Int, PyData.depthAll (ns.map PyData.int) = 0
  | [] => rfl
  | n :: ns => by
    show max 0 (PyData.depthAll (ns.map PyData.int)) = 0
    rw [depth_ints ns]
    rfl
theorem reads_int {h : Heap} {v : Value} {i : Int} {as : List Addr} (r : Reads h v (.int i) as) : ∃ t, v = .int i t := by
  cases r
  exact ⟨_, rfl⟩
section
variable {X : Cx} {ex : Option (Addr × Value × Option Addr)}
theorem vMin_ok (hc : X.calm = true) (hu : X.A.units + 64 < cLine) : CallR X (.builtin "min") (rC (zp X ex) vMin) := by
  intro pins s σ H xs us Q I r h
  obtain ⟨F, ρ, S, as, rs, ra, h⟩ := h
  unfold vMin at h
  split at h
  · obtain ⟨v, w, rfl, rv, rw'⟩ := ra.two
    cases dint rv
    cases dint rw'
    exact call_min2 hc pins s σ H _ us Q I r ⟨_, _, rfl, VPost.dat h rs (.int _)⟩
  · rename_i a
    obtain ⟨v, rfl, rv⟩ := ra.one
    split at h
    · rename_i b l e
      split at h
      · rename_i n ns e2
        obtain ⟨p, vs, rfl, k, L, T⟩ := rdSeq_F (Z := zp X ex) rs rv e
        have el := ints?_ok e2
        subst el
        have ev := dpA_ints k
        subst ev
        have q : Q (.int (minI (n :: ns))) H := VPost.dat h rs (.int _)
        cases b with
        | true => exact cr_min hc pins s σ H _ us Q I r ⟨p, n :: ns, rfl, L rfl, Nat.zero_lt_succ _, fun m h1 h2 => by rw [minI_is h1 h2]; exact q⟩
        | false =>
          obtain ⟨u, rfl, ru⟩ := vals1 r
          cases (show u = Value.ref p from ru)
          obtain ⟨its, rv2, ht, hz⟩ := I.tuple (T rfl)
          have hd : DpAll X.K H ((n :: ns).map V.int) ((n :: ns).map PyData.int) := dpA_of_ints _
          obtain ⟨as2, hr⟩ := Dp.readsAll I _ _ _ hd rv2
          have ht' : s.heap.IsTuple p its.toArray := ht
          have hr' : ReadsAll s.heap its.toArray.toList (PyData.int n :: ns.map PyData.int) as2 := by simpa using hr
          refine PySem.W.min_tuple_data (I.ok.hd hc) ht' hr' (alike_ints (n :: ns)) (by rw [show PyData.depthAll (PyData.int n :: ns.map PyData.int) = 0 from depth_ints (n :: ns)]; omega) fun i v h' tk bs hv rd hk => ?_
          rw [minD_ints] at rd
          obtain ⟨t, rfl⟩ := reads_int rd
          exact ⟨.int _, H, I.kept hk, ⟨_, rfl⟩, q⟩
      · exact h.elim
    · exact h.elim
  · exact h.elim
theorem vMax_ok (hc : X.calm = true) (hu : X.A.units + 64 < cLine) : CallR X (.builtin "max") (rC (zp X ex) vMax) := by
  intro pins s σ H xs us Q I r h
  obtain ⟨F, ρ, S, as, rs, ra, h⟩ := h
  unfold vMax at h
  split at h
  · obtain ⟨v, w, rfl, rv, rw'⟩ := ra.two
    cases dint rv
    cases dint rw'
    exact call_max2 hc pins s σ H _ us Q I r ⟨_, _, rfl, VPost.dat h rs (.int _)⟩
  · rename_i a
    obtain ⟨v, rfl, rv⟩ := ra.one
    split at h
    · rename_i b l e
      split at h
      · rename_i n ns e2
        obtain ⟨p, vs, rfl, k, L, T⟩ := rdSeq_F (Z := zp X ex) rs rv e
        have el := ints?_ok e2
        subst el
        have ev := dpA_ints k
        subst ev
        have q : Q (.int (maxI (n :: ns))) H := VPost.dat h rs (.int _)
        cases b with
        | true => exact cr_max hc pins s σ H _ us Q I r ⟨p, n :: ns, rfl, L rfl, Nat.zero_lt_succ _, fun m h1 h2 => by rw [maxI_is h1 h2]; exact q⟩
        | false =>
          obtain ⟨u, rfl, ru⟩ := vals1 r
          cases (show u = Value.ref p from ru)
          obtain ⟨its, rv2, ht, hz⟩ := I.tuple (T rfl)
          have hd : DpAll X.K H ((n :: ns).map V.int) ((n :: ns).map PyData.int) := dpA_of_ints _
          obtain ⟨as2, hr⟩ := Dp.readsAll I _ _ _ hd rv2
          have ht' : s.heap.IsTuple p its.toArray := ht
          have hr' : ReadsAll s.heap its.toArray.toList (PyData.int n :: ns.map PyData.int) as2 := by simpa using hr
          refine PySem.W.max_tuple_data (I.ok.hd hc) ht' hr' (alike_ints (n :: ns)) (by rw [show PyData.depthAll (PyData.int n :: ns.map PyData.int) = 0 from depth_ints (n :: ns)]; omega) fun i v h' tk bs hv rd hk => ?_
          rw [maxD_ints] at rd
          obtain ⟨t, rfl⟩ := reads_int rd
          exact ⟨.int _, H, I.kept hk, ⟨_, rfl⟩, q⟩
      · exact h.elim
    · exact h.elim
  · exact h.elim
end

/-! ### places, slices -/
def atD (l : List D) (k : Int) : Option D := (ixN l.length k).bind fun j => l[j]?
def vIx (a i : AV) (S : AS) : VR := match a, i with
  | .d (.str z), .d (.int k) => if z.length ≤ cap then match atI z.cps.toList k with
      | some c => some (.d (.str ⟨#[c]⟩), S)
      | none => none
    else none
  | a, .d (.int k) => match rdSeq S a with
    | some (_, l) => match atD l k with
      | some x => some (.d x, S)
      | none => none
    | none => none
  | _, _ => none
def cutD (l : List D) (lo hi : Option Int) : List D := (l.drop (HT.sIx l.length 0 lo)).take (HT.sIx l.length l.length hi - HT.sIx l.length 0 lo)
def vSl (a : AV) (lo hi : Option Int) (S : AS) : VR := match rdSeq S a with
  | some (true, l) => some (.own (cutD l lo hi), S)
  | some (false, l) => some (.d (.tuple (cutD l lo hi)), S)
  | none => none
section
variable {X : Cx} {ex : Option (Addr × Value × Option Addr)}
theorem atD_ok {K : PySem.W.Frag} {F : Hp} {vs : List V} {l : List D} {k : Int} {x : D} (h : DpAll K F vs l) (e : atD l k = some x) : ∃ v, atI vs k = some v ∧ Dp K F v x := by
  unfold atD at e
  cases q : ixN l.length k with
  | none => rw [q] at e; cases e
  | some j =>
    rw [q] at e
    obtain ⟨v, h1, h2⟩ := dpA_get (i := j) h e
    refine ⟨v, ?_, h2⟩
    unfold atI
    rw [dpA_len h, q]
    exact h1
theorem vIx_ok : IxR X (rB (zp X ex) vIx) := by
  intro value slice pins s σ H x y v u Q I rx ry h hs
  obtain ⟨F, ρ, S, a, b, rs, ra, rb, h⟩ := h
  unfold vIx at h
  split at h
  · rename_i z k
    cases dstr ra
    cases dint rb
    split at h
    · rename_i c
      split at h
      · rename_i c2 e
        exact ix_str value slice pins s σ H _ _ v u Q I rx ry ⟨z, k, c2, rfl, rfl, Nat.le_trans c cap_le, e, VPost.dat h rs (.str _)⟩ hs
      · exact h.elim
    · exact h.elim
  · rename_i k _
    cases dint rb
    split at h
    · rename_i b l e
      obtain ⟨p, vs, rfl, kk, L, T⟩ := rdSeq_F (Z := zp X ex) rs ra e
      split at h
      · rename_i x e2
        obtain ⟨w, h1, h2⟩ := atD_ok kk e2
        have q : Q w H := VPost.dat h rs h2
        cases b with
        | true => exact ix_list value slice pins s σ H _ _ v u Q I rx ry ⟨p, vs, k, w, rfl, rfl, L rfl, h1, q⟩ hs
        | false => exact ix_tup value slice pins s σ H _ _ v u Q I rx ry ⟨p, vs, k, w, rfl, rfl, T rfl, h1, q⟩ hs
      · exact h.elim
    · exact h.elim
  · exact h.elim
def rSl (Z : Zp) : V → Option Int → Option Int → Hp → VK → Prop := fun x lo hi H Q => ∃ F ρ S a, RS Z.K F ρ S H ∧ RepV Z F ρ a x ∧ VPost Z F ρ Q (vSl a lo hi S)
theorem cut_ok {K : PySem.W.Frag} {F : Hp} {vs : List V} {l : List D} {lo hi : Option Int} (h : DpAll K F vs l) : DpAll K F (cutV vs lo hi) (cutD l lo hi) := by
  unfold cutV cutD
  rw [dpA_len h]
  exact dpA_take _ (dpA_drop _ h)
theorem cut_whole {K : PySem.W.Frag} {F : Hp} {vs : List V} {l : List D} {lo hi : Option Int} (h : DpAll K F vs l) (e : HT.sIx vs.length 0 lo = 0 ∧ HT.sIx vs.length vs.length hi = vs.length) : cutD l lo hi = l := by
  unfold cutD
  rw [dpA_len h] at e
  rw [e.1, e.2, List.drop_zero, Nat.sub_zero, List.take_length]
theorem vSl_ok : SlR X (rSl (zp X ex)) := by
  intro pins s σ H x v vl vu lo hi sl Q I rx hs pl pu h
  obtain ⟨F, ρ, S, a, rs, ra, h⟩ := h
  unfold vSl at h
  split at h
  · rename_i l e
    obtain ⟨p, vs, rfl, kk, L, T⟩ := rdSeq_F (Z := zp X ex) rs ra e
    exact sl_list pins s σ H _ v vl vu lo hi sl Q I rx hs pl pu ⟨p, vs, rfl, L rfl, fun q hq => VPost.own h rs (cut_ok kk) q hq⟩
  · rename_i l e
    obtain ⟨p, vs, rfl, kk, L, T⟩ := rdSeq_F (Z := zp X ex) rs ra e
    have ea := rdSeq_tup e
    subst ea
    refine sl_tupA pins s σ H _ v vl vu lo hi sl Q I rx hs pl pu ⟨p, vs, rfl, T rfl, fun w => ?_, fun _ q hq => VPost.tup h rs (cut_ok kk) q hq⟩
    rw [cut_whole kk w] at h
    exact VPost.dat h rs ra
  · exact h.elim
end

/-! ### methods of lists -/
def mAppend (a : AV) (as : List AV) (S : AS) : VR := match a, as with
  | .ref n, [y] => match frzD S y with
    | some (x, S1) => match S1[n]? with
      | some (.lst l) => if l.length < cap then some (.d .none, S1.set n (.lst (l ++ [x]))) else none
      | _ => none
    | none => none
  | _, _ => none
def mPop (a : AV) (as : List AV) (S : AS) : VR := match a, as with
  | .ref n, [] => match S[n]? with
    | some (.lst l) => match l[l.length - 1]? with
      | some x => some (.d x, S.set n (.lst l.dropLast))
      | none => none
    | _ => none
  | _, _ => none
def mReverse (a : AV) (as : List AV) (S : AS) : VR := match a, as with
  | .ref n, [] => match S[n]? with
    | some (.lst l) => some (.d .none, S.set n (.lst l.reverse))
    | _ => none
  | _, _ => none
/-- is it a list? -/
def isL (S : AS) (a : AV) : Bool := match rdSeq S a with
  | some (true, _) => true
  | _ => false
section
variable {X : Cx} {ex : Option (Addr × Value × Option Addr)}
theorem RS.lstM {K : PySem.W.Frag} {F H : Hp} {ρ : Rh} {S : AS} (rs : RS K F ρ S H) {n : Nat} {p : Addr} {l : List D} (hp : ρ.l[n]? = some p) (hS : S[n]? = some (.lst l)) : F p = none ∧ ∃ vs, H p = some (.lst vs) ∧ DpAll K F vs l := rs.ob n p _ hp hS
theorem mAppend_ok : MtR X "list.append" (rM (zp X ex) mAppend) := by
  intro pins s σ H x xs v us Q I rx rs' h
  obtain ⟨F, ρ, S, a, as, rs, ra, ras, h⟩ := h
  unfold mAppend at h
  split at h
  · rename_i n y
    obtain ⟨p, hp, rfl⟩ := ra
    obtain ⟨w, rfl, rw'⟩ := ras.one
    split at h
    · rename_i x1 S1 e
      obtain ⟨F1, s1, rs1, d1⟩ := frzD_ok rs rw' e
      split at h
      · rename_i l e2
        split at h
        · rename_i c
          obtain ⟨hF, vs, hH, k⟩ := rs1.lstM hp e2
          have hl := dpA_len k
          refine mt_append pins s σ H _ _ v us Q I rx rs' ⟨p, vs, w, rfl, rfl, hH, Nat.lt_trans (by omega) cap_lt, ?_⟩
          exact h F1 ρ _ _ (Tr.sam s1) (rs1.mut hp e2 (dpA_app k (.cons d1 .nil))) (show Dp _ _ _ _ from .non)
        · exact h.elim
      · exact h.elim
    · exact h.elim
  · exact h.elim
theorem mPop_ok : MtR X "list.pop" (rM (zp X ex) mPop) := by
  intro pins s σ H x xs v us Q I rx rs' h
  obtain ⟨F, ρ, S, a, as, rs, ra, ras, h⟩ := h
  unfold mPop at h
  split at h
  · rename_i n
    obtain ⟨p, hp, rfl⟩ := ra
    cases ras
    split at h
    · rename_i l e2
      split at h
      · rename_i x1 e3
        obtain ⟨hF, vs, hH, k⟩ := rs.lstM hp e2
        have hl := dpA_len k
        obtain ⟨w, h1, h2⟩ := dpA_get k e3
        refine mt_pop pins s σ H _ _ v us Q I rx rs' ⟨p, vs, w, rfl, rfl, hH, by rw [hl]; exact h1, ?_⟩
        exact h F ρ _ _ Tr.refl (rs.mut hp e2 (dpA_dropLast k)) (show Dp _ _ _ _ from h2)
      · exact h.elim
    · exact h.elim
  · exact h.elim
theorem mReverse_ok : MtR X "list.reverse" (rM (zp X ex) mReverse) := by
  intro pins s σ H x xs v us Q I rx rs' h
  obtain ⟨F, ρ, S, a, as, rs, ra, ras, h⟩ := h
  unfold mReverse at h
  split at h
  · rename_i n
    obtain ⟨p, hp, rfl⟩ := ra
    cases ras
    split at h
    · rename_i l e2
      obtain ⟨hF, vs, hH, k⟩ := rs.lstM hp e2
      refine mt_reverse pins s σ H _ _ v us Q I rx rs' ⟨p, vs, rfl, rfl, hH, ?_⟩
      exact h F ρ _ _ Tr.refl (rs.mut hp e2 (dpA_rev k)) (show Dp _ _ _ _ from .non)
    · exact h.elim
  · exact h.elim
theorem isL_ok {F H : Hp} {ρ : Rh} {S : AS} {a : AV} {x : V} (rs : RS X.K F ρ S H) (ra : RepV (zp X ex) F ρ a x) (h : isL S a = true) : tyV X.K "list" x H := by
  unfold isL at h
  split at h
  · rename_i l e
    obtain ⟨p, vs, rfl, kk, L, T⟩ := rdSeq_F (Z := zp X ex) rs ra e
    exact .inl ⟨rfl, vs, L rfl⟩
  · cases h
end

/-! ### isinstance of built-in types -/
def tyName (S : AS) : AV → Option String
  | .d .none => some "NoneType"
  | .d (.bool _) => some "bool"
  | .d (.int _) => some "int"
  | .d (.str _) => some "str"
  | .d (.list _) => some "list"
  | .d (.tuple _) => some "tuple"
  | .ref n => match S[n]? with
    | some _ => some "list"
    | none => none
  | _ => none
def kitS (t u : String) : Bool := t == u || (t == "bool" && u == "int")
theorem kitS_ok : (["NoneType", "bool", "int", "str", "list", "tuple"].all fun t => ["bool", "int", "str", "list", "tuple", "dict"].all fun u => decide (kitB t u = some (kitS t u))) = true := by decide +kernel
theorem kit_of_names {K : PySem.W.Frag} {t u : String} (ht : t ∈ ["NoneType", "bool", "int", "str", "list", "tuple"]) (hu : u ∈ ["bool", "int", "str", "list", "tuple", "dict"]) : PySem.W.kitOne K (.type t) (.type u) = some (kitS t u) := by
  have h := kitS_ok
  rw [List.all_eq_true] at h
  have h2 := h t ht
  rw [List.all_eq_true] at h2
  exact kit_ty (of_decide_eq_true (h2 u hu))
section
variable {X : Cx} {ex : Option (Addr × Value × Option Addr)}
theorem tyX_list {K : PySem.W.Frag} {H : Hp} {p : Addr} {xs : List V} (h : SqL K H p xs) : TyX K H (.ref p) (.type "list") := by
  rcases h with (h | ⟨o, h⟩) | ⟨o, its, n, h1, h2, _⟩
  · exact .base (.lst h)
  · exact .base (.frz h)
  · exact .kList h1 h2
theorem tyX_tup {K : PySem.W.Frag} {H : Hp} {p : Addr} {xs : List V} (h : SqT K H p xs) : TyX K H (.ref p) (.type "tuple") := by
  rcases h with (h | ⟨o, h⟩) | ⟨o, its, n, h1, h2, _⟩
  · exact .base (.tup h)
  · exact .fTuple h
  · exact .kTuple h1 h2
theorem tyName_ok {F H : Hp} {ρ : Rh} {S : AS} {a : AV} {x : V} {t : String} (rs : RS X.K F ρ S H) (ra : RepV (zp X ex) F ρ a x) (h : tyName S a = some t) :
    TyX X.K H x (.type t) ∧ t ∈ ["NoneType", "bool", "int", "str", "list", "tuple"] := by
  cases a with
  | d y =>
    have ra : Dp X.K F x y := ra
    cases y with
    | none => cases Option.some.inj h; cases ra; exact ⟨.base .non, by simp⟩
    | bool b => cases Option.some.inj h; cases ra; exact ⟨.base (.bl _), by simp⟩
    | int b => cases Option.some.inj h; cases ra; exact ⟨.base (.int _), by simp⟩
    | str b => cases Option.some.inj h; cases ra; exact ⟨.base (.str _), by simp⟩
    | list b =>
      cases Option.some.inj h
      cases ra with
      | lst h1 h2 => exact ⟨tyX_list (rs.sub.seq h1), by simp⟩
    | tuple b =>
      cases Option.some.inj h
      cases ra with
      | tup h1 h2 => exact ⟨tyX_tup (Same.seqT rs.sub h1), by simp⟩
    | dict b => cases h
  | ref n =>
    cases e : S[n]? with
    | none => simp only [tyName, e] at h; cases h
    | some o =>
      simp only [tyName, e] at h
      cases Option.some.inj h
      obtain ⟨p, rfl, _, k⟩ := ref_ob rs ra e
      cases o with
      | lst l =>
        obtain ⟨_, vs, h2, _⟩ := k
        exact ⟨tyX_list (SqL.of h2), by simp⟩
      | froz l =>
        obtain ⟨vs, h2, _⟩ := k
        exact ⟨tyX_list (SqL.of (rs.sub _ _ h2)), by simp⟩
  | own l => cases h
  | exc e => cases h
end
end Den
/-! Den4: expressions. -/
namespace Den
open PySem PySem.Spec PyProof.Rows L2

/-! ### what an expression comes to -/
def dC (x : D) : Dn := fun _ S => .ok (.d x) S
def dVar (i : Nat) : Dn := fun σ S => match σ[i]? with
  | some (some a) => .ok a S
  | _ => .stuck
def dBin (g : AV → AV → AS → VR) (ca cb : Dn) : Dn := fun σ S => (ca σ S).bind fun a S1 => (cb σ S1).bind fun b S2 => liftV (g a b S2)
def vNeg (a : AV) (S : AS) : VR := match a with
  | .d (.int i) => some (.d (.int (-i)), S)
  | _ => none
def dNeg (ca : Dn) : Dn := fun σ S => (ca σ S).bind fun a S1 => liftV (vNeg a S1)
def bAnd (cb : Dn) (σ : ASt) (a : AV) (S : AS) : ER := match a with
  | .d (.bool true) => cb σ S
  | .d (.bool false) => .ok (.d (.bool false)) S
  | _ => .stuck
def bOr (cb : Dn) (σ : ASt) (a : AV) (S : AS) : ER := match a with
  | .d (.bool false) => cb σ S
  | .d (.bool true) => .ok (.d (.bool true)) S
  | _ => .stuck
def bIf (cb cc : Dn) (σ : ASt) (a : AV) (S : AS) : ER := match a with
  | .d (.bool true) => cb σ S
  | .d (.bool false) => cc σ S
  | _ => .stuck
def dAnd (ca cb : Dn) : Dn := fun σ S => (ca σ S).bind fun a S1 => bAnd cb σ a S1
def dOr (ca cb : Dn) : Dn := fun σ S => (ca σ S).bind fun a S1 => bOr cb σ a S1
def dIf (ct ca cb : Dn) : Dn := fun σ S => (ct σ S).bind fun a S1 => bIf ca cb σ a S1
def vNot (a : AV) (S : AS) : VR := match a with
  | .d (.bool b) => some (.d (.bool (!b)), S)
  | _ => none
def dNot (ca : Dn) : Dn := fun σ S => (ca σ S).bind fun a S1 => liftV (vNot a S1)
def truD (S : AS) (a : AV) : Option Bool := match a with
  | .d .none => some false
  | .d (.bool b) => some b
  | .d (.int i) => some (i != 0)
  | .d (.str s) => if s.length ≤ cap then some ((s.length : Int) != 0) else none
  | a => match rdSeq S a with
    | some (_, l) => some (!l.isEmpty)
    | none => none
def vTru (a : AV) (S : AS) : VR := match truD S a with
  | some k => some (.d (.bool k), S)
  | none => none
def dTru (ca : Dn) : Dn := fun σ S => (ca σ S).bind fun a S1 => liftV (vTru a S1)
/-- a op b op' c -/
def dChain (g g' : AV → AV → AS → VR) (ca cb cc : Dn) : Dn := fun σ S => (ca σ S).bind fun a S1 => (cb σ S1).bind fun b S2 => (liftV (g a b S2)).bind fun k S3 =>
  bAnd (fun σ S => (cc σ S).bind fun c S4 => liftV (g' b c S4)) σ k S3
def lNil : Ln := fun _ S => .ok [] S
def LR.cons (a : AV) (r : LR) : LR := match r with
  | .ok as S => .ok (a :: as) S
  | .err x S => .err x S
  | .stuck => .stuck
def ER.bindL (r : ER) (f : AV → AS → LR) : LR := match r with
  | .ok a S => f a.fz S
  | .err x S => .err x S
  | .stuck => .stuck
def lCons (c : Dn) (l : Ln) : Ln := fun σ S => (c σ S).bindL fun a S1 => (l σ S1).cons a
def dCallV (g : List AV → AS → VR) (l : Ln) : Dn := fun σ S => (l σ S).bind fun as S1 => liftV (g as S1)
def dCall (f : List AV → AS → ER) (l : Ln) : Dn := fun σ S => (l σ S).bind f
def bMeth (g : AV → List AV → AS → VR) (l : Ln) (σ : ASt) (a : AV) (S : AS) : ER := if isL S a then (l σ S).bind fun as S2 => liftV (g a as S2) else .stuck
def dMeth (g : AV → List AV → AS → VR) (co : Dn) (l : Ln) : Dn := fun σ S => (co σ S).bind fun a S1 => bMeth g l σ a S1
def vTupD (as : List AV) (S : AS) : VR := match frzAll S as with
  | some (l, S1) => if l.length ≤ cap then some (.d (.tuple l), S1) else none
  | none => none
def vLstD (as : List AV) (S : AS) : VR := match frzAll S as with
  | some (l, S1) => if l.length ≤ cap then some (.own l, S1) else none
  | none => none
def vIsi (tys : List String) (a : AV) (S : AS) : VR := match tyName S a with
  | some t => some (.d (.bool (tys.any (kitS t))), S)
  | none => none
def dIsi (tys : List String) (ca : Dn) : Dn := fun σ S => (ca σ S).bind fun a S1 => liftV (vIsi tys a S1)
def bPart (c : Option Dn) (σ : ASt) (S : AS) (k : Option Int → AS → ER) : ER := match c with
  | none => k none S
  | some c => (c σ S).bind fun b S1 => match b with
    | .d (.int i) => k (some i) S1
    | _ => .stuck
def dSl (ca : Dn) (lo hi : Option Dn) : Dn := fun σ S => (ca σ S).bind fun a S1 => bPart lo σ S1 fun l S2 => bPart hi σ S2 fun u S3 => liftV (vSl a l u S3)

/-! ### judgements weakened -/
theorem _root_.L2.PE.impD {X : Cx} {e : Expr} {t t' : TE} (h : PE X e t) (k : ∀ σ H Q, t' σ H Q → t σ H Q) : PE X e t' := ⟨fun pins s σ H Q I q => h.run pins s σ H Q I (k σ H Q q)⟩
theorem _root_.L2.PT.impD {X : Cx} {e : Expr} {t t' : TT} (h : PT X e t) (k : ∀ σ H Q, t' σ H Q → t σ H Q) : PT X e t' := ⟨fun pins s σ H Q I q => h.run pins s σ H Q I (k σ H Q q)⟩
theorem _root_.L2.PW.impD {X : Cx} {e : Expr} {t t' : TT} (h : PW X e t) (k : ∀ σ H Q, t' σ H Q → t σ H Q) : PW X e t' := ⟨fun w pins s σ H Q I q => h.run w pins s σ H Q I (k σ H Q q)⟩
theorem _root_.L2.PA.impD {X : Cx} {e : List Expr} {t t' : TA} (h : PA X e t) (k : ∀ σ H Q, t' σ H Q → t σ H Q) : PA X e t' := ⟨fun p pins s σ H Q I q => h.run p pins s σ H Q I (k σ H Q q)⟩

section
variable {Z : Zp} {W : WX} {σ : L2.St} {H : Hp} {Q : VK}
/-- the first part of an expression -/
theorem tE.bind {c : Dn} {f : ASt → AV → AS → ER} (h : tE Z W (fun σ S => (c σ S).bind (f σ)) σ H Q) :
    tE Z W c σ H fun v H1 => ∃ F ρ S a aσ, RS Z.K F ρ S H1 ∧ RepV Z F ρ a v ∧ RSt Z F ρ aσ σ ∧ EPost Z W σ F ρ Q (f aσ a S) := by
  obtain ⟨F, ρ, S, aσ, rs, st, p⟩ := h
  refine ⟨F, ρ, S, aσ, rs, st, (EPost.bind p).imp fun v H1 q => ?_⟩
  obtain ⟨F1, ρ1, S1, a, t, rs1, rv, p1⟩ := q
  exact ⟨F1, ρ1, S1, a, aσ, rs1, rv, st.mono t, p1⟩
theorem tL.bind {c : Ln} {f : ASt → List AV → AS → ER} (h : tE Z W (fun σ S => (c σ S).bind (f σ)) σ H Q) :
    tL Z W c σ H fun v H1 => ∃ F ρ S a aσ, RS Z.K F ρ S H1 ∧ RepVs Z F ρ a v ∧ RSt Z F ρ aσ σ ∧ EPost Z W σ F ρ Q (f aσ a S) := by
  obtain ⟨F, ρ, S, aσ, rs, st, p⟩ := h
  refine ⟨F, ρ, S, aσ, rs, st, ?_⟩
  have p2 := LPost.bind p
  cases e : c aσ S with
  | ok as S1 =>
    rw [e] at p2
    intro F' ρ' H' vs t rs' rv
    obtain ⟨F1, ρ1, S1, a, t1, rs1, rv1, p1⟩ := p2 F' ρ' H' vs t rs' rv
    exact ⟨F1, ρ1, S1, a, aσ, rs1, rv1, st.mono t1, p1⟩
  | err x S1 =>
    rw [e] at p2
    exact p2
  | stuck =>
    rw [e] at p2
    exact p2
theorem tE.imp {c : Dn} {Q' : VK} (h : tE Z W c σ H Q) (k : ∀ v H, Q v H → Q' v H) : tE Z W c σ H Q' := by
  obtain ⟨F, ρ, S, aσ, rs, st, p⟩ := h
  exact ⟨F, ρ, S, aσ, rs, st, p.imp k⟩
theorem tL.imp {c : Ln} {Q Q' : List V → Hp → Prop} (h : tL Z W c σ H Q) (k : ∀ v H, Q v H → Q' v H) : tL Z W c σ H Q' := by
  obtain ⟨F, ρ, S, aσ, rs, st, p⟩ := h
  refine ⟨F, ρ, S, aσ, rs, st, ?_⟩
  cases e : c aσ S with
  | ok as S1 =>
    rw [e] at p
    exact fun F' ρ' H' vs t rs' rv => k _ _ (p F' ρ' H' vs t rs' rv)
  | err x S1 => rw [e] at p; exact p
  | stuck => rw [e] at p; exact p
theorem LPost.imp {F : Hp} {ρ : Rh} {r : LR} {Q Q' : List V → Hp → Prop} (h : LPost Z W σ F ρ Q r) (k : ∀ v H, Q v H → Q' v H) : LPost Z W σ F ρ Q' r := by
  cases r with
  | ok as S1 => exact fun F' ρ' H' vs t rs' rv => k _ _ (h F' ρ' H' vs t rs' rv)
  | err x S1 => exact h
  | stuck => exact h
/-- a whole reading again, from what stands for what -/
theorem tE.mk {F : Hp} {ρ : Rh} {S : AS} {aσ : ASt} {c : Dn} (rs : RS Z.K F ρ S H) (st : RSt Z F ρ aσ σ) (p : EPost Z W σ F ρ Q (c aσ S)) : tE Z W c σ H Q := ⟨F, ρ, S, aσ, rs, st, p⟩
end

section
variable {X : Cx} {ex : Option (Addr × Value × Option Addr)} {W : WX} {pos : Pos} {a b c e : Expr} {ca cb cc : Dn}

theorem sE_C {e : Expr} {v : V} {x : D} (h : PE X e (tC v)) (k : ∀ F, Dp X.K F v x) : PE X e (tE (zp X ex) W (dC x)) := h.impD fun σ H Q q => by
  obtain ⟨F, ρ, S, aσ, rs, st, p⟩ := q
  exact p F ρ H v Tr.refl rs (k F)
theorem sE_int {i : Int} {j : Nat} : PE X (.Constant (.int i) j pos) (tE (zp X ex) W (dC (.int i))) := sE_C pe_int fun _ => .int _
theorem sE_bool {i : Bool} {j : Nat} : PE X (.Constant (.bool i) j pos) (tE (zp X ex) W (dC (.bool i))) := sE_C pe_bl fun _ => .bl _
theorem sE_str {i : Str} {j : Nat} : PE X (.Constant (.str i) j pos) (tE (zp X ex) W (dC (.str i))) := sE_C pe_str fun _ => .str _
theorem sE_none {j : Nat} : PE X (.Constant .none j pos) (tE (zp X ex) W (dC .none)) := sE_C pe_non fun _ => .non
theorem sE_var {i : Nat} {x : Str} (hN : X.N[i]? = some x) (hv : Vis X.env.scope x) (hd : (x == ("__debug__" : Str)) = false) (hcd : (x == ("__classdict__" : Str)) = false) : PE X (.Name x pos) (tE (zp X ex) W (dVar i)) :=
  (pe_var hN hv hd hcd).impD fun σ H Q q => by
    obtain ⟨F, ρ, S, aσ, rs, st, p⟩ := q
    unfold dVar at p
    split at p
    · rename_i a e
      obtain ⟨v, h1, h2⟩ := st.at_ i a e
      exact ⟨v, h1, p F ρ H v Tr.refl rs h2.w⟩
    · exact p.elim
theorem bin_imp {g : AV → AV → AS → VR} {Z : Zp} {σ : L2.St} {H : Hp} {Q : VK} (h : tE Z W (dBin g ca cb) σ H Q) : tOp (rB Z g) (tE Z W ca) (tE Z W cb) σ H Q := by
  refine (tE.bind (f := fun σ a S1 => (cb σ S1).bind fun b S2 => liftV (g a b S2)) h).imp fun v H1 q => ?_
  obtain ⟨F, ρ, S, a, aσ, rs, rv, st, p⟩ := q
  refine ⟨F, ρ, S, aσ, rs, st, (EPost.bind p).imp fun w H2 q2 => ?_⟩
  obtain ⟨F1, ρ1, S1, b, t, rs1, rw', p1⟩ := q2
  exact ⟨F1, ρ1, S1, a, b, rs1, rv.mono t, rw', VPost.of p1⟩
theorem sE_bin {op : Operator} {g : AV → AV → AS → VR} (ho : bop op = some g) (ha : PE X a (tE (zp X ex) W ca)) (hb : PE X b (tE (zp X ex) W cb)) : PE X (.BinOp a op b pos) (tE (zp X ex) W (dBin g ca cb)) :=
  (pe_op (op_bop ho) ha hb).impD fun σ H Q q => bin_imp q
theorem sE_cmp {op : CmpOp} (hu : X.A.units + 64 < cLine) (ha : PE X a (tE (zp X ex) W ca)) (hb : PE X b (tE (zp X ex) W cb)) (hm : behindInMarks op b = false) : PE X (.Compare a [op] [b] pos) (tE (zp X ex) W (dBin (cop op) ca cb)) :=
  (pe_cmpR (op_cop hu op) ha hb hm).impD fun σ H Q q => bin_imp q
theorem sT_cmp {op : CmpOp} (hu : X.A.units + 64 < cLine) (ha : PE X a (tE (zp X ex) W ca)) (hb : PE X b (tE (zp X ex) W cb)) (hm : behindInMarks op b = false) : PT X (.Compare a [op] [b] pos) (tT (zp X ex) W (dBin (cop op) ca cb)) :=
  (pt_cmpR (op_cop hu op) ha hb hm).impD fun σ H Q q => bin_imp q
theorem chain_imp {g g' : AV → AV → AS → VR} {Z : Zp} {σ : L2.St} {H : Hp} {Q : VK} (hg : ∀ a b S, (g a b S = none) ∨ ∃ k S', g a b S = some (.d (.bool k), S')) (h : tE Z W (dChain g g' ca cb cc) σ H Q) :
    tChain (rB Z g) (rB Z g') (tE Z W ca) (tE Z W cb) (tE Z W cc) σ H Q := by
  refine (tE.bind (f := fun σ a S1 => (cb σ S1).bind fun b S2 => (liftV (g a b S2)).bind fun k S3 => bAnd (fun σ S => (cc σ S).bind fun c S4 => liftV (g' b c S4)) σ k S3) h).imp fun v H1 q => ?_
  obtain ⟨F, ρ, S, a, aσ, rs, rv, st, p⟩ := q
  refine ⟨F, ρ, S, aσ, rs, st, (EPost.bind p).imp fun w H2 q2 => ?_⟩
  obtain ⟨F1, ρ1, S1, b, t, rs1, rw', p1⟩ := q2
  refine ⟨F1, ρ1, S1, a, b, rs1, rv.mono t, rw', ?_⟩
  rcases hg a b S1 with e | ⟨k, S2, e⟩
  · rw [e] at p1
    exact p1.elim
  · rw [e] at p1 ⊢
    intro F2 ρ2 H3 x t2 rs2 rx
    cases dbool (show Dp Z.K F2 x (.bool k) from rx)
    refine ⟨k, rfl, ?_⟩
    have st2 := (st.mono t).mono t2
    have p2 := EPost.tr t2 p1
    cases k with
    | true =>
      rw [if_pos rfl]
      have p3 : EPost Z W σ F2 ρ2 Q ((cc aσ S2).bind fun c S4 => liftV (g' b c S4)) := p2
      refine ⟨F2, ρ2, S2, aσ, rs2, st2, (EPost.bind p3).imp fun y H4 q3 => ?_⟩
      obtain ⟨F3, ρ3, S3, c, t3, rs3, ry, p3⟩ := q3
      exact ⟨F3, ρ3, S3, b, c, rs3, (rw'.mono t2).mono t3, ry, VPost.of p3⟩
    | false =>
      rw [if_neg Bool.false_ne_true]
      exact p2 F2 ρ2 H3 _ Tr.refl rs2 (show Dp _ _ _ _ from .bl false)
theorem cop_bool (op : CmpOp) (a b : AV) (S : AS) : (cop op a b S = none) ∨ ∃ k S', cop op a b S = some (.d (.bool k), S') := by
  cases op <;> simp only [cop, cEq, cNe, cLt, cLe, cGt, cGe, cIn, cNotIn, cIs, cIsNot] <;> split <;> first | exact .inl rfl | exact .inr ⟨_, _, rfl⟩
theorem sE_chain {op op' : CmpOp} (hu : X.A.units + 64 < cLine) (ha : PE X a (tE (zp X ex) W ca)) (hb : PE X b (tE (zp X ex) W cb)) (hc : PE X c (tE (zp X ex) W cc)) (hm : lastMarks [op, op'] [b, c] = false) :
    PE X (.Compare a [op, op'] [b, c] pos) (tE (zp X ex) W (dChain (cop op) (cop op') ca cb cc)) :=
  (pe_chain (op_cop hu op) (op_cop hu op') ha hb hc hm).impD fun σ H Q q => chain_imp (cop_bool op) q
theorem sT_chain {op op' : CmpOp} (hu : X.A.units + 64 < cLine) (ha : PE X a (tE (zp X ex) W ca)) (hb : PE X b (tE (zp X ex) W cb)) (hc : PE X c (tE (zp X ex) W cc)) (hm : lastMarks [op, op'] [b, c] = false) :
    PT X (.Compare a [op, op'] [b, c] pos) (tT (zp X ex) W (dChain (cop op) (cop op') ca cb cc)) :=
  (pt_chain (op_cop hu op) (op_cop hu op') ha hb hc hm).impD fun σ H Q q => chain_imp (cop_bool op) q
theorem sE_neg (ha : PE X a (tE (zp X ex) W ca)) : PE X (.UnaryOp .USub a pos) (tE (zp X ex) W (dNeg ca)) :=
  (pe_un un_neg ha).impD fun σ H Q q => by
    refine (tE.bind (f := fun σ a S1 => liftV (vNeg a S1)) q).imp fun v H1 q => ?_
    obtain ⟨F, ρ, S, a, aσ, rs, rv, st, p⟩ := q
    have p := VPost.of p
    unfold vNeg at p
    split at p
    · cases dint (show Dp X.K F v _ from rv)
      exact ⟨_, rfl, VPost.dat p rs (.int _)⟩
    · exact p.elim
theorem and_imp {Z : Zp} {σ : L2.St} {H : Hp} {Q : VK} (h : tE Z W (dAnd ca cb) σ H Q) : tE Z W ca σ H fun x H1 => ∃ k, x = .bl k ∧ if k = true then tE Z W cb σ H1 Q else Q (.bl false) H1 := by
  refine (tE.bind (f := fun σ a S1 => bAnd cb σ a S1) h).imp fun v H1 q => ?_
  obtain ⟨F, ρ, S, a, aσ, rs, rv, st, p⟩ := q
  unfold bAnd at p
  split at p
  · cases dbool (show Dp Z.K F v _ from rv)
    exact ⟨true, rfl, by rw [if_pos rfl]; exact ⟨F, ρ, S, aσ, rs, st, p⟩⟩
  · cases dbool (show Dp Z.K F v _ from rv)
    exact ⟨false, rfl, by rw [if_neg Bool.false_ne_true]; exact p F ρ H1 _ Tr.refl rs (show Dp _ _ _ _ from .bl false)⟩
  · exact p.elim
theorem or_imp {Z : Zp} {σ : L2.St} {H : Hp} {Q : VK} (h : tE Z W (dOr ca cb) σ H Q) : tE Z W ca σ H fun x H1 => ∃ k, x = .bl k ∧ if k = true then Q (.bl true) H1 else tE Z W cb σ H1 Q := by
  refine (tE.bind (f := fun σ a S1 => bOr cb σ a S1) h).imp fun v H1 q => ?_
  obtain ⟨F, ρ, S, a, aσ, rs, rv, st, p⟩ := q
  unfold bOr at p
  split at p
  · cases dbool (show Dp Z.K F v _ from rv)
    exact ⟨false, rfl, by rw [if_neg Bool.false_ne_true]; exact ⟨F, ρ, S, aσ, rs, st, p⟩⟩
  · cases dbool (show Dp Z.K F v _ from rv)
    exact ⟨true, rfl, by rw [if_pos rfl]; exact p F ρ H1 _ Tr.refl rs (show Dp _ _ _ _ from .bl true)⟩
  · exact p.elim
theorem if_imp {Z : Zp} {σ : L2.St} {H : Hp} {Q : VK} (h : tE Z W (dIf ca cb cc) σ H Q) : tE Z W ca σ H fun x H1 => ∃ k, x = .bl k ∧ if k = true then tE Z W cb σ H1 Q else tE Z W cc σ H1 Q := by
  refine (tE.bind (f := fun σ a S1 => bIf cb cc σ a S1) h).imp fun v H1 q => ?_
  obtain ⟨F, ρ, S, a, aσ, rs, rv, st, p⟩ := q
  unfold bIf at p
  split at p
  · cases dbool (show Dp Z.K F v _ from rv)
    exact ⟨true, rfl, by rw [if_pos rfl]; exact ⟨F, ρ, S, aσ, rs, st, p⟩⟩
  · cases dbool (show Dp Z.K F v _ from rv)
    exact ⟨false, rfl, by rw [if_neg Bool.false_ne_true]; exact ⟨F, ρ, S, aσ, rs, st, p⟩⟩
  · exact p.elim
theorem sE_one {op : BoolOp} (ha : PE X a (tE (zp X ex) W ca)) : PE X (.BoolOp op [a] pos) (tE (zp X ex) W ca) := pe_one ha
theorem sE_and {r : List Expr} (ha : PE X a (tE (zp X ex) W ca)) (hb : PE X (.BoolOp .And (b :: r) pos) (tE (zp X ex) W cb)) : PE X (.BoolOp .And (a :: b :: r) pos) (tE (zp X ex) W (dAnd ca cb)) :=
  (pe_and ha hb).impD fun σ H Q q => and_imp q
theorem sE_or {r : List Expr} (ha : PE X a (tE (zp X ex) W ca)) (hb : PE X (.BoolOp .Or (b :: r) pos) (tE (zp X ex) W cb)) : PE X (.BoolOp .Or (a :: b :: r) pos) (tE (zp X ex) W (dOr ca cb)) :=
  (pe_or ha hb).impD fun σ H Q q => or_imp q
theorem not_imp {Z : Zp} {σ : L2.St} {H : Hp} {Q : VK} (h : tE Z W (dNot ca) σ H Q) : tE Z W ca σ H fun x H1 => ∃ k, x = .bl k ∧ Q (.bl (!k)) H1 := by
  refine (tE.bind (f := fun σ a S1 => liftV (vNot a S1)) h).imp fun v H1 q => ?_
  obtain ⟨F, ρ, S, a, aσ, rs, rv, st, p⟩ := q
  have p := VPost.of p
  unfold vNot at p
  split at p
  · cases dbool (show Dp Z.K F v _ from rv)
    exact ⟨_, rfl, VPost.dat p rs (.bl _)⟩
  · exact p.elim
theorem sE_not (ha : PE X a (tE (zp X ex) W ca)) : PE X (.UnaryOp .Not a pos) (tE (zp X ex) W (dNot ca)) := (pe_not ha).impD fun σ H Q q => not_imp q
/-! tests -/
theorem tB2_bl {Q : Bool → Hp → Prop} {k : Bool} {H : Hp} (h : tB2 Q (.bl k) H) : Q k H := by
  obtain ⟨b, e, q⟩ := h
  cases e
  exact q
theorem sT_not (ha : PT X a (tT (zp X ex) W ca)) : PT X (.UnaryOp .Not a pos) (tT (zp X ex) W (dNot ca)) := (pt_not ha).impD fun σ H Q q => by
  refine (not_imp q).imp fun v H1 h => ?_
  obtain ⟨k, rfl, h⟩ := h
  exact ⟨k, rfl, tB2_bl h⟩
theorem sW_and1 (ha : PT X a (tT (zp X ex) W ca)) : PW X (.BoolOp .And [a] pos) (tT (zp X ex) W ca) := pw_and1 ha
theorem sW_or1 (ha : PT X a (tT (zp X ex) W ca)) : PW X (.BoolOp .Or [a] pos) (tT (zp X ex) W ca) := pw_or1 ha
theorem sW_and {r : List Expr} (ha : PT X a (tT (zp X ex) W ca)) (hb : PW X (.BoolOp .And (b :: r) pos) (tT (zp X ex) W cb)) : PW X (.BoolOp .And (a :: b :: r) pos) (tT (zp X ex) W (dAnd ca cb)) :=
  (pw_and ha hb).impD fun σ H Q q => by
    refine (and_imp q).imp fun v H1 h => ?_
    obtain ⟨k, rfl, h⟩ := h
    refine ⟨k, rfl, ?_⟩
    cases k with
    | true => exact h
    | false => exact tB2_bl h
theorem sW_or {r : List Expr} (ha : PT X a (tT (zp X ex) W ca)) (hb : PW X (.BoolOp .Or (b :: r) pos) (tT (zp X ex) W cb)) : PW X (.BoolOp .Or (a :: b :: r) pos) (tT (zp X ex) W (dOr ca cb)) :=
  (pw_or ha hb).impD fun σ H Q q => by
    refine (or_imp q).imp fun v H1 h => ?_
    obtain ⟨k, rfl, h⟩ := h
    refine ⟨k, rfl, ?_⟩
    cases k with
    | true => exact tB2_bl h
    | false => exact h
theorem sE_if (ht : PT X c (tT (zp X ex) W cc)) (ha : PE X a (tE (zp X ex) W ca)) (hb : PE X b (tE (zp X ex) W cb)) : PE X (.IfExp c a b pos) (tE (zp X ex) W (dIf cc ca cb)) :=
  (pe_ifExp ht ha hb).impD fun σ H Q q => if_imp q
theorem truD_ok {F H : Hp} {ρ : Rh} {S : AS} {a : AV} {x : V} {k : Bool} (rs : RS X.K F ρ S H) (ra : RepV (zp X ex) F ρ a x) (h : truD S a = some k) : TruV X.K x H k := by
  have gen : ∀ {l : List D} {b : Bool}, rdSeq S a = some (b, l) → k = !l.isEmpty → TruV X.K x H k := fun {l b} e ek => by
    obtain ⟨p, vs, rfl, kk, L, T⟩ := rdSeq_F (Z := zp X ex) rs ra e
    have e2 : (!vs.isEmpty) = !l.isEmpty := by
      cases kk <;> rfl
    cases b with
    | true => exact .inl ⟨vs, L rfl, by rw [ek, e2]⟩
    | false => exact .inr (.inl ⟨vs, T rfl, by rw [ek, e2]⟩)
  unfold truD at h
  split at h
  · cases dnone (show Dp X.K F x _ from ra)
    exact (Option.some.inj h).symm
  · cases dbool (show Dp X.K F x _ from ra)
    exact (Option.some.inj h).symm
  · cases dint (show Dp X.K F x _ from ra)
    exact (Option.some.inj h).symm
  · cases dstr (show Dp X.K F x _ from ra)
    split at h
    · rename_i c
      exact ⟨Nat.le_trans c cap_le, (Option.some.inj h).symm⟩
    · cases h
  · split at h
    · rename_i b l e
      exact gen e (Option.some.inj h).symm
    · cases h
theorem sT_tru (ha : PE X a (tE (zp X ex) W ca)) (he : ∀ whole, isTrue a X.env whole = (do let v ← whole; standAt a.pos; holding [v] (truthy v))) : PT X a (tT (zp X ex) W (dTru ca)) :=
  (pt_truth ha he).impD fun σ H Q q => by
    refine (tE.bind (f := fun σ a S1 => liftV (vTru a S1)) q).imp fun v H1 q => ?_
    obtain ⟨F, ρ, S, a, aσ, rs, rv, st, p⟩ := q
    have p := VPost.of p
    unfold vTru at p
    split at p
    · rename_i k e
      exact ⟨k, truD_ok rs rv e, tB2_bl (VPost.dat p rs (.bl _))⟩
    · exact p.elim

/-! ### argument lists, calls -/
theorem sL_nil : PA X [] (tL (zp X ex) W lNil) := pa_nil.impD fun σ H Q q => by
  obtain ⟨F, ρ, S, aσ, rs, st, p⟩ := q
  exact p F ρ H [] Tr.refl rs .nil
theorem lcons_imp {Z : Zp} {σ : L2.St} {H : Hp} {l : Ln} {Q : List V → Hp → Prop} (h : tL Z W (lCons ca l) σ H Q) : tE Z W ca σ H fun x H1 => tL Z W l σ H1 fun xs H2 => Q (x :: xs) H2 := by
  obtain ⟨F, ρ, S, aσ, rs, st, p⟩ := h
  refine ⟨F, ρ, S, aσ, rs, st, ?_⟩
  unfold lCons at p
  cases e : ca aσ S with
  | err x S1 => rw [e] at p; exact p
  | stuck => rw [e] at p; exact p
  | ok a S1 =>
    rw [e] at p
    intro F1 ρ1 H1 v t rs1 rw1
    obtain ⟨F2, s2, rs2, rv⟩ := fzW rs1 rw1
    have t2 : Tr F ρ F2 ρ1 := t.trans (Tr.sam s2)
    refine ⟨F2, ρ1, S1, aσ, rs2, st.mono t2, ?_⟩
    have p : LPost Z W σ F ρ Q ((l aσ S1).cons a.fz) := p
    cases e2 : l aσ S1 with
    | err x S2 =>
      rw [e2] at p
      exact fun F' ρ' H' cls d t' => p F' ρ' H' cls d (t2.trans t')
    | stuck => rw [e2] at p; exact p
    | ok as S2 =>
      rw [e2] at p
      intro F3 ρ3 H3 vs t3 rs3 rvs
      exact p F3 ρ3 H3 (v :: vs) (t2.trans t3) rs3 (.cons (rv.mono t3) rvs)
theorem sL_cons {es : List Expr} {l : Ln} (ha : PE X e (tE (zp X ex) W ca)) (hr : PA X es (tL (zp X ex) W l)) (hs : starEach (e :: es) X.env = (false, eval e X.env) :: starEach es X.env) : PA X (e :: es) (tL (zp X ex) W (lCons ca l)) :=
  (pa_cons ha hr hs).impD fun σ H Q q => lcons_imp q
theorem callV_imp {g : List AV → AS → VR} {Z : Zp} {σ : L2.St} {H : Hp} {Q : VK} {l : Ln} (h : tE Z W (dCallV g l) σ H Q) : tL Z W l σ H fun vs H1 => rC Z g vs H1 Q := by
  refine (tL.bind (f := fun σ as S1 => liftV (g as S1)) h).imp fun v H1 q => ?_
  obtain ⟨F, ρ, S, as, aσ, rs, rv, st, p⟩ := q
  exact ⟨F, ρ, S, as, rs, rv, VPost.of p⟩
theorem sE_callB {x : Str} {p : Pos} {es : List Expr} {l : Ln} {id : String} {g : List AV → AS → VR} (hc : CallR X (.builtin id) (rC (zp X ex) g)) (hg : Gl X x) (hm : X.mg x = none) (hv : bootBuiltins x = some (.builtin id)) (ha : PA X (e :: es) (tL (zp X ex) W l))
    (hn : x ≠ "__name__") (hdb : (x == ("__debug__" : Str)) = false) (he : starEach (e :: es) X.env = (false, eval e X.env) :: starEach es X.env) (hpl : (backTo pos (starEach es X.env)).any (·.1) = false) :
    PE X (.Call (.Name x p) (e :: es) [] pos) (tE (zp X ex) W (dCallV g l)) := (pe_callB hc hg hm hv ha hn hdb he hpl).impD fun σ H Q q => callV_imp q
theorem sE_callTy {x : Str} {p : Pos} {es : List Expr} {l : Ln} {T : String} {g : List AV → AS → VR} (hc : CallR X (.type T) (rC (zp X ex) g)) (hg : Gl X x) (hm : X.mg x = none) (hv : bootBuiltins x = some (.type T)) (ha : PA X (e :: es) (tL (zp X ex) W l))
    (hn : x ≠ "__name__") (hdb : (x == ("__debug__" : Str)) = false) (he : starEach (e :: es) X.env = (false, eval e X.env) :: starEach es X.env) (hpl : (backTo pos (starEach es X.env)).any (·.1) = false) :
    PE X (.Call (.Name x p) (e :: es) [] pos) (tE (zp X ex) W (dCallV g l)) := (pe_callTy hc hg hm hv ha hn hdb he hpl).impD fun σ H Q q => callV_imp q
theorem sE_callF {x : Str} {p : Pos} {es : List Expr} {l : Ln} {id : String} {g : List AV → AS → VR} (hc : CallR X (.builtin id) (rC (zp X ex) g)) (hg : Gl X x) (hm : X.mg x = some (.builtin id)) (ha : PA X (e :: es) (tL (zp X ex) W l))
    (hdb : (x == ("__debug__" : Str)) = false) (he : starEach (e :: es) X.env = (false, eval e X.env) :: starEach es X.env) (hpl : (backTo pos (starEach es X.env)).any (·.1) = false) :
    PE X (.Call (.Name x p) (e :: es) [] pos) (tE (zp X ex) W (dCallV g l)) := (pe_callBfun hc hg hm ha hdb he hpl).impD fun σ H Q q => callV_imp q
/-- a def's promise -/
def spOf (K : PySem.W.Frag) (mg : Str → Option Value) (np : Nat) (f : List AV → AS → ER) : Sp := fun vs H Q E => vs.length = np ∧ ∃ F ρ S as, RS K F ρ S H ∧ RepVs ⟨K, mg, none⟩ F ρ as vs ∧ EPost ⟨K, mg, none⟩ (fun cls d _ H => E cls d H) [] F ρ Q (f as S)
theorem RepVs.len {Z : Zp} {F : Hp} {ρ : Rh} {as : List AV} {vs : List V} (h : RepVs Z F ρ as vs) : as.length = vs.length := Paired.length h
def arity (np : Nat) (f : List AV → AS → ER) : List AV → AS → ER := fun as S => if as.length = np then f as S else .stuck
theorem EPost.wish {Z : Zp} {σ : L2.St} {F : Hp} {ρ : Rh} {Q : VK} {r : ER} (h : EPost Z W σ F ρ Q r) : EPost Z (fun cls d _ H => WE W σ cls d H) [] F ρ Q r := by
  cases r <;> exact h
theorem call_imp {np : Nat} {f : List AV → AS → ER} {σ : L2.St} {H : Hp} {Q : VK} {l : Ln} (h : tE (zp X none) W (dCall (arity np f) l) σ H Q) : tL (zp X none) W l σ H fun vs H1 => spOf X.K X.mg np f vs H1 Q (WE W σ) := by
  refine (tL.bind (f := fun σ as S1 => arity np f as S1) h).imp fun v H1 q => ?_
  obtain ⟨F, ρ, S, as, aσ, rs, rv, st, p⟩ := q
  unfold arity at p
  split at p
  · rename_i hl
    exact ⟨by rw [← RepVs.len rv]; exact hl, F, ρ, S, as, rs, rv, p.wish⟩
  · exact p.elim
theorem sE_call {k np : Nat} {g : Addr} {fd : FuncData} {ps : List Str} {f : List AV → AS → ER} {x : Str} {p : Pos} {es : List Expr} {l : Ln} (F : FnOk X.prog X.w X.K X.mg X.base (L2.CX X.prog X.w) k g fd ps (spOf X.K X.mg np f)) (hr : Room k X.A) (hg : Gl X x) (hm : X.mg x = some (.ref g))
    (hk : PySem.W.keepIn X.K (.ref g) = true) (hb : Binds X.K fd ps []) (tk : Takes X W) (ha : PA X (e :: es) (tL (zp X none) W l))
    (hdb : (x == ("__debug__" : Str)) = false) (he : starEach (e :: es) X.env = (false, eval e X.env) :: starEach es X.env) (hpl : (backTo pos (starEach es X.env)).any (·.1) = false) :
    PE X (.Call (.Name x p) (e :: es) [] pos) (tE (zp X none) W (dCall (arity np f) l)) := (pe_callS F hr hg hm hk hb (fun σ => passAt tk σ) ha hdb he hpl).impD fun σ H Q q => call_imp q
theorem sE_call0 {k : Nat} {g : Addr} {fd : FuncData} {f : List AV → AS → ER} {x : Str} {p : Pos} (F : FnOk X.prog X.w X.K X.mg X.base (L2.CX X.prog X.w) k g fd [] (spOf X.K X.mg 0 f)) (hr : Room k X.A) (hg : Gl X x) (hm : X.mg x = some (.ref g))
    (hk : PySem.W.keepIn X.K (.ref g) = true) (hb : Binds X.K fd [] []) (tk : Takes X W) (hdb : (x == ("__debug__" : Str)) = false) :
    PE X (.Call (.Name x p) [] [] pos) (tE (zp X none) W (dCall (arity 0 f) lNil)) := by
  refine ⟨fun pins s σ H Q I h => ?_⟩
  refine wpAny_Call_Name_kw (ld_glob I hg hm ?_ hdb)
  obtain ⟨F1, ρ, S, aσ, rs, st, q⟩ := call_imp h
  have q2 := q F1 ρ H [] Tr.refl rs .nil
  exact PySem.W.callWith_K0 I.kIn hk (run_fnS (us := []) (vs := []) F hr hb (passAt tk σ) I .nil q2)

/-! ### displays, subscripts, methods -/
theorem sE_tup {es : List Expr} {l : Ln} {k : Nat} (h : PA X es (tL (zp X ex) W l)) : PE X (.Tuple es k pos) (tE (zp X ex) W (dCallV vTupD l)) := (pe_tup h).impD fun σ H Q q => by
  refine (tL.bind (f := fun σ as S1 => liftV (vTupD as S1)) q).imp fun vs H1 q => ?_
  obtain ⟨F, ρ, S, as, aσ, rs, rv, st, p⟩ := q
  have p := VPost.of p
  unfold vTupD at p
  split at p
  · rename_i l2 S1 e
    obtain ⟨F1, s1, rs1, d1⟩ := frzAll_ok rs rv e
    split at p
    · rename_i hc
      refine ⟨by rw [dpA_len d1]; exact Nat.le_trans hc cap_le, fun r hr => ?_⟩
      have p1 : VPost (zp X ex) F1 ρ Q (some (.d (.tuple l2), S1)) := fun F' ρ' H' v t => p F' ρ' H' v ((Tr.sam s1).trans t)
      exact p1.tup rs1 d1 r hr
    · exact p.elim
  · exact p.elim
theorem sE_lst {es : List Expr} {l : Ln} (h : PA X es (tL (zp X ex) W l)) : PE X (.List es pos) (tE (zp X ex) W (dCallV vLstD l)) := (pe_lst h).impD fun σ H Q q => by
  refine (tL.bind (f := fun σ as S1 => liftV (vLstD as S1)) q).imp fun vs H1 q => ?_
  obtain ⟨F, ρ, S, as, aσ, rs, rv, st, p⟩ := q
  have p := VPost.of p
  unfold vLstD at p
  split at p
  · rename_i l2 S1 e
    obtain ⟨F1, s1, rs1, d1⟩ := frzAll_ok rs rv e
    split at p
    · rename_i hc
      refine ⟨by rw [dpA_len d1]; exact Nat.le_trans hc cap_le, fun r hr => ?_⟩
      have p1 : VPost (zp X ex) F1 ρ Q (some (.own l2, S1)) := fun F' ρ' H' v t => p F' ρ' H' v ((Tr.sam s1).trans t)
      exact p1.own rs1 d1 r hr
    · exact p.elim
  · exact p.elim
theorem sE_ix (ha : PE X a (tE (zp X ex) W ca)) (hb : PE X b (tE (zp X ex) W cb)) (hs : PlainIx b) : PE X (.Subscript a b pos) (tE (zp X ex) W (dBin vIx ca cb)) :=
  (pe_ix vIx_ok ha hb hs).impD fun σ H Q q => bin_imp q
theorem part_imp {Z : Zp} {σ : L2.St} {H : Hp} {F : Hp} {ρ : Rh} {S : AS} {aσ : ASt} {Q : VK} {c : Dn} {k : Option Int → AS → ER} {R : Option Int → Hp → Prop} (rs : RS Z.K F ρ S H) (st : RSt Z F ρ aσ σ) (p : EPost Z W σ F ρ Q (bPart (some c) aσ S k))
    (hk : ∀ o F1 ρ1 S1 H1, Tr F ρ F1 ρ1 → RS Z.K F1 ρ1 S1 H1 → EPost Z W σ F1 ρ1 Q (k o S1) → R o H1) : tPart (tE Z W c) σ H R := by
  refine ⟨F, ρ, S, aσ, rs, st, (EPost.bind (show EPost Z W σ F ρ Q ((c aσ S).bind fun b S1 => match b with
    | .d (.int i) => k (some i) S1
    | _ => .stuck) from p)).imp fun w H2 q2 => ?_⟩
  obtain ⟨F1, ρ1, S1, b, t, rs1, rw', p1⟩ := q2
  split at p1
  · cases dint (show Dp Z.K F1 w _ from rw')
    exact ⟨_, rfl, hk _ _ _ _ _ t rs1 p1⟩
  · exact p1.elim
theorem sE_slice {lo hi : Option Expr} {cl ch : Option Dn} {p2 : Pos} (ha : PE X a (tE (zp X ex) W ca)) (hl : ∀ e, lo = some e → ∃ c, cl = some c ∧ PE X e (tE (zp X ex) W c)) (hl0 : lo = none → cl = none)
    (hh : ∀ e, hi = some e → ∃ c, ch = some c ∧ PE X e (tE (zp X ex) W c)) (hh0 : hi = none → ch = none) : PE X (.Subscript a (.Slice lo hi none p2) pos) (tE (zp X ex) W (dSl ca cl ch)) := by
  have first : ∀ {σ : L2.St} {H : Hp} {Q : VK}, tE (zp X ex) W (dSl ca cl ch) σ H Q → tE (zp X ex) W ca σ H fun v H1 => ∃ F ρ S a aσ, RS X.K F ρ S H1 ∧ RepV (zp X ex) F ρ a v ∧ RSt (zp X ex) F ρ aσ σ ∧ EPost (zp X ex) W σ F ρ Q (bPart cl aσ S fun l S2 => bPart ch aσ S2 fun u S3 => liftV (vSl a l u S3)) :=
    fun {σ H Q} q => tE.bind (f := fun σ a S1 => bPart cl σ S1 fun l S2 => bPart ch σ S2 fun u S3 => liftV (vSl a l u S3)) q
  cases lo with
  | none =>
    cases hl0 rfl
    cases hi with
    | none =>
      cases hh0 rfl
      refine (pe_slice (vSl_ok (ex := ex)) ha po_none po_none).impD fun σ H Q q => (first q).imp fun v H1 q => ?_
      obtain ⟨F, ρ, S, a, aσ, rs, rv, st, p⟩ := q
      exact ⟨F, ρ, S, a, rs, rv, VPost.of p⟩
    | some h =>
      obtain ⟨c2, rfl, h2⟩ := hh h rfl
      refine (pe_slice (vSl_ok (ex := ex)) ha po_none (po_some h2)).impD fun σ H Q q => (first q).imp fun v H1 q => ?_
      obtain ⟨F, ρ, S, a, aσ, rs, rv, st, p⟩ := q
      show tPart (tE (zp X ex) W c2) σ H1 fun u H3 => rSl (zp X ex) v none u H3 Q
      exact part_imp (k := fun u S3 => liftV (vSl a none u S3)) rs st p fun o F1 ρ1 S1 H2 t rs1 p1 => ⟨F1, ρ1, S1, a, rs1, rv.mono t, VPost.of p1⟩
  | some l =>
    obtain ⟨c1, rfl, h1⟩ := hl l rfl
    cases hi with
    | none =>
      cases hh0 rfl
      refine (pe_slice (vSl_ok (ex := ex)) ha (po_some h1) po_none).impD fun σ H Q q => (first q).imp fun v H1 q => ?_
      obtain ⟨F, ρ, S, a, aσ, rs, rv, st, p⟩ := q
      exact part_imp rs st p fun o F1 ρ1 S1 H2 t rs1 p1 => ⟨F1, ρ1, S1, a, rs1, rv.mono t, VPost.of p1⟩
    | some h =>
      obtain ⟨c2, rfl, h2⟩ := hh h rfl
      refine (pe_slice (vSl_ok (ex := ex)) ha (po_some h1) (po_some h2)).impD fun σ H Q q => (first q).imp fun v H1 q => ?_
      obtain ⟨F, ρ, S, a, aσ, rs, rv, st, p⟩ := q
      exact part_imp rs st p fun o F1 ρ1 S1 H2 t rs1 p1 => part_imp (k := fun u S3 => liftV (vSl a o u S3)) rs1 (st.mono t) p1 fun o2 F2 ρ2 S2 H3 t2 rs2 p2 => ⟨F2, ρ2, S2, a, rs2, (rv.mono t).mono t2, VPost.of p2⟩
theorem meth_imp {g : AV → List AV → AS → VR} {l : Ln} {σ : L2.St} {H : Hp} {Q : VK} (h : tE (zp X ex) W (dMeth g ca l) σ H Q) : tBM X.K "list" (rM (zp X ex) g) (tE (zp X ex) W ca) (tL (zp X ex) W l) σ H Q := by
  refine (tE.bind (f := fun σ a S1 => bMeth g l σ a S1) h).imp fun v H1 q => ?_
  obtain ⟨F, ρ, S, a, aσ, rs, rv, st, p⟩ := q
  unfold bMeth at p
  split at p
  · rename_i c
    refine ⟨isL_ok rs rv c, ?_⟩
    refine ⟨F, ρ, S, aσ, rs, st, (LPost.bind p).imp fun vs H2 q2 => ?_⟩
    obtain ⟨F1, ρ1, S1, as, t, rs1, rvs, p1⟩ := q2
    exact ⟨F1, ρ1, S1, a, as, rs1, rv.mono t, rvs, VPost.of p1⟩
  · exact p.elim
theorem meth0_imp {g : AV → List AV → AS → VR} {σ : L2.St} {H : Hp} {Q : VK} (h : tE (zp X ex) W (dMeth g ca lNil) σ H Q) : tBM0 X.K "list" (rM (zp X ex) g) (tE (zp X ex) W ca) σ H Q := by
  refine (tE.bind (f := fun σ a S1 => bMeth g lNil σ a S1) h).imp fun v H1 q => ?_
  obtain ⟨F, ρ, S, a, aσ, rs, rv, st, p⟩ := q
  unfold bMeth at p
  split at p
  · rename_i c
    exact ⟨isL_ok rs rv c, F, ρ, S, a, [], rs, rv, .nil, VPost.of (show EPost (zp X ex) W σ F ρ Q (liftV (g a [] S)) from p)⟩
  · exact p.elim
theorem sE_meth {o : Expr} {es : List Expr} {l : Ln} {name : Str} {id : String} {g : AV → List AV → AS → VR} {apos cpos : Pos} (slot : Slot "list" name id) (hty : typeOf (.builtin id) = pure (.type "method_descriptor")) (hm : MtR X id (rM (zp X ex) g))
    (ho : PE X o (tE (zp X ex) W ca)) (ha : PA X (e :: es) (tL (zp X ex) W l)) (hbase : attributeBase o name X.env (eval o X.env) = eval o X.env)
    (hfew : ((backTo cpos (starEach (e :: es) X.env)).all (fun x => !x.1) && (backToKw cpos (keywordEach [] X.env)).all (fun x => x.1.isSome)
      && decide ((e :: es).length + ([] : List Keyword).length + (if ([] : List Keyword).isEmpty then 0 else 1) < 30)) = true)
    (hline : (apos.endLine == cpos.line) = true) (hs : starEach (e :: es) X.env = (false, eval e X.env) :: starEach es X.env) (hplain : (backTo cpos (starEach es X.env)).any (·.1) = false) :
    PE X (.Call (.Attribute o name apos) (e :: es) [] cpos) (tE (zp X ex) W (dMeth g ca l)) := (pe_bm PySem.F.plainAttrs_list slot hty hm ho ha hbase hfew hline hs hplain).impD fun σ H Q q => meth_imp q
theorem sE_meth0 {o : Expr} {name : Str} {id : String} {g : AV → List AV → AS → VR} {apos cpos : Pos} (slot : Slot "list" name id) (hty : typeOf (.builtin id) = pure (.type "method_descriptor")) (hm : MtR X id (rM (zp X ex) g))
    (ho : PE X o (tE (zp X ex) W ca)) (hbase : attributeBase o name X.env (eval o X.env) = eval o X.env) (hline : (apos.endLine == cpos.line) = true) :
    PE X (.Call (.Attribute o name apos) [] [] cpos) (tE (zp X ex) W (dMeth g ca lNil)) := (pe_bm0 PySem.F.plainAttrs_list slot hty hm ho hbase hline).impD fun σ H Q q => meth0_imp q
/-- isinstance(e, T), isinstance(e, (T, ..)) -/
theorem isi_one {x tn : Str} {p p2 : Pos} {T : String} (hg : Gl X x) (hm : X.mg x = none) (hgt : Gl X tn) (hmt : X.mg tn = none) (hvt : bootBuiltins tn = some (.type T)) (hT : T ∈ ["bool", "int", "str", "list", "tuple", "dict"]) (hx : x = "isinstance") (ha : PE X a (tE (zp X ex) W ca))
    (hnt : tn ≠ "__name__") (hdt : (tn == ("__debug__" : Str)) = false) (he : starEach [a, .Name tn p2] X.env = (false, eval a X.env) :: starEach [.Name tn p2] X.env) : PE X (.Call (.Name x p) [a, .Name tn p2] [] pos) (tE (zp X ex) W (dIsi [T] ca)) := by
  subst hx
  refine (pe_callB call_isi hg hm PyProof.Rows.boot_isinstance (pa_cons ha (pa_cons (pe_bltn (v := .ty T) (u := .type T) hgt hmt hvt rfl hnt hdt) pa_nil rfl) he) (by decide) (by decide) he rfl).impD fun σ H Q q => ?_
  refine (tE.bind (f := fun σ a S1 => liftV (vIsi [T] a S1)) q).imp fun v H1 q => ?_
  obtain ⟨F, ρ, S, a, aσ, rs, rv, st, p⟩ := q
  have p := VPost.of p
  unfold vIsi at p
  split at p
  · rename_i t e
    obtain ⟨ty, ht⟩ := tyName_ok rs rv e
    refine ⟨v, .ty T, _, _, kitS t T, rfl, .ty T, ty, kit_of_names ht hT, ?_⟩
    have q2 := VPost.dat p rs (v := .bl ([T].any (kitS t))) (.bl _)
    simpa using q2
  · exact p.elim
/-- class names as values -/
inductive TyNames (X : Cx) : List Expr → List String → Prop
  | nil : TyNames X [] []
  | cons {tn : Str} {p : Pos} {T : String} {es : List Expr} {Ts : List String} (hg : Gl X tn) (hm : X.mg tn = none) (hv : bootBuiltins tn = some (.type T)) (hT : T ∈ ["bool", "int", "str", "list", "tuple", "dict"]) (hn : tn ≠ "__name__") (hd : (tn == ("__debug__" : Str)) = false)
      (r : TyNames X es Ts) : TyNames X (.Name tn p :: es) (T :: Ts)
def tTys : List String → TA
  | [] => tNil
  | T :: Ts => tCons (tC (.ty T)) (tTys Ts)
theorem tys_pa {es : List Expr} {Ts : List String} (h : TyNames X es Ts) : PA X es (tTys Ts) := by
  induction h with
  | nil => exact pa_nil
  | cons hg hm hv hT hn hd r ih => exact pa_cons (pe_bltn hg hm hv rfl hn hd) ih rfl
theorem tys_run {σ : L2.St} : ∀ {Ts : List String} {H : Hp} {Q : List V → Hp → Prop}, Q (Ts.map V.ty) H → tTys Ts σ H Q
  | [], _, _, q => q
  | T :: Ts, _, _, q => tys_run (Ts := Ts) q
theorem tys_cls : ∀ (Ts : List String), Paired ClsV (Ts.map V.ty) (Ts.map Value.type)
  | [] => .nil
  | T :: Ts => .cons (.ty T) (tys_cls Ts)
theorem tys_kit {K : PySem.W.Frag} {t : String} (ht : t ∈ ["NoneType", "bool", "int", "str", "list", "tuple"]) : ∀ {Ts : List String}, (∀ T ∈ Ts, T ∈ ["bool", "int", "str", "list", "tuple", "dict"]) → PySem.W.kitAny K (.type t) (Ts.map Value.type) = some (Ts.any (kitS t))
  | [], _ => rfl
  | T :: Ts, h => by
    have ih := tys_kit (K := K) ht (Ts := Ts) fun T hT => h T (List.mem_cons_of_mem _ hT)
    refine kitAny_cons (kit_of_names ht (h T List.mem_cons_self)) (fun e => ?_) fun e => ?_
    · rw [List.any_cons, e, Bool.false_or]
      exact ih
    · rw [List.any_cons, e, Bool.true_or]
theorem TyNames.mem {es : List Expr} {Ts : List String} (h : TyNames X es Ts) : ∀ T ∈ Ts, T ∈ ["bool", "int", "str", "list", "tuple", "dict"] := by
  induction h with
  | nil => exact fun _ h => by cases h
  | cons hg hm hv hT hn hd r ih =>
    intro T h
    rcases List.mem_cons.mp h with rfl | h
    · exact hT
    · exact ih T h
theorem isi_many {x : Str} {p p2 : Pos} {k : Nat} {es : List Expr} {Ts : List String} (hg : Gl X x) (hm : X.mg x = none) (hx : x = "isinstance") (hts : TyNames X es Ts) (hl : Ts.length ≤ 100) (ha : PE X a (tE (zp X ex) W ca))
    (he : starEach [a, .Tuple es k p2] X.env = (false, eval a X.env) :: starEach [.Tuple es k p2] X.env) : PE X (.Call (.Name x p) [a, .Tuple es k p2] [] pos) (tE (zp X ex) W (dIsi Ts ca)) := by
  subst hx
  refine (pe_callB call_isiT hg hm PyProof.Rows.boot_isinstance (pa_cons ha (pa_cons (pe_tup (tys_pa hts)) pa_nil rfl) he) (by decide) (by decide) he rfl).impD fun σ H Q q => ?_
  refine (tE.bind (f := fun σ a S1 => liftV (vIsi Ts a S1)) q).imp fun v H1 q => ?_
  obtain ⟨F, ρ, S, a, aσ, rs, rv, st, p⟩ := q
  have p := VPost.of p
  unfold vIsi at p
  split at p
  · rename_i t e
    obtain ⟨ty, ht⟩ := tyName_ok rs rv e
    refine tys_run ⟨by rw [List.length_map]; exact Nat.le_trans hl (by rw [sizeLine_eq]; decide), fun r hr => ?_⟩
    have rs2 := rs.newH (o := .tup (Ts.map V.ty)) hr
    obtain ⟨ty2, _⟩ := tyName_ok (ex := ex) rs2 rv e
    exact ⟨v, r, Ts.map V.ty, _, _, Ts.any (kitS t), rfl, upd_same, tys_cls Ts, ty2, tys_kit ht hts.mem, VPost.dat p rs2 (.bl _)⟩
  · exact p.elim
end
end Den
/-! Den5: targets, statements, loops. -/
namespace Den
open PySem PySem.Spec PyProof.Rows L2

/-! ### targets -/
mutual
inductive Pat where
  | nm (i : Nat) | tp (ps : Pats)
inductive Pats where
  | nil | cons (p : Pat) (ps : Pats)
end
def Pats.len : Pats → Nat
  | .nil => 0
  | .cons _ ps => ps.len + 1
mutual
def bindP (S : AS) : Pat → AV → ASt → Option ASt
  | .nm i, a, σ => some (σ.set i (some a))
  | .tp ps, a, σ => match rdSeq S a with
    | some (_, l) => bindPs S ps l σ
    | none => none
def bindPs (S : AS) : Pats → List D → ASt → Option ASt
  | .nil, [], σ => some σ
  | .cons p ps, x :: l, σ => match bindP S p (.d x) σ with
    | some σ1 => bindPs S ps l σ1
    | none => none
  | .nil, _ :: _, _ => none
  | .cons _ _, [], _ => none
end
theorem bindPs_len {S : AS} : ∀ {ps : Pats} {l : List D} {σ σ' : ASt}, bindPs S ps l σ = some σ' → l.length = ps.len
  | .nil, [], _, _, _ => rfl
  | .nil, _ :: _, _, _, h => by simp only [bindPs] at h; cases h
  | .cons _ _, [], _, _, h => by simp only [bindPs] at h; cases h
  | .cons p ps, x :: l, σ, σ', h => by
    cases e : bindP S p (.d x) σ with
    | none => simp only [bindPs, e] at h; cases h
    | some σ1 =>
      simp only [bindPs, e] at h
      rw [List.length_cons, bindPs_len h]
      rfl
mutual
def Pat.slots : Pat → List Nat
  | .nm i => [i]
  | .tp ps => ps.slots
def Pats.slots : Pats → List Nat
  | .nil => []
  | .cons p ps => p.slots ++ ps.slots
end
/-- nothing but these slots differs -/
def Wip (is : List Nat) (σ σ' : L2.St) : Prop := ∀ vs : List Nat, (∀ i ∈ is, i ∈ vs) → wipe σ' vs = wipe σ vs
theorem wip_refl (σ : L2.St) : Wip [] σ σ := fun _ _ => rfl
theorem Wip.trans {is js : List Nat} {σ σ1 σ2 : L2.St} (a : Wip is σ σ1) (b : Wip js σ1 σ2) : Wip (is ++ js) σ σ2 := fun vs h =>
  (b vs fun i hi => h i (List.mem_append_right _ hi)).trans (a vs fun i hi => h i (List.mem_append_left _ hi))
theorem wipe_set_out {σ : L2.St} {i : Nat} {x : Option V} : ∀ vs : List Nat, i ∉ vs → wipe (σ.set i x) vs = (wipe σ vs).set i x
  | [], _ => rfl
  | v :: vs, h => by
    show (wipe (σ.set i x) vs).set v none = ((wipe σ vs).set v none).set i x
    rw [wipe_set_out vs fun z => h (List.mem_cons_of_mem _ z), List.set_comm _ _ (fun z : i = v => h (by rw [z]; exact List.mem_cons_self))]
theorem wip_set (σ : L2.St) (i : Nat) (x : Option V) : Wip [i] σ (σ.set i x) := fun vs h0 => by
  have h : i ∈ vs := h0 i List.mem_cons_self
  clear h0
  induction vs with
  | nil => cases h
  | cons v vs ih =>
    show (wipe (σ.set i x) vs).set v none = (wipe σ vs).set v none
    by_cases hi : i ∈ vs
    · rw [ih hi]
    · have e : i = v := by
        rcases List.mem_cons.mp h with e | e
        · exact e
        · exact absurd e hi
      subst e
      rw [wipe_set_out vs hi, List.set_set]
def tG (Z : Zp) (p : Pat) : TG := fun v σ H Q => ∃ F ρ S a aσ aσ', RS Z.K F ρ S H ∧ RSt Z F ρ aσ σ ∧ RepV Z F ρ a v ∧ bindP S p a aσ = some aσ' ∧ ∀ σ', RSt Z F ρ aσ' σ' → Wip p.slots σ σ' → Q σ' H
def tGs (Z : Zp) (ps : Pats) : TGs := fun vs σ H Q => ∃ F ρ S l aσ aσ', RS Z.K F ρ S H ∧ RSt Z F ρ aσ σ ∧ DpAll Z.K F vs l ∧ bindPs S ps l aσ = some aσ' ∧ ∀ σ', RSt Z F ρ aσ' σ' → Wip ps.slots σ σ' → Q σ' H
def notStar : Expr → Bool
  | .Starred _ _ => false
  | _ => true
theorem assignEach_cons {e : Expr} {es : List Expr} {env : Env} (h : notStar e = true) : assignEach (e :: es) env = (false, assign e env) :: assignEach es env := by
  cases e <;> first | rfl | cases h
theorem starEach_cons {e : Expr} {es : List Expr} {env : Env} (h : notStar e = true) : starEach (e :: es) env = (false, eval e env) :: starEach es env := by
  cases e <;> first | rfl | cases h
section
variable {X : Cx} {ex : Option (Addr × Value × Option Addr)} {pos : Pos}
theorem PG.orD {e : Expr} {t u : TG} (h : PG X e t) (k : PG X e u) : PG X e (fun v σ H Q => t v σ H Q ∨ u v σ H Q) := ⟨fun pins s σ H v w Q I r q => by
  rcases q with q | q
  · exact h.run pins s σ H v w Q I r q
  · exact k.run pins s σ H v w Q I r q⟩
theorem PG.impD {e : Expr} {t t' : TG} (h : PG X e t) (k : ∀ v σ H Q, t' v σ H Q → t v σ H Q) : PG X e t' := ⟨fun pins s σ H v w Q I r q => h.run pins s σ H v w Q I r (k v σ H Q q)⟩
theorem sG_name {i : Nat} {x : Str} (hN : X.N.Nodup) (hi : X.N[i]? = some x) (hx : Loc X.env.scope x) (hf : X.fn x = true ∨ X.env.scope.names.lookup x = some .local) : PG X (.Name x pos) (tG (zp X ex) (.nm i)) :=
  PG.impD (pg_name hN hi hx hf) fun v σ H Q h => by
    obtain ⟨F, ρ, S, a, aσ, aσ', rs, st, rv, e, k⟩ := h
    have e : some (aσ.set i (some a)) = some aσ' := by simpa only [bindP] using e
    cases Option.some.inj e
    exact k _ (st.set rv) (by unfold Pat.slots; exact wip_set σ i _)
theorem sGs_nil : PGs X [] (tGs (zp X ex) .nil) := ⟨fun pins s σ H vs us Q I r h => by
  obtain ⟨F, ρ, S, l, aσ, aσ', rs, st, k, e, q⟩ := h
  have hl := bindPs_len e
  cases k with
  | cons _ _ => cases hl
  | nil =>
    have e : some aσ = some aσ' := by simpa only [bindPs] using e
    cases Option.some.inj e
    exact pgs_nil.run pins s σ H [] us Q I r ⟨rfl, q σ st (by unfold Pats.slots; exact wip_refl σ)⟩⟩
theorem sGs_cons {e : Expr} {es : List Expr} {p : Pat} {ps : Pats} (h1 : PG X e (tG (zp X ex) p)) (h2 : PGs X es (tGs (zp X ex) ps)) (hs : notStar e = true) : PGs X (e :: es) (tGs (zp X ex) (.cons p ps)) :=
  ⟨fun pins s σ H vs us Q I r h => by
    obtain ⟨F, ρ, S, l, aσ, aσ', rs, st, k, e1, q⟩ := h
    have hl := bindPs_len e1
    cases k with
    | nil => cases hl
    | @cons v vr x l k1 k2 =>
      cases e2 : bindP S p (.d x) aσ with
      | none => simp only [bindPs, e2] at e1; cases e1
      | some σ1 =>
        simp only [bindPs, e2] at e1
        refine (pgs_cons h1 h2 (by rw [assignEach_cons hs]; rfl)).run pins s σ H _ us Q I r ⟨v, vr, rfl, ?_⟩
        exact ⟨F, ρ, S, .d x, aσ, σ1, rs, st, k1, e2, fun σ' st' w1 => ⟨F, ρ, S, l, σ1, aσ', rs, st', k2, e1, fun σ2 st2 w2 => q σ2 st2 (by unfold Pats.slots; exact w1.trans w2)⟩⟩⟩
theorem sG_tup {es : List Expr} {k : Nat} {ps : Pats} (hc : X.calm = true) (h : PGs X es (tGs (zp X ex) ps)) (hn : (assignEach es X.env).length = ps.len) (hst : (assignEach es X.env).findIdx? (·.1) = none) : PG X (.Tuple es k pos) (tG (zp X ex) (.tp ps)) :=
  PG.impD (PG.orD (pg_tup hc h hn hst) (pg_unl hc h hn hst)) fun v σ H Q q => by
    obtain ⟨F, ρ, S, a, aσ, aσ', rs, st, rv, e, q⟩ := q
    cases e2 : rdSeq S a with
    | none => simp only [bindP, e2] at e; cases e
    | some y =>
      obtain ⟨b, l⟩ := y
      simp only [bindP, e2] at e
      obtain ⟨p, vs, rfl, kk, L, T⟩ := rdSeq_F (Z := zp X ex) rs rv e2
      have hl : vs.length = ps.len := (dpA_len kk).trans (bindPs_len e)
      have q : ∀ σ', RSt (zp X ex) F ρ aσ' σ' → Wip ps.slots σ σ' → Q σ' H := fun σ' st' w => q σ' st' (by unfold Pat.slots; exact w)
      cases b with
      | true => exact .inr ⟨p, vs, rfl, L rfl, hl, F, ρ, S, l, aσ, aσ', rs, st, kk, e, q⟩
      | false => exact .inl ⟨p, vs, rfl, T rfl, hl, F, ρ, S, l, aσ, aσ', rs, st, kk, e, q⟩
end

/-! ### statements -/
def ER.then (r : ER) (σ : ASt) (f : AV → AS → SR) : SR := match r with
  | .ok a S => f a S
  | .err x S => .er x σ S
  | .stuck => .stuck
def sSkip : Sn := fun σ S => .nx σ S
def sSeq (c1 c2 : Sn) : Sn := fun σ S => match c1 σ S with
  | .nx σ1 S1 => c2 σ1 S1
  | r => r
def sIf (ct : Dn) (c1 c2 : Sn) : Sn := fun σ S => (ct σ S).then σ fun a S1 => match a with
  | .d (.bool true) => c1 σ S1
  | .d (.bool false) => c2 σ S1
  | _ => .stuck
def asgV (i : Nat) (mu : Bool) (σ : ASt) (a : AV) (S : AS) : SR := match a with
  | .own l => if mu then .nx (σ.set i (some (.ref S.length))) (S ++ [.lst l]) else .nx (σ.set i (some (.d (.list l)))) S
  | a => .nx (σ.set i (some a)) S
def sAsg (i : Nat) (mu : Bool) (c : Dn) : Sn := fun σ S => (c σ S).then σ fun a S1 => asgV i mu σ a S1
def sUnp (p : Pat) (c : Dn) : Sn := fun σ S => (c σ S).then σ fun a S1 => match bindP S1 p a.fz σ with
  | some σ1 => .nx σ1 S1
  | none => .stuck
def sPar (i j : Nat) (l : Ln) : Sn := fun σ S => match l σ S with
  | .ok [a, b] S1 => .nx ((σ.set i (some a)).set j (some b)) S1
  | .ok _ _ => .stuck
  | .err x S1 => .er x σ S1
  | .stuck => .stuck
def sExpr (c : Dn) : Sn := fun σ S => (c σ S).then σ fun _ S1 => .nx σ S1
def sRet (c : Dn) : Sn := fun σ S => (c σ S).then σ fun a S1 => .rt a S1
def sRetN : Sn := fun _ S => .rt (.d .none) S
def sBreak : Sn := fun σ S => .bk σ S
def sCont : Sn := fun σ S => .ct σ S
/-! loops -/
inductive IR where
  | ok (l : List D) (S : AS) | err (x : Exc) (S : AS) | stuck
abbrev It1 := ASt → AS → IR
def forGo (p : Pat) (body : Sn) : List D → ASt → AS → SR
  | [], σ, S => .nx σ S
  | x :: r, σ, S => match bindP S p (.d x) σ with
    | none => .stuck
    | some σ1 => match body σ1 S with
      | .nx σ2 S2 => forGo p body r σ2 S2
      | .ct σ2 S2 => forGo p body r σ2 S2
      | .bk σ2 S2 => .nx σ2 S2
      | r' => r'
def sFor (it : It1) (p : Pat) (body : Sn) : Sn := fun σ S => match it σ S with
  | .ok l S1 => forGo p body l σ S1
  | .err x S1 => .er x σ S1
  | .stuck => .stuck
def whileGo (ct : Dn) (body : Sn) : Nat → ASt → AS → SR
  | 0, _, _ => .stuck
  | n + 1, σ, S => (ct σ S).then σ fun a S1 => match a with
    | .d (.bool true) => match body σ S1 with
      | .nx σ2 S2 => whileGo ct body n σ2 S2
      | .ct σ2 S2 => whileGo ct body n σ2 S2
      | .bk σ2 S2 => .nx σ2 S2
      | r' => r'
    | .d (.bool false) => .nx σ S1
    | _ => .stuck
def sWhile (fuel : ASt → AS → Nat) (ct : Dn) (body : Sn) : Sn := fun σ S => whileGo ct body (fuel σ S) σ S

def SPost (Z : Zp) (W : WX) (F : Hp) (ρ : Rh) (D : Ends) : SR → Prop
  | .nx aσ S' => ∀ F' ρ' H' σ', Tr F ρ F' ρ' → RS Z.K F' ρ' S' H' → RSt Z F' ρ' aσ σ' → D.nx σ' H'
  | .rt a S' => ∀ F' ρ' H' v, Tr F ρ F' ρ' → RS Z.K F' ρ' S' H' → RepW Z F' ρ' H' a v → D.rt v H'
  | .bk aσ S' => ∀ F' ρ' H' σ', Tr F ρ F' ρ' → RS Z.K F' ρ' S' H' → RSt Z F' ρ' aσ σ' → D.bk σ' H'
  | .ct aσ S' => ∀ F' ρ' H' σ', Tr F ρ F' ρ' → RS Z.K F' ρ' S' H' → RSt Z F' ρ' aσ σ' → D.ct σ' H'
  | .er x aσ S' => ∀ F' ρ' H' σ' cls d, Tr F ρ F' ρ' → RS Z.K F' ρ' S' H' → RSt Z F' ρ' aσ σ' → RepX Z F' x cls d → W cls d σ' H'
  | .stuck => False
def tS (Z : Zp) (W : WX) (c : Sn) : TS := fun D σ H => ∃ F ρ S aσ, RS Z.K F ρ S H ∧ RSt Z F ρ aσ σ ∧ SPost Z W F ρ D (c aσ S)
theorem _root_.L2.PS.impD {X : Cx} {e : Stmt} {t t' : TS} (h : PS X e t) (k : ∀ D σ H, t' D σ H → t D σ H) : PS X e t' := ⟨fun pins s σ H D I q => h.run pins s σ H D I (k D σ H q)⟩
theorem _root_.L2.PSs.impD {X : Cx} {e : List Stmt} {t t' : TS} (h : PSs X e t) (k : ∀ D σ H, t' D σ H → t D σ H) : PSs X e t' := ⟨fun pins s σ H D I q => h.run pins s σ H D I (k D σ H q)⟩
section
variable {Z : Zp} {W : WX} {F F1 H : Hp} {ρ ρ1 : Rh} {D D' : Ends} {r : SR} {σ : L2.St} {aσ : ASt}
theorem SPost.tr (t : Tr F ρ F1 ρ1) (h : SPost Z W F ρ D r) : SPost Z W F1 ρ1 D r := by
  cases r with
  | nx a S => exact fun F' ρ' H' v t' => h F' ρ' H' v (t.trans t')
  | rt a S => exact fun F' ρ' H' v t' => h F' ρ' H' v (t.trans t')
  | bk a S => exact fun F' ρ' H' v t' => h F' ρ' H' v (t.trans t')
  | ct a S => exact fun F' ρ' H' v t' => h F' ρ' H' v (t.trans t')
  | er x a S => exact fun F' ρ' H' σ' cls d t' => h F' ρ' H' σ' cls d (t.trans t')
  | stuck => exact h
/-- an expression at the head of a statement -/
theorem then_imp {c : Dn} {f : ASt → AV → AS → SR} (h : tS Z W (fun σ S => (c σ S).then σ (f σ)) D σ H) :
    tE Z W c σ H fun v H1 => ∃ F ρ S a aσ, RS Z.K F ρ S H1 ∧ RepW Z F ρ H1 a v ∧ RSt Z F ρ aσ σ ∧ SPost Z W F ρ D (f aσ a S) := by
  obtain ⟨F, ρ, S, aσ, rs, st, p⟩ := h
  refine ⟨F, ρ, S, aσ, rs, st, ?_⟩
  have p : SPost Z W F ρ D ((c aσ S).then aσ (f aσ)) := p
  cases e : c aσ S with
  | ok a S1 =>
    rw [e] at p
    intro F' ρ' H' v t rs' rw'
    exact ⟨F', ρ', S1, a, aσ, rs', rw', st.mono t, SPost.tr t p⟩
  | err x S1 =>
    rw [e] at p
    exact fun F' ρ' H' cls d t rs' rx => p F' ρ' H' σ cls d t rs' (st.mono t) rx
  | stuck => rw [e] at p; exact p
theorem asg_imp {c : Dn} {i : Nat} {m : Bool} (h : tS Z W (sAsg i m c) D σ H) : tE Z W c σ H fun v H1 => D.nx (σ.set i (some v)) H1 := by
  refine (then_imp (f := fun σ a S1 => asgV i m σ a S1) h).imp fun v H1 q => ?_
  obtain ⟨F, ρ, S, a, aσ, rs, rw', st, p⟩ := q
  cases a with
  | own l =>
    obtain ⟨q, vs, rfl, hq, hn, hG, hH, k⟩ := rw'
    unfold asgV at p
    cases m with
    | true =>
      refine p F ⟨ρ.l ++ [q], ρ.G⟩ H1 _ ⟨Same.refl F, List.prefix_append _ _, rfl⟩ (rs.push hq hn hG hH k) ?_
      refine RSt.set (st.mono ⟨Same.refl F, List.prefix_append _ _, rfl⟩) ⟨q, ?_, rfl⟩
      rw [← rs.len]
      simp
    | false =>
      refine p (upd F q (.lst vs)) ρ H1 _ (Tr.sam (same_upd hn)) (rs.know hH hn hq hG) ?_
      exact RSt.set (st.mono (Tr.sam (same_upd hn))) (show Dp _ _ _ _ from .lst (SqL.of upd_same) (dpA_mono (same_upd hn) _ _ k))
  | d x => exact p F ρ H1 _ Tr.refl rs (st.set rw')
  | ref n => exact p F ρ H1 _ Tr.refl rs (st.set rw')
  | exc x => exact p F ρ H1 _ Tr.refl rs (st.set rw')
theorem unp_imp {c : Dn} {p : Pat} (h : tS Z W (sUnp p c) D σ H) : tE Z W c σ H fun v H1 => tG Z p v σ H1 D.nx := by
  refine (then_imp (f := fun σ a S1 => match bindP S1 p a.fz σ with | some σ1 => .nx σ1 S1 | none => .stuck) h).imp fun v H1 q => ?_
  obtain ⟨F, ρ, S, a, aσ, rs, rw', st, q⟩ := q
  obtain ⟨F2, s2, rs2, rv⟩ := fzW rs rw'
  cases e : bindP S p a.fz aσ with
  | none => rw [e] at q; exact q.elim
  | some σ1 =>
    rw [e] at q
    exact ⟨F2, ρ, S, a.fz, aσ, σ1, rs2, st.mono (Tr.sam s2), rv, e, fun σ' st' _ => q F2 ρ H1 σ' (Tr.sam s2) rs2 st'⟩
end
section
variable {X : Cx} {ex : Option (Addr × Value × Option Addr)} {W : WX} {pos : Pos} {a b c e : Expr} {ca cb cc : Dn} {c1 c2 body : Sn} {st : Stmt} {sts : List Stmt}
theorem sS_nil : PSs X [] (tS (zp X ex) W sSkip) := pss_nil.impD fun D σ H h => by
  obtain ⟨F, ρ, S, aσ, rs, st, p⟩ := h
  exact p F ρ H σ Tr.refl rs st
theorem seq_imp {Z : Zp} {D : Ends} {σ : L2.St} {H : Hp} (h : tS Z W (sSeq c1 c2) D σ H) : tSeq (tS Z W c1) (tS Z W c2) D σ H := by
  obtain ⟨F, ρ, S, aσ, rs, st, p⟩ := h
  refine ⟨F, ρ, S, aσ, rs, st, ?_⟩
  unfold sSeq at p
  cases e : c1 aσ S with
  | nx σ1 S1 =>
    rw [e] at p
    exact fun F' ρ' H' σ' t rs' st' => ⟨F', ρ', S1, σ1, rs', st', SPost.tr t p⟩
  | rt a S1 => rw [e] at p; exact p
  | bk a S1 => rw [e] at p; exact p
  | ct a S1 => rw [e] at p; exact p
  | er x a S1 => rw [e] at p; exact p
  | stuck => rw [e] at p; exact p
theorem sS_cons (h1 : PS X st (tS (zp X ex) W c1)) (h2 : PSs X sts (tS (zp X ex) W c2)) : PSs X (st :: sts) (tS (zp X ex) W (sSeq c1 c2)) := (pss_cons h1 h2).impD fun D σ H h => seq_imp h
theorem sS_one (h1 : PS X st (tS (zp X ex) W c1)) : PSs X [st] (tS (zp X ex) W c1) := pss_one h1
theorem sS_pass : PS X (.Pass pos) (tS (zp X ex) W sSkip) := ps_pass.impD fun D σ H h => by
  obtain ⟨F, ρ, S, aσ, rs, st, p⟩ := h
  exact p F ρ H σ Tr.refl rs st
theorem sS_break : PS X (.Break pos) (tS (zp X ex) W sBreak) := ps_break.impD fun D σ H h => by
  obtain ⟨F, ρ, S, aσ, rs, st, p⟩ := h
  exact p F ρ H σ Tr.refl rs st
theorem sS_cont : PS X (.Continue pos) (tS (zp X ex) W sCont) := ps_continue.impD fun D σ H h => by
  obtain ⟨F, ρ, S, aσ, rs, st, p⟩ := h
  exact p F ρ H σ Tr.refl rs st
theorem sS_doc {x : Str} {j : Nat} {p2 : Pos} : PS X (.Expr (.Constant (.str x) j pos) p2) (tS (zp X ex) W sSkip) := ps_doc.impD fun D σ H h => by
  obtain ⟨F, ρ, S, aσ, rs, st, p⟩ := h
  exact p F ρ H σ Tr.refl rs st
theorem sS_expr (he : PE X e (tE (zp X ex) W ca)) (hs : swapsWith e none pos.line X.env = pure false) : PS X (.Expr e pos) (tS (zp X ex) W (sExpr ca)) := (ps_expr he hs).impD fun D σ H h => by
  refine (then_imp (f := fun σ _ S1 => .nx σ S1) h).imp fun v H1 q => ?_
  obtain ⟨F, ρ, S, a, aσ, rs, rw', st, p⟩ := q
  exact p F ρ H1 σ Tr.refl rs st
theorem sS_ret (he : PE X e (tE (zp X ex) W ca)) : PS X (.Return (some e) pos) (tS (zp X ex) W (sRet ca)) := (ps_ret he).impD fun D σ H h => by
  refine (then_imp (f := fun σ a S1 => .rt a S1) h).imp fun v H1 q => ?_
  obtain ⟨F, ρ, S, a, aσ, rs, rw', st, p⟩ := q
  exact p F ρ H1 v Tr.refl rs rw'
theorem sS_retN : PS X (.Return none pos) (tS (zp X ex) W sRetN) := ps_retN.impD fun D σ H h => by
  obtain ⟨F, ρ, S, aσ, rs, st, p⟩ := h
  exact p F ρ H .non Tr.refl rs (show Dp _ _ _ _ from .non)
theorem sS_if {t u : List Stmt} (hc : PT X c (tT (zp X ex) W cc)) (h1 : PSs X t (tS (zp X ex) W c1)) (h2 : PSs X u (tS (zp X ex) W c2)) : PS X (.If c t u pos) (tS (zp X ex) W (sIf cc c1 c2)) := (ps_if hc h1 h2).impD fun D σ H h => by
  refine (then_imp (f := fun σ a S1 => match a with
    | .d (.bool true) => c1 σ S1
    | .d (.bool false) => c2 σ S1
    | _ => .stuck) h).imp fun v H1 q => ?_
  obtain ⟨F, ρ, S, a, aσ, rs, rw', st, p⟩ := q
  split at p
  · cases dbool (show Dp X.K F v _ from rw')
    exact ⟨true, rfl, iteT ⟨F, ρ, S, aσ, rs, st, p⟩⟩
  · cases dbool (show Dp X.K F v _ from rw')
    exact ⟨false, rfl, iteF ⟨F, ρ, S, aσ, rs, st, p⟩⟩
  · exact p.elim
theorem sS_set {i : Nat} {x : Str} {m : Bool} {p2 : Pos} (hN : X.N.Nodup) (hi : X.N[i]? = some x) (hx : Loc X.env.scope x) (he : PE X e (tE (zp X ex) W ca)) (hs : swapsWith e (some (.Name x p2)) pos.line X.env = pure false)
    (hf : X.fn x = true ∨ X.env.scope.names.lookup x = some .local) : PS X (.Assign [.Name x p2] e pos) (tS (zp X ex) W (sAsg i m ca)) := (ps_set hN hi hx he hs hf).impD fun D σ H h => asg_imp h
theorem sS_unp {tg : Expr} {p : Pat} (he : PE X e (tE (zp X ex) W ca)) (hg : PG X tg (tG (zp X ex) p)) (hs : swapsWithSole [tg] e pos.line X.env = pure false) (hw : swappedStores [tg] e X.env = pure none) (h1 : (assignEach [tg] X.env).map (·.2) = [assign tg X.env]) :
    PS X (.Assign [tg] e pos) (tS (zp X ex) W (sUnp p ca)) := (ps_asg he hg hs hw h1).impD fun D σ H h => unp_imp h
theorem sS_par {i j : Nat} {x y : Str} {l : Ln} {px py pt : Pos} {kt k2 : Nat} {pt2 : Pos} (hc : X.calm = true) (hN : X.N.Nodup) (hi : X.N[i]? = some x) (hj : X.N[j]? = some y) (hij : i ≠ j)
    (hx : X.env.scope.names.lookup x = some .local) (hy : X.env.scope.names.lookup y = some .local) (ha : PA X [a, b] (tL (zp X ex) W l))
    (hw : swappedStores [.Tuple [.Name x px, .Name y py] kt pt] (.Tuple [a, b] k2 pt2) X.env = pure (some [x, y])) (hs : swapsWithSole [.Tuple [.Name x px, .Name y py] kt pt] (.Tuple [a, b] k2 pt2) pos.line X.env = pure false) :
    PS X (.Assign [.Tuple [.Name x px, .Name y py] kt pt] (.Tuple [a, b] k2 pt2) pos) (tS (zp X ex) W (sPar i j l)) := (ps_par hc hN hi hj hij hx hy ha hw hs).impD fun D σ H h => by
  obtain ⟨F, ρ, S, aσ, rs, st, p⟩ := h
  refine ⟨F, ρ, S, aσ, rs, st, ?_⟩
  unfold sPar at p
  cases e : l aσ S with
  | ok as S1 =>
    rw [e] at p
    intro F' ρ' H' vs t rs' rv
    match as, rv, p with
    | [a1, a2], rv, p =>
      obtain ⟨v, w, rfl, r1, r2⟩ := rv.two
      exact ⟨v, w, rfl, p F' ρ' H' _ t rs' (((st.mono t).set r1).set r2)⟩
    | [], _, p => exact p.elim
    | [_], _, p => exact p.elim
    | _ :: _ :: _ :: _, _, p => exact p.elim
  | err x S1 =>
    rw [e] at p
    exact fun F' ρ' H' cls d t rs' rx => p F' ρ' H' σ cls d t rs' (st.mono t) rx
  | stuck => rw [e] at p; exact p

/-! ### loops -/
structure ItOk (K : PySem.W.Frag) (F : Hp) (J : It) (items : List D) : Prop where
  stop : ∀ H, Same F H → J.stop items.length H
  go : ∀ i H x, Same F H → items[i]? = some x → J.go i H
  yld : ∀ i H x v H', Same F H → items[i]? = some x → J.yld i H v H' → (H' = H ∧ Dp K F v x) ∨ ∃ p vs l, H p = none ∧ H' = upd H p (.tup vs) ∧ v = .ref p ∧ x = .tuple l ∧ DpAll K F vs l
theorem ItOk.mono {K : PySem.W.Frag} {F F' : Hp} {J : It} {items : List D} (h : ItOk K F J items) (s : Same F F') : ItOk K F' J items :=
  ⟨fun H s2 => h.stop H (s.trans s2), fun i H x s2 => h.go i H x (s.trans s2), fun i H x v H' s2 e y => by
    rcases h.yld i H x v H' (s.trans s2) e y with ⟨h1, h2⟩ | ⟨p, vs, l, h1, h2, h3, h4, h5⟩
    · exact .inl ⟨h1, dp_mono s _ _ h2⟩
    · exact .inr ⟨p, vs, l, h1, h2, h3, h4, dpA_mono s _ _ h5⟩⟩
def tI (Z : Zp) (W : WX) (it : It1) : TI := fun σ H R => ∃ F ρ S aσ, RS Z.K F ρ S H ∧ RSt Z F ρ aσ σ ∧ match it aσ S with
  | .ok l S1 => ∀ F' ρ' H' J, Tr F ρ F' ρ' → RS Z.K F' ρ' S1 H' → ItOk Z.K F' J l → R J H'
  | .err x S1 => Ewish Z W σ F ρ x S1
  | .stuck => False
theorem for_run {Z : Zp} {D : Ends} {p : Pat} {F : Hp} {ρ : Rh} {S : AS} {H : Hp} {σ : L2.St} {aσ : ASt} {J : It} {items : List PyData} (hJ : ItOk Z.K F J items) (rs : RS Z.K F ρ S H) (st : RSt Z F ρ aσ σ) (q : SPost Z W F ρ D (forGo p body items aσ S)) :
    ∃ W' : Nat → Nat → L2.St → Hp → Prop, (∃ m, W' 0 m σ H) ∧ ∀ i m σ H, W' i m σ H →
      (J.stop i H ∧ D.nx σ H) ∨ (J.go i H ∧ ∃ N : L2.St → Hp → Prop, (∀ σ' H', N σ' H' → ∃ m', m' < m ∧ W' (i + 1) m' σ' H') ∧ ∀ x H', J.yld i H x H' → tG Z p x σ H' fun σ2 H2 => tS Z W body { D with nx := N, ct := N, bk := D.nx } σ2 H2) := by
  refine ⟨fun i m σ H => ∃ F' ρ' S' aσ', Tr F ρ F' ρ' ∧ RS Z.K F' ρ' S' H ∧ RSt Z F' ρ' aσ' σ ∧ i ≤ items.length ∧ m = items.length - i ∧ SPost Z W F' ρ' D (forGo p body (items.drop i) aσ' S'),
    ⟨items.length, F, ρ, S, aσ, Tr.refl, rs, st, Nat.zero_le _, rfl, q⟩, ?_⟩
  rintro i m σ1 H1 ⟨F1, ρ1, S1, aσ1, t1, rs1, st1, hi, rfl, q1⟩
  have hJ1 := hJ.mono t1.same
  by_cases hlt : i < items.length
  · have ei : items[i]? = some items[i] := List.getElem?_eq_getElem hlt
    have ed : items.drop i = items[i] :: items.drop (i + 1) := List.drop_eq_getElem_cons hlt
    rw [ed] at q1
    refine .inr ⟨hJ1.go i H1 _ rs1.sub ei, fun σ' H' => ∃ m', m' < items.length - i ∧ ∃ F' ρ' S' aσ', Tr F ρ F' ρ' ∧ RS Z.K F' ρ' S' H' ∧ RSt Z F' ρ' aσ' σ' ∧ i + 1 ≤ items.length ∧ m' = items.length - (i + 1) ∧ SPost Z W F' ρ' D (forGo p body (items.drop (i + 1)) aσ' S'),
      fun σ' H' h => h, fun v H' hy => ?_⟩
    unfold forGo at q1
    cases e2 : bindP S1 p (.d items[i]) aσ1 with
    | none => simp only [e2] at q1; exact q1.elim
    | some σ2 =>
      simp only [e2] at q1
      -- the store behind the item
      have key : ∃ F2, Same F1 F2 ∧ RS Z.K F2 ρ1 S1 H' ∧ Dp Z.K F2 v items[i] := by
        rcases hJ1.yld i H1 _ v H' rs1.sub ei hy with ⟨rfl, h2⟩ | ⟨p, vs, l, h1, rfl, rfl, h4, h5⟩
        · exact ⟨F1, Same.refl F1, rs1, h2⟩
        · rw [h4]
          exact ⟨_, same_upd (rs1.fresh h1), rs1.newF h1, .tup (SqT.of upd_same) (dpA_mono (same_upd (rs1.fresh h1)) _ _ h5)⟩
      obtain ⟨F2, s2, rs2, dv⟩ := key
      refine ⟨F2, ρ1, S1, .d items[i], aσ1, σ2, rs2, st1.mono (Tr.sam s2), dv, e2, fun σ' st' _ => ⟨F2, ρ1, S1, σ2, rs2, st', ?_⟩⟩
      have q2 := SPost.tr (Tr.sam s2) q1
      have t2 : Tr F ρ F2 ρ1 := t1.trans (Tr.sam s2)
      cases e3 : body σ2 S1 with
      | nx σ3 S3 =>
        rw [e3] at q2
        exact fun F' ρ' H' σ' t rs' st' => ⟨_, by omega, F', ρ', S3, σ3, t2.trans t, rs', st', hlt, rfl, SPost.tr t q2⟩
      | ct σ3 S3 =>
        rw [e3] at q2
        exact fun F' ρ' H' σ' t rs' st' => ⟨_, by omega, F', ρ', S3, σ3, t2.trans t, rs', st', hlt, rfl, SPost.tr t q2⟩
      | bk σ3 S3 => rw [e3] at q2; exact q2
      | rt a S3 => rw [e3] at q2; exact q2
      | er x a S3 => rw [e3] at q2; exact q2
      | stuck => rw [e3] at q2; exact q2
  · have e : i = items.length := by omega
    subst e
    rw [List.drop_length] at q1
    exact .inl ⟨hJ1.stop H1 rs1.sub, q1 F1 ρ1 H1 σ1 Tr.refl rs1 st1⟩
theorem sS_for {tg iter : Expr} {bd : List Stmt} {it : It1} {p : Pat} (hp : PassesOwn (model X.prog X.w) X.A X.env X.xe) (hc : X.calm = true) (hi : PI X tg iter (tI (zp X ex) W it)) (hg : PG X tg (tG (zp X ex) p)) (hb : PSs X bd (tS (zp X ex) W body))
    (hs : ∀ x, foldedSetIterable iter X.env x = pure x) : PS X (.For tg iter bd [] pos) (tS (zp X ex) W (sFor it p body)) := (ps_for hp hc hi hg hb hs).impD fun D σ H h => by
  obtain ⟨F, ρ, S, aσ, rs, st, q⟩ := h
  refine ⟨F, ρ, S, aσ, rs, st, ?_⟩
  unfold sFor at q
  cases e : it aσ S with
  | ok l S1 =>
    rw [e] at q
    exact fun F' ρ' H' J t rs' hJ => for_run hJ rs' (st.mono t) (SPost.tr t q)
  | err x S1 =>
    rw [e] at q
    exact fun F' ρ' H' cls d t rs' rx => q F' ρ' H' σ cls d t rs' (st.mono t) rx
  | stuck => rw [e] at q; exact q
theorem sS_while {bd : List Stmt} {n : ASt → AS → Nat} (hp : PassesOwn (model X.prog X.w) X.A X.env X.xe) (hc : PT X c (tT (zp X ex) W cc)) (hb : PSs X bd (tS (zp X ex) W body)) : PS X (.While c bd [] pos) (tS (zp X ex) W (sWhile n cc body)) := (ps_while hp hc hb).impD fun D σ H h => by
  obtain ⟨F, ρ, S, aσ, rs, st, q⟩ := h
  refine ⟨fun m σ H => ∃ F' ρ' S' aσ', RS X.K F' ρ' S' H ∧ RSt (zp X ex) F' ρ' aσ' σ ∧ SPost (zp X ex) W F' ρ' D (whileGo cc body m aσ' S'), ⟨n aσ S, F, ρ, S, aσ, rs, st, q⟩, ?_⟩
  rintro m σ1 H1 ⟨F1, ρ1, S1, aσ1, rs1, st1, q1⟩
  cases m with
  | zero => exact q1.elim
  | succ m =>
    refine (then_imp (f := fun σ a S1 => match a with
      | .d (.bool true) => match body σ S1 with
        | .nx σ2 S2 => whileGo cc body m σ2 S2
        | .ct σ2 S2 => whileGo cc body m σ2 S2
        | .bk σ2 S2 => .nx σ2 S2
        | r' => r'
      | .d (.bool false) => .nx σ S1
      | _ => .stuck) (D := D) (show tS (zp X ex) W _ D σ1 H1 from ⟨F1, ρ1, S1, aσ1, rs1, st1, q1⟩)).imp fun v H2 q2 => ?_
    obtain ⟨F2, ρ2, S2, a, aσ2, rs2, rw2, st2, p⟩ := q2
    split at p
    · cases dbool (show Dp X.K F2 v _ from rw2)
      refine ⟨true, rfl, iteT ⟨fun σ' H' => ∃ m', m' < m + 1 ∧ ∃ F' ρ' S' aσ', RS X.K F' ρ' S' H' ∧ RSt (zp X ex) F' ρ' aσ' σ' ∧ SPost (zp X ex) W F' ρ' D (whileGo cc body m' aσ' S'), fun σ' H' h => h, F2, ρ2, S2, aσ2, rs2, st2, ?_⟩⟩
      cases e3 : body aσ2 S2 with
      | nx σ3 S3 =>
        rw [e3] at p
        exact fun F' ρ' H' σ' t rs' st' => ⟨m, Nat.lt_succ_self m, F', ρ', S3, σ3, rs', st', SPost.tr t p⟩
      | ct σ3 S3 =>
        rw [e3] at p
        exact fun F' ρ' H' σ' t rs' st' => ⟨m, Nat.lt_succ_self m, F', ρ', S3, σ3, rs', st', SPost.tr t p⟩
      | bk σ3 S3 => rw [e3] at p; exact p
      | rt a S3 => rw [e3] at p; exact p
      | er x a S3 => rw [e3] at p; exact p
      | stuck => rw [e3] at p; exact p
    · cases dbool (show Dp X.K F2 v _ from rw2)
      exact ⟨false, rfl, iteF (p F2 ρ2 H2 σ1 Tr.refl rs2 st2)⟩
    · exact p.elim

/-! ### what is walked -/
def iSeq (c : Dn) : It1 := fun σ S => match c σ S with
  | .ok a S1 => match frzD S1 a.fz with
    | some (.list l, S2) => .ok l S2
    | some (.tuple l, S2) => .ok l S2
    | _ => .stuck
  | .err x S1 => .err x S1
  | .stuck => .stuck
def rngL (lo : Int) (n : Nat) (c : Int) : List D := (List.range n).map fun i => PyData.int (lo + (i : Nat) * c)
def big62 : Int := 4611686018427387904
def itL (l : Ln) (f : List AV → AS → Option (List D × AS)) : It1 := fun σ S => match l σ S with
  | .ok as S1 => match f as S1 with
    | some (m, S2) => .ok m S2
    | none => .stuck
  | .err x S1 => .err x S1
  | .stuck => .stuck
def fRng1 (as : List AV) (S : AS) : Option (List D × AS) := match as with
  | [.d (.int j)] => if -big62 ≤ j ∧ j < big62 then some (rngL 0 j.toNat 1, S) else none
  | _ => none
def fRng2 (as : List AV) (S : AS) : Option (List D × AS) := match as with
  | [.d (.int i), .d (.int j)] => if (-big62 ≤ i ∧ i < big62) ∧ (-big62 ≤ j ∧ j < big62) then some (rngL i (j - i).toNat 1, S) else none
  | _ => none
def fRng3 (as : List AV) (S : AS) : Option (List D × AS) := match as with
  | [.d (.int i), .d (.int j), .d (.int c)] => if c ≠ 0 ∧ c.natAbs < 1073741824 ∧ Builtin.Range.small i j c = true ∧ 0 ≤ Builtin.Range.rangeSize i j c then some (rngL i (Builtin.Range.rangeSize i j c).toNat c, S) else none
  | _ => none
def enumL : List D → Nat → List D
  | [], _ => []
  | x :: r, i => .tuple [.int i, x] :: enumL r (i + 1)
def fEnum (as : List AV) (S : AS) : Option (List D × AS) := match as with
  | [a] => match frzD S a with
    | some (.list l, S2) => some (enumL l 0, S2)
    | _ => none
  | _ => none
theorem enumL_len : ∀ (l : List D) (i : Nat), (enumL l i).length = l.length
  | [], _ => rfl
  | x :: r, i => by
    show (enumL r (i + 1)).length + 1 = _
    rw [enumL_len r]
    rfl
theorem enumL_get : ∀ {l : List D} {k i : Nat} {x : D}, (enumL l k)[i]? = some x → ∃ y, l[i]? = some y ∧ x = .tuple [.int ((k + i : Nat) : Int), y]
  | [], _, _, _, h => by simp [enumL] at h
  | y :: r, k, 0, x, h => ⟨y, rfl, (Option.some.inj h).symm⟩
  | y :: r, k, i + 1, x, h => by
    obtain ⟨z, h1, h2⟩ := enumL_get (l := r) (k := k + 1) (i := i) (x := x) h
    refine ⟨z, h1, ?_⟩
    rw [h2]
    have e : k + 1 + i = k + (i + 1) := by omega
    rw [e]
theorem rngL_len (lo : Int) (n : Nat) (c : Int) : (rngL lo n c).length = n := by simp [rngL]
theorem rngL_get {lo : Int} {n : Nat} {c : Int} {i : Nat} {x : D} (h : (rngL lo n c)[i]? = some x) : i < n ∧ x = .int (lo + (i : Nat) * c) := by
  unfold rngL at h
  rw [List.getElem?_map] at h
  have hi : i < n := by
    by_cases q : i < n
    · exact q
    · rw [List.getElem?_eq_none (by rw [List.length_range]; omega)] at h
      cases h
  rw [List.getElem?_range hi] at h
  exact ⟨hi, (Option.some.inj h).symm⟩
theorem _root_.L2.PI.impD {tg iter : Expr} {t t' : TI} (h : PI X tg iter t) (k : ∀ σ H R, t' σ H R → t σ H R) : PI X tg iter t' := ⟨fun pins s σ H R I q => h.run pins s σ H R I (k σ H R q)⟩
theorem itl_ok {K : PySem.W.Frag} {F : Hp} {a : Addr} {vs : List V} {l : List D} (h : SqL K F a vs) (k : DpAll K F vs l) : ItOk K F (Itl K a) l where
  stop := fun H s => ⟨vs, s.seq h, Nat.le_of_eq (dpA_len k)⟩
  go := fun i H x s e => by
    obtain ⟨v, h1, h2⟩ := dpA_get k e
    exact ⟨vs, v, s.seq h, h1⟩
  yld := fun i H x v H' s e y => by
    obtain ⟨w, h1, h2⟩ := dpA_get k e
    have e2 := y.2 vs (s.seq h)
    rw [h1] at e2
    cases e2
    exact .inl ⟨y.1, h2⟩
theorem itt_ok {K : PySem.W.Frag} {F : Hp} {a : Addr} {vs : List V} {l : List D} (h : SqT K F a vs) (k : DpAll K F vs l) : ItOk K F (Itt K a) l where
  stop := fun H s => ⟨vs, Same.seqT s h, Nat.le_of_eq (dpA_len k)⟩
  go := fun i H x s e => by
    obtain ⟨v, h1, h2⟩ := dpA_get k e
    exact ⟨vs, v, Same.seqT s h, h1⟩
  yld := fun i H x v H' s e y => by
    obtain ⟨w, h1, h2⟩ := dpA_get k e
    have e2 := y.2 vs (Same.seqT s h)
    rw [h1] at e2
    cases e2
    exact .inl ⟨y.1, h2⟩
/-- a list or a tuple -/
def iSqD (K : PySem.W.Frag) (tl : TE) : TI := fun σ H R => tl σ H fun x H1 => ∃ a, x = .ref a ∧ (((∃ xs, SqL K H1 a xs) ∧ R (Itl K a) H1) ∨ ((∃ xs, SqT K H1 a xs) ∧ R (Itt K a) H1))
theorem pi_sqD {tg l : Expr} {tl : TE} (hl : PE X l tl) : PI X tg l (iSqD X.K tl) := by
  refine ⟨fun pins s σ H R I h => ?_⟩
  refine thn (hl.run pins s σ H _ I h) fun v s1 ⟨x, H1, I1, r1, q1⟩ => ?_
  obtain ⟨a, e, q1⟩ := q1
  subst e
  cases r1
  rcases q1 with ⟨⟨xs, hq⟩, q⟩ | ⟨⟨xs, hq⟩, q⟩
  · obtain ⟨its, rv, p, hz⟩ := I1.list hq
    refine wpAny_pyIter_list p.isList ⟨s1.heap.objs.size, [s1.heap.objs.size], _, _, H1, rfl, I1.kept (t' := s1.toks) (fun b o e => Heap.get?_push_of_some _ e), turn_list a _, ⟨_, Heap.get?_push_size _ rfl, rfl, rfl⟩, fun b hb => ?_, q⟩
    cases List.mem_singleton.mp hb
    exact I1.fpOk (Nat.le_refl _) (I1.hok.fresh (Nat.le_refl _))
  · obtain ⟨its, rv, p, hz⟩ := I1.tuple hq
    refine wpAny_pyIter_tuple (show s1.heap.IsTuple a its.toArray from p) ⟨s1.heap.objs.size, [s1.heap.objs.size], _, _, H1, rfl, I1.kept (t' := s1.toks) (fun b o e => Heap.get?_push_of_some _ e), turn_tuple a _, ⟨_, Heap.get?_push_size _ rfl, rfl, rfl⟩, fun b hb => ?_, q⟩
    cases List.mem_singleton.mp hb
    exact I1.fpOk (Nat.le_refl _) (I1.hok.fresh (Nat.le_refl _))
theorem sI_seq {tg : Expr} (he : PE X e (tE (zp X ex) W ca)) : PI X tg e (tI (zp X ex) W (iSeq ca)) := (pi_sqD he).impD fun σ H R h => by
  obtain ⟨F, ρ, S, aσ, rs, st, p⟩ := h
  refine ⟨F, ρ, S, aσ, rs, st, ?_⟩
  unfold iSeq at p
  cases e1 : ca aσ S with
  | err x S1 => rw [e1] at p; exact p
  | stuck => rw [e1] at p; exact p.elim
  | ok a S1 =>
    rw [e1] at p
    intro F' ρ' H' v t rs' rw'
    obtain ⟨F2, s2, rs2, rv⟩ := fzW rs' rw'
    cases e2 : frzD S1 a.fz with
    | none => simp only [e2] at p
    | some y =>
      obtain ⟨x, S2⟩ := y
      obtain ⟨F3, s3, rs3, dx⟩ := frzD_ok rs2 rv e2
      have t3 : Tr F ρ F3 ρ' := (t.trans (Tr.sam s2)).trans (Tr.sam s3)
      simp only [e2] at p
      cases x with
      | list l =>
        cases dx with
        | lst h1 h2 => exact ⟨_, rfl, .inl ⟨⟨_, rs3.sub.seq h1⟩, p F3 ρ' H' _ t3 rs3 (itl_ok h1 h2)⟩⟩
      | tuple l =>
        cases dx with
        | tup h1 h2 => exact ⟨_, rfl, .inr ⟨⟨_, Same.seqT rs3.sub h1⟩, p F3 ρ' H' _ t3 rs3 (itt_ok h1 h2)⟩⟩
      | _ => exact p.elim
theorem itr_ok {K : PySem.W.Frag} {F : Hp} (lo : Int) (n : Nat) : ItOk K F (Itr lo n) (rngL lo n 1) where
  stop := fun H s => by
    rw [rngL_len]
    exact Nat.le_refl n
  go := fun i H x s e => (rngL_get e).1
  yld := fun i H x v H' s e y => by
    obtain ⟨h1, h2⟩ := rngL_get e
    obtain ⟨y1, y2⟩ := y
    refine .inl ⟨y1, ?_⟩
    rw [h2, y2, Int.mul_one]
    exact .int _
theorem rng_ends {i : Int} (h : -big62 ≤ i ∧ i < big62) : -(2 ^ 62) ≤ i ∧ i < 2 ^ 62 := by
  have : (2 : Int) ^ 62 = big62 := by decide
  rw [this]
  exact h
theorem itL_imp {Z : Zp} {l : Ln} {f : List AV → AS → Option (List D × AS)} {σ : L2.St} {H : Hp} {R : It → Hp → Prop} (h : tI Z W (itL l f) σ H R) :
    tL Z W l σ H fun vs H1 => ∃ F ρ S as m S2, RS Z.K F ρ S H1 ∧ RepVs Z F ρ as vs ∧ f as S = some (m, S2) ∧ ∀ F' ρ' H' J, Tr F ρ F' ρ' → RS Z.K F' ρ' S2 H' → ItOk Z.K F' J m → R J H' := by
  obtain ⟨F, ρ, S, aσ, rs, st, q⟩ := h
  refine ⟨F, ρ, S, aσ, rs, st, ?_⟩
  unfold itL at q
  cases e1 : l aσ S with
  | err x S1 => rw [e1] at q; exact q
  | stuck => rw [e1] at q; exact q
  | ok as S1 =>
    rw [e1] at q
    intro F' ρ' H' vs t rs' rv
    cases e2 : f as S1 with
    | none => simp only [e2] at q
    | some y =>
      obtain ⟨m, S2⟩ := y
      simp only [e2] at q
      exact ⟨F', ρ', S1, as, m, S2, rs', rv, e2, fun F3 ρ3 H3 J t3 => q F3 ρ3 H3 J (t.trans t3)⟩
theorem sI_rng1 {tg : Expr} {p : Pos} {l : Ln} (hg : Gl X "range") (hm : X.mg "range" = none) (ha : PA X [a] (tL (zp X ex) W l)) (hs : starEach [a] X.env = [(false, eval a X.env)]) : PI X tg (.Call (.Name "range" p) [a] [] pos) (tI (zp X ex) W (itL l fRng1)) :=
  (pi_range1 hg hm ha hs).impD fun σ H R h => (itL_imp h).imp fun vs H1 q => by
    obtain ⟨F, ρ, S, as, m, S2, rs, rv, e, k⟩ := q
    unfold fRng1 at e
    split at e
    · split at e
      · rename_i j c
        cases Option.some.inj e
        obtain ⟨v, rfl, r1⟩ := rv.one
        cases dint (show Dp X.K F v _ from r1)
        obtain ⟨c1, c2⟩ := rng_ends c
        exact ⟨j, rfl, c1, c2, k F ρ H1 _ Tr.refl rs (itr_ok 0 j.toNat)⟩
      · cases e
    · cases e
theorem sI_rng2 {tg : Expr} {p : Pos} {l : Ln} (hg : Gl X "range") (hm : X.mg "range" = none) (ha : PA X [a, b] (tL (zp X ex) W l)) (hs : starEach [a, b] X.env = [(false, eval a X.env), (false, eval b X.env)]) (hs2 : starEach [b] X.env = [(false, eval b X.env)]) :
    PI X tg (.Call (.Name "range" p) [a, b] [] pos) (tI (zp X ex) W (itL l fRng2)) :=
  (pi_range2 hg hm ha hs hs2).impD fun σ H R h => (itL_imp h).imp fun vs H1 q => by
    obtain ⟨F, ρ, S, as, m, S2, rs, rv, e, k⟩ := q
    unfold fRng2 at e
    split at e
    · split at e
      · rename_i i j c
        cases Option.some.inj e
        obtain ⟨v, w, rfl, r1, r2⟩ := rv.two
        cases dint (show Dp X.K F v _ from r1)
        cases dint (show Dp X.K F w _ from r2)
        obtain ⟨c1, c2⟩ := rng_ends c.1
        obtain ⟨c3, c4⟩ := rng_ends c.2
        exact ⟨i, j, rfl, ⟨c1, c2, c3, c4⟩, k F ρ H1 _ Tr.refl rs (itr_ok i (j - i).toNat)⟩
      · cases e
    · cases e
theorem itc_ok {K : PySem.W.Frag} {F : Hp} (lo c : Int) (n : Nat) : ItOk K F (Itc lo c n) (rngL lo n c) where
  stop := fun H s => by
    rw [rngL_len]
    exact Nat.le_refl n
  go := fun i H x s e => (rngL_get e).1
  yld := fun i H x v H' s e y => by
    obtain ⟨h1, h2⟩ := rngL_get e
    obtain ⟨y1, y2⟩ := y
    refine .inl ⟨y1, ?_⟩
    rw [h2, y2]
    exact .int _
theorem RepVs.three {Z : Zp} {F : Hp} {ρ : Rh} {a b c : AV} {vs : List V} (h : RepVs Z F ρ [a, b, c] vs) : ∃ u v w, vs = [u, v, w] ∧ RepV Z F ρ a u ∧ RepV Z F ρ b v ∧ RepV Z F ρ c w := by
  cases h with
  | cons r k =>
    obtain ⟨v, w, rfl, r1, r2⟩ := RepVs.two k
    exact ⟨_, _, _, rfl, r, r1, r2⟩
theorem sI_rng3 {tg : Expr} {p : Pos} {l : Ln} (hg : Gl X "range") (hm : X.mg "range" = none) (ha : PA X [a, b, c] (tL (zp X ex) W l)) (hs : starEach [a, b, c] X.env = (false, eval a X.env) :: starEach [b, c] X.env) (hpl : (backTo pos (starEach [b, c] X.env)).any (·.1) = false) :
    PI X tg (.Call (.Name "range" p) [a, b, c] [] pos) (tI (zp X ex) W (itL l fRng3)) :=
  (pi_range3 hg hm ha hs hpl).impD fun σ H R h => (itL_imp h).imp fun vs H1 q => by
    obtain ⟨F, ρ, S, as, m, S2, rs, rv, e, k⟩ := q
    unfold fRng3 at e
    split at e
    · split at e
      · rename_i i j c cc
        cases Option.some.inj e
        obtain ⟨u, v, w, rfl, r1, r2, r3⟩ := rv.three
        cases dint (show Dp X.K F u _ from r1)
        cases dint (show Dp X.K F v _ from r2)
        cases dint (show Dp X.K F w _ from r3)
        exact ⟨i, j, c, _, rfl, ⟨cc.1, cc.2.1, cc.2.2.1, by have := cc.2.2.2; omega⟩, k F ρ H1 _ Tr.refl rs (itc_ok i c _)⟩
      · cases e
    · cases e
theorem ite_ok {K : PySem.W.Frag} {F : Hp} {a : Addr} {vs : List V} {l : List D} (h : SqL K F a vs) (k : DpAll K F vs l) : ItOk K F (Ite K a) (enumL l 0) where
  stop := fun H s => ⟨vs, s.seq h, by rw [enumL_len]; exact Nat.le_of_eq (dpA_len k)⟩
  go := fun i H x s e => by
    obtain ⟨y, h1, h2⟩ := enumL_get e
    obtain ⟨v, h3, h4⟩ := dpA_get k h1
    exact ⟨vs, v, s.seq h, h3⟩
  yld := fun i H x v H' s e y => by
    obtain ⟨z, h1, h2⟩ := enumL_get e
    obtain ⟨w, h3, h4⟩ := dpA_get k h1
    obtain ⟨T, u, e1, e2, e3, e4⟩ := y
    have e5 := e4 vs (s.seq h)
    rw [h3] at e5
    cases e5
    refine .inr ⟨T, _, _, e2, e3, e1, h2, .cons ?_ (.cons h4 .nil)⟩
    rw [Nat.zero_add]
    exact .int _
theorem sI_enum {elts : List Expr} {kk : Nat} {tpos p : Pos} {l : Ln} (hg : Gl X "enumerate") (hm : X.mg "enumerate" = none) (ha : PA X [e] (tL (zp X ex) W l)) (hs : starEach [e] X.env = [(false, eval e X.env)]) :
    PI X (.Tuple elts kk tpos) (.Call (.Name "enumerate" p) [e] [] pos) (tI (zp X ex) W (itL l fEnum)) :=
  (pi_enum hg hm ha hs).impD fun σ H R h => (itL_imp h).imp fun vs H1 q => by
    obtain ⟨F, ρ, S, as, m, S2, rs, rv, e, k⟩ := q
    unfold fEnum at e
    split at e
    · split at e
      · rename_i a l2 S3 e2
        cases Option.some.inj e
        obtain ⟨v, rfl, r1⟩ := rv.one
        obtain ⟨F3, s3, rs3, dx⟩ := frzD_ok rs r1 e2
        cases dx with
        | lst h1 h2 => exact ⟨_, _, rfl, rs3.sub.seq h1, k F3 ρ H1 _ (Tr.sam s3) rs3 (ite_ok h1 h2)⟩
      · cases e
    · cases e
end
end Den
/-! Den6: list comprehensions; raise; try. -/
namespace Den
open PySem PySem.Spec PyProof.Rows L2

/-! ### list comprehensions -/
def wipeA (σ : ASt) : List Nat → ASt
  | [] => σ
  | v :: vs => (wipeA σ vs).set v none
theorem RSt.wipe {Z : Zp} {F : Hp} {ρ : Rh} {aσ : ASt} {σ : L2.St} (h : RSt Z F ρ aσ σ) : ∀ vs : List Nat, RSt Z F ρ (wipeA aσ vs) (wipe σ vs)
  | [] => h
  | v :: vs => (RSt.wipe h vs).clear
def lcGo (p : Pat) (ct ce : Dn) (σ : ASt) : List D → AS → List D → ER
  | [], S, acc => .ok (.own acc) S
  | x :: r, S, acc => match bindP S p (.d x) σ with
    | none => .stuck
    | some σ1 => match ct σ1 S with
      | .ok (.d (.bool true)) S1 => match ce σ1 S1 with
        | .ok a S2 => match frzD S2 a.fz with
          | some (y, S3) => if acc.length < cap then lcGo p ct ce σ r S3 (acc ++ [y]) else .stuck
          | none => .stuck
        | _ => .stuck
      | .ok (.d (.bool false)) S1 => lcGo p ct ce σ r S1 acc
      | _ => .stuck
def dLc (it : It1) (p : Pat) (ct ce : Dn) (vs : List Nat) : Dn := fun σ S => match it σ S with
  | .ok l S1 => lcGo p ct ce (wipeA σ vs) l S1 []
  | .err x S1 => .err x S1
  | .stuck => .stuck
/-- nothing may be wished for an error -/
abbrev W0 : WX := fun _ _ _ _ => False
theorem lc_imp {Z : Zp} {W : WX} {it : It1} {p : Pat} {ct ce : Dn} {vs : List Nat} {σ : L2.St} {H : Hp} {Q : VK} (hv : ∀ i ∈ p.slots, i ∈ vs) (h : tE Z W (dLc it p ct ce vs) σ H Q) : tLc (tI Z W it) (tG Z p) (tT Z W0 ct) (tE Z W0 ce) vs σ H Q := by
  obtain ⟨F, ρ, S, aσ, rs, st, q⟩ := h
  refine ⟨F, ρ, S, aσ, rs, st, ?_⟩
  unfold dLc at q
  cases e : it aσ S with
  | err x S1 => rw [e] at q; exact q
  | stuck => rw [e] at q; exact q
  | ok items S1 =>
    rw [e] at q
    intro F' ρ' H' J t rs' hJ D hD
    have st' := (st.mono t).wipe vs
    have G0 : ρ'.G D = none := rs'.gfree hD
    have rs0 : RS Z.K F' ⟨ρ'.l, upd ρ'.G D (.lst [])⟩ S1 (upd H' D (.lst [])) := (rs'.newH hD).pinUp upd_same (rs'.fresh hD) (rs'.notin hD)
    refine ⟨fun i m H => ∃ F2 l2 S2 acc vacc, Tr F' ρ' F2 ⟨l2, ρ'.G⟩ ∧ RS Z.K F2 ⟨l2, upd ρ'.G D (.lst vacc)⟩ S2 H ∧ DpAll Z.K F2 vacc acc ∧ i ≤ items.length ∧ m = items.length - i ∧ EPost Z W σ F2 ⟨l2, ρ'.G⟩ Q (lcGo p ct ce (wipeA aσ vs) (items.drop i) S2 acc),
      ⟨items.length, F', ρ'.l, S1, [], [], Tr.refl, rs0, .nil, Nat.zero_le _, rfl, EPost.tr t q⟩, ?_⟩
    rintro i m H1 ⟨F2, l2, S2, acc, vacc, t2, rs2, da, hi, rfl, q2⟩
    have hJ2 := hJ.mono t2.same
    by_cases hlt : i < items.length
    · have ei : items[i]? = some items[i] := List.getElem?_eq_getElem hlt
      rw [show items.drop i = items[i] :: items.drop (i + 1) from List.drop_eq_getElem_cons hlt] at q2
      refine .inr ⟨hJ2.go i H1 _ rs2.sub ei, fun H' => ∃ m', m' < items.length - i ∧ ∃ F2 l2 S2 acc vacc, Tr F' ρ' F2 ⟨l2, ρ'.G⟩ ∧ RS Z.K F2 ⟨l2, upd ρ'.G D (.lst vacc)⟩ S2 H' ∧ DpAll Z.K F2 vacc acc ∧ i + 1 ≤ items.length ∧ m' = items.length - (i + 1) ∧ EPost Z W σ F2 ⟨l2, ρ'.G⟩ Q (lcGo p ct ce (wipeA aσ vs) (items.drop (i + 1)) S2 acc),
        fun H' h => h, fun v H3 hy => ?_⟩
      unfold lcGo at q2
      cases e2 : bindP S2 p (.d items[i]) (wipeA aσ vs) with
      | none => simp only [e2] at q2; exact q2.elim
      | some σ2 =>
        simp only [e2] at q2
        have key : ∃ F3, Same F2 F3 ∧ RS Z.K F3 ⟨l2, upd ρ'.G D (.lst vacc)⟩ S2 H3 ∧ Dp Z.K F3 v items[i] := by
          rcases hJ2.yld i H1 _ v H3 rs2.sub ei hy with ⟨rfl, h2⟩ | ⟨p, ws, l, h1, rfl, rfl, h4, h5⟩
          · exact ⟨F2, Same.refl F2, rs2, h2⟩
          · rw [h4]
            exact ⟨_, same_upd (rs2.fresh h1), rs2.newF h1, .tup (SqT.of upd_same) (dpA_mono (same_upd (rs2.fresh h1)) _ _ h5)⟩
        obtain ⟨F3, s3, rs3, dv⟩ := key
        have q3 := EPost.tr (ρ1 := ⟨l2, ρ'.G⟩) (Tr.sam s3) q2
        have t3 : Tr F' ρ' F3 ⟨l2, ρ'.G⟩ := t2.trans (Tr.sam s3)
        have st3 : RSt Z F3 ⟨l2, upd ρ'.G D (.lst vacc)⟩ (wipeA aσ vs) (wipe σ vs) := st'.mono ⟨t3.same, t3.pre, rfl⟩ |> fun z => ⟨z.len, fun j a e => by
          obtain ⟨w, h1, h2⟩ := z.at_ j a e
          refine ⟨w, h1, ?_⟩
          cases a with
          | d x => exact h2
          | ref n => exact h2
          | own l => exact h2
          | exc x => exact h2⟩
        refine ⟨F3, ⟨l2, upd ρ'.G D (.lst vacc)⟩, S2, .d items[i], wipeA aσ vs, σ2, rs3, st3, dv, e2, fun σ' st4 w => ⟨(w vs hv).trans (by
          have : ∀ (us : List Nat) (τ : L2.St), wipe (wipe τ us) us = wipe τ us := by
            intro us τ
            have key : ∀ (as : List Nat), (∀ i ∈ as, i ∈ us) → wipe (wipe τ us) as = wipe τ us := by
              intro as
              induction as with
              | nil => intro _; rfl
              | cons a as ih =>
                intro h
                show (wipe (wipe τ us) as).set a none = wipe τ us
                rw [ih fun i hi => h i (List.mem_cons_of_mem _ hi)]
                apply List.ext_getElem?
                intro j
                by_cases hj : a = j
                · subst hj
                  have ha := h a List.mem_cons_self
                  by_cases hl : a < (wipe τ us).length
                  · rw [List.getElem?_set_self hl]
                    cases hz : (wipe τ us)[a]? with
                    | none => rw [List.getElem?_eq_none_iff] at hz; omega
                    | some z =>
                      cases z with
                      | none => rfl
                      | some z => exact absurd ha (wipe_some hz).2
                  · rw [List.getElem?_eq_none (by rw [List.length_set]; omega), List.getElem?_eq_none (by omega)]
                · rw [List.getElem?_set_ne hj]
            exact key us fun _ h => h
          exact this vs σ), ?_⟩⟩
        -- the test
        refine ⟨F3, ⟨l2, upd ρ'.G D (.lst vacc)⟩, S2, σ2, rs3, st4, ?_⟩
        cases e3 : ct σ2 S2 with
        | err x S3 => simp only [e3] at q3; exact q3.elim
        | stuck => simp only [e3] at q3; exact q3.elim
        | ok b S3 =>
          simp only [e3] at q3
          intro F4 ρ4 H4 vb t4 rs4 rb
          have g4 : ρ4 = ⟨ρ4.l, upd ρ'.G D (.lst vacc)⟩ := by
            have gg : ρ4.G = upd ρ'.G D (.lst vacc) := t4.g
            rw [← gg]
          have t34 : Tr F3 ⟨l2, ρ'.G⟩ F4 ⟨ρ4.l, ρ'.G⟩ := ⟨t4.same, t4.pre, rfl⟩
          split at q3
          · rename_i b1 S31 e4
            cases e4
            cases dbool (show Dp Z.K F4 vb _ from rb)
            refine ⟨true, rfl, iteT ?_⟩
            refine ⟨F4, ρ4, S3, σ2, rs4, st4.mono t4, ?_⟩
            cases e5 : ce σ2 S3 with
            | err x S5 => simp only [e5] at q3; exact q3.elim
            | stuck => simp only [e5] at q3; exact q3.elim
            | ok a S5 =>
              simp only [e5] at q3
              intro F5 ρ5 H5 vy t5 rs5 ry
              obtain ⟨F6, s6, rs6, rv6⟩ := fzW rs5 ry
              cases e6 : frzD S5 a.fz with
              | none => simp only [e6] at q3; exact q3.elim
              | some yy =>
                obtain ⟨y, S6⟩ := yy
                obtain ⟨F7, s7, rs7, dy⟩ := frzD_ok rs6 rv6 e6
                simp only [e6] at q3
                by_cases cc : acc.length < cap
                · rw [if_pos cc] at q3
                  have g5 : ρ5.G = upd ρ'.G D (.lst vacc) := t5.g.trans t4.g
                  have eD : ρ5.G D = some (.lst vacc) := by rw [g5, upd_same]
                  have t47 : Tr F3 ⟨l2, ρ'.G⟩ F7 ⟨ρ5.l, ρ'.G⟩ := ⟨((t4.same.trans t5.same).trans s6).trans s7, t4.pre.trans t5.pre, rfl⟩
                  have da7 : DpAll Z.K F7 vacc acc := dpA_mono (s3.trans t47.same) _ _ da
                  refine ⟨vacc, (rs7.pin D _ eD).1, by rw [dpA_len da]; exact Nat.lt_of_lt_of_le cc cap_le, _, by omega, F7, ρ5.l, S6, acc ++ [y], vacc ++ [vy], t3.trans t47, ?_, dpA_app da7 (.cons dy .nil), hlt, rfl, EPost.tr t47 q3⟩
                  have r := rs7.pinSet eD (.lst (vacc ++ [vy]))
                  have eg : upd ρ5.G D (.lst (vacc ++ [vy])) = upd ρ'.G D (.lst (vacc ++ [vy])) := by
                    rw [g5]
                    funext b
                    by_cases hb : b = D
                    · subst hb; rw [upd_same, upd_same]
                    · rw [upd_ne hb, upd_ne hb, upd_ne hb]
                  rw [eg] at r
                  exact r
                · rw [if_neg cc] at q3
                  exact q3.elim
          · rename_i b1 S31 e4
            cases e4
            cases dbool (show Dp Z.K F4 vb _ from rb)
            refine ⟨false, rfl, iteF ?_⟩
            rw [g4] at rs4
            exact ⟨_, by omega, F4, ρ4.l, S3, acc, vacc, t3.trans t34, rs4, dpA_mono (s3.trans t4.same) _ _ da, hlt, rfl, EPost.tr t34 q3⟩
          · exact q3.elim
    · have ee : i = items.length := by omega
      subst ee
      rw [List.drop_length] at q2
      have eD : H1 D = some (.lst vacc) ∧ F2 D = none ∧ D ∉ l2 := rs2.pin D _ upd_same
      have rsU : RS Z.K F2 ⟨l2, ρ'.G⟩ S2 H1 := rs2.unpin (G := ρ'.G) fun b o e => by
        show upd ρ'.G D (.lst vacc) b = some o
        rw [upd_ne (fun z : b = D => by rw [z, G0] at e; cases e)]
        exact e
      exact .inl ⟨hJ2.stop H1 rs2.sub, q2 F2 ⟨l2, ρ'.G⟩ H1 _ Tr.refl rsU ⟨D, vacc, rfl, eD.2.2, eD.2.1, G0, eD.1, da⟩⟩
section
variable {X : Cx} {ex : Option (Addr × Value × Option Addr)} {W : WX}
theorem ts_true : PTs X [] (tT (zp X ex) W0 (dC (.bool true))) := ⟨fun pins s σ H Q I h => pts_nil.run pins s σ H Q I (by
  obtain ⟨F, ρ, S, aσ, rs, st, q⟩ := h
  obtain ⟨b, e, k⟩ := q F ρ H (.bl true) Tr.refl rs (show Dp _ _ _ _ from .bl true)
  cases e
  exact k)⟩
theorem ts_one {c : Expr} {cc : Dn} (h : PT X c (tT (zp X ex) W0 cc)) : PTs X [c] (tT (zp X ex) W0 cc) := pts_one h
/-- what holds in the block of a comprehension -/
abbrev InBlk (X : Cx) (scope : Scope) (P : Cx → Prop) : Prop := ∀ (s : Shared) (H : Hp) (C : Addr) (cl : List (Str × Addr)) (fp : List Addr), P (X.blk s H scope (compEnvC scope cl C X.env) fp)
theorem sE_lc {elt tg iter : Expr} {ifs : List Expr} {scope : Scope} {own : List (Str × Nat)} {pos : Pos} {it : It1} {p : Pat} {ct ce : Dn} (hc : X.calm = true) (hN : X.N.Nodup) (hi : PI X tg iter (tI (zp X ex) W it)) (ok : BlkOk X.N X.env.scope scope own)
    (hg : InBlk X scope fun Y => PG Y tg (tG (zp X ex) p)) (ht : InBlk X scope fun Y => PTs Y ifs (tT (zp X ex) W0 ct)) (he : InBlk X scope fun Y => PE Y elt (tE (zp X ex) W0 ce)) (hs : ∀ x, foldedSetIterable iter X.env x = pure x) (hv : ∀ i ∈ p.slots, i ∈ own.map (·.2)) :
    PE X (.ListComp elt [⟨tg, iter, ifs, 0⟩] scope pos) (tE (zp X ex) W (dLc it p ct ce (own.map (·.2)))) :=
  (pe_lc hc hN hi ok hg ht he hs).impD fun σ H Q h => lc_imp hv h
theorem sS_setLc {i : Nat} {y : Str} {py : Pos} {m : Bool} {elt tg iter : Expr} {ifs : List Expr} {scope : Scope} {own : List (Str × Nat)} {pos spos : Pos} {it : It1} {p : Pat} {ct ce : Dn} (hc : X.calm = true) (hN : X.N.Nodup) (hy : X.N[i]? = some y) (hyl : X.env.scope.names.lookup y = some .local)
    (hsw : swapsWith (.ListComp elt [⟨tg, iter, ifs, 0⟩] scope pos) (some (.Name y py)) spos.line X.env = pure true) (hi : PI X tg iter (tI (zp X ex) W it)) (ok : BlkOk X.N X.env.scope scope own)
    (hg : InBlk X scope fun Y => PG Y tg (tG (zp X ex) p)) (ht : InBlk X scope fun Y => PTs Y ifs (tT (zp X ex) W0 ct)) (he : InBlk X scope fun Y => PE Y elt (tE (zp X ex) W0 ce)) (hs : ∀ x, foldedSetIterable iter X.env x = pure x) (hv : ∀ i ∈ p.slots, i ∈ own.map (·.2)) :
    PS X (.Assign [.Name y py] (.ListComp elt [⟨tg, iter, ifs, 0⟩] scope pos) spos) (tS (zp X ex) W (sAsg i m (dLc it p ct ce (own.map (·.2))))) :=
  (ps_setLc hc hN hy hyl hsw hi ok hg ht he hs).impD fun D σ H h => lc_imp hv (asg_imp h)
end
end Den
/-! Den7: raise; try with several clauses; the caught error; a def's end. -/
namespace Den
open PySem PySem.Spec PyProof.Rows L2

/-! ### an own error is made and raised -/
/-- __init__(self, fld): self.fld = fld -/
def spIni (K : PySem.W.Frag) (fld : Str) : Sp := fun vs H Q _ => ∃ (a C : Addr) (y : V), vs = [.ref a, y] ∧ OexC K C ∧ PySem.W.findIn K (.ref C) fld = some none ∧ H a = some (exo a C none) ∧
  ∀ dx, H dx = none → dx ≠ a → Q .non (upd (upd H dx (exd dx [(fld, y)])) a (exo a C (some dx)))
theorem ok_ini {P : Program} {w : World} {K : PySem.W.Frag} {mg : Str → Option Value} {base : Heap} {qual fld : Str} {st : Stmt} {fI : Addr} {fd : FuncData} {q1 q2 q3 q4 : Pos} (F : Fun K "__init__" qual st fI fd) (S : FnScope ["self", fld] ["self", fld] (defScope st))
    (h1 : (defScope st).names.lookup ("self" : Str) = some .local) (h2 : (defScope st).names.lookup fld = some .local) (hd : (fld == ("__debug__" : Str)) = false) (hcd : (fld == ("__classdict__" : Str)) = false)
    (hb : defBody st = [.Assign [.Attribute (.Name "self" q1) fld q2] (.Name fld q3) q4]) : FnOk P w K mg base (L2.CX P w) 1 fI fd ["self", fld] (spIni K fld) := by
  refine F.okX S (fun vs H Q E h => ?_) (fun cdv A outer s H vs Q E hr h => ⟨tOst K fld (tVar 0) (tVar 1), ?_, ?_⟩)
  · obtain ⟨a, C, y, rfl, _⟩ := h
    rfl
  · rw [hb]
    exact pss_one (ps_ost (pe_var (i := 0) rfl (Or.inl h1) (by decide) (by decide)) (pe_var (i := 1) rfl (Or.inl h2) hd hcd))
  · obtain ⟨a, C, y, rfl, T, hno, hH, q⟩ := h
    exact ⟨y, rfl, .ref a, rfl, a, C, rfl, T, hno, .inl ⟨hH, q⟩⟩
def sRaise (cn fld : Str) (l : Ln) : Sn := fun σ S => match l σ S with
  | .ok [a] S1 => match frzD S1 a with
    | some (x, S2) => .er ⟨cn, fld, x⟩ σ S2
    | none => .stuck
  | .ok _ _ => .stuck
  | .err x S1 => .er x σ S1
  | .stuck => .stuck
/-- what the text says of an own class of errors: its place, its __init__ -/
structure OwnE (P : Program) (w : World) (K : PySem.W.Frag) (mg : Str → Option Value) (base : Heap) (cn fld : Str) (C fI : Addr) (fd : FuncData) : Prop where
  g : mg cn = some (.ref C)
  T : OexC K C
  no : PySem.W.findIn K (.ref C) fld = some none
  iC : PySem.W.findIn K (.ref C) "__init__" = some (some (.ref fI))
  tI : PySem.W.typeIn K (.ref fI) = some (.type "function")
  F : FnOk P w K mg base (L2.CX P w) 1 fI fd ["self", fld] (spIni K fld)
  b : Binds K fd ["self", fld] []
  xf : XfC K C
section
variable {X : Cx} {W : WX} {pos : Pos} {e : Expr}
theorem raise_imp {cn fld : Str} {C fI : Addr} {fd : FuncData} {l : Ln} {D : Ends} {σ : L2.St} {H : Hp} (O : OwnE X.prog X.w X.K X.mg X.base cn fld C fI fd) (h : tS (zp X none) W (sRaise cn fld l) D σ H) :
    tMkO C (spIni X.K fld) [] (tL (zp X none) W l) σ H fun cls d H' => W cls d σ H' := by
  obtain ⟨F, ρ, S, aσ, rs, st, q⟩ := h
  refine ⟨F, ρ, S, aσ, rs, st, ?_⟩
  unfold sRaise at q
  cases e1 : l aσ S with
  | err x S1 =>
    rw [e1] at q
    exact fun F' ρ' H' cls d t rs' rx => q F' ρ' H' σ cls d t rs' (st.mono t) rx
  | stuck => rw [e1] at q; exact q
  | ok as S1 =>
    rw [e1] at q
    intro F' ρ' H' vs t rs' rv
    match as, rv, q with
    | [], _, q => exact q.elim
    | _ :: _ :: _, _, q => exact q.elim
    | [a1], rv, q =>
      obtain ⟨v, rfl, r1⟩ := rv.one
      cases e2 : frzD S1 a1 with
      | none => simp only [e2] at q; exact q.elim
      | some y =>
        obtain ⟨x, S2⟩ := y
        obtain ⟨F2, s2, rs2, dx⟩ := frzD_ok rs' r1 e2
        simp only [e2] at q
        refine ⟨by show 1 ≤ 1000; decide, fun a ha => ⟨a, C, v, rfl, O.T, O.no, upd_same, fun dd hdd hne => ⟨rfl, dd, [(fld, v)], upd_same, by rw [upd_ne hne, upd_same], by rw [upd_ne hne] at hdd; exact hdd, ?_⟩⟩⟩
        have hd1 : H' dd = none := by rw [upd_ne hne] at hdd; exact hdd
        have eh : upd (del (upd (upd (upd H' a (exo a C none)) dd (exd dd [(fld, v)])) a (exo a C (some dd))) a) dd (.xd [(fld, v)]) = upd H' dd (.xd [(fld, v)]) := by
          funext b
          by_cases hb : b = dd
          · subst hb
            rw [upd_same, upd_same]
          · rw [upd_ne hb, upd_ne hb]
            by_cases hba : b = a
            · subst hba
              rw [del_same, ha]
            · rw [del_ne hba, upd_ne hba, upd_ne hb, upd_ne hba]
        rw [eh]
        have t2 : Tr F ρ (upd F2 dd (.xd [(fld, v)])) ρ' := (t.trans (Tr.sam s2)).trans (Tr.sam (same_upd (rs2.fresh hd1)))
        exact q _ ρ' _ σ (.ref C) (some dd) t2 (rs2.newF hd1) (st.mono t2) ⟨C, dd, v, rfl, O.g, rfl, upd_same, dp_mono (same_upd (rs2.fresh hd1)) _ _ dx⟩
theorem sS_raise {cn fld : Str} {C fI : Addr} {fd : FuncData} {l : Ln} {p pos2 : Pos} (O : OwnE X.prog X.w X.K X.mg X.base cn fld C fI fd) (hc : X.calm = true) (tk : Takes X W) (hr : Room 2 X.A) (hg : Gl X cn) (ha : PA X [e] (tL (zp X none) W l))
    (hdb : (cn == ("__debug__" : Str)) = false) (he : starEach [e] X.env = (false, eval e X.env) :: starEach [] X.env) (hpl : (backTo pos (starEach [] X.env)).any (·.1) = false) :
    PS X (.Raise (some (.Call (.Name cn p) [e] [] pos)) none pos2) (tS (zp X none) W (sRaise cn fld l)) :=
  (ps_raise hc tk (pmk_oex O.T O.iC O.tI O.F hr O.b .nil (fun _ _ _ _ _ _ _ z => by obtain ⟨_, _, _, _, _, _, _, _, _, _, _, _, z⟩ := z; exact z.elim) hg O.g ha hdb he hpl)).impD fun D σ H h => raise_imp O h
end

/-! ### try: several clauses, each with or without a name -/
/-- behind a suite with a name: the name goes -/
def Dgo (D : Ends) (i : Nat) : Ends := { nx := fun σ H => D.nx (σ.set i none) H, rt := D.rt, bk := fun σ H => D.bk (σ.set i none) H, ct := fun σ H => D.ct (σ.set i none) H }
abbrev SuT := Addr → Value → Option Addr → TS
/-- the wish for one clause that takes the error -/
def wOne (D : Ends) (oi : Option Nat) (ts : SuT) : WX := fun cls d σ H => ∀ a, H a = none → match oi with
  | none => ts a cls d D σ H
  | some i => ts a cls d (Dgo D i) (σ.set i (some (.ref a))) H
def wEach (K : PySem.W.Frag) (Wo : WX) (D : Ends) : List (Value × Option Nat × SuT) → WX
  | [] => Wo
  | (c, oi, ts) :: r => fun cls d σ H => ∃ b, PySem.W.exmOne K cls c = some b ∧ (b = true → wOne D oi ts cls d σ H) ∧ (b = false → wEach K Wo D r cls d σ H)
/-- the suites -/
abbrev SuOk (X : Cx) (b : List Stmt) (ts : SuT) : Prop := ∀ (a : Addr) (oe : Obj) (cls : Value) (d : Option Addr) (pn : List (Addr × Obj)), Zc cls d oe → (∃ vs, oe.data = .fields vs) → PSs (X.suite a ((a, oe) :: pn)) b (ts a cls d)
inductive HdE (X : Cx) : List ExceptHandler → List (Value × Option Nat × SuT) → Prop
  | nil : HdE X [] []
  | bare {x : Str} {c : Value} {ts : SuT} {b₀ : Stmt} {bs : List Stmt} {p1 p2 : Pos} {r : List ExceptHandler} {l : List (Value × Option Nat × SuT)} (hc : Names X x c) (hsu : SuOk X (b₀ :: bs) ts) (hr : HdE X r l) :
      HdE X (.ExceptHandler (some (.Name x p1)) none (b₀ :: bs) p2 :: r) ((c, none, ts) :: l)
  | named {x n : Str} {i : Nat} {c : Value} {ts : SuT} {b₀ : Stmt} {bs : List Stmt} {p1 p2 : Pos} {r : List ExceptHandler} {l : List (Value × Option Nat × SuT)} (hc : Names X x c) (hi : X.N[i]? = some n) (hn : X.env.kindOf n = some .local) (hsu : SuOk X (b₀ :: bs) ts) (hr : HdE X r l) :
      HdE X (.ExceptHandler (some (.Name x p1)) (some n) (b₀ :: bs) p2 :: r) ((c, some i, ts) :: l)
section
variable {X : Cx} {body : List Stmt} {q0 : ExceptHandler} {qs : List ExceptHandler} {l : List (Value × Option Nat × SuT)} {pos : Pos} {tb : WX → TS} {Wo : WX}
theorem ps_try_each (hst : X.stack = X.env :: X.outer) (hfm : X.env.frame = some X.env.locals) (hN : X.N.Nodup) (tk : Takes X Wo)
    (hb : ∀ (W : WX) (pn : List (Addr × Obj)) (xe : Value → Shared → Prop), Takes (X.tr pn xe) W → PassesOwn (model X.prog X.w) X.A X.env xe → PSs (X.tr pn xe) body (tb W))
    (hh : HdE X (q0 :: qs) l) : PS X (.Try body (q0 :: qs) [] [] pos) (fun D σ H => tb (wEach X.K Wo D l) D σ H) := by
  refine ⟨fun pins s σ H D I h => ?_⟩
  have okX := I.ok
  have afr : X.A.frames = some (X.env :: X.outer) := by rw [okX.frames, hst]
  refine wpAny_Try_except ?_
  have bodyRun := hb (wEach X.K Wo D l) (X.pn ++ pins) (fun u t1 => wpAny (model X.prog X.w) X.A (noteFrame u X.env) (fun _ t2 => wpAny (model X.prog X.w) X.A (setFlight u none) (fun _ t3 =>
    wpAny (model X.prog X.w) X.A (handleBy u X.env (q0 :: qs)) (SP X pins D) X.xe t3) X.xe t2) X.xe t1)
  refine wpAny_mono ((bodyRun (fun u t0 fly => ?_) PassesOwn.looking).run [] s σ H D (I.toTry _) h) (fun fl t1 done => ?_) (fun u t1 z => z)
  · -- an error came out of the body
    obtain ⟨a, B, tI, pins2, τ, G, cls, d, rfl, JT, nB, upB, air, gA, osA, bareA, wish⟩ := fly
    have JA : Inv X pins τ G tI := JT.ofTry okX
    rw [show (X.tr (X.pn ++ pins) _).stack = X.env :: X.outer from hst] at air
    show wpAny (model X.prog X.w) X.A (noteFrame (.ref a) X.env) _ _ _
    refine Sky.land Zc.steady afr hfm air fun k3 on3 up3 => ?_
    have J3 : Inv X pins τ G { t0 with heap := k3 } := JA.landed nB on3.1 (upB.trans up3) osA bareA
    obtain ⟨ob3, fs3, at3, zc3, dat3⟩ := on3.there
    have outF : a ∉ frs (X.env :: X.outer) := fun hm => by
      obtain ⟨_, ob', at', nofields⟩ := on3.2.2.1.mem hm
      rw [at3] at at'
      cases at'
      exact nofields _ dat3
    have aL : a ≠ X.env.locals := fun z => outF (List.mem_filterMap.mpr ⟨X.env, List.mem_cons_self, by rw [hfm, z]⟩)
    have aF : a ∉ X.fs := fun hm => by
      obtain ⟨env2, he2, fr2⟩ := List.mem_filterMap.mp hm
      exact outF (List.mem_filterMap.mpr ⟨env2, List.mem_cons_of_mem _ he2, fr2⟩)
    have K3 := J3.suite at3 dat3 gA aL aF
    have each : ∀ {ks : List ExceptHandler} {m : List (Value × Option Nat × SuT)}, HdE X ks m → wEach X.K Wo D m cls d τ G →
        wpAny (model X.prog X.w) X.A (handleBy (.ref a) X.env ks) (SP X pins D) X.xe { t0 with heap := k3 } := by
      intro ks m hk
      -- the test of a clause, before anything of it runs
      have LT : PySem.W.Looks (model X.prog X.w) k3 (typeOf (.ref a)) cls := fun A Q E s k q => wpAny_typeOf_ref (k _ _ at3) (by rw [zc3.1]; exact q)
      have name1 : ∀ {x : Str} {c : Value} {p1 : Pos} {Q : Value → Shared → Prop} {E : Value → Shared → Prop}, Names X x c → Q c { t0 with heap := k3 } → wpAny (model X.prog X.w) (X.A.mark (some (.ref a))) (eval (.Name x p1) X.env) Q E { t0 with heap := k3 } := fun {x c p1 Q E} nm q => by
        obtain ⟨gl, nd, m1 | ⟨m1, bv, nn⟩⟩ := nm
        · exact ld_glob (X := X.suite a ((a, ob3) :: (X.pn ++ pins))) K3 gl m1 q nd
        · exact ld_blt (X := X.suite a ((a, ob3) :: (X.pn ++ pins))) K3 gl m1 bv q nn nd
      induction hk with
      | nil =>
        intro wout
        refine wpAny_handleBy_nil ?_
        obtain ⟨z1, z2, z3, ob, fs, T, oT, tfs, hat, hzc, hdat, hT1, _⟩ := id on3
        have out : wpAny (model X.prog X.w) X.A (setFlight (.ref a) X.env.frame) (fun _ t4 => wpAny (model X.prog X.w) X.A (throw (.ref a) : Sem Flow) (SP X pins D) X.xe t4) X.xe { t0 with heap := k3 } := by
          rw [hfm]
          refine HandSPX.setFlight_upZ on3 fun k4 off4 up4 => wpAny_throw (tk _ _ ?_)
          exact ⟨a, B, tI, pins, τ, G, cls, d, rfl, JA, nB, (upB.trans up3).trans up4, .inr (.inr (by rw [hst]; exact off4)), gA, osA, bareA, wout⟩
        unfold PySem.passOn
        refine wpAny_bind (wpAny_field hat hdat hT1 ?_)
        rw [if_neg (show ¬ ((Value.ref T == Value.none) = true) by simp)]
        first
          | exact wpAny_bind out
          | exact wpAny_bind (wpAny_pure (wpAny_bind out))
      | @bare x c ts b₀ bs p1 p2 r l2 nm su hr ih =>
        rintro ⟨b, eb, hy, hn⟩
        have LM := PySem.W.exm_one (M := model X.prog X.w) J3.kIn LT eb
        refine wpAny_handleBy_cons (codeAny_handlers_test (name1 nm (LM.here ?_))) (by intro z; cases z)
        cases b with
        | false =>
          show wpAny _ X.A (handleBy (.ref a) X.env r) _ _ _
          exact ih (hn rfl)
        | true =>
          refine codeAny_handlers_suite ?_
          refine HandSPX.lands_againZ on3 fun k4 on4 up4 => ?_
          have J4 : Inv X pins τ G { t0 with heap := k4 } := JA.landed nB on4.1 ((upB.trans up3).trans up4) osA bareA
          obtain ⟨ob4, fs4, at4, zc4, dat4⟩ := on4.there
          have K4 := J4.suite at4 dat4 gA aL aF
          refine wpAny_mono ((su a ob4 cls d (X.pn ++ pins) zc4 ⟨_, dat4⟩).run [] _ _ G _ K4 (hy rfl a gA)) (fun g6 t6 sp6 => ?_) (fun _ _ z => z.elim)
          cases g6 with
          | next =>
            obtain ⟨τ6, G6, K6, q6⟩ := sp6
            exact ⟨_, _, K6.unsuite okX, q6⟩
          | brk =>
            obtain ⟨τ6, G6, K6, q6⟩ := sp6
            exact ⟨_, _, K6.unsuite okX, q6⟩
          | cont =>
            obtain ⟨τ6, G6, K6, q6⟩ := sp6
            exact ⟨_, _, K6.unsuite okX, q6⟩
          | ret u =>
            obtain ⟨v6, τ6, G6, K6, r6, q6⟩ := sp6
            exact ⟨_, _, _, K6.unsuite okX, r6, q6⟩
      | @named x n i c ts b₀ bs p1 p2 r l2 nm hi hln su hr ih =>
        rintro ⟨b, eb, hy, hn⟩
        have LM := PySem.W.exm_one (M := model X.prog X.w) J3.kIn LT eb
        refine wpAny_handleBy_cons (codeAny_handlers_test (name1 nm (LM.here ?_))) (by intro z; cases z)
        cases b with
        | false =>
          show wpAny _ X.A (handleBy (.ref a) X.env r) _ _ _
          exact ih (hn rfl)
        | true =>
          refine codeAny_handlers_suite_as ?_
          refine HandSPX.lands_againZ on3 fun k4 on4 up4 => ?_
          have J4 : Inv X pins τ G { t0 with heap := k4 } := JA.landed nB on4.1 ((upB.trans up3).trans up4) osA bareA
          obtain ⟨ob4, fs4, at4, zc4, dat4⟩ := on4.there
          have K4 := J4.suite at4 dat4 gA aL aF
          refine store_ok (X := X.suite a ((a, ob4) :: (X.pn ++ pins))) (v := .ref a) K4 hN hi (.inl hln) rfl (fun t5 K5 => ?_) (.inr hln)
          refine wpAny_mono ((su a ob4 cls d (X.pn ++ pins) zc4 ⟨_, dat4⟩).run [] t5 _ G _ K5 (hy rfl a gA)) (fun g6 t6 sp6 => ?_) (fun _ _ z => z.elim)
          have goes : ∀ {τ6 : L2.St} {G6 : Hp} {Q : Shared → Prop}, Inv (X.suite a ((a, ob4) :: (X.pn ++ pins))) [] τ6 G6 t6 → (∀ t7, Inv X pins (τ6.set i none) G6 t7 → Q t7) →
              wpAny (model X.prog X.w) X.A (do bindName X.env n .none; unbindBehindTheSuite X.env n p2) (fun _ t7 => Q t7) X.xe t6 := fun {τ6 G6 Q} K6 q => gone_ok (K6.unsuite okX) hN hi hln q
          cases g6 with
          | next =>
            obtain ⟨τ6, G6, K6, q6⟩ := sp6
            exact goes K6 fun t7 J7 => ⟨_, _, J7, q6⟩
          | brk =>
            obtain ⟨τ6, G6, K6, q6⟩ := sp6
            exact goes K6 fun t7 J7 => ⟨_, _, J7, q6⟩
          | cont =>
            obtain ⟨τ6, G6, K6, q6⟩ := sp6
            exact goes K6 fun t7 J7 => ⟨_, _, J7, q6⟩
          | ret u =>
            obtain ⟨v6, τ6, G6, K6, r6, q6⟩ := sp6
            exact goes K6 fun t7 J7 => ⟨_, _, _, J7, r6, q6⟩
    exact each hh wish
  · cases fl with
    | next =>
      obtain ⟨τ, G, J, q⟩ := done
      exact wpAny_execs_nil ⟨τ, G, J.ofTry okX, q⟩
    | brk =>
      obtain ⟨τ, G, J, q⟩ := done
      exact ⟨τ, G, J.ofTry okX, q⟩
    | cont =>
      obtain ⟨τ, G, J, q⟩ := done
      exact ⟨τ, G, J.ofTry okX, q⟩
    | ret u =>
      obtain ⟨v, τ, G, J, r, q⟩ := done
      exact ⟨v, τ, G, J.ofTry okX, r, q⟩
end
end Den
/-! Den8: try as a denotation; the caught error's field and class; a def's end. -/
namespace Den
open PySem PySem.Spec PyProof.Rows L2

/-! ### try -/
def excA : Option AV → Bool
  | some (.exc _) => true
  | _ => false
def noX (σ : ASt) : Bool := σ.all fun o => !excA o
def leaveX (i : Nat) : SR → SR
  | .nx σ S => if noX (σ.set i none) then .nx (σ.set i none) S else .stuck
  | .rt a S => if excA (some a) then .stuck else .rt a S
  | .bk σ S => if noX (σ.set i none) then .bk (σ.set i none) S else .stuck
  | .ct σ S => if noX (σ.set i none) then .ct (σ.set i none) S else .stuck
  | _ => .stuck
def leave0 : SR → SR
  | .nx σ S => if noX σ then .nx σ S else .stuck
  | .rt a S => if excA (some a) then .stuck else .rt a S
  | .bk σ S => if noX σ then .bk σ S else .stuck
  | .ct σ S => if noX σ then .ct σ S else .stuck
  | _ => .stuck
/-- a clause: for each class of errors by name whether it is taken; the slot of its name; its suite -/
structure Cl where
  tab : List (Str × Bool)
  slot : Option Nat
  su : Sn
def Cl.run (c : Cl) (x : Exc) (σ : ASt) (S : AS) : SR := match c.slot with
  | none => leave0 (c.su σ S)
  | some i => leaveX i (c.su (σ.set i (some (.exc x))) S)
def catchX (x : Exc) (σ : ASt) (S : AS) : List Cl → SR
  | [] => .er x σ S
  | c :: r => match c.tab.lookup x.cls with
    | none => .stuck
    | some true => c.run x σ S
    | some false => catchX x σ S r
def sTry (cb : Sn) (cs : List Cl) : Sn := fun σ S => match cb σ S with
  | .er x σ1 S1 => if noX σ1 then catchX x σ1 S1 cs else .stuck
  | r => r
/-- the table of a clause says what the classes say -/
def TabOk (X : Cx) (tab : List (Str × Bool)) (c : Value) : Prop := ∀ cn b, tab.lookup cn = some b → ∀ C, X.mg cn = some (.ref C) → PySem.W.exmOne X.K (.ref C) c = some b
def SuD (X : Cx) (ch : Sn) : SuT := fun a cls d => tS (zp X (some (a, cls, d))) W0 ch
inductive CsOk (X : Cx) : List (Value × Option Nat × SuT) → List Cl → Prop
  | nil : CsOk X [] []
  | cons {c : Value} {oi : Option Nat} {ch : Sn} {tab : List (Str × Bool)} {l : List (Value × Option Nat × SuT)} {cs : List Cl} (h : TabOk X tab c) (r : CsOk X l cs) : CsOk X ((c, oi, SuD X ch) :: l) (⟨tab, oi, ch⟩ :: cs)
section
variable {Z Z' : Zp} {F : Hp} {ρ : Rh} {aσ : ASt} {σ : L2.St}
theorem RepV.swap {a : AV} {v : V} (hK : Z'.K = Z.K) (h : RepV Z F ρ a v) (n : excA (some a) = false) : RepV Z' F ρ a v := by
  cases a with
  | d x =>
    show Dp Z'.K F v x
    rw [hK]
    exact h
  | ref m => exact h
  | own l => exact h
  | exc x => cases n
theorem RSt.swap (hK : Z'.K = Z.K) (h : RSt Z F ρ aσ σ) (n : noX aσ = true) : RSt Z' F ρ aσ σ := ⟨h.len, fun i a e => by
  obtain ⟨v, h1, h2⟩ := h.at_ i a e
  have hm : some a ∈ aσ := List.mem_of_getElem? e
  have q := List.all_eq_true.mp n _ hm
  exact ⟨v, h1, h2.swap hK (by simpa using q)⟩⟩
end
section
variable {X : Cx} {W : WX} {D : Ends} {a : Addr} {cls : Value} {d : Option Addr} {F : Hp} {ρ : Rh}
theorem RepW.swap {Z Z' : Zp} {F : Hp} {ρ : Rh} {H : Hp} {a : AV} {v : V} (hK : Z'.K = Z.K) (h : RepW Z F ρ H a v) (n : excA (some a) = false) : RepW Z' F ρ H a v := by
  cases a with
  | d x => exact RepV.swap (ρ := ρ) (a := .d x) hK h n
  | ref m => exact h
  | own l =>
    obtain ⟨p, vs, h1, h2, h3, h4, h5, h6⟩ := h
    exact ⟨p, vs, h1, h2, h3, h4, h5, by rw [hK]; exact h6⟩
  | exc x => cases n
theorem leaveX_ok {i : Nat} {r : SR} (h : SPost (zp X none) W F ρ D (leaveX i r)) : SPost (zp X (some (a, cls, d))) W0 F ρ (Dgo D i) r := by
  cases r with
  | nx τ S =>
    have h : SPost (zp X none) W F ρ D (if noX (τ.set i none) then .nx (τ.set i none) S else .stuck) := h
    by_cases n : noX (τ.set i none) = true
    · rw [if_pos n] at h
      exact fun F' ρ' H' σ' t rs st => h F' ρ' H' _ t rs (RSt.swap (Z := zp X (some (a, cls, d))) rfl st.clear n)
    · rw [if_neg n] at h
      exact h.elim
  | rt b S =>
    have h : SPost (zp X none) W F ρ D (if excA (some b) then .stuck else .rt b S) := h
    by_cases n : excA (some b) = true
    · rw [if_pos n] at h
      exact h.elim
    · rw [if_neg n] at h
      exact fun F' ρ' H' v t rs rw' => h F' ρ' H' v t rs (RepW.swap (Z := zp X (some (a, cls, d))) rfl rw' (by simpa using n))
  | bk τ S =>
    have h : SPost (zp X none) W F ρ D (if noX (τ.set i none) then .bk (τ.set i none) S else .stuck) := h
    by_cases n : noX (τ.set i none) = true
    · rw [if_pos n] at h
      exact fun F' ρ' H' σ' t rs st => h F' ρ' H' _ t rs (RSt.swap (Z := zp X (some (a, cls, d))) rfl st.clear n)
    · rw [if_neg n] at h
      exact h.elim
  | ct τ S =>
    have h : SPost (zp X none) W F ρ D (if noX (τ.set i none) then .ct (τ.set i none) S else .stuck) := h
    by_cases n : noX (τ.set i none) = true
    · rw [if_pos n] at h
      exact fun F' ρ' H' σ' t rs st => h F' ρ' H' _ t rs (RSt.swap (Z := zp X (some (a, cls, d))) rfl st.clear n)
    · rw [if_neg n] at h
      exact h.elim
  | er x τ S => exact h.elim
  | stuck => exact h.elim
theorem leave0_ok {r : SR} (h : SPost (zp X none) W F ρ D (leave0 r)) : SPost (zp X (some (a, cls, d))) W0 F ρ D r := by
  cases r with
  | nx τ S =>
    have h : SPost (zp X none) W F ρ D (if noX τ then .nx τ S else .stuck) := h
    by_cases n : noX τ = true
    · rw [if_pos n] at h
      exact fun F' ρ' H' σ' t rs st => h F' ρ' H' _ t rs (RSt.swap (Z := zp X (some (a, cls, d))) rfl st n)
    · rw [if_neg n] at h
      exact h.elim
  | rt b S =>
    have h : SPost (zp X none) W F ρ D (if excA (some b) then .stuck else .rt b S) := h
    by_cases n : excA (some b) = true
    · rw [if_pos n] at h
      exact h.elim
    · rw [if_neg n] at h
      exact fun F' ρ' H' v t rs rw' => h F' ρ' H' v t rs (RepW.swap (Z := zp X (some (a, cls, d))) rfl rw' (by simpa using n))
  | bk τ S =>
    have h : SPost (zp X none) W F ρ D (if noX τ then .bk τ S else .stuck) := h
    by_cases n : noX τ = true
    · rw [if_pos n] at h
      exact fun F' ρ' H' σ' t rs st => h F' ρ' H' _ t rs (RSt.swap (Z := zp X (some (a, cls, d))) rfl st n)
    · rw [if_neg n] at h
      exact h.elim
  | ct τ S =>
    have h : SPost (zp X none) W F ρ D (if noX τ then .ct τ S else .stuck) := h
    by_cases n : noX τ = true
    · rw [if_pos n] at h
      exact fun F' ρ' H' σ' t rs st => h F' ρ' H' _ t rs (RSt.swap (Z := zp X (some (a, cls, d))) rfl st n)
    · rw [if_neg n] at h
      exact h.elim
  | er x τ S => exact h.elim
  | stuck => exact h.elim
theorem catch_ok {x : Exc} {S : AS} {H : Hp} {σ : L2.St} {aσ : ASt} (rs : RS X.K F ρ S H) (st : RSt (zp X none) F ρ aσ σ) (n : noX aσ = true) (rx : RepX (zp X none) F x cls d) :
    ∀ {l : List (Value × Option Nat × SuT)} {cs : List Cl}, CsOk X l cs → SPost (zp X none) W F ρ D (catchX x aσ S cs) → wEach X.K W D l cls d σ H
  | _, _, .nil, h => h F ρ H σ cls d Tr.refl rs st rx
  | _, _, @CsOk.cons _ c oi ch tab l cs ht r, h => by
    obtain ⟨C, dd, v, e1, e2, e3, e4, e5⟩ := id rx
    unfold catchX at h
    cases e : tab.lookup x.cls with
    | none => simp only [e] at h; exact h.elim
    | some b =>
      simp only [e] at h
      refine ⟨b, by rw [e1]; exact ht _ _ e C e2, fun eb => ?_, fun eb => ?_⟩
      · subst eb
        unfold Cl.run at h
        intro a ha
        cases oi with
        | none => exact ⟨F, ρ, S, aσ, rs, RSt.swap (Z := zp X none) rfl st n, leave0_ok h⟩
        | some i => exact ⟨F, ρ, S, aσ.set i (some (.exc x)), rs, RSt.set (RSt.swap (Z := zp X none) rfl st n) (a := .exc x) ⟨a, cls, d, rfl, rfl, rx⟩, leaveX_ok h⟩
      · subst eb
        exact catch_ok rs st n rx r h
theorem try_imp {cb : Sn} {cs : List Cl} {l : List (Value × Option Nat × SuT)} {σ : L2.St} {H : Hp} (hc : CsOk X l cs) (h : tS (zp X none) W (sTry cb cs) D σ H) : tS (zp X none) (wEach X.K W D l) cb D σ H := by
  obtain ⟨F, ρ, S, aσ, rs, st, q⟩ := h
  refine ⟨F, ρ, S, aσ, rs, st, ?_⟩
  unfold sTry at q
  cases e : cb aσ S with
  | er x σ1 S1 =>
    simp only [e] at q
    by_cases n : noX σ1 = true
    · rw [if_pos n] at q
      exact fun F' ρ' H' σ' cls d t rs' st' rx => catch_ok rs' st' n rx hc (SPost.tr t q)
    · rw [if_neg n] at q
      exact q.elim
  | nx a S1 => simp only [e] at q; exact q
  | rt a S1 => simp only [e] at q; exact q
  | bk a S1 => simp only [e] at q; exact q
  | ct a S1 => simp only [e] at q; exact q
  | stuck => simp only [e] at q; exact q
theorem sS_try {body : List Stmt} {q0 : ExceptHandler} {qs : List ExceptHandler} {l : List (Value × Option Nat × SuT)} {pos : Pos} {cb : Sn} {cs : List Cl} (hst : X.stack = X.env :: X.outer) (hfm : X.env.frame = some X.env.locals) (hN : X.N.Nodup) (tk : Takes X W)
    (hb : ∀ (W : WX) (pn : List (Addr × Obj)) (xe : Value → Shared → Prop), Takes (X.tr pn xe) W → PassesOwn (model X.prog X.w) X.A X.env xe → PSs (X.tr pn xe) body (tS (zp X none) W cb))
    (hh : HdE X (q0 :: qs) l) (hc : CsOk X l cs) : PS X (.Try body (q0 :: qs) [] [] pos) (tS (zp X none) W (sTry cb cs)) :=
  (ps_try_each (tb := fun W => tS (zp X none) W cb) hst hfm hN tk hb hh).impD fun D σ H h => try_imp hc h
end

/-! ### the caught error -/
def dFld (fld : Str) (ca : Dn) : Dn := fun σ S => (ca σ S).bind fun a S1 => match a with
  | .exc x => if x.fld = fld then .ok (.d x.val) S1 else .stuck
  | _ => .stuck
def dIsE (tab : List (Str × Bool)) (ca : Dn) : Dn := fun σ S => (ca σ S).bind fun a S1 => match a with
  | .exc x => match tab.lookup x.cls with
    | some b => .ok (.d (.bool b)) S1
    | none => .stuck
  | _ => .stuck
section
variable {X : Cx} {W : WX} {pos : Pos} {e : Expr} {ca : Dn} {a : Addr} {cls : Value} {d : Option Addr} {oe : Obj} {pn : List (Addr × Obj)}
/-- all classes of errors whose field is read -/
def FldOk (X : Cx) (fld : Str) (cns : List Str) : Prop := ∀ cn ∈ cns, ∀ C, X.mg cn = some (.ref C) → XfC X.K C ∧ PySem.W.findIn X.K (.ref C) fld = some none
def dFldT (fld : Str) (cns : List Str) (ca : Dn) : Dn := fun σ S => (ca σ S).bind fun a S1 => match a with
  | .exc x => if x.fld = fld ∧ x.cls ∈ cns then .ok (.d x.val) S1 else .stuck
  | _ => .stuck
theorem pe_xfA {fld : Str} {te : TE} (hz : Zc cls d oe) (hf : ∃ vs, oe.data = .fields vs) (he : PE (X.suite a ((a, oe) :: pn)) e te) (hb : attributeBase e fld X.env (eval e X.env) = eval e X.env) :
    PE (X.suite a ((a, oe) :: pn)) (.Attribute e fld pos) (fun σ H Q => ∃ C, XfC X.K C ∧ PySem.W.findIn X.K (.ref C) fld = some none ∧ tXf a cls d C fld te σ H Q) :=
  ⟨fun pins s σ H Q I h => by
    obtain ⟨C, h1, h2, h3⟩ := h
    exact (pe_xf h1 h2 hz hf he hb).run pins s σ H Q I h3⟩
theorem sE_fld {fld : Str} {cns : List Str} (hF : FldOk X fld cns) (hz : Zc cls d oe) (hf : ∃ vs, oe.data = .fields vs) (h1 : ∀ σ : L2.St, True) {i : Nat} {n : Str} {p2 : Pos} (hN : X.N[i]? = some n) (hv : Vis X.env.scope n) (hd : (n == ("__debug__" : Str)) = false) (hcd : (n == ("__classdict__" : Str)) = false)
    (hb : attributeBase (.Name n p2) fld X.env (eval (.Name n p2) X.env) = eval (.Name n p2) X.env) :
    PE (X.suite a ((a, oe) :: pn)) (.Attribute (.Name n p2) fld pos) (tE (zp X (some (a, cls, d))) W (dFldT fld cns (dVar i))) :=
  (pe_xfA hz hf (pe_var (X := X.suite a ((a, oe) :: pn)) hN hv hd hcd) hb).impD fun σ H Q h => by
    obtain ⟨F, ρ, S, aσ, rs, st, q⟩ := h
    unfold dFldT dVar at q
    cases e1 : aσ[i]? with
    | none => simp only [e1] at q; exact q.elim
    | some o =>
      cases o with
      | none => simp only [e1] at q; exact q.elim
      | some v =>
        simp only [e1] at q
        cases v with
        | exc x =>
          have q : EPost (zp X (some (a, cls, d))) W σ F ρ Q (if x.fld = fld ∧ x.cls ∈ cns then ER.ok (.d x.val) S else ER.stuck) := q
          by_cases c : x.fld = fld ∧ x.cls ∈ cns
          · rw [if_pos c] at q
            obtain ⟨u, h2, a', cls', d', h3, rfl, C, dd, w, h4, h5, h6, h7, h8⟩ := st.at_ i _ e1
            cases h3
            obtain ⟨k1, k2⟩ := hF _ c.2 C h5
            refine ⟨C, k1, k2, _, h2, rfl, h4, dd, _, w, h6, rs.sub _ _ h7, ?_, VPost.dat (Z := zp X (some (a, cls, d))) q rs h8⟩
            rw [c.1]
            simp
          · rw [if_neg c] at q
            exact q.elim
        | d x => exact q.elim
        | ref m => exact q.elim
        | own l => exact q.elim
/-- the classes of errors that isinstance is asked of -/
structure IsC (K : PySem.W.Frag) (C : Addr) : Prop where
  cl : (PySem.W.clsIn K C).isSome = true
  ga : PySem.W.findIn K (.ref C) "__getattribute__" = some (some (.builtin "BaseException.__getattribute__"))
  gt : PySem.W.findIn K (.ref C) "__getattr__" = some none
  sb : PySem.W.subIn K (.ref C) (.type "BaseException") = some true
  ca : PySem.W.findIn K (.ref C) "__class__" = some (some (.builtin "object.__class__"))
  hn : PySem.W.specialIn K (.builtin "object.__class__") "__get__" = some (some (.builtin "getset_descriptor.__get__"))
  tk : PySem.W.takesIn K (.builtin "object.__class__") = some true
  mo : PySem.W.mroIn K C (.type "object") = some true
/-- isinstance(e, c), e the caught error with its own dict -/
def rIsD (K : PySem.W.Frag) (a : Addr) (cls : Value) (d : Option Addr) : List V → Hp → VK → Prop := fun xs H Q => ∃ (c : V) (cv : Value) (b : Bool) (C dd : Addr) (fs : List (Str × V)), xs = [.ref a, c] ∧ (∀ u, RelV c u → u = cv) ∧ cls = .ref C ∧ d = some dd ∧ IsC K C ∧ H dd = some (.xd fs) ∧ PySem.W.kitOne K (.ref C) cv = some b ∧ Q (.bl b) H
theorem call_isD (hz : Zc cls d oe) (hf : ∃ vs, oe.data = .fields vs) : CallR (X.suite a ((a, oe) :: pn)) (.builtin "isinstance") (rIsD X.K a cls d) := by
  intro pins s σ H xs us Q I r h
  obtain ⟨c, cv, b, C, dd, fs, rfl, hcv, ec, ed, T, eH, ek, q⟩ := h
  match us, r with
  | [_, _], .cons rx (.cons rt .nil) =>
    have e1 := hcv _ rt
    subst e1
    cases rx
    subst ec
    subst ed
    have ha := (I.pin (a, oe) (List.mem_append_left _ List.mem_cons_self)).1
    obtain ⟨vs, hd⟩ := hf
    have hx : ObjOk X.prog X.w H s.heap dd (.xd fs) := I.hok dd _ eH
    obtain ⟨mA, hns, _⟩ := hx
    obtain ⟨od, ho, _⟩ := lookIn_ns hns
    have J : PySem.W.InstAt s.heap a oe C (some od) := ⟨ha, hz.1, by unfold PySem.W.notCls; rw [hd] <;> rfl, by rw [hz.2]; exact ho⟩
    exact PySem.W.kia_one (PySem.W.kitx_exc T.cl T.ga T.gt T.sb T.ca T.hn T.tk T.mo) I.kIn J ek (fun z => nomatch z) fun tk => ⟨.bl b, H, I.kept (t' := tk) fun _ _ z => z, rfl, q⟩
/-- what isinstance says of the errors by name -/
def IsTab (X : Cx) (tab : List (Str × Bool)) (B : Addr) : Prop := ∀ cn b, tab.lookup cn = some b → ∀ C, X.mg cn = some (.ref C) → IsC X.K C ∧ PySem.W.kitOne X.K (.ref C) (.ref B) = some b
theorem sE_isE {tab : List (Str × Bool)} {B : Addr} {x tn n : Str} {i : Nat} {p p2 p3 : Pos} (hT : IsTab X tab B) (hz : Zc cls d oe) (hf : ∃ vs, oe.data = .fields vs) (hx : x = "isinstance") (hg : Gl X x) (hm : X.mg x = none) (hgt : Gl X tn) (hmt : X.mg tn = some (.ref B)) (hN : X.N[i]? = some n) (hv : Vis X.env.scope n)
    (hd : (n == ("__debug__" : Str)) = false) (hcd : (n == ("__classdict__" : Str)) = false) (hdt : (tn == ("__debug__" : Str)) = false) :
    PE (X.suite a ((a, oe) :: pn)) (.Call (.Name x p) [.Name n p2, .Name tn p3] [] pos) (tE (zp X (some (a, cls, d))) W (dIsE tab (dVar i))) := by
  subst hx
  refine (pe_callB (X := X.suite a ((a, oe) :: pn)) (call_isD hz hf) hg hm PyProof.Rows.boot_isinstance (pa_cons (pe_var hN hv hd hcd) (pa_cons (pe_glob (v := .ref B) (u := .ref B) hgt hmt rfl hdt) pa_nil rfl) rfl) (by decide) (by decide) rfl rfl).impD fun σ H Q h => ?_
  obtain ⟨F, ρ, S, aσ, rs, st, q⟩ := h
  unfold dIsE dVar at q
  cases e1 : aσ[i]? with
  | none => simp only [e1] at q; exact q.elim
  | some o =>
    cases o with
    | none => simp only [e1] at q; exact q.elim
    | some v =>
      simp only [e1] at q
      cases v with
      | exc y =>
        have q : EPost (zp X (some (a, cls, d))) W σ F ρ Q (match tab.lookup y.cls with | some b => ER.ok (.d (.bool b)) S | none => ER.stuck) := q
        cases e2 : tab.lookup y.cls with
        | none => rw [e2] at q; exact q.elim
        | some b =>
          rw [e2] at q
          obtain ⟨u, h2, a', cls', d', h3, rfl, C, dd, w, h4, h5, h6, h7, h8⟩ := st.at_ i _ e1
          cases h3
          obtain ⟨k1, k2⟩ := hT _ b e2 C h5
          exact ⟨_, h2, .ref B, .ref B, b, C, dd, _, rfl, fun u hu => hu, h4, h6, k1, rs.sub _ _ h7, k2, VPost.dat (Z := zp X (some (a, cls, d))) q rs (.bl b)⟩
      | d x => exact q.elim
      | ref m => exact q.elim
      | own l => exact q.elim
end

/-! ### a def's end -/
def finA (n0 : Nat) (a : AV) (S : AS) : ER := match a with
  | .ref n => if n < n0 then .ok (.ref n) (S.take n0) else match S[n]? with
    | some (.lst l) => .ok (.own l) (S.take n0)
    | some (.froz l) => .ok (.d (.list l)) (S.take n0)
    | none => .stuck
  | .exc _ => .stuck
  | a => .ok a (S.take n0)
def defD (nsl : Nat) (c : Sn) : List AV → AS → ER := fun as S => match c (as.map some ++ List.replicate (nsl - as.length) none) S with
  | .nx _ S' => .ok (.d .none) (S'.take S.length)
  | .rt a S' => finA S.length a S'
  | .er x _ S' => .err x (S'.take S.length)
  | _ => .stuck
section
variable {Z : Zp} {F : Hp} {ρ : Rh} {S : AS} {H : Hp}
theorem RSt.none {n : Nat} : RSt Z F ρ (List.replicate n none) (List.replicate n none) := ⟨by rw [List.length_replicate, List.length_replicate], fun i a e => by
  rw [List.getElem?_replicate] at e
  split at e <;> cases e⟩
theorem RSt.cons {a : AV} {v : V} {aσ : ASt} {σ : L2.St} (r : RepV Z F ρ a v) (h : RSt Z F ρ aσ σ) : RSt Z F ρ (some a :: aσ) (some v :: σ) := ⟨by rw [List.length_cons, List.length_cons, h.len], fun i b e => by
  cases i with
  | zero =>
    cases Option.some.inj e
    exact ⟨v, rfl, r⟩
  | succ i => exact h.at_ i b e⟩
theorem RSt.args : ∀ {as : List AV} {vs : List V} {n : Nat}, RepVs Z F ρ as vs → RSt Z F ρ (as.map some ++ List.replicate n Option.none) (vs.map some ++ List.replicate n Option.none)
  | _, _, _, .nil => RSt.none
  | _, _, _, .cons r k => RSt.cons r (RSt.args k)
end
theorem def_imp {K : PySem.W.Frag} {mg : Str → Option Value} {N : List Str} {np : Nat} {c : Sn} {vs : List V} {H : Hp} {Q : VK} {E : XK} (h : spOf K mg np (defD N.length c) vs H Q E) :
    tS ⟨K, mg, none⟩ (fun cls d _ H => E cls d H) c { nx := fun _ H' => Q .non H', rt := Q } (start N vs) H := by
  obtain ⟨hl, F, ρ, S, as, rs, rv, q⟩ := h
  have ln := RepVs.len rv
  refine ⟨F, ρ, S, as.map some ++ List.replicate (N.length - as.length) none, rs, by rw [ln]; exact RSt.args rv, ?_⟩
  unfold defD at q
  have cutT : ∀ {F' : Hp} {ρ' : Rh}, Tr F ρ F' ρ' → Tr F ρ F' ⟨ρ.l, ρ'.G⟩ := fun t => ⟨t.same, List.prefix_refl _, t.g⟩
  have cutR : ∀ {F' : Hp} {ρ' : Rh} {S' : AS} {H' : Hp}, Tr F ρ F' ρ' → RS K F' ρ' S' H' → RS K F' ⟨ρ.l, ρ'.G⟩ (S'.take S.length) H' := fun {F' ρ' S' H'} t r => by
    have z := RS.cut (Z := ⟨K, mg, none⟩) (ρ' := ⟨ρ.l, ρ'.G⟩) r t.pre rfl
    rw [← rs.len]
    exact z
  cases e : c (as.map some ++ List.replicate (N.length - as.length) none) S with
  | nx σ' S' =>
    rw [e] at q
    exact fun F' ρ' H' σ' t rs' _ => q F' ⟨ρ.l, ρ'.G⟩ H' .non (cutT t) (cutR t rs') (show Dp _ _ _ _ from .non)
  | er x σ' S' =>
    rw [e] at q
    exact fun F' ρ' H' σ' cls d t rs' _ rx => q F' ⟨ρ.l, ρ'.G⟩ H' cls d (cutT t) (cutR t rs') rx
  | bk σ' S' => rw [e] at q; exact q.elim
  | ct σ' S' => rw [e] at q; exact q.elim
  | stuck => rw [e] at q; exact q.elim
  | rt a S' =>
    rw [e] at q
    intro F' ρ' H' v t rs' rw'
    cases a with
    | d x => exact q F' ⟨ρ.l, ρ'.G⟩ H' v (cutT t) (cutR t rs') rw'
    | exc x => exact q.elim
    | own l =>
      obtain ⟨p, us, h1, h2, h3, h4, h5, h6⟩ := rw'
      exact q F' ⟨ρ.l, ρ'.G⟩ H' v (cutT t) (cutR t rs') ⟨p, us, h1, fun z => h2 (t.pre.subset z), h3, h4, h5, h6⟩
    | ref n =>
      obtain ⟨p, hp, rfl⟩ := rw'
      have q : EPost ⟨K, mg, none⟩ (fun cls d _ H => E cls d H) [] F ρ Q (if n < S.length then .ok (.ref n) (S'.take S.length) else match S'[n]? with
        | some (.lst l) => .ok (.own l) (S'.take S.length)
        | some (.froz l) => .ok (.d (.list l)) (S'.take S.length)
        | none => .stuck) := q
      by_cases hn : n < S.length
      · rw [if_pos hn] at q
        obtain ⟨tl, htl⟩ := id t.pre
        refine q F' ⟨ρ.l, ρ'.G⟩ H' _ (cutT t) (cutR t rs') ⟨p, ?_, rfl⟩
        rw [← htl, List.getElem?_append_left (by rw [rs.len]; exact hn)] at hp
        exact hp
      · rw [if_neg hn] at q
        have hout : p ∉ ρ.l := fun z => by
          obtain ⟨j, hj⟩ := List.mem_iff_getElem?.mp z
          have hj2 := pre_get t.pre hj
          have lj := (List.getElem?_eq_some_iff.mp hj).1
          rw [rs.len] at lj
          exact nd_ne rs'.nd hp hj2 (by omega) rfl
        cases e2 : S'[n]? with
        | none => rw [e2] at q; exact q.elim
        | some o =>
          rw [e2] at q
          have ob := rs'.ob n p o hp e2
          cases o with
          | lst l =>
            obtain ⟨o1, us, o2, o3⟩ := ob
            refine q F' ⟨ρ.l, ρ'.G⟩ H' _ (cutT t) (cutR t rs') ⟨p, us, rfl, hout, o1, ?_, o2, o3⟩
            show ρ'.G p = none
            cases eg : ρ'.G p with
            | none => rfl
            | some u => exact absurd (List.mem_of_getElem? hp) (rs'.pin p u eg).2.2
          | froz l =>
            obtain ⟨us, o2, o3⟩ := ob
            exact q F' ⟨ρ.l, ρ'.G⟩ H' _ (cutT t) (cutR t rs') (show Dp _ _ _ _ from .lst (SqL.of o2) o3)
/-- a def keeps what its body comes to -/
theorem ok_def {P : Program} {w : World} {K : PySem.W.Frag} {mg : Str → Option Value} {base : Heap} {x qual : Str} {st : Stmt} {f : Addr} {fd : FuncData} {N ps : List Str} {k : Nat} {c : Sn} (Fn : Fun K x qual st f fd) (S : FnScope N ps (defScope st))
    (hb : ∀ (cdv : Value) (A : Around) (outer : List Env) (s : Shared) (H : Hp) (E : XK), Room k (A.deeper (envOfC qual (defScope st) s.heap.objs.size f cdv)) → PSs (cxOf (L2.CX P w) P w K mg base N qual (defScope st) f cdv A outer s H E) (defBody st) (tS ⟨K, mg, none⟩ (fun cls d _ H => E cls d H) c)) :
    FnOk P w K mg base (L2.CX P w) (k + 1) f fd ps (spOf K mg ps.length (defD N.length c)) :=
  Fn.okX S (fun vs H Q E h => h.1) fun cdv A outer s H vs Q E hr h => ⟨_, hb cdv A outer s H E hr, def_imp h⟩
end Den
/-! Den9: the rules in short, their side conditions found by computing. -/
namespace Den
open PySem PySem.Spec PyProof.Rows L2

theorem units64 {k : Nat} {A : Around} (r : Room k A) : A.units + 64 < cLine := by have := r.un; omega
theorem bb_len : bootBuiltins "len" = some (.builtin "len") := by decide +kernel
theorem bb_abs : bootBuiltins "abs" = some (.builtin "abs") := by decide +kernel
theorem bb_min : bootBuiltins "min" = some (.builtin "min") := by decide +kernel
theorem bb_max : bootBuiltins "max" = some (.builtin "max") := by decide +kernel
theorem bb_int : bootBuiltins "int" = some (.type "int") := by decide +kernel
theorem bb_bool : bootBuiltins "bool" = some (.type "bool") := by decide +kernel
theorem bb_str : bootBuiltins "str" = some (.type "str") := by decide +kernel
theorem bb_list : bootBuiltins "list" = some (.type "list") := by decide +kernel
theorem bb_tuple : bootBuiltins "tuple" = some (.type "tuple") := by decide +kernel
theorem bb_dict : bootBuiltins "dict" = some (.type "dict") := by decide +kernel

/-- a def of the text: its place, what it is -/
structure DefT (K : PySem.W.Frag) (mg : Str → Option Value) (x : Str) (st : Stmt) (a : Addr) (fd : FuncData) (ps : List Str) : Prop where
  g : mg x = some (.ref a)
  F : Fun K x x st a fd
  b : Binds K fd ps []

section
variable {X : Cx} {ex : Option (Addr × Value × Option Addr)} {W : WX} {pos : Pos} {a b c e : Expr} {ca cb cc : Dn} {c1 c2 body : Sn} {st : Stmt} {sts es : List Stmt}
theorem qV {i : Nat} {x : Str} (hN : X.N[i]? = some x := by rfl) (hv : Vis X.env.scope x := by first | exact Or.inl rfl | exact Or.inr (Or.inl rfl) | exact Or.inr (Or.inr rfl)) (hd : (x == ("__debug__" : Str)) = false := by decide) (hcd : (x == ("__classdict__" : Str)) = false := by decide) :
    PE X (.Name x pos) (tE (zp X ex) W (dVar i)) := sE_var hN hv hd hcd
theorem qBin {op : Operator} {g : AV → AV → AS → VR} (ha : PE X a (tE (zp X ex) W ca)) (hb : PE X b (tE (zp X ex) W cb)) (ho : bop op = some g := by rfl) : PE X (.BinOp a op b pos) (tE (zp X ex) W (dBin g ca cb)) := sE_bin ho ha hb
theorem qCmp {k : Nat} {op : CmpOp} (hr : Room k X.A) (ha : PE X a (tE (zp X ex) W ca)) (hb : PE X b (tE (zp X ex) W cb)) (hm : behindInMarks op b = false := by first | rfl | exact nobehind _ (by decide) (by decide)) : PE X (.Compare a [op] [b] pos) (tE (zp X ex) W (dBin (cop op) ca cb)) := sE_cmp (units64 hr) ha hb hm
theorem tCmp {k : Nat} {op : CmpOp} (hr : Room k X.A) (ha : PE X a (tE (zp X ex) W ca)) (hb : PE X b (tE (zp X ex) W cb)) (hm : behindInMarks op b = false := by first | rfl | exact nobehind _ (by decide) (by decide)) : PT X (.Compare a [op] [b] pos) (tT (zp X ex) W (dBin (cop op) ca cb)) := sT_cmp (units64 hr) ha hb hm
theorem qChain {k : Nat} {op op' : CmpOp} (hr : Room k X.A) (ha : PE X a (tE (zp X ex) W ca)) (hb : PE X b (tE (zp X ex) W cb)) (hc : PE X c (tE (zp X ex) W cc)) (hm : lastMarks [op, op'] [b, c] = false := by rfl) :
    PE X (.Compare a [op, op'] [b, c] pos) (tE (zp X ex) W (dChain (cop op) (cop op') ca cb cc)) := sE_chain (units64 hr) ha hb hc hm
theorem tChain' {k : Nat} {op op' : CmpOp} (hr : Room k X.A) (ha : PE X a (tE (zp X ex) W ca)) (hb : PE X b (tE (zp X ex) W cb)) (hc : PE X c (tE (zp X ex) W cc)) (hm : lastMarks [op, op'] [b, c] = false := by rfl) :
    PT X (.Compare a [op, op'] [b, c] pos) (tT (zp X ex) W (dChain (cop op) (cop op') ca cb cc)) := sT_chain (units64 hr) ha hb hc hm
theorem tTru (ha : PE X a (tE (zp X ex) W ca)) (he : ∀ whole, isTrue a X.env whole = (do let v ← whole; standAt a.pos; holding [v] (truthy v)) := by intro _; rfl) : PT X a (tT (zp X ex) W (dTru ca)) := sT_tru ha he
theorem qL {l : Ln} {es : List Expr} (ha : PE X e (tE (zp X ex) W ca)) (hr : PA X es (tL (zp X ex) W l)) (hs : starEach (e :: es) X.env = (false, eval e X.env) :: starEach es X.env := by rfl) : PA X (e :: es) (tL (zp X ex) W (lCons ca l)) := sL_cons ha hr hs
theorem qB {x : Str} {p : Pos} {es : List Expr} {l : Ln} {id : String} {g : List AV → AS → VR} (hc : CallR X (.builtin id) (rC (zp X ex) g)) (hm : X.mg x = none) (hv : bootBuiltins x = some (.builtin id)) (ha : PA X (e :: es) (tL (zp X ex) W l)) (hg : Gl X x := by rfl)
    (hn : x ≠ "__name__" := by decide) (hdb : (x == ("__debug__" : Str)) = false := by decide) (he : starEach (e :: es) X.env = (false, eval e X.env) :: starEach es X.env := by rfl) (hpl : (backTo pos (starEach es X.env)).any (·.1) = false := by rfl) :
    PE X (.Call (.Name x p) (e :: es) [] pos) (tE (zp X ex) W (dCallV g l)) := sE_callB hc hg hm hv ha hn hdb he hpl
theorem qTy {x : Str} {p : Pos} {es : List Expr} {l : Ln} {T : String} {g : List AV → AS → VR} (hc : CallR X (.type T) (rC (zp X ex) g)) (hm : X.mg x = none) (hv : bootBuiltins x = some (.type T)) (ha : PA X (e :: es) (tL (zp X ex) W l)) (hg : Gl X x := by rfl)
    (hn : x ≠ "__name__" := by decide) (hdb : (x == ("__debug__" : Str)) = false := by decide) (he : starEach (e :: es) X.env = (false, eval e X.env) :: starEach es X.env := by rfl) (hpl : (backTo pos (starEach es X.env)).any (·.1) = false := by rfl) :
    PE X (.Call (.Name x p) (e :: es) [] pos) (tE (zp X ex) W (dCallV g l)) := sE_callTy hc hg hm hv ha hn hdb he hpl
theorem qF {x : Str} {p : Pos} {es : List Expr} {l : Ln} {id : String} {g : List AV → AS → VR} (hc : CallR X (.builtin id) (rC (zp X ex) g)) (hm : X.mg x = some (.builtin id)) (ha : PA X (e :: es) (tL (zp X ex) W l)) (hg : Gl X x := by rfl)
    (hdb : (x == ("__debug__" : Str)) = false := by decide) (he : starEach (e :: es) X.env = (false, eval e X.env) :: starEach es X.env := by rfl) (hpl : (backTo pos (starEach es X.env)).any (·.1) = false := by rfl) :
    PE X (.Call (.Name x p) (e :: es) [] pos) (tE (zp X ex) W (dCallV g l)) := sE_callF hc hg hm ha hdb he hpl
theorem qD {j k : Nat} {np : Nat} {g : Addr} {fd : FuncData} {ps : List Str} {f : List AV → AS → ER} {x : Str} {p : Pos} {es : List Expr} {l : Ln} {sd : Stmt} (T : DefT X.K X.mg x sd g fd ps) (F : FnOk X.prog X.w X.K X.mg X.base (L2.CX X.prog X.w) j g fd ps (spOf X.K X.mg np f)) (hr : Room k X.A)
    (tk : Takes X W) (ha : PA X (e :: es) (tL (zp X none) W l)) (hj : j ≤ k := by decide) (hg : Gl X x := by rfl)
    (hdb : (x == ("__debug__" : Str)) = false := by decide) (he : starEach (e :: es) X.env = (false, eval e X.env) :: starEach es X.env := by rfl) (hpl : (backTo pos (starEach es X.env)).any (·.1) = false := by rfl) :
    PE X (.Call (.Name x p) (e :: es) [] pos) (tE (zp X none) W (dCall (arity np f) l)) := sE_call F (hr.mono hj) hg T.g T.F.kp T.b tk ha hdb he hpl
theorem qD0 {j k : Nat} {g : Addr} {fd : FuncData} {f : List AV → AS → ER} {x : Str} {p : Pos} {sd : Stmt} (T : DefT X.K X.mg x sd g fd []) (F : FnOk X.prog X.w X.K X.mg X.base (L2.CX X.prog X.w) j g fd [] (spOf X.K X.mg 0 f)) (hr : Room k X.A)
    (tk : Takes X W) (hj : j ≤ k := by decide) (hg : Gl X x := by rfl) (hdb : (x == ("__debug__" : Str)) = false := by decide) :
    PE X (.Call (.Name x p) [] [] pos) (tE (zp X none) W (dCall (arity 0 f) lNil)) := sE_call0 F (hr.mono hj) hg T.g T.F.kp T.b tk hdb
theorem qIx (ha : PE X a (tE (zp X ex) W ca)) (hb : PE X b (tE (zp X ex) W cb)) (hs : PlainIx b := by intro _ _; rfl) : PE X (.Subscript a b pos) (tE (zp X ex) W (dBin vIx ca cb)) := sE_ix ha hb hs
theorem qSl0 {p2 : Pos} (ha : PE X a (tE (zp X ex) W ca)) {h : Expr} {ch : Dn} (hh : PE X h (tE (zp X ex) W ch)) : PE X (.Subscript a (.Slice none (some h) none p2) pos) (tE (zp X ex) W (dSl ca none (some ch))) :=
  sE_slice ha (fun e z => by cases z) (fun _ => rfl) (fun e z => ⟨ch, rfl, by cases z; exact hh⟩) (fun z => by cases z)
theorem qSl1 {p2 : Pos} (ha : PE X a (tE (zp X ex) W ca)) {l : Expr} {cl : Dn} (hl : PE X l (tE (zp X ex) W cl)) : PE X (.Subscript a (.Slice (some l) none none p2) pos) (tE (zp X ex) W (dSl ca (some cl) none)) :=
  sE_slice ha (fun e z => ⟨cl, rfl, by cases z; exact hl⟩) (fun z => by cases z) (fun e z => by cases z) (fun _ => rfl)
theorem qSl2 {p2 : Pos} (ha : PE X a (tE (zp X ex) W ca)) {l h : Expr} {cl ch : Dn} (hl : PE X l (tE (zp X ex) W cl)) (hh : PE X h (tE (zp X ex) W ch)) : PE X (.Subscript a (.Slice (some l) (some h) none p2) pos) (tE (zp X ex) W (dSl ca (some cl) (some ch))) :=
  sE_slice ha (fun e z => ⟨cl, rfl, by cases z; exact hl⟩) (fun z => by cases z) (fun e z => ⟨ch, rfl, by cases z; exact hh⟩) (fun z => by cases z)
theorem gN {i : Nat} {x : Str} (hN : X.N.Nodup) (hi : X.N[i]? = some x := by rfl) (hx : Loc X.env.scope x := by first | exact Or.inl rfl | exact Or.inr rfl) (hf : X.fn x = true ∨ X.env.scope.names.lookup x = some .local := by first | exact Or.inl rfl | exact Or.inr rfl) : PG X (.Name x pos) (tG (zp X ex) (.nm i)) := sG_name hN hi hx hf
theorem gC {e : Expr} {es : List Expr} {p : Pat} {ps : Pats} (h1 : PG X e (tG (zp X ex) p)) (h2 : PGs X es (tGs (zp X ex) ps)) (hs : notStar e = true := by rfl) : PGs X (e :: es) (tGs (zp X ex) (.cons p ps)) := sGs_cons h1 h2 hs
theorem gT {es : List Expr} {k : Nat} {ps : Pats} (h : PGs X es (tGs (zp X ex) ps)) (hc : X.calm = true := by rfl) (hn : (assignEach es X.env).length = ps.len := by rfl) (hst : (assignEach es X.env).findIdx? (·.1) = none := by rfl) : PG X (.Tuple es k pos) (tG (zp X ex) (.tp ps)) := sG_tup hc h hn hst
theorem sSet {i : Nat} {x : Str} {m : Bool} {p2 : Pos} (hN : X.N.Nodup) (he : PE X e (tE (zp X ex) W ca)) (hi : X.N[i]? = some x := by rfl) (hx : Loc X.env.scope x := by first | exact Or.inl rfl | exact Or.inr rfl) (hs : swapsWith e (some (.Name x p2)) pos.line X.env = pure false := by rfl)
    (hf : X.fn x = true ∨ X.env.scope.names.lookup x = some .local := by first | exact Or.inl rfl | exact Or.inr rfl) : PS X (.Assign [.Name x p2] e pos) (tS (zp X ex) W (sAsg i m ca)) := sS_set hN hi hx he hs hf
theorem sUnpk {tg : Expr} {p : Pat} (hg : PG X tg (tG (zp X ex) p)) (he : PE X e (tE (zp X ex) W ca)) (hs : swapsWithSole [tg] e pos.line X.env = pure false := by rfl) (hw : swappedStores [tg] e X.env = pure none := by rfl) (h1 : (assignEach [tg] X.env).map (·.2) = [assign tg X.env] := by rfl) :
    PS X (.Assign [tg] e pos) (tS (zp X ex) W (sUnp p ca)) := sS_unp he hg hs hw h1
theorem sPar2 {i j : Nat} {x y : Str} {l : Ln} {px py pt : Pos} {kt k2 : Nat} {pt2 : Pos} (hN : X.N.Nodup) (ha : PA X [a, b] (tL (zp X ex) W l)) (hc : X.calm = true := by rfl) (hi : X.N[i]? = some x := by rfl) (hj : X.N[j]? = some y := by rfl) (hij : i ≠ j := by decide)
    (hx : X.env.scope.names.lookup x = some .local := by rfl) (hy : X.env.scope.names.lookup y = some .local := by rfl)
    (hw : swappedStores [.Tuple [.Name x px, .Name y py] kt pt] (.Tuple [a, b] k2 pt2) X.env = pure (some [x, y]) := by rfl) (hs : swapsWithSole [.Tuple [.Name x px, .Name y py] kt pt] (.Tuple [a, b] k2 pt2) pos.line X.env = pure false := by rfl) :
    PS X (.Assign [.Tuple [.Name x px, .Name y py] kt pt] (.Tuple [a, b] k2 pt2) pos) (tS (zp X ex) W (sPar i j l)) := sS_par hc hN hi hj hij hx hy ha hw hs
theorem sExp (he : PE X e (tE (zp X ex) W ca)) (hs : swapsWith e none pos.line X.env = pure false := by rfl) : PS X (.Expr e pos) (tS (zp X ex) W (sExpr ca)) := sS_expr he hs
theorem sForL {tg iter : Expr} {bd : List Stmt} {it : It1} {p : Pat} (hp : PassesOwn (model X.prog X.w) X.A X.env X.xe) (hi : PI X tg iter (tI (zp X ex) W it)) (hg : PG X tg (tG (zp X ex) p)) (hb : PSs X bd (tS (zp X ex) W body)) (hc : X.calm = true := by rfl)
    (hs : ∀ x, foldedSetIterable iter X.env x = pure x := by intro _; rfl) : PS X (.For tg iter bd [] pos) (tS (zp X ex) W (sFor it p body)) := sS_for hp hc hi hg hb hs
theorem iR1 {tg : Expr} {p : Pos} {l : Ln} (hm : X.mg "range" = none) (ha : PA X [a] (tL (zp X ex) W l)) (hg : Gl X "range" := by rfl) (hs : starEach [a] X.env = [(false, eval a X.env)] := by rfl) : PI X tg (.Call (.Name "range" p) [a] [] pos) (tI (zp X ex) W (itL l fRng1)) := sI_rng1 hg hm ha hs
theorem iR2 {tg : Expr} {p : Pos} {l : Ln} (hm : X.mg "range" = none) (ha : PA X [a, b] (tL (zp X ex) W l)) (hg : Gl X "range" := by rfl) (hs : starEach [a, b] X.env = [(false, eval a X.env), (false, eval b X.env)] := by rfl) (hs2 : starEach [b] X.env = [(false, eval b X.env)] := by rfl) :
    PI X tg (.Call (.Name "range" p) [a, b] [] pos) (tI (zp X ex) W (itL l fRng2)) := sI_rng2 hg hm ha hs hs2
theorem iR3 {tg : Expr} {p : Pos} {l : Ln} (hm : X.mg "range" = none) (ha : PA X [a, b, c] (tL (zp X ex) W l)) (hg : Gl X "range" := by rfl) (hs : starEach [a, b, c] X.env = (false, eval a X.env) :: starEach [b, c] X.env := by rfl) (hpl : (backTo pos (starEach [b, c] X.env)).any (·.1) = false := by rfl) :
    PI X tg (.Call (.Name "range" p) [a, b, c] [] pos) (tI (zp X ex) W (itL l fRng3)) := sI_rng3 hg hm ha hs hpl
theorem iEn {e : Expr} {elts : List Expr} {kk : Nat} {tpos p : Pos} {l : Ln} (hm : X.mg "enumerate" = none) (ha : PA X [e] (tL (zp X ex) W l)) (hg : Gl X "enumerate" := by rfl) (hs : starEach [e] X.env = [(false, eval e X.env)] := by rfl) :
    PI X (.Tuple elts kk tpos) (.Call (.Name "enumerate" p) [e] [] pos) (tI (zp X ex) W (itL l fEnum)) := sI_enum hg hm ha hs
theorem qLc {elt tg iter : Expr} {ifs : List Expr} {scope : Scope} {own : List (Str × Nat)} {it : It1} {p : Pat} {ct ce : Dn} (hN : X.N.Nodup) (hi : PI X tg iter (tI (zp X ex) W it)) (ok : BlkOk X.N X.env.scope scope own)
    (hg : InBlk X scope fun Y => PG Y tg (tG (zp X ex) p)) (ht : InBlk X scope fun Y => PTs Y ifs (tT (zp X ex) W0 ct)) (he : InBlk X scope fun Y => PE Y elt (tE (zp X ex) W0 ce)) (hc : X.calm = true := by rfl) (hs : ∀ x, foldedSetIterable iter X.env x = pure x := by intro _; rfl) (hv : ∀ i ∈ p.slots, i ∈ own.map (·.2) := by decide) :
    PE X (.ListComp elt [⟨tg, iter, ifs, 0⟩] scope pos) (tE (zp X ex) W (dLc it p ct ce (own.map (·.2)))) := sE_lc hc hN hi ok hg ht he hs hv
theorem sSetLc {i : Nat} {y : Str} {py : Pos} {m : Bool} {elt tg iter : Expr} {ifs : List Expr} {scope : Scope} {own : List (Str × Nat)} {spos : Pos} {it : It1} {p : Pat} {ct ce : Dn} (hN : X.N.Nodup) (hi : PI X tg iter (tI (zp X ex) W it)) (ok : BlkOk X.N X.env.scope scope own)
    (hg : InBlk X scope fun Y => PG Y tg (tG (zp X ex) p)) (ht : InBlk X scope fun Y => PTs Y ifs (tT (zp X ex) W0 ct)) (he : InBlk X scope fun Y => PE Y elt (tE (zp X ex) W0 ce)) (hc : X.calm = true := by rfl) (hs : ∀ x, foldedSetIterable iter X.env x = pure x := by intro _; rfl) (hv : ∀ i ∈ p.slots, i ∈ own.map (·.2) := by decide)
    (hy : X.N[i]? = some y := by rfl) (hyl : X.env.scope.names.lookup y = some .local := by rfl) (hsw : swapsWith (.ListComp elt [⟨tg, iter, ifs, 0⟩] scope pos) (some (.Name y py)) spos.line X.env = pure true := by rfl) :
    PS X (.Assign [.Name y py] (.ListComp elt [⟨tg, iter, ifs, 0⟩] scope pos) spos) (tS (zp X ex) W (sAsg i m (dLc it p ct ce (own.map (·.2))))) := sS_setLc hc hN hy hyl hsw hi ok hg ht he hs hv
theorem qIs {x tn : Str} {p p2 : Pos} {T : String} (hm : X.mg x = none) (hmt : X.mg tn = none) (hvt : bootBuiltins tn = some (.type T)) (ha : PE X a (tE (zp X ex) W ca)) (hT : T ∈ ["bool", "int", "str", "list", "tuple", "dict"] := by simp) (hx : x = "isinstance" := by rfl) (hg : Gl X x := by rfl) (hgt : Gl X tn := by rfl)
    (hnt : tn ≠ "__name__" := by decide) (hdt : (tn == ("__debug__" : Str)) = false := by decide) (he : starEach [a, .Name tn p2] X.env = (false, eval a X.env) :: starEach [.Name tn p2] X.env := by rfl) : PE X (.Call (.Name x p) [a, .Name tn p2] [] pos) (tE (zp X ex) W (dIsi [T] ca)) := isi_one hg hm hgt hmt hvt hT hx ha hnt hdt he
theorem yC {tn : Str} {p : Pos} {T : String} {es : List Expr} {Ts : List String} (hm : X.mg tn = none) (hv : bootBuiltins tn = some (.type T)) (r : TyNames X es Ts) (hT : T ∈ ["bool", "int", "str", "list", "tuple", "dict"] := by simp) (hg : Gl X tn := by rfl) (hn : tn ≠ "__name__" := by decide) (hd : (tn == ("__debug__" : Str)) = false := by decide) :
    TyNames X (.Name tn p :: es) (T :: Ts) := .cons hg hm hv hT hn hd r
theorem qIsM {x : Str} {p p2 : Pos} {k : Nat} {es : List Expr} {Ts : List String} (hm : X.mg x = none) (hts : TyNames X es Ts) (ha : PE X a (tE (zp X ex) W ca)) (hl : Ts.length ≤ 100 := by decide) (hx : x = "isinstance" := by rfl) (hg : Gl X x := by rfl)
    (he : starEach [a, .Tuple es k p2] X.env = (false, eval a X.env) :: starEach [.Tuple es k p2] X.env := by rfl) : PE X (.Call (.Name x p) [a, .Tuple es k p2] [] pos) (tE (zp X ex) W (dIsi Ts ca)) := isi_many hg hm hx hts hl ha he
theorem sRse {cn fld : Str} {k : Nat} {C fI : Addr} {fd : FuncData} {l : Ln} {p pos2 : Pos} (O : OwnE X.prog X.w X.K X.mg X.base cn fld C fI fd) (tk : Takes X W) (hr : Room k X.A) (ha : PA X [e] (tL (zp X none) W l)) (hk : 2 ≤ k := by decide) (hc : X.calm = true := by rfl) (hg : Gl X cn := by rfl)
    (hdb : (cn == ("__debug__" : Str)) = false := by decide) (he : starEach [e] X.env = (false, eval e X.env) :: starEach [] X.env := by rfl) (hpl : (backTo pos (starEach [] X.env)).any (·.1) = false := by rfl) :
    PS X (.Raise (some (.Call (.Name cn p) [e] [] pos)) none pos2) (tS (zp X none) W (sRaise cn fld l)) := sS_raise O hc tk (hr.mono hk) hg ha hdb he hpl
theorem qAtE {a : Addr} {cls : Value} {d : Option Addr} {oe : Obj} {pn : List (Addr × Obj)} {fld : Str} {cns : List Str} {i : Nat} {n : Str} {p2 : Pos} (hF : FldOk X fld cns) (hz : Zc cls d oe) (hf : ∃ vs, oe.data = .fields vs) (hN : X.N[i]? = some n := by rfl) (hv : Vis X.env.scope n := by first | exact Or.inl rfl | exact Or.inr (Or.inl rfl) | exact Or.inr (Or.inr rfl))
    (hd : (n == ("__debug__" : Str)) = false := by decide) (hcd : (n == ("__classdict__" : Str)) = false := by decide) (hb : attributeBase (.Name n p2) fld X.env (eval (.Name n p2) X.env) = eval (.Name n p2) X.env := by rfl) :
    PE (X.suite a ((a, oe) :: pn)) (.Attribute (.Name n p2) fld pos) (tE (zp X (some (a, cls, d))) W (dFldT fld cns (dVar i))) := sE_fld hF hz hf (fun _ => trivial) hN hv hd hcd hb
theorem qIsE {a : Addr} {cls : Value} {d : Option Addr} {oe : Obj} {pn : List (Addr × Obj)} {tab : List (Str × Bool)} {B : Addr} {x tn n : Str} {i : Nat} {p p2 p3 : Pos} (hT : IsTab X tab B) (hz : Zc cls d oe) (hf : ∃ vs, oe.data = .fields vs) (hm : X.mg x = none) (hmt : X.mg tn = some (.ref B)) (hx : x = "isinstance" := by rfl) (hg : Gl X x := by rfl) (hgt : Gl X tn := by rfl) (hN : X.N[i]? = some n := by rfl)
    (hv : Vis X.env.scope n := by first | exact Or.inl rfl | exact Or.inr (Or.inl rfl) | exact Or.inr (Or.inr rfl)) (hd : (n == ("__debug__" : Str)) = false := by decide) (hcd : (n == ("__classdict__" : Str)) = false := by decide) (hdt : (tn == ("__debug__" : Str)) = false := by decide) :
    PE (X.suite a ((a, oe) :: pn)) (.Call (.Name x p) [.Name n p2, .Name tn p3] [] pos) (tE (zp X (some (a, cls, d))) W (dIsE tab (dVar i))) := sE_isE hT hz hf hx hg hm hgt hmt hN hv hd hcd hdt
theorem qApp {o : Expr} {es : List Expr} {l : Ln} {apos cpos : Pos} (ho : PE X o (tE (zp X ex) W ca)) (ha : PA X (e :: es) (tL (zp X ex) W l)) (hbase : attributeBase o "append" X.env (eval o X.env) = eval o X.env := by rfl)
    (hfew : ((backTo cpos (starEach (e :: es) X.env)).all (fun x => !x.1) && (backToKw cpos (keywordEach [] X.env)).all (fun x => x.1.isSome)
      && decide ((e :: es).length + ([] : List Keyword).length + (if ([] : List Keyword).isEmpty then 0 else 1) < 30)) = true := by rfl)
    (hline : (apos.endLine == cpos.line) = true := by rfl) (hs : starEach (e :: es) X.env = (false, eval e X.env) :: starEach es X.env := by rfl) (hplain : (backTo cpos (starEach es X.env)).any (·.1) = false := by rfl) :
    PE X (.Call (.Attribute o "append" apos) (e :: es) [] cpos) (tE (zp X ex) W (dMeth mAppend ca l)) := sE_meth PySem.F.slot_list_append PySem.F.type_list_append mAppend_ok ho ha hbase hfew hline hs hplain
theorem qPop {o : Expr} {apos cpos : Pos} (ho : PE X o (tE (zp X ex) W ca)) (hbase : attributeBase o "pop" X.env (eval o X.env) = eval o X.env := by rfl) (hline : (apos.endLine == cpos.line) = true := by rfl) :
    PE X (.Call (.Attribute o "pop" apos) [] [] cpos) (tE (zp X ex) W (dMeth mPop ca lNil)) := sE_meth0 PySem.F.slot_list_pop PySem.F.type_list_pop mPop_ok ho hbase hline
theorem qRev {o : Expr} {apos cpos : Pos} (ho : PE X o (tE (zp X ex) W ca)) (hbase : attributeBase o "reverse" X.env (eval o X.env) = eval o X.env := by rfl) (hline : (apos.endLine == cpos.line) = true := by rfl) :
    PE X (.Call (.Attribute o "reverse" apos) [] [] cpos) (tE (zp X ex) W (dMeth mReverse ca lNil)) := sE_meth0 PySem.F.slot_list_reverse PySem.F.type_list_reverse mReverse_ok ho hbase hline
end
end Den
/-! DenA: list(range(..)). -/
namespace Den
open PySem PySem.Spec PyProof.Rows L2

def vLRg3 (as : List AV) (S : AS) : VR := match as with
  | [.d (.int i), .d (.int j), .d (.int c)] => if c ≠ 0 ∧ c.natAbs < 1073741824 ∧ Builtin.Range.small i j c = true ∧ 0 ≤ Builtin.Range.rangeSize i j c ∧ (Builtin.Range.rangeSize i j c).toNat ≤ cap then some (.own (rngL i (Builtin.Range.rangeSize i j c).toNat c), S) else none
  | _ => none
def rgVc (a : Int) (n : Nat) (c : Int) : List V := (List.range n).map fun i => V.int (a + (i : Nat) * c)
theorem rgVc_len (a : Int) (n : Nat) (c : Int) : (rgVc a n c).length = n := by unfold rgVc; rw [List.length_map, List.length_range]
theorem rgVc_dp {K : PySem.W.Frag} {F : Hp} (a : Int) (n : Nat) (c : Int) : DpAll K F (rgVc a n c) (rngL a n c) := by
  have h := dpA_of_ints (K := K) (F := F) ((List.range n).map fun i => a + (i : Nat) * c)
  rw [List.map_map, List.map_map] at h
  exact h
section
variable {X : Cx} {pins : List (Addr × Obj)} {σ : L2.St} {H : Hp} {s : Shared} {Q : VK}
theorem lrg_fin {r : Addr} {a b c : Int} {t u v : Tok} {n : Nat} (hc : X.calm = true) (I : Inv X pins σ H s) (hr : IsRange s.heap r a b c t u v) (h1 : Builtin.Range.small a b c = true) (h2 : Builtin.Range.rangeSize a b c = n) (h3 : n ≤ cap)
    (q : ∀ p, H p = none → Q (.ref p) (upd H p (.lst (rgVc a n c)))) : wpAny (model X.prog X.w) X.A (call (.type "list") [.ref r]) (EP X pins σ Q) X.xe s := by
  have h4 : n ≤ 2 ^ 24 := Nat.le_trans h3 (by decide)
  refine call_list_range (n := n) (I.ok.hd hc) hr h1 h2 h4 fun h' tk acc c' hk e' hi => ?_
  have hl : acc.toList.length = n := by rw [Array.length_toList]; exact hi.1
  have vr : Vals (rgVc a n c) acc.toList := by
    unfold rgVc
    rw [← hl]
    refine vals_of_get acc.toList _ fun j w hj => ?_
    obtain ⟨z, rfl⟩ := hi.2 j w (by rw [← hj, Array.getElem?_toList])
    exact ⟨z, rfl⟩
  refine ⟨.ref s.heap.objs.size, upd H s.heap.objs.size (.lst (rgVc a n c)), I.laid hk (Nat.le_refl _) (show ObjOk X.prog X.w _ _ _ (.lst (rgVc a n c)) from ⟨?_, acc.toList, c', vr, ?_⟩), rfl, q _ (I.hok.fresh (Nat.le_refl _))⟩
  · rw [rgVc_len]
    exact Nat.le_trans h3 cap_le
  · rw [Array.toArray_toList]
    exact e'
end
/-- a range is made, then list is called -/
theorem lrg_two {X : Cx} {pins : List (Addr × Obj)} {σ : L2.St} {H : Hp} {s : Shared} {Q : VK} {e : Expr} {p pos : Pos} {R : Value → Shared → Prop} (hg : Gl X "list") (hm : X.mg "list" = none) (na : starEach [e] X.env = (false, eval e X.env) :: starEach [] X.env)
    (I : Inv X pins σ H s) (h : wpAny (model X.prog X.w) X.A (eval e X.env) R X.xe s) (k : ∀ u s1, R u s1 → wpAny (model X.prog X.w) X.A (call (.type "list") [u]) (EP X pins σ Q) X.xe s1) :
    wpAny (model X.prog X.w) X.A (eval (.Call (.Name "list" p) [e] [] pos) X.env) (EP X pins σ Q) X.xe s := by
  refine Call_ (ld_blt I hg hm boot_list (PyProof.Rows.callWith_type1 (args_cons (thn h fun u s1 hu => args_nil ?_) na) na))
  exact k u s1 hu
section
variable {X : Cx} {ex : Option (Addr × Value × Option Addr)} {W : WX} {pos : Pos} {a b c e : Expr}
theorem qLR3 {l : Ln} {p p1 p2 : Pos} (hm : X.mg "range" = none) (hm2 : X.mg "list" = none) (ha : PA X [a, b, c] (tL (zp X ex) W l)) (hc : X.calm = true := by rfl) (hg : Gl X "range" := by rfl) (hg2 : Gl X "list" := by rfl)
    (hs : starEach [a, b, c] X.env = (false, eval a X.env) :: starEach [b, c] X.env := by rfl) (hpl : (backTo p1 (starEach [b, c] X.env)).any (·.1) = false := by rfl)
    (na : starEach [.Call (.Name "range" p) [a, b, c] [] p1] X.env = (false, eval (.Call (.Name "range" p) [a, b, c] [] p1) X.env) :: starEach [] X.env := by rfl) :
    PE X (.Call (.Name "list" p2) [.Call (.Name "range" p) [a, b, c] [] p1] [] pos) (tE (zp X ex) W (dCallV vLRg3 l)) := by
  refine ⟨fun pins s σ H Q I h => lrg_two (R := fun u s1 => wpAny (model X.prog X.w) X.A (call (.type "list") [u]) (EP X pins σ Q) X.xe s1) hg2 hm2 na I ?_ fun u s1 hu => hu⟩
  refine Call_ (ld_blt I hg hm boot_range (PyProof.Rows.callWith_type1 (thn (ha.run p1 pins s σ H _ I (callV_imp h)) fun us s1 ⟨vs, H1, I1, r1, q1⟩ => ?_) hs hpl))
  obtain ⟨F, ρ, S, as, rs, rv, q⟩ := q1
  unfold vLRg3 at q
  split at q
  · split at q
    · rename_i i j k cc
      obtain ⟨c0, c1, c2, c3, c4⟩ := cc
      obtain ⟨x, y, z, rfl, d1, d2, d3⟩ := rv.three
      cases dint (show Dp X.K F x _ from d1)
      cases dint (show Dp X.K F y _ from d2)
      cases dint (show Dp X.K F z _ from d3)
      cases r1 with
      | cons r rr =>
        cases rr with
        | cons r' rr =>
          cases rr with
          | cons r'' rr =>
            cases rr
            obtain ⟨t, rfl⟩ := r
            obtain ⟨t', rfl⟩ := r'
            obtain ⟨t'', rfl⟩ := r''
            refine call_range_3 c0 ?_ (.inl (PyProof.noPylong_small c1))
            have I2 : Inv X pins σ H1 { s1 with heap := s1.heap.push { cls := .type "range", data := .fields #[.int i t, .int j t', .int k t''] } } := I1.kept (t' := s1.toks) fun b o e => Heap.get?_push_of_some _ e
            exact lrg_fin (n := (Builtin.Range.rangeSize i j k).toNat) hc I2 (IsRange.new ..) c2 (Int.toNat_of_nonneg c3).symm c4 fun p hp => VPost.own q rs (rgVc_dp _ _ _) p hp
    · exact q.elim
  · exact q.elim
end
end Den
/-! DenC: enumerate of a tuple (and of a list) as one rule. -/
namespace PySem
theorem enumNew1 {v : Value} {o : Obj} {H : Heap → Prop} (B : Begins v o H) : Meets (Builtin.«enumerate.__new__» ⟨[.type "enumerate", v], []⟩) (fun _ R s => H s.heap ∧
    R (.ok (.ret (.ref (s.heap.push o).objs.size))) { s with heap := (s.heap.push o).push { cls := .type "enumerate", data := .fields #[.none, .bool false, .ref s.heap.objs.size, rawInt 0, .none, .none] } }) :=
  .of_wp fun prog w A R s hs => by
    obtain ⟨hp, g, d, tk, os⟩ := s
    obtain ⟨hH, hR⟩ := hs
    have subE := sub_enumerate
    have begin1 : ∀ {A' : Around} {E : Value → Shared → Prop} {Q : Value → Shared → Prop}, Q (.ref hp.objs.size) ⟨hp.push o, g, d, tk, os⟩ → wpAny (model prog w) A' (pyIter v) Q E ⟨hp, g, d, tk, os⟩ := fun q => B.iter prog w _ _ _ _ hH q
    wp_walk using begin1
    refine wpAny_stack_any fun fr => wpAny_pure ?_
    split
    · rename_i c0 _ _ _ _ _
      cases (c0 == Value.type "enumerate") <;> (wp_walk using begin1; exact ⟨_, rfl, hR⟩)
    · wp_walk using begin1
      exact ⟨_, rfl, hR⟩
theorem enumBegins1 {prog : Program} {w : World} {A : Around} {E : Value → Shared → Prop} {s : Shared} {v : Value} {o : Obj} {H : Heap → Prop} {Q : Value → Shared → Prop} (B : Begins v o H) (hH : H s.heap)
    (k : ∀ h', IsEnum h' (s.heap.objs.size + 1) s.heap.objs.size 0 .none → h'.get? s.heap.objs.size = some o → (∀ b o, s.heap.get? b = some o → h'.get? b = some o) → Q (.ref (s.heap.objs.size + 1)) { s with heap := h' }) :
    wpAny (model prog w) A (call (.type "enumerate") [v]) Q E s := by
  refine callType_new F.called_enumerate (by decide) (F.typeCall_enumerate_1 _) (F.newCall_enumerate_1 _) (fun obj => F.args_object_init_2 obj _) F.entry_enumerate_new (enumNew1 B) ⟨hH, ?_⟩
  have size1 : (s.heap.push o).objs.size = s.heap.objs.size + 1 := Heap.size_push ..
  have isE := Heap.get?_push_size (s.heap.push o) (o := { cls := .type "enumerate", data := .fields #[.none, .bool false, .ref s.heap.objs.size, rawInt 0, .none, .none] }) rfl
  rw [size1] at isE
  show _ ∧ _
  rw [size1]
  exact ⟨⟨_, isE, rfl⟩, k _ isE (Heap.get?_push_of_some _ (Heap.get?_push_size _ B.free)) fun b u z => Heap.get?_push_of_some _ (Heap.get?_push_of_some _ z)⟩
theorem enumEndT {prog : Program} {w : World} {A : Around} {E : Value → Shared → Prop} {s : Shared} {e it l : Addr} {i : Nat} {items : Array Value} {old : Value} {Q : Option Value → Shared → Prop} (hd : A.handled = none)
    (isE : IsEnum s.heap e it i old) (isI : s.heap.IsTupleIter it l i) (isT : s.heap.IsTuple l items) (stop : items[i]? = none) (k : ∀ h', Heap.ExtBut it s.heap h' → Q none { s with heap := h' }) :
    wpAny (model prog w) A (pyNext (.ref e)) Q E s := by
  have ty : s.TypeIs (.ref e) "enumerate" := ⟨_, isE, rfl⟩
  have code : ∀ {Q' : Value → Shared → Prop} {E' : Value → Shared → Prop}, (∀ h' x, Heap.ExtBut it s.heap h' → (∃ o, h'.get? x = some o ∧ o.cls = .type "StopIteration") → E' (.ref x) { s with heap := h' }) → wpAny (model prog w) A.in1 (Builtin.SmallTypes.nextOf (.ref it)) Q' E' s :=
    fun q => wpAny_nextOf_tuple_end (show A.in1.handled = none from hd) isI isT stop q
  unfold pyNext
  refine wpAny_bind (wpAny_attempt (wpAny_callSpecial?_slot (name := Str.ofString "__next__") ty F.slot_enumerate_next (wpAny_call_entry F.slot_enumerate_next ty F.entry_enumerate_next ?_ (F.args_enumerate_next_1 _))))
  show wpAny _ _ (field (.ref e) 2 >>= _) _ _ _
  refine wpAny_bind (wpAny_field isE rfl (x := .ref it) rfl (wpAny_bind (code fun h' x ext stopped => ?_)))
  obtain ⟨ox, hox, hcx⟩ := stopped
  exact wpAny_bind (wpAny_isInstance (T := "StopIteration") (b := true) ⟨ox, hox, hcx⟩ isSubtype_stop (wpAny_pure (k _ ext)))
end PySem
namespace Den
open PySem PySem.Spec PyProof.Rows L2

/-- the tuple at a, each item in a new pair -/
def IteT (K : PySem.W.Frag) (a : Addr) : It :=
  ⟨fun i H => ∃ (xs : List V) (x : V), SqT K H a xs ∧ xs[i]? = some x, fun i H v H' => ∃ T x, v = .ref T ∧ H T = none ∧ H' = upd H T (.tup [.int (i : Nat), x]) ∧ ∀ xs, SqT K H a xs → xs[i]? = some x, fun i H => ∃ xs : List V, SqT K H a xs ∧ xs.length ≤ i⟩
theorem turn_enumT {P : Program} {w : World} {K : PySem.W.Frag} {elts : List Expr} {kk : Nat} {tpos : Pos} (a e it : Addr) :
    Turn P w K (.Tuple elts kk tpos) (IteT K a) [e, it] e (fun i h => (∃ old, IsEnum h e it ((i : Nat) : Int) old) ∧ h.IsTupleIter it a i ∧ e ≠ it ∧ a ≠ it ∧ a ≠ e) where
  mem := by simp
  obj := fun i h st b hb => by
    obtain ⟨⟨old, isE⟩, ⟨oi, hoi, _, hdi⟩, _⟩ := st
    have two : b = e ∨ b = it := by simpa using hb
    rcases two with rfl | rfl
    · exact ⟨_, isE, fun v z => nomatch z⟩
    · exact ⟨oi, hoi, fun v z => by rw [hdi] at z; cases z⟩
  keep := fun i h h' st k => by
    obtain ⟨⟨old, isE⟩, isI, r⟩ := st
    exact ⟨⟨old, k e (by simp) _ isE⟩, isI.at fun o z => k it (by simp) o z, r⟩
  item := by
    intro X hP hw hK hc i pins s σ H E I hf st hg
    subst hP hw hK
    obtain ⟨⟨old, isE⟩, isI, ne1, ne2, ne3⟩ := st
    obtain ⟨xs, x, hq, hx⟩ := hg
    obtain ⟨its, rv, p, hz⟩ := I.tuple hq
    obtain ⟨u, hu, ru⟩ := rv.get hx
    have ht : s.heap.IsTuple a its.toArray := p
    have le : e < s.heap.objs.size := Heap.lt_size isE
    have li : it < s.heap.objs.size := by obtain ⟨_, z, _⟩ := isI; exact Heap.lt_size z
    have hlt : i < its.toArray.size := by
      have := (List.getElem?_eq_some_iff.mp hu).1
      simpa using this
    refine wpAny_pyNext_enum_itemD (Draws.tuple (prog := X.prog) (w := X.w) (A := X.A.in1) (show X.A.in1.handled = none from I.ok.hd hc) it a ne2 its.toArray) isE ⟨isI, ht⟩ hlt ne1 (by simp [ne1, Ne.symm ne3]) fun y h' tk hy out st2 hT hsz kept => ?_
    have ey : y = u := by
      have hy' : its.toArray[i]? = some y := hy
      have : its[i]? = some y := by simpa using hy'
      rw [hu] at this
      exact (Option.some.inj this).symm
    subst ey
    refine ⟨_, rfl, wpAny_letOwnedTupleGo_enum (s := { s with heap := h', toks := tk + 1 }) out fun h'' isE2 same => ?_⟩
    have hT2 : h''.get? s.heap.objs.size = some { cls := .type "tuple", data := .seq #[.int i tk, y] } := (same.2 _ (Nat.ne_of_gt le)).trans hT
    have pair : ObjOk X.prog X.w (upd H s.heap.objs.size (.tup [.int (i : Nat), x])) h'' s.heap.objs.size (.tup [.int (i : Nat), x]) :=
      ⟨by show 2 ≤ sizeLine; decide, [.int i tk, y], .cons ⟨_, rfl⟩ (.cons ru .nil), ⟨_, hT2, rfl, _, rfl⟩⟩
    have I1 : Inv X pins σ (upd H s.heap.objs.size (.tup [.int (i : Nat), x])) { s with heap := h'', toks := tk + 1 } :=
      I.turnedNew (ch := [e, it]) (fun b ob hb z => (same.2 b (fun w => hb (by simp [w]))).trans (kept b ob (fun w => hb (by simp [w])) (fun w => hb (by simp [w])) z)) hf (Nat.le_refl _) pair
    refine ⟨.ref s.heap.objs.size, _, I1, rfl, ⟨_, x, rfl, I.hok.fresh (Nat.le_refl _), rfl, fun ys hys => ?_⟩, ⟨⟨y, ?_⟩, st2.1.at fun o z => (same.2 it (Ne.symm ne1)).trans z, ne1, ne2, ne3⟩, fun b hb => ?_⟩
    · rw [I.tuple_inj hys hq]
      exact hx
    · have e1 : ((i + 1 : Nat) : Int) = (i : Int) + 1 := by omega
      rw [e1]
      exact isE2
    · have two : b = e ∨ b = it := by simpa using hb
      have hb' : b < s.heap.objs.size := by
        rcases two with rfl | rfl
        · exact le
        · exact li
      rw [upd_ne (Nat.ne_of_lt hb')]
      exact (hf b hb).1
  done := by
    intro X hP hw hK hc i pins s σ H E I hf st hg
    subst hP hw hK
    obtain ⟨⟨old, isE⟩, isI, ne1, ne2, ne3⟩ := st
    obtain ⟨xs, hq, hx⟩ := hg
    obtain ⟨its, rv, p, hz⟩ := I.tuple hq
    obtain ⟨f0, f1, f2, f3, f4, f5⟩ := hf it (by simp)
    have ht : s.heap.IsTuple a its.toArray := p
    have hl := rv.length
    exact enumEndT (I.ok.hd hc) isE isI ht (by simp; omega) fun h' eb => ⟨rfl, I.turned (t' := s.toks) (fun b o hb z => eb b o hb z) f0 f1 f3 f4 f5⟩
  self := fun A i s Q E st h => by
    obtain ⟨⟨_, isE⟩, _⟩ := st
    exact wpAny_pyIter_enum isE h
theorem iteT_ok {K : PySem.W.Frag} {F : Hp} {a : Addr} {vs : List V} {l : List D} (h : SqT K F a vs) (k : DpAll K F vs l) : ItOk K F (IteT K a) (enumL l 0) where
  stop := fun H s => ⟨vs, Same.seqT s h, by rw [enumL_len]; exact Nat.le_of_eq (dpA_len k)⟩
  go := fun i H x s e => by
    obtain ⟨y, h1, h2⟩ := enumL_get e
    obtain ⟨v, h3, h4⟩ := dpA_get k h1
    exact ⟨vs, v, Same.seqT s h, h3⟩
  yld := fun i H x v H' s e y => by
    obtain ⟨z, h1, h2⟩ := enumL_get e
    obtain ⟨w, h3, h4⟩ := dpA_get k h1
    obtain ⟨T, u, e1, e2, e3, e4⟩ := y
    have e5 := e4 vs (Same.seqT s h)
    rw [h3] at e5
    cases e5
    refine .inr ⟨T, _, _, e2, e3, e1, h2, .cons ?_ (.cons h4 .nil)⟩
    rw [Nat.zero_add]
    exact .int _
def fEnumS (as : List AV) (S : AS) : Option (List D × AS) := match as with
  | [a] => match frzD S a with
    | some (.list l, S2) => some (enumL l 0, S2)
    | some (.tuple l, S2) => some (enumL l 0, S2)
    | _ => none
  | _ => none
/-- enumerate of a list or a tuple -/
def iEnumS (K : PySem.W.Frag) (ta : TA) : TI := fun σ H R => ta σ H fun vs H1 => ∃ a, vs = [.ref a] ∧ ((∃ xs, SqL K H1 a xs ∧ R (Ite K a) H1) ∨ ∃ xs, SqT K H1 a xs ∧ R (IteT K a) H1)
theorem pi_enumS {X : Cx} {e : Expr} {ta : TA} {p pos tpos : Pos} {elts : List Expr} {kk : Nat} (hg : Gl X "enumerate") (hm : X.mg "enumerate" = none) (ha : PA X [e] ta) (hs : starEach [e] X.env = [(false, eval e X.env)]) :
    PI X (.Tuple elts kk tpos) (.Call (.Name "enumerate" p) [e] [] pos) (iEnumS X.K ta) := by
  refine ⟨fun pins s σ H R I h => ?_⟩
  refine Call_ (ld_blt I hg hm boot_enumerate (PyProof.Rows.callWith_type1 (thn (ha.run pos pins s σ H _ I h) fun us s1 ⟨vs, H1, I1, r1, q1⟩ => ?_) hs rfl))
  obtain ⟨a, ex, q⟩ := q1
  subst ex
  cases r1 with
  | cons r rr =>
    cases rr
    cases r
    have two : ∀ b, b ∈ [s1.heap.objs.size + 1, s1.heap.objs.size] → s1.heap.objs.size ≤ b := fun b hb => by
      have : b = s1.heap.objs.size + 1 ∨ b = s1.heap.objs.size := by simpa using hb
      rcases this with z | z
      · rw [z]; exact Nat.le_succ _
      · rw [z]; exact Nat.le_refl _
    rcases q with ⟨xs, hq, q⟩ | ⟨xs, hq, q⟩
    · obtain ⟨its, rv, p', hz⟩ := I1.list hq
      refine call_enumerate_list p'.isList fun h' he hit hsz hk => wpAny_pyIter_enum he ?_
      have I2 : Inv X pins σ H1 { s1 with heap := h' } := I1.kept (t' := s1.toks) hk
      exact ⟨s1.heap.objs.size + 1, [s1.heap.objs.size + 1, s1.heap.objs.size], _, _, H1, rfl, I2, turn_enum a (s1.heap.objs.size + 1) s1.heap.objs.size, ⟨⟨.none, he⟩, hit, Nat.succ_ne_self _⟩, fun b hb => I1.fpOk (two b hb) (I1.hok.fresh (two b hb)), q⟩
    · obtain ⟨its, rv, p', hz⟩ := I1.tuple hq
      have ht : s1.heap.IsTuple a its.toArray := p'
      have la : a < s1.heap.objs.size := by obtain ⟨o, z, _⟩ := ht; exact Heap.lt_size z
      refine enumBegins1 (begins_tuple a its.toArray) ht fun h' he hit hk => wpAny_pyIter_enum he ?_
      have I2 : Inv X pins σ H1 { s1 with heap := h' } := I1.kept (t' := s1.toks) hk
      exact ⟨s1.heap.objs.size + 1, [s1.heap.objs.size + 1, s1.heap.objs.size], _, _, H1, rfl, I2, turn_enumT a (s1.heap.objs.size + 1) s1.heap.objs.size, ⟨⟨.none, he⟩, ⟨_, hit, rfl, rfl⟩, Nat.succ_ne_self _, Nat.ne_of_lt la, Nat.ne_of_lt (Nat.lt_succ_of_lt la)⟩, fun b hb => I1.fpOk (two b hb) (I1.hok.fresh (two b hb)), q⟩
theorem iEnS {X : Cx} {ex : Option (Addr × Value × Option Addr)} {W : WX} {pos : Pos} {e : Expr} {elts : List Expr} {kk : Nat} {tpos p : Pos} {l : Ln} (hm : X.mg "enumerate" = none) (ha : PA X [e] (tL (zp X ex) W l)) (hg : Gl X "enumerate" := by rfl) (hs : starEach [e] X.env = [(false, eval e X.env)] := by rfl) :
    PI X (.Tuple elts kk tpos) (.Call (.Name "enumerate" p) [e] [] pos) (tI (zp X ex) W (itL l fEnumS)) :=
  (pi_enumS hg hm ha hs).impD fun σ H R h => (itL_imp h).imp fun vs H1 q => by
    obtain ⟨F, ρ, S, as, m, S2, rs, rv, e, k⟩ := q
    unfold fEnumS at e
    split at e
    · split at e
      · rename_i a l2 S3 e2
        cases Option.some.inj e
        obtain ⟨v, rfl, r1⟩ := rv.one
        obtain ⟨F3, s3, rs3, dx⟩ := frzD_ok rs r1 e2
        cases dx with
        | lst h1 h2 => exact ⟨_, rfl, .inl ⟨_, rs3.sub.seq h1, k F3 ρ H1 _ (Tr.sam s3) rs3 (ite_ok h1 h2)⟩⟩
      · rename_i a l2 S3 e2
        cases Option.some.inj e
        obtain ⟨v, rfl, r1⟩ := rv.one
        obtain ⟨F3, s3, rs3, dx⟩ := frzD_ok rs r1 e2
        cases dx with
        | tup h1 h2 => exact ⟨_, rfl, .inr ⟨_, Same.seqT rs3.sub h1, k F3 ρ H1 _ (Tr.sam s3) rs3 (iteT_ok h1 h2)⟩⟩
      · cases e
    · cases e
end Den
/-! DenB: rules that run a denotation (plain Lean, no program in sight). -/
namespace Den
open PySem PySem.Spec PyProof.Rows L2

section
variable {a b : AV} {S : AS} {σ : ASt} {x : Exc} {f : AV → AS → ER} {g : AV → AS → SR} {h : AV → AS → LR} {fl : List AV → AS → ER} {c c1 c2 ca cb cc : Dn} {s s1 s2 : Sn} {l : Ln} {as : List AV}
@[simp] theorem fz_d (x : D) : AV.fz (.d x) = .d x := rfl
@[simp] theorem fz_ref (n : Nat) : AV.fz (.ref n) = .ref n := rfl
@[simp] theorem fz_own (l : List D) : AV.fz (.own l) = .d (.list l) := rfl
@[simp] theorem fz_exc (x : Exc) : AV.fz (.exc x) = .exc x := rfl
@[simp] theorem bind_ok : (ER.ok a S).bind f = f a.fz S := rfl
@[simp] theorem bind_err : (ER.err x S).bind f = .err x S := rfl
@[simp] theorem bind_stuck : ER.stuck.bind f = .stuck := rfl
@[simp] theorem then_ok : (ER.ok a S).then σ g = g a S := rfl
@[simp] theorem then_err : (ER.err x S).then σ g = .er x σ S := rfl
@[simp] theorem then_stuck : ER.stuck.then σ g = .stuck := rfl
@[simp] theorem bindL_ok : (ER.ok a S).bindL h = h a.fz S := rfl
@[simp] theorem bindL_err : (ER.err x S).bindL h = .err x S := rfl
@[simp] theorem lbind_ok : (LR.ok as S).bind fl = fl as S := rfl
@[simp] theorem lbind_err : (LR.err x S).bind fl = .err x S := rfl
@[simp] theorem lcons_ok : (LR.ok as S).cons a = .ok (a :: as) S := rfl
@[simp] theorem lcons_err : (LR.err x S).cons a = .err x S := rfl
@[simp] theorem lift_some : liftV (some (a, S)) = .ok a S := rfl
@[simp] theorem lift_none : liftV none = .stuck := rfl
@[simp] theorem x_C (x : D) : dC x σ S = .ok (.d x) S := rfl
@[simp] theorem x_Bin (g : AV → AV → AS → VR) : dBin g ca cb σ S = (ca σ S).bind fun a S1 => (cb σ S1).bind fun b S2 => liftV (g a b S2) := rfl
@[simp] theorem x_Neg : dNeg ca σ S = (ca σ S).bind fun a S1 => liftV (vNeg a S1) := rfl
@[simp] theorem x_vNeg (i : Int) : vNeg (.d (.int i)) S = some (.d (.int (-i)), S) := rfl
@[simp] theorem x_And : dAnd ca cb σ S = (ca σ S).bind fun a S1 => bAnd cb σ a S1 := rfl
@[simp] theorem x_Or : dOr ca cb σ S = (ca σ S).bind fun a S1 => bOr cb σ a S1 := rfl
@[simp] theorem x_If : dIf c ca cb σ S = (c σ S).bind fun a S1 => bIf ca cb σ a S1 := rfl
@[simp] theorem x_Not : dNot ca σ S = (ca σ S).bind fun a S1 => liftV (vNot a S1) := rfl
@[simp] theorem x_Tru : dTru ca σ S = (ca σ S).bind fun a S1 => liftV (vTru a S1) := rfl
@[simp] theorem and_t : bAnd cb σ (.d (.bool true)) S = cb σ S := rfl
@[simp] theorem and_f : bAnd cb σ (.d (.bool false)) S = .ok (.d (.bool false)) S := rfl
@[simp] theorem or_t : bOr cb σ (.d (.bool true)) S = .ok (.d (.bool true)) S := rfl
@[simp] theorem or_f : bOr cb σ (.d (.bool false)) S = cb σ S := rfl
@[simp] theorem if_t : bIf ca cb σ (.d (.bool true)) S = ca σ S := rfl
@[simp] theorem if_f : bIf ca cb σ (.d (.bool false)) S = cb σ S := rfl
@[simp] theorem not_b (k : Bool) : vNot (.d (.bool k)) S = some (.d (.bool (!k)), S) := rfl
@[simp] theorem tru_b (k : Bool) : vTru (.d (.bool k)) S = some (.d (.bool k), S) := rfl
@[simp] theorem tru_n : vTru (.d .none) S = some (.d (.bool false), S) := rfl
@[simp] theorem tru_i (i : Int) : vTru (.d (.int i)) S = some (.d (.bool (i != 0)), S) := rfl
@[simp] theorem tru_l (l : List D) : vTru (.d (.list l)) S = some (.d (.bool (!l.isEmpty)), S) := rfl
@[simp] theorem tru_t (l : List D) : vTru (.d (.tuple l)) S = some (.d (.bool (!l.isEmpty)), S) := rfl
@[simp] theorem x_Chain (g g' : AV → AV → AS → VR) : dChain g g' ca cb cc σ S = (ca σ S).bind fun a S1 => (cb σ S1).bind fun b S2 => (liftV (g a b S2)).bind fun k S3 => bAnd (fun σ S => (cc σ S).bind fun c S4 => liftV (g' b c S4)) σ k S3 := rfl
@[simp] theorem x_lNil : lNil σ S = .ok [] S := rfl
@[simp] theorem x_lCons : lCons c l σ S = (c σ S).bindL fun a S1 => (l σ S1).cons a := rfl
@[simp] theorem x_CallV (g : List AV → AS → VR) : dCallV g l σ S = (l σ S).bind fun as S1 => liftV (g as S1) := rfl
@[simp] theorem x_Call : dCall fl l σ S = (l σ S).bind fl := rfl
@[simp] theorem x_arity (n : Nat) : arity n fl as S = if as.length = n then fl as S else .stuck := rfl
@[simp] theorem x_Meth (g : AV → List AV → AS → VR) : dMeth g c l σ S = (c σ S).bind fun a S1 => bMeth g l σ a S1 := rfl
@[simp] theorem x_bMeth (g : AV → List AV → AS → VR) : bMeth g l σ a S = if isL S a then (l σ S).bind fun as S2 => liftV (g a as S2) else .stuck := rfl
@[simp] theorem x_Isi (tys : List String) : dIsi tys ca σ S = (ca σ S).bind fun a S1 => liftV (vIsi tys a S1) := rfl
@[simp] theorem isi_i (tys : List String) (i : Int) : vIsi tys (.d (.int i)) S = some (.d (.bool (tys.any (kitS "int"))), S) := rfl
@[simp] theorem isi_b (tys : List String) (i : Bool) : vIsi tys (.d (.bool i)) S = some (.d (.bool (tys.any (kitS "bool"))), S) := rfl
@[simp] theorem isi_n (tys : List String) : vIsi tys (.d .none) S = some (.d (.bool (tys.any (kitS "NoneType"))), S) := rfl
@[simp] theorem isi_s (tys : List String) (i : Str) : vIsi tys (.d (.str i)) S = some (.d (.bool (tys.any (kitS "str"))), S) := rfl
@[simp] theorem isi_l (tys : List String) (i : List D) : vIsi tys (.d (.list i)) S = some (.d (.bool (tys.any (kitS "list"))), S) := rfl
@[simp] theorem isi_t (tys : List String) (i : List D) : vIsi tys (.d (.tuple i)) S = some (.d (.bool (tys.any (kitS "tuple"))), S) := rfl
@[simp] theorem x_Seq : sSeq s1 s2 σ S = (match s1 σ S with | .nx σ1 S1 => s2 σ1 S1 | r => r) := rfl
@[simp] theorem x_sIf : sIf c s1 s2 σ S = (c σ S).then σ fun a S1 => match a with | .d (.bool true) => s1 σ S1 | .d (.bool false) => s2 σ S1 | _ => .stuck := rfl
@[simp] theorem x_Asg (i : Nat) (mu : Bool) : sAsg i mu c σ S = (c σ S).then σ fun a S1 => asgV i mu σ a S1 := rfl
@[simp] theorem asg_d (i : Nat) (mu : Bool) (x : D) : asgV i mu σ (.d x) S = .nx (σ.set i (some (.d x))) S := rfl
@[simp] theorem asg_ref (i n : Nat) (mu : Bool) : asgV i mu σ (.ref n) S = .nx (σ.set i (some (.ref n))) S := rfl
@[simp] theorem asg_ownT (i : Nat) (l : List D) : asgV i true σ (.own l) S = .nx (σ.set i (some (.ref S.length))) (S ++ [.lst l]) := rfl
@[simp] theorem asg_ownF (i : Nat) (l : List D) : asgV i false σ (.own l) S = .nx (σ.set i (some (.d (.list l)))) S := rfl
@[simp] theorem x_Unp (p : Pat) : sUnp p c σ S = (c σ S).then σ fun a S1 => match bindP S1 p a.fz σ with | some σ1 => .nx σ1 S1 | none => .stuck := rfl
@[simp] theorem x_Par (i j : Nat) : sPar i j l σ S = (match l σ S with | .ok [a, b] S1 => .nx ((σ.set i (some a)).set j (some b)) S1 | .ok _ _ => .stuck | .err x S1 => .er x σ S1 | .stuck => .stuck) := rfl
@[simp] theorem x_Expr : sExpr c σ S = (c σ S).then σ fun _ S1 => .nx σ S1 := rfl
@[simp] theorem x_Ret : sRet c σ S = (c σ S).then σ fun a S1 => .rt a S1 := rfl
@[simp] theorem x_RetN : sRetN σ S = .rt (.d .none) S := rfl
@[simp] theorem x_Skip : sSkip σ S = .nx σ S := rfl
@[simp] theorem x_Break : sBreak σ S = .bk σ S := rfl
@[simp] theorem x_Cont : sCont σ S = .ct σ S := rfl
@[simp] theorem x_For (it : It1) (p : Pat) : sFor it p s σ S = (match it σ S with | .ok l S1 => forGo p s l σ S1 | .err x S1 => .er x σ S1 | .stuck => .stuck) := rfl
@[simp] theorem for_nil (p : Pat) : forGo p s [] σ S = .nx σ S := rfl
theorem for_cons (p : Pat) (x : D) (r : List D) : forGo p s (x :: r) σ S = (match bindP S p (.d x) σ with
    | none => .stuck
    | some σ1 => match s σ1 S with
      | .nx σ2 S2 => forGo p s r σ2 S2
      | .ct σ2 S2 => forGo p s r σ2 S2
      | .bk σ2 S2 => .nx σ2 S2
      | r' => r') := rfl
@[simp] theorem x_itL (f : List AV → AS → Option (List D × AS)) : itL l f σ S = (match l σ S with | .ok as S1 => (match f as S1 with | some (m, S2) => .ok m S2 | none => .stuck) | .err x S1 => .err x S1 | .stuck => .stuck) := rfl
@[simp] theorem bind_nm (i : Nat) : bindP S (.nm i) a σ = some (σ.set i (some a)) := by unfold bindP; rfl
@[simp] theorem bind_tpT (ps : Pats) (l : List D) : bindP S (.tp ps) (.d (.tuple l)) σ = bindPs S ps l σ := by unfold bindP; rfl
@[simp] theorem bind_tpL (ps : Pats) (l : List D) : bindP S (.tp ps) (.d (.list l)) σ = bindPs S ps l σ := by unfold bindP; rfl
@[simp] theorem binds_nil : bindPs S .nil [] σ = some σ := by unfold bindPs; rfl
@[simp] theorem binds_cons (p : Pat) (ps : Pats) (x : D) (l : List D) : bindPs S (.cons p ps) (x :: l) σ = (match bindP S p (.d x) σ with | some σ1 => bindPs S ps l σ1 | none => none) := by
  first
    | (rw [bindPs]; done)
    | (rw [bindPs]; cases bindP S p (.d x) σ <;> rfl)
@[simp] theorem tup_d0 : vTupD [] S = some (.d (.tuple []), S) := rfl
@[simp] theorem tup_d1 (x : D) : vTupD [.d x] S = some (.d (.tuple [x]), S) := rfl
@[simp] theorem tup_d2 (x y : D) : vTupD [.d x, .d y] S = some (.d (.tuple [x, y]), S) := rfl
@[simp] theorem tup_d3 (x y z : D) : vTupD [.d x, .d y, .d z] S = some (.d (.tuple [x, y, z]), S) := rfl
@[simp] theorem lst_d (x y : D) : vLstD [.d x, .d y] S = some (.own [x, y], S) := rfl
@[simp] theorem ix0 (x : D) (l : List D) : vIx (.d (.tuple (x :: l))) (.d (.int 0)) S = some (.d x, S) := by
  show (match atD (x :: l) 0 with | some x => some (AV.d x, S) | none => none) = _
  have : atD (x :: l) 0 = some x := by simp [atD, ixN]
  rw [this]
end
@[simp] theorem add_i (i j : Int) (S : AS) : bAdd (.d (.int i)) (.d (.int j)) S = some (.d (.int (i + j)), S) := rfl
@[simp] theorem sub_i (i j : Int) (S : AS) : bSub (.d (.int i)) (.d (.int j)) S = some (.d (.int (i - j)), S) := rfl
theorem mul_i {i j : Int} {S : AS} (h : i.natAbs.log2 + j.natAbs.log2 < 100000000) : bMul (.d (.int i)) (.d (.int j)) S = some (.d (.int (i * j)), S) := if_pos h
theorem mod_i {i j : Int} {S : AS} (h : 0 < j) : bMod (.d (.int i)) (.d (.int j)) S = some (.d (.int (i % j)), S) := if_pos h
theorem fdiv_i {i j : Int} {S : AS} (h : 0 < j) (h2 : j.natAbs.log2 < 9000) : bFdiv (.d (.int i)) (.d (.int j)) S = some (.d (.int (i / j)), S) := if_pos ⟨h, h2⟩
@[simp] theorem lt_i (i j : Int) (S : AS) : cop .Lt (.d (.int i)) (.d (.int j)) S = some (.d (.bool (decide (i < j))), S) := rfl
@[simp] theorem le_i (i j : Int) (S : AS) : cop .LtE (.d (.int i)) (.d (.int j)) S = some (.d (.bool (decide (i ≤ j))), S) := rfl
@[simp] theorem gt_i (i j : Int) (S : AS) : cop .Gt (.d (.int i)) (.d (.int j)) S = some (.d (.bool (decide (j < i))), S) := rfl
@[simp] theorem ge_i (i j : Int) (S : AS) : cop .GtE (.d (.int i)) (.d (.int j)) S = some (.d (.bool (decide (j ≤ i))), S) := rfl
@[simp] theorem eq_ii (i j : Int) (S : AS) : cop .Eq (.d (.int i)) (.d (.int j)) S = some (.d (.bool (decide (i = j))), S) := by
  have : PyData.eqv (.int i) (.int j) = decide (i = j) := by
    show (i == j) = decide (i = j)
    by_cases e : i = j
    · rw [e]
      simp
    · rw [decide_eq_false e]
      simpa using e
  show (match eqD (some (.int i)) (some (.int j)) with | some k => some (AV.d (.bool k), S) | none => none) = _
  show some (AV.d (.bool (PyData.eqv (.int i) (.int j))), S) = _
  rw [this]
@[simp] theorem ne_ii (i j : Int) (S : AS) : cop .NotEq (.d (.int i)) (.d (.int j)) S = some (.d (.bool (!decide (i = j))), S) := by
  have : PyData.eqv (.int i) (.int j) = decide (i = j) := by
    show (i == j) = decide (i = j)
    by_cases e : i = j
    · rw [e]
      simp
    · rw [decide_eq_false e]
      simpa using e
  show some (AV.d (.bool (!PyData.eqv (.int i) (.int j))), S) = _
  rw [this]
@[simp] theorem is_none (x : D) (S : AS) : cop .Is (.d x) (.d .none) S = some (.d (.bool (isNoneAV (.d x))), S) := by cases x <;> rfl
@[simp] theorem isnot_none (x : D) (S : AS) : cop .IsNot (.d x) (.d .none) S = some (.d (.bool (!isNoneAV (.d x))), S) := by cases x <;> rfl
@[simp] theorem isn_n : isNoneAV (.d .none) = true := rfl
@[simp] theorem isn_i (i : Int) : isNoneAV (.d (.int i)) = false := rfl
@[simp] theorem isn_t (i : List D) : isNoneAV (.d (.tuple i)) = false := rfl
@[simp] theorem isn_b (i : Bool) : isNoneAV (.d (.bool i)) = false := rfl
@[simp] theorem is_bb (i j : Bool) (S : AS) : cop .Is (.d (.bool i)) (.d (.bool j)) S = some (.d (.bool (decide (i = j))), S) := rfl
@[simp] theorem isnot_bb (i j : Bool) (S : AS) : cop .IsNot (.d (.bool i)) (.d (.bool j)) S = some (.d (.bool (!decide (i = j))), S) := rfl
@[simp] theorem len_t (l : List D) (S : AS) : vLen [.d (.tuple l)] S = some (.d (.int l.length), S) := rfl
@[simp] theorem len_l (l : List D) (S : AS) : vLen [.d (.list l)] S = some (.d (.int l.length), S) := rfl
@[simp] theorem vtuple_t (l : List D) (S : AS) : vTuple [.d (.tuple l)] S = some (.d (.tuple l), S) := rfl
@[simp] theorem vtuple_l (l : List D) (S : AS) : vTuple [.d (.list l)] S = some (.d (.tuple l), S) := rfl
@[simp] theorem vlist_t (l : List D) (S : AS) : vList [.d (.tuple l)] S = some (.own l, S) := rfl
@[simp] theorem vlist_l (l : List D) (S : AS) : vList [.d (.list l)] S = some (.own l, S) := rfl
@[simp] theorem vabs_i (i : Int) (S : AS) : vAbs [.d (.int i)] S = some (.d (.int (if i < 0 then -i else i)), S) := rfl
@[simp] theorem vint_i (i : Int) (S : AS) : vInt [.d (.int i)] S = some (.d (.int i), S) := rfl
@[simp] theorem vmin_i (i j : Int) (S : AS) : vMin [.d (.int i), .d (.int j)] S = some (.d (.int (if j < i then j else i)), S) := rfl
@[simp] theorem vmax_i (i j : Int) (S : AS) : vMax [.d (.int i), .d (.int j)] S = some (.d (.int (if j > i then j else i)), S) := rfl
@[simp] theorem vgcd_i (i j : Int) (S : AS) : vGcd [.d (.int i), .d (.int j)] S = some (.d (.int ((Nat.gcd i.natAbs j.natAbs : Nat) : Int)), S) := rfl
@[simp] theorem ix_t (l : List D) (k : Int) (S : AS) : vIx (.d (.tuple l)) (.d (.int k)) S = (match atD l k with | some x => some (.d x, S) | none => none) := rfl
@[simp] theorem ix_l (l : List D) (k : Int) (S : AS) : vIx (.d (.list l)) (.d (.int k)) S = (match atD l k with | some x => some (.d x, S) | none => none) := rfl
@[simp] theorem at_0 (x : D) (l : List D) : atD (x :: l) 0 = some x := by simp [atD, ixN]
theorem at_nat {l : List D} {i : Nat} {x : D} (h : l[i]? = some x) : atD l (i : Int) = some x := by
  have hi := (List.getElem?_eq_some_iff.mp h).1
  have e : ixN l.length (i : Int) = some i := by
    unfold ixN
    have h0 : ¬ ((i : Int) < 0) := by omega
    simp [h0, hi]
  unfold atD
  rw [e]
  exact h
@[simp] theorem at_1 (x y : D) (l : List D) : atD (x :: y :: l) 1 = some y := at_nat (i := 1) rfl
@[simp] theorem at_2 (x y z : D) (l : List D) : atD (x :: y :: z :: l) 2 = some z := at_nat (i := 2) rfl
@[simp] theorem fin_d (n : Nat) (x : D) (S : AS) : finA n (.d x) S = .ok (.d x) (S.take n) := rfl
@[simp] theorem fin_own (n : Nat) (l : List D) (S : AS) : finA n (.own l) S = .ok (.own l) (S.take n) := rfl
theorem den_of {n : Nat} {c : Sn} {as : List AV} {S : AS} : defD n c as S = (match c (as.map some ++ List.replicate (n - as.length) none) S with
  | .nx _ S' => .ok (.d .none) (S'.take S.length)
  | .rt a S' => finA S.length a S'
  | .er x _ S' => .err x (S'.take S.length)
  | _ => .stuck) := rfl
end Den
namespace K72
open PySem PySem.Spec PyProof.Rows L2 Den
def c_is_int : Sn :=
  (sRet (dAnd (dIsi ["int"] (dVar 0)) (dNot (dIsi ["bool"] (dVar 0)))))
def den_is_int : List AV → AS → ER := defD 1 c_is_int
def fuel_plain_form : ASt → AS → Nat := fun _ _ => 1000
def c_plain_form : Sn :=
  (sSeq (sIf (dNot (dTru (dIsi ["list", "tuple"] (dVar 0))))
    (sRet (dVar 0))
    sSkip)
    (sSeq (sAsg 1 true (dCallV vLstD (lCons (dCallV vTupD (lCons (dVar 0) (lCons (dC (.int 0)) (lCons (dCallV vTupD lNil) lNil)))) lNil)))
    (sSeq (sAsg 2 false (dCallV vTupD lNil))
    (sSeq (sWhile fuel_plain_form (dTru (dVar 1))
    (sSeq (sUnp (.tp (.cons (.nm 3) (.cons (.nm 4) (.cons (.nm 5) .nil)))) (dMeth mPop (dVar 1) lNil))
    (sIf (dAnd (dBin (cop .Lt) (dVar 4) (dCallV vLen (lCons (dVar 3) lNil))) (dTru (dIsi ["list", "tuple"] (dBin vIx (dVar 3) (dVar 4)))))
    (sSeq (sExpr (dMeth mAppend (dVar 1) (lCons (dCallV vTupD (lCons (dVar 3) (lCons (dVar 4) (lCons (dVar 5) lNil)))) lNil)))
    (sExpr (dMeth mAppend (dVar 1) (lCons (dCallV vTupD (lCons (dBin vIx (dVar 3) (dVar 4)) (lCons (dC (.int 0)) (lCons (dCallV vTupD lNil) lNil)))) lNil))))
    (sIf (dBin (cop .Lt) (dVar 4) (dCallV vLen (lCons (dVar 3) lNil)))
    (sExpr (dMeth mAppend (dVar 1) (lCons (dCallV vTupD (lCons (dVar 3) (lCons (dBin bAdd (dVar 4) (dC (.int 1))) (lCons (dBin bAdd (dVar 5) (dCallV vTupD (lCons (dBin vIx (dVar 3) (dVar 4)) lNil))) lNil)))) lNil)))
    (sIf (dTru (dVar 1))
    (sSeq (sUnp (.tp (.cons (.nm 6) (.cons (.nm 7) (.cons (.nm 8) .nil)))) (dMeth mPop (dVar 1) lNil))
    (sExpr (dMeth mAppend (dVar 1) (lCons (dCallV vTupD (lCons (dVar 6) (lCons (dBin bAdd (dVar 7) (dC (.int 1))) (lCons (dBin bAdd (dVar 8) (dCallV vTupD (lCons (dVar 5) lNil))) lNil)))) lNil))))
    (sAsg 2 false (dVar 5)))))))
    (sRet (dVar 2))))))
def den_plain_form : List AV → AS → ER := defD 9 c_plain_form
def c_check_number : Sn :=
  (sSeq (sIf (dOr (dNot (dTru (dCall (arity 1 den_is_int) (lCons (dVar 0) lNil)))) (dBin (cop .Lt) (dVar 0) (dVar 1)))
    (sRaise "BadNumber" "at" (lCons (dCall (arity 1 den_plain_form) (lCons (dVar 0) lNil)) lNil))
    sSkip)
    (sRet (dVar 0)))
def den_check_number : List AV → AS → ER := defD 2 c_check_number
def c_wrong_fence_part : Sn :=
  (sSeq (sIf (dOr (dNot (dTru (dIsi ["tuple", "list"] (dVar 0)))) (dBin (cop .NotEq) (dCallV vLen (lCons (dVar 0) lNil)) (dC (.int 3))))
    (sRet (dNeg (dC (.int 1))))
    sSkip)
    (sSeq (sUnp (.tp (.cons (.nm 1) (.cons (.nm 2) (.cons (.nm 3) .nil)))) (dVar 0))
    (sSeq (sIf (dNot (dTru (dCall (arity 1 den_is_int) (lCons (dVar 1) lNil))))
    (sRet (dC (.int 0)))
    sSkip)
    (sSeq (sIf (dOr (dNot (dTru (dCall (arity 1 den_is_int) (lCons (dVar 2) lNil)))) (dBin (cop .Lt) (dVar 2) (dVar 1)))
    (sRet (dC (.int 1)))
    sSkip)
    (sSeq (sIf (dOr (dNot (dTru (dCall (arity 1 den_is_int) (lCons (dVar 3) lNil)))) (dBin (cop .Lt) (dVar 3) (dC (.int 0))))
    (sRet (dC (.int 2)))
    sSkip)
    (sSeq (sIf (dBin (cop .Eq) (dVar 3) (dC (.int 0)))
    (sRet (dIf (dBin (cop .Eq) (dVar 1) (dVar 2)) (dC .none) (dC (.int 2))))
    sSkip)
    (sRet (dIf (dAnd (dBin (cop .Lt) (dVar 1) (dVar 2)) (dBin (cop .Eq) (dBin bMod (dBin bSub (dVar 2) (dVar 1)) (dVar 3)) (dC (.int 0)))) (dC .none) (dC (.int 2))))))))))
def den_wrong_fence_part : List AV → AS → ER := defD 4 c_wrong_fence_part
def c_check_fence : Sn :=
  (sSeq (sAsg 1 false (dCall (arity 1 den_wrong_fence_part) (lCons (dVar 0) lNil)))
    (sSeq (sIf (dBin (cop .IsNot) (dVar 1) (dC .none))
    (sRaise "BadRow" "at" (lCons (dVar 1) lNil))
    sSkip)
    (sRet (dCallV vTuple (lCons (dVar 0) lNil)))))
def den_check_fence : List AV → AS → ER := defD 2 c_check_fence
def c_check_other_fence : Sn :=
  (sSeq (sAsg 1 false (dCall (arity 1 den_wrong_fence_part) (lCons (dVar 0) lNil)))
    (sSeq (sIf (dBin (cop .IsNot) (dVar 1) (dC .none))
    (sRaise "BadRow" "at" (lCons (dCallV vTupD (lCons (dNeg (dC (.int 2))) (lCons (dVar 1) lNil))) lNil))
    sSkip)
    (sRet (dCallV vTuple (lCons (dVar 0) lNil)))))
def den_check_other_fence : List AV → AS → ER := defD 2 c_check_other_fence
def c_check_integers : Sn :=
  (sSeq (sIf (dOr (dNot (dTru (dIsi ["tuple", "list"] (dVar 0)))) (dBin (cop .Eq) (dCallV vLen (lCons (dVar 0) lNil)) (dC (.int 0))))
    (sRaise "BadRow" "at" (lCons (dNeg (dC (.int 1))) lNil))
    sSkip)
    (sSeq (sFor (itL (lCons (dVar 0) lNil) fEnumS) (.tp (.cons (.nm 1) (.cons (.nm 2) .nil)))
    (sIf (dNot (dTru (dCall (arity 1 den_is_int) (lCons (dVar 2) lNil))))
    (sRaise "BadRow" "at" (lCons (dVar 1) lNil))
    sSkip))
    (sRet (dCallV vTuple (lCons (dVar 0) lNil)))))
def den_check_integers : List AV → AS → ER := defD 3 c_check_integers
def c_fence_of_plain : Sn :=
  (sSeq (sAsg 1 false (dCallV vMin (lCons (dVar 0) lNil)))
    (sSeq (sAsg 2 false (dC (.int 0)))
    (sSeq (sFor (iSeq (dVar 0)) (.nm 3)
    (sAsg 2 false (dCallV vGcd (lCons (dVar 2) (lCons (dBin bSub (dVar 3) (dVar 1)) lNil)))))
    (sRet (dCallV vTupD (lCons (dVar 1) (lCons (dCallV vMax (lCons (dVar 0) lNil)) (lCons (dVar 2) lNil))))))))
def den_fence_of_plain : List AV → AS → ER := defD 4 c_fence_of_plain
def c_fence_of : Sn :=
  (sRet (dCall (arity 1 den_fence_of_plain) (lCons (dCall (arity 1 den_check_integers) (lCons (dVar 0) lNil)) lNil)))
def den_fence_of : List AV → AS → ER := defD 1 c_fence_of
def c_holds_number : Sn :=
  (sSeq (sUnp (.tp (.cons (.nm 2) (.cons (.nm 3) (.cons (.nm 4) .nil)))) (dVar 0))
    (sSeq (sIf (dBin (cop .Eq) (dVar 4) (dC (.int 0)))
    (sRet (dBin (cop .Eq) (dVar 1) (dVar 2)))
    sSkip)
    (sRet (dAnd (dChain (cop .LtE) (cop .LtE) (dVar 2) (dVar 1) (dVar 3)) (dBin (cop .Eq) (dBin bMod (dBin bSub (dVar 1) (dVar 2)) (dVar 4)) (dC (.int 0)))))))
def den_holds_number : List AV → AS → ER := defD 5 c_holds_number
def c_has_number : Sn :=
  (sSeq (sAsg 2 false (dCall (arity 1 den_check_fence) (lCons (dVar 0) lNil)))
    (sSeq (sIf (dNot (dTru (dCall (arity 1 den_is_int) (lCons (dVar 1) lNil))))
    (sRaise "BadNumber" "at" (lCons (dCall (arity 1 den_plain_form) (lCons (dVar 1) lNil)) lNil))
    sSkip)
    (sRet (dCall (arity 2 den_holds_number) (lCons (dVar 2) (lCons (dVar 1) lNil))))))
def den_has_number : List AV → AS → ER := defD 3 c_has_number
def c_fence_size : Sn :=
  (sSeq (sUnp (.tp (.cons (.nm 1) (.cons (.nm 2) (.cons (.nm 3) .nil)))) (dCall (arity 1 den_check_fence) (lCons (dVar 0) lNil)))
    (sRet (dIf (dBin (cop .Eq) (dVar 3) (dC (.int 0))) (dC (.int 1)) (dBin bAdd (dBin bFdiv (dBin bSub (dVar 2) (dVar 1)) (dVar 3)) (dC (.int 1))))))
def den_fence_size : List AV → AS → ER := defD 4 c_fence_size
def fuel_turned_by : ASt → AS → Nat := fun (σ : List (Option AV)) _ => match σ[3]? with
  | some (some (AV.d (PyData.int r))) => r.natAbs + 2
  | _ => 0
def c_turned_by : Sn :=
  (sSeq (sPar 2 3 (lCons (dVar 1) (lCons (dBin bMod (dVar 0) (dVar 1)) lNil)))
    (sSeq (sUnp (.tp (.cons (.nm 4) (.cons (.nm 5) .nil))) (dCallV vTupD (lCons (dC (.int 0)) (lCons (dC (.int 1)) lNil))))
    (sSeq (sWhile fuel_turned_by (dBin (cop .NotEq) (dVar 3) (dC (.int 0)))
    (sSeq (sAsg 6 false (dBin bFdiv (dVar 2) (dVar 3)))
    (sSeq (sPar 2 3 (lCons (dVar 3) (lCons (dBin bSub (dVar 2) (dBin bMul (dVar 6) (dVar 3))) lNil)))
    (sPar 4 5 (lCons (dVar 5) (lCons (dBin bSub (dVar 4) (dBin bMul (dVar 6) (dVar 5))) lNil))))))
    (sRet (dBin bMod (dVar 4) (dVar 1))))))
def den_turned_by : List AV → AS → ER := defD 7 c_turned_by
def c_common_numbers : Sn :=
  (sSeq (sPar 2 3 (lCons (dBin vIx (dVar 0) (dC (.int 2))) (lCons (dBin vIx (dVar 1) (dC (.int 2))) lNil)))
    (sSeq (sAsg 4 false (dCallV vGcd (lCons (dVar 2) (lCons (dVar 3) lNil))))
    (sSeq (sIf (dBin (cop .NotEq) (dBin bMod (dBin bSub (dBin vIx (dVar 1) (dC (.int 0))) (dBin vIx (dVar 0) (dC (.int 0)))) (dVar 4)) (dC (.int 0)))
    (sRet (dC .none))
    sSkip)
    (sSeq (sAsg 5 false (dBin bFdiv (dVar 3) (dVar 4)))
    (sSeq (sAsg 6 false (dBin bMul (dBin bFdiv (dBin bSub (dBin vIx (dVar 1) (dC (.int 0))) (dBin vIx (dVar 0) (dC (.int 0)))) (dVar 4)) (dCall (arity 2 den_turned_by) (lCons (dBin bFdiv (dVar 2) (dVar 4)) (lCons (dVar 5) lNil)))))
    (sSeq (sAsg 7 false (dCallV vLcm (lCons (dVar 2) (lCons (dVar 3) lNil))))
    (sSeq (sPar 8 9 (lCons (dCallV vMax (lCons (dBin vIx (dVar 0) (dC (.int 0))) (lCons (dBin vIx (dVar 1) (dC (.int 0))) lNil))) (lCons (dCallV vMin (lCons (dBin vIx (dVar 0) (dC (.int 1))) (lCons (dBin vIx (dVar 1) (dC (.int 1))) lNil))) lNil)))
    (sSeq (sAsg 10 false (dBin bAdd (dBin vIx (dVar 0) (dC (.int 0))) (dBin bMul (dVar 2) (dBin bMod (dVar 6) (dVar 5)))))
    (sSeq (sAsg 10 false (dBin bAdd (dVar 10) (dBin bMul (dBin bFdiv (dBin bSub (dBin bAdd (dBin bSub (dVar 8) (dVar 10)) (dVar 7)) (dC (.int 1))) (dVar 7)) (dVar 7))))
    (sSeq (sIf (dBin (cop .Gt) (dVar 10) (dVar 9))
    (sRet (dC .none))
    sSkip)
    (sSeq (sAsg 11 false (dBin bAdd (dVar 10) (dBin bMul (dBin bFdiv (dBin bSub (dVar 9) (dVar 10)) (dVar 7)) (dVar 7))))
    (sRet (dCallV vTupD (lCons (dVar 10) (lCons (dVar 11) (lCons (dIf (dBin (cop .Eq) (dVar 10) (dVar 11)) (dC (.int 0)) (dVar 7)) lNil))))))))))))))))
def den_common_numbers : List AV → AS → ER := defD 12 c_common_numbers
def c_fences_met : Sn :=
  (sSeq (sAsg 2 false (dCall (arity 1 den_check_fence) (lCons (dVar 0) lNil)))
    (sSeq (sAsg 3 false (dCall (arity 1 den_check_other_fence) (lCons (dVar 1) lNil)))
    (sSeq (sIf (dBin (cop .Eq) (dBin vIx (dVar 2) (dC (.int 2))) (dC (.int 0)))
    (sRet (dIf (dTru (dCall (arity 2 den_holds_number) (lCons (dVar 3) (lCons (dBin vIx (dVar 2) (dC (.int 0))) lNil)))) (dVar 2) (dC .none)))
    sSkip)
    (sSeq (sIf (dBin (cop .Eq) (dBin vIx (dVar 3) (dC (.int 2))) (dC (.int 0)))
    (sRet (dIf (dTru (dCall (arity 2 den_holds_number) (lCons (dVar 2) (lCons (dBin vIx (dVar 3) (dC (.int 0))) lNil)))) (dVar 3) (dC .none)))
    sSkip)
    (sRet (dCall (arity 2 den_common_numbers) (lCons (dVar 2) (lCons (dVar 3) lNil))))))))
def den_fences_met : List AV → AS → ER := defD 4 c_fences_met
def c_is_fence_within : Sn :=
  (sSeq (sAsg 2 false (dCall (arity 1 den_check_fence) (lCons (dVar 0) lNil)))
    (sSeq (sAsg 3 false (dCall (arity 1 den_check_other_fence) (lCons (dVar 1) lNil)))
    (sSeq (sIf (dOr (dNot (dTru (dCall (arity 2 den_holds_number) (lCons (dVar 3) (lCons (dBin vIx (dVar 2) (dC (.int 0))) lNil))))) (dNot (dTru (dCall (arity 2 den_holds_number) (lCons (dVar 3) (lCons (dBin vIx (dVar 2) (dC (.int 1))) lNil))))))
    (sRet (dC (.bool false)))
    sSkip)
    (sRet (dOr (dBin (cop .Eq) (dBin vIx (dVar 2) (dC (.int 2))) (dC (.int 0))) (dBin (cop .Eq) (dBin bMod (dBin vIx (dVar 2) (dC (.int 2))) (dBin vIx (dVar 3) (dC (.int 2)))) (dC (.int 0))))))))
def den_is_fence_within : List AV → AS → ER := defD 4 c_is_fence_within
def c_fence_behind : Sn :=
  (sSeq (sAsg 2 false (dCall (arity 1 den_check_fence) (lCons (dVar 0) lNil)))
    (sSeq (sAsg 3 false (dCall (arity 1 den_check_other_fence) (lCons (dVar 1) lNil)))
    (sRet (dCallV vTupD (lCons (dBin bAdd (dBin vIx (dVar 2) (dC (.int 0))) (dBin vIx (dVar 3) (dC (.int 0)))) (lCons (dBin bAdd (dBin vIx (dVar 2) (dC (.int 1))) (dBin vIx (dVar 3) (dC (.int 1)))) (lCons (dCallV vGcd (lCons (dBin vIx (dVar 2) (dC (.int 2))) (lCons (dBin vIx (dVar 3) (dC (.int 2))) lNil))) lNil)))))))
def den_fence_behind : List AV → AS → ER := defD 4 c_fence_behind
def c_either_fence : Sn :=
  (sSeq (sAsg 2 false (dCallV vGcd (lCons (dCallV vGcd (lCons (dBin vIx (dVar 0) (dC (.int 2))) (lCons (dBin vIx (dVar 1) (dC (.int 2))) lNil))) (lCons (dBin bSub (dBin vIx (dVar 1) (dC (.int 0))) (dBin vIx (dVar 0) (dC (.int 0)))) lNil))))
    (sRet (dCallV vTupD (lCons (dCallV vMin (lCons (dBin vIx (dVar 0) (dC (.int 0))) (lCons (dBin vIx (dVar 1) (dC (.int 0))) lNil))) (lCons (dCallV vMax (lCons (dBin vIx (dVar 0) (dC (.int 1))) (lCons (dBin vIx (dVar 1) (dC (.int 1))) lNil))) (lCons (dVar 2) lNil))))))
def den_either_fence : List AV → AS → ER := defD 3 c_either_fence
def c_fence_either : Sn :=
  (sSeq (sAsg 2 false (dCall (arity 1 den_check_fence) (lCons (dVar 0) lNil)))
    (sRet (dCall (arity 2 den_either_fence) (lCons (dVar 2) (lCons (dCall (arity 1 den_check_other_fence) (lCons (dVar 1) lNil)) lNil)))))
def den_fence_either : List AV → AS → ER := defD 3 c_fence_either
def c_fence_times : Sn :=
  (sSeq (sUnp (.tp (.cons (.nm 2) (.cons (.nm 3) (.cons (.nm 4) .nil)))) (dCall (arity 1 den_check_fence) (lCons (dVar 0) lNil)))
    (sSeq (sExpr (dCall (arity 2 den_check_number) (lCons (dVar 1) (lCons (dC (.int 1)) lNil))))
    (sRet (dCallV vTupD (lCons (dBin bMul (dVar 1) (dVar 2)) (lCons (dBin bMul (dVar 1) (dVar 3)) (lCons (dVar 4) lNil)))))))
def den_fence_times : List AV → AS → ER := defD 5 c_fence_times
def c_law_draws : Sn :=
  (sSeq (sAsg 1 true (dCallV vLstD lNil))
    (sSeq (sFor (itL (lCons (dCallV vMin (lCons (dCallV vLen (lCons (dVar 0) lNil)) (lCons (dC (.int 63)) lNil))) lNil) fRng1) (.nm 2)
    (sSeq (sAsg 3 false (dCallV vInt (lCons (dBin vIx (dVar 0) (dVar 2)) lNil)))
    (sSeq (sIf (dBin (cop .Lt) (dVar 3) (dC (.int 0)))
    (sAsg 3 false (dBin bSub (dC (.int 11)) (dBin bMul (dC (.int 2)) (dVar 3))))
    sSkip)
    (sSeq (sAsg 3 false (dBin bMod (dCallV vInt (lCons (dVar 3) lNil)) (dBin bPow (dC (.int 30)) (dC (.int 24)))))
    (sFor (itL (lCons (dC (.int 24)) lNil) fRng1) (.nm 4)
    (sSeq (sExpr (dMeth mAppend (dVar 1) (lCons (dBin bMod (dCallV vInt (lCons (dVar 3) lNil)) (dC (.int 30))) lNil)))
    (sSeq (sAsg 3 false (dBin bFdiv (dVar 3) (dC (.int 30))))
    (sIf (dBin (cop .Eq) (dVar 3) (dC (.int 0)))
    sBreak
    sSkip))))))))
    (sSeq (sExpr (dMeth mReverse (dVar 1) lNil))
    (sRet (dVar 1)))))
def den_law_draws : List AV → AS → ER := defD 5 c_law_draws
def c_law_take : Sn :=
  (sSeq (sIf (dBin (cop .Eq) (dCallV vLen (lCons (dVar 0) lNil)) (dC (.int 0)))
    (sRet (dC (.int 0)))
    sSkip)
    (sRet (dBin bMod (dCallV vInt (lCons (dMeth mPop (dVar 0) lNil) lNil)) (dVar 1))))
def den_law_take : List AV → AS → ER := defD 2 c_law_take
def c_law_gcd : Sn :=
  (sSeq (sAsg 0 false (dCallV vAbs (lCons (dVar 0) lNil)))
    (sSeq (sAsg 1 false (dCallV vAbs (lCons (dVar 1) lNil)))
    (sSeq (sFor (itL (lCons (dC (.int 300)) lNil) fRng1) (.nm 2)
    (sSeq (sIf (dBin (cop .Eq) (dVar 1) (dC (.int 0)))
    sBreak
    sSkip)
    (sPar 0 1 (lCons (dVar 1) (lCons (dBin bMod (dCallV vInt (lCons (dVar 0) lNil)) (dCallV vInt (lCons (dVar 1) lNil))) lNil)))))
    (sRet (dVar 0)))))
def den_law_gcd : List AV → AS → ER := defD 3 c_law_gcd
def c_law_is_number : Sn :=
  (sRet (dAnd (dIsi ["int"] (dVar 0)) (dAnd (dNot (dIsi ["bool"] (dVar 0))) (dBin (cop .Eq) (dVar 0) (dVar 1)))))
def den_law_is_number : List AV → AS → ER := defD 2 c_law_is_number
def c_law_is : Sn :=
  (sSeq (sIf (dBin (cop .Is) (dVar 1) (dC .none))
    (sRet (dBin (cop .Is) (dVar 0) (dC .none)))
    sSkip)
    (sSeq (sIf (dTru (dIsi ["tuple"] (dVar 1)))
    (sSeq (sIf (dOr (dNot (dTru (dIsi ["tuple"] (dVar 0)))) (dBin (cop .NotEq) (dCallV vLen (lCons (dVar 0) lNil)) (dCallV vLen (lCons (dVar 1) lNil))))
    (sRet (dC (.bool false)))
    sSkip)
    (sRet (dBin (cop .Eq) (dCallV vLen (lCons (dLc (itL (lCons (dCallV vLen (lCons (dVar 1) lNil)) lNil) fRng1) (.nm 2) (dNot (dTru (dCall (arity 2 den_law_is_number) (lCons (dBin vIx (dVar 0) (dVar 2)) (lCons (dBin vIx (dVar 1) (dVar 2)) lNil))))) (dVar 2) [2]) lNil)) (dC (.int 0)))))
    sSkip)
    (sRet (dCall (arity 2 den_law_is_number) (lCons (dVar 0) (lCons (dVar 1) lNil))))))
def den_law_is : List AV → AS → ER := defD 3 c_law_is
def c_law_yes : Sn :=
  (sSeq (sIf (dTru (dVar 1))
    (sRet (dBin (cop .Is) (dVar 0) (dC (.bool true))))
    sSkip)
    (sRet (dBin (cop .Is) (dVar 0) (dC (.bool false)))))
def den_law_yes : List AV → AS → ER := defD 2 c_law_yes
def c_law_fence : Sn :=
  (sSeq (sAsg 1 false (dBin bAdd (dBin vIx (dCallV vLstD (lCons (dC (.int 0)) (lCons (dC (.int 3)) (lCons (dNeg (dC (.int 5))) (lCons (dC (.int 12)) (lCons (dNeg (dC (.int 1))) (lCons (dC (.int 7)) lNil))))))) (dCall (arity 2 den_law_take) (lCons (dVar 0) (lCons (dC (.int 6)) lNil)))) (dCall (arity 2 den_law_take) (lCons (dVar 0) (lCons (dC (.int 4)) lNil)))))
    (sSeq (sAsg 2 false (dBin vIx (dCallV vLstD (lCons (dC (.int 4)) (lCons (dC (.int 1)) (lCons (dC (.int 6)) (lCons (dC (.int 3)) (lCons (dC (.int 8)) (lCons (dC (.int 2)) (lCons (dC (.int 5)) lNil)))))))) (dCall (arity 2 den_law_take) (lCons (dVar 0) (lCons (dC (.int 7)) lNil)))))
    (sSeq (sAsg 3 false (dBin vIx (dCallV vLstD (lCons (dC (.int 2)) (lCons (dC (.int 3)) (lCons (dC (.int 1)) (lCons (dC (.int 6)) (lCons (dC (.int 4)) (lCons (dC (.int 5)) (lCons (dC (.int 10)) lNil)))))))) (dCall (arity 2 den_law_take) (lCons (dVar 0) (lCons (dC (.int 7)) lNil)))))
    (sSeq (sIf (dBin (cop .Eq) (dVar 2) (dC (.int 1)))
    (sRet (dCallV vTupD (lCons (dVar 1) (lCons (dVar 1) (lCons (dC (.int 0)) lNil)))))
    sSkip)
    (sRet (dCallV vTupD (lCons (dVar 1) (lCons (dBin bAdd (dVar 1) (dBin bMul (dVar 3) (dBin bSub (dVar 2) (dC (.int 1))))) (lCons (dVar 3) lNil)))))))))
def den_law_fence : List AV → AS → ER := defD 4 c_law_fence
def c_law_numbers : Sn :=
  (sSeq (sIf (dBin (cop .Eq) (dBin vIx (dVar 0) (dC (.int 2))) (dC (.int 0)))
    (sRet (dCallV vLstD (lCons (dBin vIx (dVar 0) (dC (.int 0))) lNil)))
    sSkip)
    (sRet (dCallV vLRg3 (lCons (dBin vIx (dVar 0) (dC (.int 0))) (lCons (dBin bAdd (dBin vIx (dVar 0) (dC (.int 1))) (dC (.int 1))) (lCons (dBin vIx (dVar 0) (dC (.int 2))) lNil))))))
def den_law_numbers : List AV → AS → ER := defD 1 c_law_numbers
def c_law_least : Sn :=
  (sSeq (sIf (dBin (cop .Eq) (dCallV vLen (lCons (dVar 0) lNil)) (dC (.int 0)))
    (sRet (dC .none))
    sSkip)
    (sSeq (sAsg 1 false (dC (.int 0)))
    (sSeq (sFor (iSeq (dVar 0)) (.nm 2)
    (sAsg 1 false (dCall (arity 2 den_law_gcd) (lCons (dVar 1) (lCons (dBin bSub (dVar 2) (dBin vIx (dVar 0) (dC (.int 0)))) lNil)))))
    (sRet (dCallV vTupD (lCons (dCallV vMin (lCons (dVar 0) lNil)) (lCons (dCallV vMax (lCons (dVar 0) lNil)) (lCons (dVar 1) lNil))))))))
def den_law_least : List AV → AS → ER := defD 3 c_law_least
def c_law_sums : Sn :=
  (sSeq (sAsg 2 false (dCallV vLstD lNil))
    (sSeq (sFor (iSeq (dVar 0)) (.nm 3)
    (sAsg 2 false (dBin bAdd (dVar 2) (dLc (iSeq (dVar 1)) (.nm 4) (dBin (cop .NotIn) (dBin bAdd (dVar 3) (dVar 4)) (dVar 2)) (dBin bAdd (dVar 3) (dVar 4)) [4]))))
    (sRet (dVar 2))))
def den_law_sums : List AV → AS → ER := defD 5 c_law_sums
def c_law_far : Sn :=
  (sRet (dCallV vTupD (lCons (dBin bAdd (dBin bMul (dBin vIx (dVar 0) (dC (.int 0))) (dVar 1)) (dVar 2)) (lCons (dBin bAdd (dBin bMul (dBin vIx (dVar 0) (dC (.int 1))) (dVar 1)) (dVar 2)) (lCons (dBin bMul (dBin vIx (dVar 0) (dC (.int 2))) (dVar 1)) lNil)))))
def den_law_far : List AV → AS → ER := defD 3 c_law_far
def c_law_pair_right : Sn :=
  (sSeq (sUnp (.tp (.cons (.nm 4) (.cons (.nm 5) .nil))) (dCallV vTupD (lCons (dCall (arity 1 den_law_numbers) (lCons (dVar 0) lNil)) (lCons (dCall (arity 1 den_law_numbers) (lCons (dVar 1) lNil)) lNil))))
    (sSeq (sAsg 6 false (dLc (iSeq (dVar 4)) (.nm 10) (dBin (cop .In) (dVar 10) (dVar 5)) (dVar 10) [10]))
    (sSeq (sPar 7 8 (lCons (dCall (arity 3 den_law_far) (lCons (dVar 0) (lCons (dVar 2) (lCons (dVar 3) lNil)))) (lCons (dCall (arity 3 den_law_far) (lCons (dVar 1) (lCons (dVar 2) (lCons (dVar 3) lNil)))) lNil)))
    (sSeq (sAsg 9 false (dCall (arity 1 den_law_least) (lCons (dVar 6) lNil)))
    (sSeq (sIf (dBin (cop .IsNot) (dVar 9) (dC .none))
    (sAsg 9 false (dCall (arity 3 den_law_far) (lCons (dVar 9) (lCons (dVar 2) (lCons (dVar 3) lNil)))))
    sSkip)
    (sSeq (sIf (dOr (dNot (dTru (dCall (arity 2 den_law_is) (lCons (dCall (arity 2 den_fences_met) (lCons (dVar 7) (lCons (dCallV vList (lCons (dVar 8) lNil)) lNil))) (lCons (dVar 9) lNil))))) (dNot (dTru (dCall (arity 2 den_law_is) (lCons (dCall (arity 2 den_fences_met) (lCons (dVar 8) (lCons (dVar 7) lNil))) (lCons (dVar 9) lNil))))))
    (sRet (dC (.bool false)))
    sSkip)
    (sSeq (sIf (dNot (dTru (dCall (arity 2 den_law_yes) (lCons (dCall (arity 2 den_is_fence_within) (lCons (dCallV vList (lCons (dVar 7) lNil)) (lCons (dVar 8) lNil))) (lCons (dBin (cop .Eq) (dCallV vLen (lCons (dVar 6) lNil)) (dCallV vLen (lCons (dVar 4) lNil))) lNil)))))
    (sRet (dC (.bool false)))
    sSkip)
    (sSeq (sIf (dBin (cop .IsNot) (dVar 9) (dC .none))
    (sIf (dOr (dBin (cop .IsNot) (dCall (arity 2 den_is_fence_within) (lCons (dVar 9) (lCons (dVar 7) lNil))) (dC (.bool true))) (dBin (cop .IsNot) (dCall (arity 2 den_is_fence_within) (lCons (dVar 9) (lCons (dVar 8) lNil))) (dC (.bool true))))
    (sRet (dC (.bool false)))
    sSkip)
    sSkip)
    (sSeq (sIf (dNot (dTru (dCall (arity 2 den_law_is) (lCons (dCall (arity 2 den_fence_behind) (lCons (dVar 7) (lCons (dVar 8) lNil))) (lCons (dCall (arity 3 den_law_far) (lCons (dCall (arity 1 den_law_least) (lCons (dCall (arity 2 den_law_sums) (lCons (dVar 4) (lCons (dVar 5) lNil))) lNil)) (lCons (dVar 2) (lCons (dBin bMul (dC (.int 2)) (dVar 3)) lNil)))) lNil)))))
    (sRet (dC (.bool false)))
    sSkip)
    (sRet (dCall (arity 2 den_law_is) (lCons (dCall (arity 2 den_fence_either) (lCons (dCallV vList (lCons (dVar 7) lNil)) (lCons (dVar 8) lNil))) (lCons (dCall (arity 3 den_law_far) (lCons (dCall (arity 1 den_law_least) (lCons (dBin bAdd (dVar 4) (dVar 5)) lNil)) (lCons (dVar 2) (lCons (dVar 3) lNil)))) lNil)))))))))))))
def den_law_pair_right : List AV → AS → ER := defD 11 c_law_pair_right
def c_law_one_right : Sn :=
  (sSeq (sAsg 4 false (dCall (arity 1 den_law_numbers) (lCons (dVar 0) lNil)))
    (sSeq (sAsg 5 false (dCall (arity 3 den_law_far) (lCons (dVar 0) (lCons (dVar 1) (lCons (dVar 2) lNil)))))
    (sSeq (sAsg 6 true (dLc (iSeq (dVar 4)) (.nm 8) (dC (.bool true)) (dBin bAdd (dBin bMul (dVar 8) (dVar 1)) (dVar 2)) [8]))
    (sSeq (sAsg 7 false (dBin bAdd (dSl (dVar 6) none (some (dC (.int 1)))) (dLc (itL (lCons (dC (.int 3)) lNil) fRng1) (.nm 11) (dC (.bool true)) (dBin vIx (dVar 6) (dBin bMod (dCall (arity 2 den_law_take) (lCons (dVar 3) (lCons (dC (.int 30)) lNil))) (dCallV vLen (lCons (dVar 6) lNil)))) [11])))
    (sSeq (sIf (dOr (dNot (dTru (dCall (arity 2 den_law_is) (lCons (dCall (arity 1 den_fence_of) (lCons (dBin bAdd (dVar 6) (dVar 7)) lNil)) (lCons (dVar 5) lNil))))) (dNot (dTru (dCall (arity 2 den_law_is) (lCons (dCall (arity 1 den_fence_of) (lCons (dCallV vTuple (lCons (dVar 7) lNil)) lNil)) (lCons (dCall (arity 1 den_law_least) (lCons (dVar 7) lNil)) lNil))))))
    (sRet (dC (.bool false)))
    sSkip)
    (sSeq (sExpr (dMeth mReverse (dVar 6) lNil))
    (sSeq (sIf (dOr (dNot (dTru (dCall (arity 2 den_law_is) (lCons (dCall (arity 1 den_fence_of) (lCons (dVar 6) lNil)) (lCons (dVar 5) lNil))))) (dNot (dTru (dCall (arity 2 den_law_is) (lCons (dCall (arity 1 den_fence_size) (lCons (dCallV vList (lCons (dVar 5) lNil)) lNil)) (lCons (dCallV vLen (lCons (dVar 4) lNil)) lNil))))))
    (sRet (dC (.bool false)))
    sSkip)
    (sSeq (sFor (itL (lCons (dBin bSub (dBin vIx (dVar 0) (dC (.int 0))) (dC (.int 3))) (lCons (dBin bAdd (dBin vIx (dVar 0) (dC (.int 1))) (dC (.int 4))) lNil)) fRng2) (.nm 8)
    (sSeq (sIf (dNot (dTru (dCall (arity 2 den_law_yes) (lCons (dCall (arity 2 den_has_number) (lCons (dVar 5) (lCons (dBin bAdd (dBin bMul (dVar 8) (dVar 1)) (dVar 2)) lNil))) (lCons (dBin (cop .In) (dVar 8) (dVar 4)) lNil)))))
    (sRet (dC (.bool false)))
    sSkip)
    (sIf (dAnd (dBin (cop .Gt) (dVar 1) (dC (.int 1))) (dBin (cop .IsNot) (dCall (arity 2 den_has_number) (lCons (dVar 5) (lCons (dBin bAdd (dBin bAdd (dBin bMul (dVar 8) (dVar 1)) (dVar 2)) (dC (.int 1))) lNil))) (dC (.bool false))))
    (sRet (dC (.bool false)))
    sSkip)))
    (sSeq (sAsg 9 false (dCallV vLstD (lCons (dC (.int 0)) lNil)))
    (sSeq (sFor (itL (lCons (dC (.int 1)) (lCons (dC (.int 5)) lNil)) fRng2) (.nm 10)
    (sSeq (sAsg 9 false (dCall (arity 2 den_law_sums) (lCons (dVar 4) (lCons (dVar 9) lNil))))
    (sIf (dNot (dTru (dCall (arity 2 den_law_is) (lCons (dCall (arity 2 den_fence_times) (lCons (dVar 5) (lCons (dVar 10) lNil))) (lCons (dCall (arity 3 den_law_far) (lCons (dCall (arity 1 den_law_least) (lCons (dVar 9) lNil)) (lCons (dVar 1) (lCons (dBin bMul (dVar 10) (dVar 2)) lNil)))) lNil)))))
    (sRet (dC (.bool false)))
    sSkip)))
    (sSeq (sAsg 10 false (dBin bAdd (dBin bPow (dC (.int 10)) (dC (.int 20))) (dCall (arity 2 den_law_take) (lCons (dVar 3) (lCons (dC (.int 30)) lNil)))))
    (sRet (dCall (arity 2 den_law_is) (lCons (dCall (arity 2 den_fence_times) (lCons (dVar 5) (lCons (dVar 10) lNil))) (lCons (dCallV vTupD (lCons (dBin bMul (dVar 10) (dBin vIx (dVar 5) (dC (.int 0)))) (lCons (dBin bMul (dVar 10) (dBin vIx (dVar 5) (dC (.int 1)))) (lCons (dBin vIx (dVar 5) (dC (.int 2))) lNil)))) lNil)))))))))))))))
def den_law_one_right : List AV → AS → ER := defD 12 c_law_one_right
def c_law_long_right : Sn :=
  (sSeq (sAsg 2 false (dBin vIx (dCallV vLstD (lCons (dC (.int 2)) (lCons (dC (.int 3)) (lCons (dC (.int 6)) (lCons (dBin bAdd (dBin bPow (dC (.int 10)) (dC (.int 9))) (dC (.int 7))) (lCons (dBin bMul (dC (.int 7)) (dBin bPow (dC (.int 10)) (dC (.int 8)))) (lCons (dC (.int 4)) lNil))))))) (dCall (arity 2 den_law_take) (lCons (dVar 0) (lCons (dC (.int 6)) lNil)))))
    (sSeq (sAsg 3 false (dCallV vLstD (lCons (dBin bMul (dVar 2) (dBin bAdd (dC (.int 2)) (dCall (arity 2 den_law_take) (lCons (dVar 0) (lCons (dC (.int 12)) lNil))))) (lCons (dBin bMul (dVar 2) (dBin bAdd (dC (.int 3)) (dCall (arity 2 den_law_take) (lCons (dVar 0) (lCons (dC (.int 12)) lNil))))) lNil))))
    (sSeq (sAsg 4 false (dLc (itL (lCons (dC (.int 4)) lNil) fRng1) (.nm 16) (dC (.bool true)) (dBin bMul (dBin bAdd (dC (.int 1)) (dCall (arity 2 den_law_take) (lCons (dVar 0) (lCons (dC (.int 30)) lNil)))) (dBin vIx (dCallV vLstD (lCons (dC (.int 1)) (lCons (dVar 1) (lCons (dC (.int 1)) (lCons (dC (.int 10)) lNil))))) (dCall (arity 2 den_law_take) (lCons (dVar 0) (lCons (dC (.int 4)) lNil))))) [16]))
    (sSeq (sAsg 5 false (dBin bAdd (dBin vIx (dCallV vLstD (lCons (dC (.int 0)) (lCons (dBin bPow (dC (.int 10)) (dC (.int 30))) (lCons (dBin bSub (dNeg (dBin bPow (dC (.int 10)) (dC (.int 25)))) (dC (.int 1))) lNil)))) (dCall (arity 2 den_law_take) (lCons (dVar 0) (lCons (dC (.int 3)) lNil)))) (dCall (arity 2 den_law_take) (lCons (dVar 0) (lCons (dC (.int 30)) lNil)))))
    (sSeq (sAsg 6 false (dCallV vTupD (lCons (dBin bSub (dVar 5) (dBin bMul (dBin vIx (dVar 4) (dC (.int 0))) (dBin vIx (dVar 3) (dC (.int 0))))) (lCons (dBin bAdd (dVar 5) (dBin bMul (dBin vIx (dVar 4) (dC (.int 1))) (dBin vIx (dVar 3) (dC (.int 0))))) (lCons (dBin vIx (dVar 3) (dC (.int 0))) lNil)))))
    (sSeq (sAsg 7 false (dCallV vTupD (lCons (dBin bSub (dVar 5) (dBin bMul (dBin vIx (dVar 4) (dC (.int 2))) (dBin vIx (dVar 3) (dC (.int 1))))) (lCons (dBin bAdd (dVar 5) (dBin bMul (dBin vIx (dVar 4) (dC (.int 3))) (dBin vIx (dVar 3) (dC (.int 1))))) (lCons (dBin vIx (dVar 3) (dC (.int 1))) lNil)))))
    (sSeq (sAsg 8 false (dBin bMul (dBin bFdiv (dBin vIx (dVar 3) (dC (.int 0))) (dCall (arity 2 den_law_gcd) (lCons (dBin vIx (dVar 3) (dC (.int 0))) (lCons (dBin vIx (dVar 3) (dC (.int 1))) lNil)))) (dBin vIx (dVar 3) (dC (.int 1)))))
    (sSeq (sAsg 9 false (dBin bFdiv (dCallV vMin (lCons (dBin bMul (dBin vIx (dVar 4) (dC (.int 0))) (dBin vIx (dVar 3) (dC (.int 0)))) (lCons (dBin bMul (dBin vIx (dVar 4) (dC (.int 2))) (dBin vIx (dVar 3) (dC (.int 1)))) lNil))) (dVar 8)))
    (sSeq (sAsg 10 false (dBin bFdiv (dCallV vMin (lCons (dBin bMul (dBin vIx (dVar 4) (dC (.int 1))) (dBin vIx (dVar 3) (dC (.int 0)))) (lCons (dBin bMul (dBin vIx (dVar 4) (dC (.int 3))) (dBin vIx (dVar 3) (dC (.int 1)))) lNil))) (dVar 8)))
    (sSeq (sAsg 11 false (dCallV vTupD (lCons (dBin bSub (dVar 5) (dBin bMul (dVar 9) (dVar 8))) (lCons (dBin bAdd (dVar 5) (dBin bMul (dVar 10) (dVar 8))) (lCons (dVar 8) lNil)))))
    (sSeq (sIf (dBin (cop .Eq) (dBin bAdd (dVar 9) (dVar 10)) (dC (.int 0)))
    (sAsg 11 false (dCallV vTupD (lCons (dVar 5) (lCons (dVar 5) (lCons (dC (.int 0)) lNil)))))
    sSkip)
    (sSeq (sIf (dOr (dNot (dTru (dCall (arity 2 den_law_is) (lCons (dCall (arity 2 den_fences_met) (lCons (dVar 6) (lCons (dVar 7) lNil))) (lCons (dVar 11) lNil))))) (dNot (dTru (dCall (arity 2 den_law_is) (lCons (dCall (arity 2 den_fences_met) (lCons (dVar 7) (lCons (dVar 6) lNil))) (lCons (dVar 11) lNil))))))
    (sRet (dC (.bool false)))
    sSkip)
    (sSeq (sAsg 12 false (dCallV vTupD (lCons (dBin bAdd (dBin vIx (dVar 7) (dC (.int 0))) (dC (.int 1))) (lCons (dBin bAdd (dBin vIx (dVar 7) (dC (.int 1))) (dC (.int 1))) (lCons (dBin vIx (dVar 7) (dC (.int 2))) lNil)))))
    (sSeq (sIf (dOr (dBin (cop .IsNot) (dCall (arity 2 den_fences_met) (lCons (dVar 6) (lCons (dVar 12) lNil))) (dC .none)) (dBin (cop .IsNot) (dCall (arity 2 den_is_fence_within) (lCons (dVar 12) (lCons (dVar 6) lNil))) (dC (.bool false))))
    (sRet (dC (.bool false)))
    sSkip)
    (sSeq (sIf (dOr (dBin (cop .IsNot) (dCall (arity 2 den_is_fence_within) (lCons (dVar 11) (lCons (dVar 6) lNil))) (dC (.bool true))) (dBin (cop .IsNot) (dCall (arity 2 den_is_fence_within) (lCons (dVar 11) (lCons (dVar 7) lNil))) (dC (.bool true))))
    (sRet (dC (.bool false)))
    sSkip)
    (sSeq (sIf (dNot (dTru (dCall (arity 2 den_law_is) (lCons (dCall (arity 1 den_fence_size) (lCons (dVar 6) lNil)) (lCons (dBin bAdd (dBin bAdd (dBin vIx (dVar 4) (dC (.int 0))) (dBin vIx (dVar 4) (dC (.int 1)))) (dC (.int 1))) lNil)))))
    (sRet (dC (.bool false)))
    sSkip)
    (sSeq (sAsg 13 false (dCall (arity 2 den_law_gcd) (lCons (dBin vIx (dVar 3) (dC (.int 0))) (lCons (dBin vIx (dVar 3) (dC (.int 1))) lNil))))
    (sSeq (sPar 14 15 (lCons (dCallV vMin (lCons (dBin vIx (dVar 6) (dC (.int 0))) (lCons (dBin vIx (dVar 12) (dC (.int 0))) lNil))) (lCons (dCallV vMax (lCons (dBin vIx (dVar 6) (dC (.int 1))) (lCons (dBin vIx (dVar 12) (dC (.int 1))) lNil))) lNil)))
    (sSeq (sIf (dNot (dTru (dCall (arity 2 den_law_is) (lCons (dCall (arity 2 den_fence_behind) (lCons (dVar 6) (lCons (dVar 7) lNil))) (lCons (dCallV vTupD (lCons (dBin bAdd (dBin vIx (dVar 6) (dC (.int 0))) (dBin vIx (dVar 7) (dC (.int 0)))) (lCons (dBin bAdd (dBin vIx (dVar 6) (dC (.int 1))) (dBin vIx (dVar 7) (dC (.int 1)))) (lCons (dVar 13) lNil)))) lNil)))))
    (sRet (dC (.bool false)))
    sSkip)
    (sRet (dCall (arity 2 den_law_is) (lCons (dCall (arity 2 den_fence_either) (lCons (dVar 6) (lCons (dVar 12) lNil))) (lCons (dCallV vTupD (lCons (dVar 14) (lCons (dVar 15) (lCons (dCall (arity 2 den_law_gcd) (lCons (dVar 13) (lCons (dBin bSub (dBin vIx (dVar 12) (dC (.int 0))) (dBin vIx (dVar 6) (dC (.int 0)))) lNil))) lNil)))) lNil)))))))))))))))))))))))
def den_law_long_right : List AV → AS → ER := defD 17 c_law_long_right
def c_law_asked : Sn :=
  (sSeq (sIf (dBin (cop .Eq) (dVar 0) (dC (.int 0)))
    (sRet (dCall (arity 1 den_fence_of) (lCons (dVar 1) lNil)))
    sSkip)
    (sSeq (sIf (dBin (cop .Eq) (dVar 0) (dC (.int 1)))
    (sRet (dCall (arity 2 den_has_number) (lCons (dVar 1) (lCons (dVar 2) lNil))))
    sSkip)
    (sSeq (sIf (dBin (cop .Eq) (dVar 0) (dC (.int 2)))
    (sRet (dCall (arity 1 den_fence_size) (lCons (dVar 1) lNil)))
    sSkip)
    (sSeq (sIf (dBin (cop .Eq) (dVar 0) (dC (.int 3)))
    (sRet (dCall (arity 2 den_fence_times) (lCons (dVar 1) (lCons (dVar 2) lNil))))
    sSkip)
    (sSeq (sIf (dBin (cop .Eq) (dVar 0) (dC (.int 4)))
    (sRet (dCall (arity 2 den_fences_met) (lCons (dVar 1) (lCons (dVar 2) lNil))))
    sSkip)
    (sSeq (sIf (dBin (cop .Eq) (dVar 0) (dC (.int 5)))
    (sRet (dCall (arity 2 den_is_fence_within) (lCons (dVar 1) (lCons (dVar 2) lNil))))
    sSkip)
    (sSeq (sIf (dBin (cop .Eq) (dVar 0) (dC (.int 6)))
    (sRet (dCall (arity 2 den_fence_behind) (lCons (dVar 1) (lCons (dVar 2) lNil))))
    sSkip)
    (sRet (dCall (arity 2 den_fence_either) (lCons (dVar 1) (lCons (dVar 2) lNil)))))))))))
def den_law_asked : List AV → AS → ER := defD 3 c_law_asked
def c_law_refused : Sn :=
  (sSeq (sAsg 3 false (dC .none))
    (sSeq (sTry (sExpr (dCall (arity 3 den_law_asked) (lCons (dVar 0) (lCons (dVar 1) (lCons (dVar 2) lNil))))) [⟨[("BadNumber", false), ("BadRow", true)], some 4, (sAsg 3 false (dCallV vTupD (lCons (dC (.str "BadRow")) (lCons (dFldT "at" ["BadNumber", "BadRow"] (dVar 4)) (lCons (dIsE [("BadNumber", true), ("BadRow", true)] (dVar 4)) lNil)))))⟩, ⟨[("BadNumber", true), ("BadRow", false)], some 4, (sAsg 3 false (dCallV vTupD (lCons (dC (.str "BadNumber")) (lCons (dFldT "at" ["BadNumber", "BadRow"] (dVar 4)) (lCons (dIsE [("BadNumber", true), ("BadRow", true)] (dVar 4)) lNil)))))⟩, ⟨[("BadNumber", true), ("BadRow", true)], none, (sAsg 3 false (dCallV vTupD (lCons (dC (.str "other")) (lCons (dC (.int 0)) (lCons (dC (.bool true)) lNil)))))⟩])
    (sRet (dVar 3))))
def den_law_refused : List AV → AS → ER := defD 5 c_law_refused
def c_law_refusals : Sn :=
  (sSeq (sAsg 0 false (dCallV vLstD (lCons (dCallV vTupD (lCons (dC (.int 5)) (lCons (dNeg (dC (.int 1))) lNil))) (lCons (dCallV vTupD (lCons (dC (.str "abc")) (lCons (dNeg (dC (.int 1))) lNil))) (lCons (dCallV vTupD (lCons (dCallV vTupD (lCons (dC (.int 1)) (lCons (dC (.int 2)) lNil))) (lCons (dNeg (dC (.int 1))) lNil))) (lCons (dCallV vTupD (lCons (dCallV vTupD (lCons (dC (.int 1)) (lCons (dC (.int 2)) (lCons (dC (.int 1)) (lCons (dC (.int 1)) lNil))))) (lCons (dNeg (dC (.int 1))) lNil))) (lCons (dCallV vTupD (lCons (dCallV vTupD (lCons (dC .none) (lCons (dC (.int 2)) (lCons (dC (.int 1)) lNil)))) (lCons (dC (.int 0)) lNil))) (lCons (dCallV vTupD (lCons (dCallV vTupD (lCons (dC (.bool true)) (lCons (dC (.int 2)) (lCons (dC (.int 1)) lNil)))) (lCons (dC (.int 0)) lNil))) (lCons (dCallV vTupD (lCons (dCallV vTupD (lCons (dC (.str "a")) (lCons (dC (.str "b")) (lCons (dC (.int 1)) lNil)))) (lCons (dC (.int 0)) lNil))) lNil)))))))))
    (sSeq (sAsg 0 false (dBin bAdd (dVar 0) (dCallV vLstD (lCons (dCallV vTupD (lCons (dCallV vTupD (lCons (dC (.int 3)) (lCons (dC (.int 2)) (lCons (dC (.int 1)) lNil)))) (lCons (dC (.int 1)) lNil))) (lCons (dCallV vTupD (lCons (dCallV vTupD (lCons (dC (.int 0)) (lCons (dC (.str "a")) (lCons (dC (.int 1)) lNil)))) (lCons (dC (.int 1)) lNil))) (lCons (dCallV vTupD (lCons (dCallV vTupD (lCons (dC (.int 0)) (lCons (dC (.bool true)) (lCons (dC (.int 1)) lNil)))) (lCons (dC (.int 1)) lNil))) (lCons (dCallV vTupD (lCons (dCallV vTupD (lCons (dC (.int 0)) (lCons (dC (.int 4)) (lCons (dC (.int 3)) lNil)))) (lCons (dC (.int 2)) lNil))) (lCons (dCallV vTupD (lCons (dCallV vTupD (lCons (dC (.int 0)) (lCons (dC (.int 4)) (lCons (dC (.int 0)) lNil)))) (lCons (dC (.int 2)) lNil))) (lCons (dCallV vTupD (lCons (dCallV vTupD (lCons (dC (.int 0)) (lCons (dC (.int 0)) (lCons (dC (.int 1)) lNil)))) (lCons (dC (.int 2)) lNil))) lNil)))))))))
    (sSeq (sAsg 0 false (dBin bAdd (dVar 0) (dCallV vLstD (lCons (dCallV vTupD (lCons (dCallV vTupD (lCons (dC (.int 0)) (lCons (dC (.int 4)) (lCons (dNeg (dC (.int 2))) lNil)))) (lCons (dC (.int 2)) lNil))) (lCons (dCallV vTupD (lCons (dCallV vTupD (lCons (dC (.int 0)) (lCons (dC (.int 4)) (lCons (dC (.str "a")) lNil)))) (lCons (dC (.int 2)) lNil))) (lCons (dCallV vTupD (lCons (dCallV vTupD (lCons (dC (.int 0)) (lCons (dC (.int 1)) (lCons (dC (.bool true)) lNil)))) (lCons (dC (.int 2)) lNil))) (lCons (dCallV vTupD (lCons (dCallV vTupD (lCons (dC (.int 0)) (lCons (dC (.int 4)) (lCons (dC (.int 8)) lNil)))) (lCons (dC (.int 2)) lNil))) lNil)))))))
    (sSeq (sFor (iSeq (dVar 0)) (.tp (.cons (.nm 1) (.cons (.nm 2) .nil)))
    (sSeq (sFor (itL (lCons (dC (.int 1)) (lCons (dC (.int 8)) lNil)) fRng2) (.nm 3)
    (sIf (dBin (cop .NotEq) (dCall (arity 3 den_law_refused) (lCons (dVar 3) (lCons (dVar 1) (lCons (dC (.str "zzz")) lNil)))) (dCallV vTupD (lCons (dC (.str "BadRow")) (lCons (dVar 2) (lCons (dC (.bool true)) lNil)))))
    (sRet (dC (.bool false)))
    sSkip))
    (sFor (itL (lCons (dC (.int 4)) (lCons (dC (.int 8)) lNil)) fRng2) (.nm 3)
    (sIf (dBin (cop .NotEq) (dCall (arity 3 den_law_refused) (lCons (dVar 3) (lCons (dCallV vTupD (lCons (dC (.int 0)) (lCons (dC (.int 4)) (lCons (dC (.int 2)) lNil)))) (lCons (dVar 1) lNil)))) (dCallV vTupD (lCons (dC (.str "BadRow")) (lCons (dCallV vTupD (lCons (dNeg (dC (.int 2))) (lCons (dVar 2) lNil))) (lCons (dC (.bool true)) lNil)))))
    (sRet (dC (.bool false)))
    sSkip))))
    (sSeq (sFor (iSeq (dCallV vLstD (lCons (dCallV vTupD (lCons (dC (.int 5)) (lCons (dNeg (dC (.int 1))) lNil))) (lCons (dCallV vTupD (lCons (dCallV vTupD lNil) (lCons (dNeg (dC (.int 1))) lNil))) (lCons (dCallV vTupD (lCons (dC (.str "12")) (lCons (dNeg (dC (.int 1))) lNil))) (lCons (dCallV vTupD (lCons (dCallV vTupD (lCons (dC (.int 1)) (lCons (dC (.str "a")) (lCons (dC .none) lNil)))) (lCons (dC (.int 1)) lNil))) (lCons (dCallV vTupD (lCons (dCallV vTupD (lCons (dC (.bool true)) (lCons (dC (.int 1)) lNil))) (lCons (dC (.int 0)) lNil))) (lCons (dCallV vTupD (lCons (dCallV vTupD (lCons (dC (.int 1)) (lCons (dC (.int 2)) (lCons (dCallV vTupD (lCons (dC (.int 3)) lNil)) lNil)))) (lCons (dC (.int 2)) lNil))) lNil)))))))) (.tp (.cons (.nm 4) (.cons (.nm 2) .nil)))
    (sIf (dBin (cop .NotEq) (dCall (arity 3 den_law_refused) (lCons (dC (.int 0)) (lCons (dVar 4) (lCons (dC (.int 0)) lNil)))) (dCallV vTupD (lCons (dC (.str "BadRow")) (lCons (dVar 2) (lCons (dC (.bool true)) lNil)))))
    (sRet (dC (.bool false)))
    sSkip))
    (sSeq (sFor (iSeq (dCallV vLstD (lCons (dC (.int 1)) (lCons (dC (.int 3)) lNil)))) (.nm 3)
    (sSeq (sFor (iSeq (dCallV vLstD (lCons (dCallV vTupD (lCons (dC (.str "a")) (lCons (dC (.str "a")) lNil))) (lCons (dCallV vTupD (lCons (dC .none) (lCons (dC .none) lNil))) (lCons (dCallV vTupD (lCons (dCallV vLstD (lCons (dC (.int 1)) lNil)) (lCons (dCallV vTupD (lCons (dC (.int 1)) lNil)) lNil))) (lCons (dCallV vTupD (lCons (dCallV vTupD lNil) (lCons (dCallV vTupD lNil) lNil))) lNil)))))) (.tp (.cons (.nm 5) (.cons (.nm 2) .nil)))
    (sIf (dBin (cop .NotEq) (dCall (arity 3 den_law_refused) (lCons (dVar 3) (lCons (dCallV vTupD (lCons (dC (.int 0)) (lCons (dC (.int 4)) (lCons (dC (.int 2)) lNil)))) (lCons (dVar 5) lNil)))) (dCallV vTupD (lCons (dC (.str "BadNumber")) (lCons (dVar 2) (lCons (dC (.bool true)) lNil)))))
    (sRet (dC (.bool false)))
    sSkip))
    (sSeq (sAsg 6 false (dCall (arity 3 den_law_refused) (lCons (dVar 3) (lCons (dCallV vTupD (lCons (dC (.int 0)) (lCons (dC (.int 4)) (lCons (dC (.int 2)) lNil)))) (lCons (dC (.bool true)) lNil)))))
    (sIf (dOr (dBin (cop .NotEq) (dVar 6) (dCallV vTupD (lCons (dC (.str "BadNumber")) (lCons (dC (.bool true)) (lCons (dC (.bool true)) lNil))))) (dBin (cop .IsNot) (dBin vIx (dVar 6) (dC (.int 1))) (dC (.bool true))))
    (sRet (dC (.bool false)))
    sSkip))))
    (sRet (dAnd (dBin (cop .Eq) (dCall (arity 3 den_law_refused) (lCons (dC (.int 3)) (lCons (dCallV vTupD (lCons (dC (.int 0)) (lCons (dC (.int 4)) (lCons (dC (.int 2)) lNil)))) (lCons (dC (.int 0)) lNil)))) (dCallV vTupD (lCons (dC (.str "BadNumber")) (lCons (dC (.int 0)) (lCons (dC (.bool true)) lNil))))) (dBin (cop .Eq) (dCall (arity 3 den_law_refused) (lCons (dC (.int 3)) (lCons (dCallV vTupD (lCons (dC (.int 0)) (lCons (dC (.int 0)) (lCons (dC (.int 0)) lNil)))) (lCons (dNeg (dC (.int 1))) lNil)))) (dCallV vTupD (lCons (dC (.str "BadNumber")) (lCons (dNeg (dC (.int 1))) (lCons (dC (.bool true)) lNil)))))))))))))
def den_law_refusals : List AV → AS → ER := defD 7 c_law_refusals
def c_law : Sn :=
  (sSeq (sAsg 1 true (dCall (arity 1 den_law_draws) (lCons (dVar 0) lNil)))
    (sSeq (sPar 2 3 (lCons (dCall (arity 1 den_law_fence) (lCons (dVar 1) lNil)) (lCons (dCall (arity 1 den_law_fence) (lCons (dVar 1) lNil)) lNil)))
    (sSeq (sAsg 4 false (dBin vIx (dCallV vLstD (lCons (dC (.int 1)) (lCons (dBin bPow (dC (.int 10)) (dC (.int 30))) (lCons (dC (.int 1)) (lCons (dBin bAdd (dBin bPow (dC (.int 10)) (dC (.int 18))) (dC (.int 9))) lNil))))) (dCall (arity 2 den_law_take) (lCons (dVar 1) (lCons (dC (.int 4)) lNil)))))
    (sSeq (sAsg 5 false (dBin vIx (dCallV vLstD (lCons (dC (.int 0)) (lCons (dBin bAdd (dBin bPow (dC (.int 10)) (dC (.int 35))) (dC (.int 7))) (lCons (dNeg (dBin bPow (dC (.int 10)) (dC (.int 20)))) lNil)))) (dCall (arity 2 den_law_take) (lCons (dVar 1) (lCons (dC (.int 3)) lNil)))))
    (sSeq (sAsg 6 false (dBin bAdd (dBin bPow (dC (.int 10)) (dC (.int 12))) (dCall (arity 2 den_law_take) (lCons (dVar 1) (lCons (dC (.int 30)) lNil)))))
    (sSeq (sAsg 7 false (dCallV vTupD (lCons (dBin bAdd (dBin vIx (dVar 2) (dC (.int 0))) (dBin vIx (dVar 2) (dC (.int 2)))) (lCons (dBin vIx (dVar 2) (dC (.int 1))) (lCons (dBin vIx (dVar 2) (dC (.int 2))) lNil)))))
    (sSeq (sIf (dBin (cop .LtE) (dBin bSub (dBin vIx (dVar 2) (dC (.int 1))) (dBin vIx (dVar 2) (dC (.int 0)))) (dBin vIx (dVar 2) (dC (.int 2))))
    (sAsg 7 false (dCallV vTupD (lCons (dBin vIx (dVar 2) (dC (.int 1))) (lCons (dBin vIx (dVar 2) (dC (.int 1))) (lCons (dC (.int 0)) lNil)))))
    sSkip)
    (sSeq (sFor (iSeq (dCallV vLstD (lCons (dCallV vTupD (lCons (dVar 2) (lCons (dVar 3) lNil))) (lCons (dCallV vTupD (lCons (dVar 3) (lCons (dVar 2) lNil))) (lCons (dCallV vTupD (lCons (dVar 2) (lCons (dVar 2) lNil))) (lCons (dCallV vTupD (lCons (dVar 7) (lCons (dVar 2) lNil))) (lCons (dCallV vTupD (lCons (dVar 2) (lCons (dVar 7) lNil))) lNil))))))) (.tp (.cons (.nm 8) (.cons (.nm 9) .nil)))
    (sIf (dNot (dTru (dCall (arity 4 den_law_pair_right) (lCons (dVar 8) (lCons (dVar 9) (lCons (dVar 4) (lCons (dVar 5) lNil)))))))
    (sRet (dC (.bool false)))
    sSkip))
    (sSeq (sIf (dOr (dNot (dTru (dCall (arity 4 den_law_one_right) (lCons (dVar 2) (lCons (dVar 4) (lCons (dVar 5) (lCons (dVar 1) lNil))))))) (dNot (dTru (dCall (arity 4 den_law_one_right) (lCons (dVar 3) (lCons (dC (.int 1)) (lCons (dC (.int 0)) (lCons (dVar 1) lNil))))))))
    (sRet (dC (.bool false)))
    sSkip)
    (sRet (dAnd (dCall (arity 2 den_law_long_right) (lCons (dVar 1) (lCons (dVar 6) lNil))) (dCall (arity 0 den_law_refusals) lNil))))))))))))
def den_law : List AV → AS → ER := defD 10 c_law
end K72
namespace K72
open PySem PySem.Spec PyProof.Rows L2 Den
def top (i : Nat) : Stmt := PySem.Challenge.pw_onlywhatvaries_k72_fences_reckoned.main.body.getD i (.Pass ⟨0, 0, 0, 0⟩)
/-- what the text says: a, fd the places and what lies there; b, c the same of the errors and their makers -/
structure Txt (P : Program) (w : World) (K : PySem.W.Frag) (mg : Str → Option Value) (base : Heap) (a : Nat → Addr) (fd : Nat → FuncData) (b : Nat → Addr) (fI : Nat → Addr) (fe : Nat → FuncData) : Prop where
  n_abs : mg "abs" = none
  n_bool : mg "bool" = none
  n_enumerate : mg "enumerate" = none
  n_int : mg "int" = none
  n_isinstance : mg "isinstance" = none
  n_len : mg "len" = none
  n_list : mg "list" = none
  n_max : mg "max" = none
  n_min : mg "min" = none
  n_range : mg "range" = none
  n_tuple : mg "tuple" = none
  m_gcd : mg "gcd" = some (.builtin "math.gcd")
  m_lcm : mg "lcm" = some (.builtin "math.lcm")
  d_is_int : DefT K mg "is_int" (top 6) (a 0) (fd 0) ["x"]
  d_plain_form : DefT K mg "plain_form" (top 7) (a 1) (fd 1) ["x"]
  d_check_number : DefT K mg "check_number" (top 8) (a 2) (fd 2) ["x", "least"]
  d_wrong_fence_part : DefT K mg "wrong_fence_part" (top 10) (a 3) (fd 3) ["fence"]
  d_check_fence : DefT K mg "check_fence" (top 11) (a 4) (fd 4) ["fence"]
  d_check_other_fence : DefT K mg "check_other_fence" (top 12) (a 5) (fd 5) ["fence"]
  d_check_integers : DefT K mg "check_integers" (top 13) (a 6) (fd 6) ["numbers"]
  d_fence_of_plain : DefT K mg "fence_of_plain" (top 14) (a 7) (fd 7) ["numbers"]
  d_fence_of : DefT K mg "fence_of" (top 15) (a 8) (fd 8) ["values"]
  d_holds_number : DefT K mg "holds_number" (top 16) (a 9) (fd 9) ["fence", "v"]
  d_has_number : DefT K mg "has_number" (top 17) (a 10) (fd 10) ["fence", "v"]
  d_fence_size : DefT K mg "fence_size" (top 18) (a 11) (fd 11) ["fence"]
  d_turned_by : DefT K mg "turned_by" (top 19) (a 12) (fd 12) ["number", "base"]
  d_common_numbers : DefT K mg "common_numbers" (top 20) (a 13) (fd 13) ["fence", "other"]
  d_fences_met : DefT K mg "fences_met" (top 21) (a 14) (fd 14) ["fence", "other"]
  d_is_fence_within : DefT K mg "is_fence_within" (top 22) (a 15) (fd 15) ["fence", "other"]
  d_fence_behind : DefT K mg "fence_behind" (top 23) (a 16) (fd 16) ["fence", "other"]
  d_either_fence : DefT K mg "either_fence" (top 24) (a 17) (fd 17) ["told", "mate"]
  d_fence_either : DefT K mg "fence_either" (top 25) (a 18) (fd 18) ["fence", "other"]
  d_fence_times : DefT K mg "fence_times" (top 26) (a 19) (fd 19) ["fence", "k"]
  d_law_draws : DefT K mg "_law_draws" (top 28) (a 20) (fd 20) ["script"]
  d_law_take : DefT K mg "_law_take" (top 29) (a 21) (fd 21) ["draws", "many"]
  d_law_gcd : DefT K mg "_law_gcd" (top 30) (a 22) (fd 22) ["a", "b"]
  d_law_is : DefT K mg "_law_is" (top 31) (a 23) (fd 23) ["told", "due"]
  d_law_is_number : DefT K mg "_law_is_number" (top 32) (a 24) (fd 24) ["told", "due"]
  d_law_yes : DefT K mg "_law_yes" (top 33) (a 25) (fd 25) ["told", "due"]
  d_law_fence : DefT K mg "_law_fence" (top 34) (a 26) (fd 26) ["draws"]
  d_law_numbers : DefT K mg "_law_numbers" (top 35) (a 27) (fd 27) ["fence"]
  d_law_least : DefT K mg "_law_least" (top 36) (a 28) (fd 28) ["values"]
  d_law_sums : DefT K mg "_law_sums" (top 37) (a 29) (fd 29) ["values", "others"]
  d_law_far : DefT K mg "_law_far" (top 38) (a 30) (fd 30) ["fence", "by", "more"]
  d_law_pair_right : DefT K mg "_law_pair_right" (top 39) (a 31) (fd 31) ["fence", "other", "by", "more"]
  d_law_one_right : DefT K mg "_law_one_right" (top 40) (a 32) (fd 32) ["fence", "by", "more", "draws"]
  d_law_long_right : DefT K mg "_law_long_right" (top 41) (a 33) (fd 33) ["draws", "far"]
  d_law_asked : DefT K mg "_law_asked" (top 42) (a 34) (fd 34) ["which", "one", "two"]
  d_law_refused : DefT K mg "_law_refused" (top 43) (a 35) (fd 35) ["which", "one", "two"]
  d_law_refusals : DefT K mg "_law_refusals" (top 44) (a 36) (fd 36) []
  d_law : DefT K mg "law" (top 45) (a 37) (fd 37) ["script"]
  g_VariesError : mg "VariesError" = some (.ref (b 0))
  xc_VariesError : PySem.W.subIn K (.ref (b 0)) (.type "BaseException") = some true ∧ PySem.W.typeIn K (.ref (b 0)) = some (.type "type") ∧ PySem.W.hasDictIn K (b 0) = true
  g_BadNumber : mg "BadNumber" = some (.ref (b 1))
  xc_BadNumber : PySem.W.subIn K (.ref (b 1)) (.type "BaseException") = some true ∧ PySem.W.typeIn K (.ref (b 1)) = some (.type "type") ∧ PySem.W.hasDictIn K (b 1) = true
  o_BadNumber : OexC K (b 1)
  no_BadNumber : PySem.W.findIn K (.ref (b 1)) "at" = some none
  iC_BadNumber : PySem.W.findIn K (.ref (b 1)) "__init__" = some (some (.ref (fI 1)))
  tI_BadNumber : PySem.W.typeIn K (.ref (fI 1)) = some (.type "function")
  fn_BadNumber : Fun K "__init__" "BadNumber.__init__" (inClass (top 3) 0) (fI 1) (fe 1)
  bi_BadNumber : Binds K (fe 1) ["self", "at"] []
  xf_BadNumber : XfC K (b 1)
  ic_BadNumber : IsC K (b 1)
  g_BadRow : mg "BadRow" = some (.ref (b 2))
  xc_BadRow : PySem.W.subIn K (.ref (b 2)) (.type "BaseException") = some true ∧ PySem.W.typeIn K (.ref (b 2)) = some (.type "type") ∧ PySem.W.hasDictIn K (b 2) = true
  o_BadRow : OexC K (b 2)
  no_BadRow : PySem.W.findIn K (.ref (b 2)) "at" = some none
  iC_BadRow : PySem.W.findIn K (.ref (b 2)) "__init__" = some (some (.ref (fI 2)))
  tI_BadRow : PySem.W.typeIn K (.ref (fI 2)) = some (.type "function")
  fn_BadRow : Fun K "__init__" "BadRow.__init__" (inClass (top 4) 0) (fI 2) (fe 2)
  bi_BadRow : Binds K (fe 2) ["self", "at"] []
  xf_BadRow : XfC K (b 2)
  ic_BadRow : IsC K (b 2)
  su_BadNumber_VariesError : PySem.W.subIn K (.ref (b 1)) (.ref (b 0)) = some true
  ki_BadNumber_VariesError : PySem.W.kitOne K (.ref (b 1)) (.ref (b 0)) = some true
  su_BadNumber_BadNumber : PySem.W.subIn K (.ref (b 1)) (.ref (b 1)) = some true
  ki_BadNumber_BadNumber : PySem.W.kitOne K (.ref (b 1)) (.ref (b 1)) = some true
  su_BadNumber_BadRow : PySem.W.subIn K (.ref (b 1)) (.ref (b 2)) = some false
  ki_BadNumber_BadRow : PySem.W.kitOne K (.ref (b 1)) (.ref (b 2)) = some false
  su_BadRow_VariesError : PySem.W.subIn K (.ref (b 2)) (.ref (b 0)) = some true
  ki_BadRow_VariesError : PySem.W.kitOne K (.ref (b 2)) (.ref (b 0)) = some true
  su_BadRow_BadNumber : PySem.W.subIn K (.ref (b 2)) (.ref (b 1)) = some false
  ki_BadRow_BadNumber : PySem.W.kitOne K (.ref (b 2)) (.ref (b 1)) = some false
  su_BadRow_BadRow : PySem.W.subIn K (.ref (b 2)) (.ref (b 2)) = some true
  ki_BadRow_BadRow : PySem.W.kitOne K (.ref (b 2)) (.ref (b 2)) = some true
section
variable {P : Program} {w : World} {K : PySem.W.Frag} {mg : Str → Option Value} {base : Heap} {a : Nat → Addr} {fd : Nat → FuncData} {b : Nat → Addr} {fI : Nat → Addr} {fe : Nat → FuncData}
theorem own_BadNumber (T : Txt P w K mg base a fd b fI fe) : OwnE P w K mg base "BadNumber" "at" (b 1) (fI 1) (fe 1) :=
  ⟨T.g_BadNumber, T.o_BadNumber, T.no_BadNumber, T.iC_BadNumber, T.tI_BadNumber, ok_ini T.fn_BadNumber ⟨rfl, rfl, rfl, by decide +kernel, rfl, by decide +kernel, by decide +kernel⟩ rfl rfl (by decide) (by decide) rfl, T.bi_BadNumber, T.xf_BadNumber⟩
theorem own_BadRow (T : Txt P w K mg base a fd b fI fe) : OwnE P w K mg base "BadRow" "at" (b 2) (fI 2) (fe 2) :=
  ⟨T.g_BadRow, T.o_BadRow, T.no_BadRow, T.iC_BadRow, T.tI_BadRow, ok_ini T.fn_BadRow ⟨rfl, rfl, rfl, by decide +kernel, rfl, by decide +kernel, by decide +kernel⟩ rfl rfl (by decide) (by decide) rfl, T.bi_BadRow, T.xf_BadRow⟩
theorem Txt.fld_at (T : Txt P w K mg base a fd b fI fe) (cns : List Str) (h : cns = (["BadNumber", "BadRow"] : List Str)) {X : Cx} (hK : X.K = K := by rfl) (hm : X.mg = mg := by rfl) : FldOk X "at" cns := by
  subst h hK hm; intro cn hc C e
  simp only [List.mem_cons, List.not_mem_nil, or_false] at hc
  rcases hc with rfl | rfl
  · rw [T.g_BadNumber] at e; cases e; exact ⟨T.xf_BadNumber, T.no_BadNumber⟩
  · rw [T.g_BadRow] at e; cases e; exact ⟨T.xf_BadRow, T.no_BadRow⟩
theorem Txt.nm_VariesError (T : Txt P w K mg base a fd b fI fe) {X : Cx} (hg : Gl X "VariesError" := by rfl) (hm : X.mg = mg := by rfl) : Names X "VariesError" (.ref (b 0)) := ⟨hg, by decide, .inl (by rw [hm]; exact T.g_VariesError)⟩
theorem Txt.tb_VariesError (T : Txt P w K mg base a fd b fI fe) (tab : List (Str × Bool)) (h : tab = ([("BadNumber", true), ("BadRow", true)] : List (Str × Bool)) := by rfl) {X : Cx} (hK : X.K = K := by rfl) (hm : X.mg = mg := by rfl) : TabOk X tab (.ref (b 0)) := by
  subst h hK hm; intro cn v hc C e
  have hc := mem_of_lookup hc
  simp only [List.mem_cons, List.not_mem_nil, or_false, Prod.mk.injEq] at hc
  rcases hc with ⟨rfl, rfl⟩ | ⟨rfl, rfl⟩
  · rw [T.g_BadNumber] at e; cases e; exact PySem.W.exm_ref T.xc_VariesError.1 T.xc_VariesError.2.2 T.xc_VariesError.2.1 T.su_BadNumber_VariesError
  · rw [T.g_BadRow] at e; cases e; exact PySem.W.exm_ref T.xc_VariesError.1 T.xc_VariesError.2.2 T.xc_VariesError.2.1 T.su_BadRow_VariesError
theorem Txt.is_VariesError (T : Txt P w K mg base a fd b fI fe) (tab : List (Str × Bool)) (h : tab = ([("BadNumber", true), ("BadRow", true)] : List (Str × Bool)) := by rfl) {X : Cx} (hK : X.K = K := by rfl) (hm : X.mg = mg := by rfl) : IsTab X tab (b 0) := by
  subst h hK hm; intro cn v hc C e
  have hc := mem_of_lookup hc
  simp only [List.mem_cons, List.not_mem_nil, or_false, Prod.mk.injEq] at hc
  rcases hc with ⟨rfl, rfl⟩ | ⟨rfl, rfl⟩
  · rw [T.g_BadNumber] at e; cases e; exact ⟨T.ic_BadNumber, T.ki_BadNumber_VariesError⟩
  · rw [T.g_BadRow] at e; cases e; exact ⟨T.ic_BadRow, T.ki_BadRow_VariesError⟩
theorem Txt.nm_BadNumber (T : Txt P w K mg base a fd b fI fe) {X : Cx} (hg : Gl X "BadNumber" := by rfl) (hm : X.mg = mg := by rfl) : Names X "BadNumber" (.ref (b 1)) := ⟨hg, by decide, .inl (by rw [hm]; exact T.g_BadNumber)⟩
theorem Txt.tb_BadNumber (T : Txt P w K mg base a fd b fI fe) (tab : List (Str × Bool)) (h : tab = ([("BadNumber", true), ("BadRow", false)] : List (Str × Bool)) := by rfl) {X : Cx} (hK : X.K = K := by rfl) (hm : X.mg = mg := by rfl) : TabOk X tab (.ref (b 1)) := by
  subst h hK hm; intro cn v hc C e
  have hc := mem_of_lookup hc
  simp only [List.mem_cons, List.not_mem_nil, or_false, Prod.mk.injEq] at hc
  rcases hc with ⟨rfl, rfl⟩ | ⟨rfl, rfl⟩
  · rw [T.g_BadNumber] at e; cases e; exact PySem.W.exm_ref T.xc_BadNumber.1 T.xc_BadNumber.2.2 T.xc_BadNumber.2.1 T.su_BadNumber_BadNumber
  · rw [T.g_BadRow] at e; cases e; exact PySem.W.exm_ref T.xc_BadNumber.1 T.xc_BadNumber.2.2 T.xc_BadNumber.2.1 T.su_BadRow_BadNumber
theorem Txt.is_BadNumber (T : Txt P w K mg base a fd b fI fe) (tab : List (Str × Bool)) (h : tab = ([("BadNumber", true), ("BadRow", false)] : List (Str × Bool)) := by rfl) {X : Cx} (hK : X.K = K := by rfl) (hm : X.mg = mg := by rfl) : IsTab X tab (b 1) := by
  subst h hK hm; intro cn v hc C e
  have hc := mem_of_lookup hc
  simp only [List.mem_cons, List.not_mem_nil, or_false, Prod.mk.injEq] at hc
  rcases hc with ⟨rfl, rfl⟩ | ⟨rfl, rfl⟩
  · rw [T.g_BadNumber] at e; cases e; exact ⟨T.ic_BadNumber, T.ki_BadNumber_BadNumber⟩
  · rw [T.g_BadRow] at e; cases e; exact ⟨T.ic_BadRow, T.ki_BadRow_BadNumber⟩
theorem Txt.nm_BadRow (T : Txt P w K mg base a fd b fI fe) {X : Cx} (hg : Gl X "BadRow" := by rfl) (hm : X.mg = mg := by rfl) : Names X "BadRow" (.ref (b 2)) := ⟨hg, by decide, .inl (by rw [hm]; exact T.g_BadRow)⟩
theorem Txt.tb_BadRow (T : Txt P w K mg base a fd b fI fe) (tab : List (Str × Bool)) (h : tab = ([("BadNumber", false), ("BadRow", true)] : List (Str × Bool)) := by rfl) {X : Cx} (hK : X.K = K := by rfl) (hm : X.mg = mg := by rfl) : TabOk X tab (.ref (b 2)) := by
  subst h hK hm; intro cn v hc C e
  have hc := mem_of_lookup hc
  simp only [List.mem_cons, List.not_mem_nil, or_false, Prod.mk.injEq] at hc
  rcases hc with ⟨rfl, rfl⟩ | ⟨rfl, rfl⟩
  · rw [T.g_BadNumber] at e; cases e; exact PySem.W.exm_ref T.xc_BadRow.1 T.xc_BadRow.2.2 T.xc_BadRow.2.1 T.su_BadNumber_BadRow
  · rw [T.g_BadRow] at e; cases e; exact PySem.W.exm_ref T.xc_BadRow.1 T.xc_BadRow.2.2 T.xc_BadRow.2.1 T.su_BadRow_BadRow
theorem Txt.is_BadRow (T : Txt P w K mg base a fd b fI fe) (tab : List (Str × Bool)) (h : tab = ([("BadNumber", false), ("BadRow", true)] : List (Str × Bool)) := by rfl) {X : Cx} (hK : X.K = K := by rfl) (hm : X.mg = mg := by rfl) : IsTab X tab (b 2) := by
  subst h hK hm; intro cn v hc C e
  have hc := mem_of_lookup hc
  simp only [List.mem_cons, List.not_mem_nil, or_false, Prod.mk.injEq] at hc
  rcases hc with ⟨rfl, rfl⟩ | ⟨rfl, rfl⟩
  · rw [T.g_BadNumber] at e; cases e; exact ⟨T.ic_BadNumber, T.ki_BadNumber_BadRow⟩
  · rw [T.g_BadRow] at e; cases e; exact ⟨T.ic_BadRow, T.ki_BadRow_BadRow⟩
end
end K72
namespace K72
open PySem PySem.Spec PyProof.Rows L2 Den
section
variable {P : Program} {w : World} {K : PySem.W.Frag} {mg : Str → Option Value} {base : Heap} {a : Nat → Addr} {fd : Nat → FuncData} {b : Nat → Addr} {fI : Nat → Addr} {fe : Nat → FuncData}
abbrev N_is_int : List Str := ["x"]
theorem S_is_int : FnScope N_is_int ["x"] (defScope (top 6)) := ⟨rfl, rfl, rfl, by decide +kernel, rfl, by decide +kernel, by decide +kernel⟩
theorem ok_is_int (T : Txt P w K mg base a fd b fI fe) : FnOk P w K mg base (L2.CX P w) 1 (a 0) (fd 0) ["x"] (spOf K mg 1 den_is_int) := by
  refine ok_def (k := 0) (N := N_is_int) T.d_is_int.F S_is_int fun cdv A outer s H E hr => ?_
  have tk := takes_of (X := cxOf (L2.CX P w) P w K mg base N_is_int "is_int" (defScope (top 6)) (a 0) cdv A outer s H E) rfl rfl rfl rfl
  have pas := passes_of (X := cxOf (L2.CX P w) P w K mg base N_is_int "is_int" (defScope (top 6)) (a 0) cdv A outer s H E) rfl
  have hr : Room 0 (cxOf (L2.CX P w) P w K mg base N_is_int "is_int" (defScope (top 6)) (a 0) cdv A outer s H E).A := hr
  unfold c_is_int
  exact (sS_one (sS_ret (sE_and (qIs T.n_isinstance T.n_int bb_int qV) (sE_one (sE_not (qIs T.n_isinstance T.n_bool bb_bool qV))))))
abbrev N_plain_form : List Str := ["x", "held", "done", "source", "at", "built", "above", "place", "told"]
theorem S_plain_form : FnScope N_plain_form ["x"] (defScope (top 7)) := ⟨rfl, rfl, rfl, by decide +kernel, rfl, by decide +kernel, by decide +kernel⟩
theorem ok_plain_form (T : Txt P w K mg base a fd b fI fe) : FnOk P w K mg base (L2.CX P w) 1 (a 1) (fd 1) ["x"] (spOf K mg 1 den_plain_form) := by
  refine ok_def (k := 0) (N := N_plain_form) T.d_plain_form.F S_plain_form fun cdv A outer s H E hr => ?_
  have tk := takes_of (X := cxOf (L2.CX P w) P w K mg base N_plain_form "plain_form" (defScope (top 7)) (a 1) cdv A outer s H E) rfl rfl rfl rfl
  have pas := passes_of (X := cxOf (L2.CX P w) P w K mg base N_plain_form "plain_form" (defScope (top 7)) (a 1) cdv A outer s H E) rfl
  have hr : Room 0 (cxOf (L2.CX P w) P w K mg base N_plain_form "plain_form" (defScope (top 7)) (a 1) cdv A outer s H E).A := hr
  unfold c_plain_form
  exact (sS_cons (sS_if (sT_not (tTru (qIsM T.n_isinstance (yC T.n_list bb_list (yC T.n_tuple bb_tuple .nil)) qV)))
    (sS_one (sS_ret qV))
    sS_nil)
    (sS_cons (sSet S_plain_form.nd (sE_lst (qL (sE_tup (qL qV (qL sE_int (qL (sE_tup sL_nil) sL_nil)))) sL_nil)))
    (sS_cons (sSet S_plain_form.nd (sE_tup sL_nil))
    (sS_cons (sS_while pas (tTru qV)
    (sS_cons (sUnpk (gT (gC (gN S_plain_form.nd) (gC (gN S_plain_form.nd) (gC (gN S_plain_form.nd) sGs_nil)))) (qPop qV))
    (sS_one (sS_if (PW.pt (sW_and (tCmp hr qV (qB vLen_ok T.n_len bb_len (qL qV sL_nil))) (sW_and1 (tTru (qIsM T.n_isinstance (yC T.n_list bb_list (yC T.n_tuple bb_tuple .nil)) (qIx qV qV))))))
    (sS_cons (sExp (qApp qV (qL (sE_tup (qL qV (qL qV (qL qV sL_nil)))) sL_nil)))
    (sS_one (sExp (qApp qV (qL (sE_tup (qL (qIx qV qV) (qL sE_int (qL (sE_tup sL_nil) sL_nil)))) sL_nil)))))
    (sS_one (sS_if (tCmp hr qV (qB vLen_ok T.n_len bb_len (qL qV sL_nil)))
    (sS_one (sExp (qApp qV (qL (sE_tup (qL qV (qL (qBin qV sE_int) (qL (qBin qV (sE_tup (qL (qIx qV qV) sL_nil))) sL_nil)))) sL_nil))))
    (sS_one (sS_if (tTru qV)
    (sS_cons (sUnpk (gT (gC (gN S_plain_form.nd) (gC (gN S_plain_form.nd) (gC (gN S_plain_form.nd) sGs_nil)))) (qPop qV))
    (sS_one (sExp (qApp qV (qL (sE_tup (qL qV (qL (qBin qV sE_int) (qL (qBin qV (sE_tup (qL qV sL_nil))) sL_nil)))) sL_nil)))))
    (sS_one (sSet S_plain_form.nd qV))))))))))
    (sS_one (sS_ret qV))))))
abbrev N_check_number : List Str := ["x", "least"]
theorem S_check_number : FnScope N_check_number ["x", "least"] (defScope (top 8)) := ⟨rfl, rfl, rfl, by decide +kernel, rfl, by decide +kernel, by decide +kernel⟩
theorem ok_check_number (T : Txt P w K mg base a fd b fI fe) : FnOk P w K mg base (L2.CX P w) 3 (a 2) (fd 2) ["x", "least"] (spOf K mg 2 den_check_number) := by
  refine ok_def (k := 2) (N := N_check_number) T.d_check_number.F S_check_number fun cdv A outer s H E hr => ?_
  have tk := takes_of (X := cxOf (L2.CX P w) P w K mg base N_check_number "check_number" (defScope (top 8)) (a 2) cdv A outer s H E) rfl rfl rfl rfl
  have pas := passes_of (X := cxOf (L2.CX P w) P w K mg base N_check_number "check_number" (defScope (top 8)) (a 2) cdv A outer s H E) rfl
  have hr : Room 2 (cxOf (L2.CX P w) P w K mg base N_check_number "check_number" (defScope (top 8)) (a 2) cdv A outer s H E).A := hr
  unfold c_check_number
  exact (sS_cons (sS_if (PW.pt (sW_or (sT_not (tTru (qD T.d_is_int (ok_is_int T) hr tk (qL qV sL_nil)))) (sW_or1 (tCmp hr qV qV))))
    (sS_one (sRse (own_BadNumber T) tk hr (qL (qD T.d_plain_form (ok_plain_form T) hr tk (qL qV sL_nil)) sL_nil)))
    sS_nil)
    (sS_one (sS_ret qV)))
abbrev N_wrong_fence_part : List Str := ["fence", "lo", "hi", "step"]
theorem S_wrong_fence_part : FnScope N_wrong_fence_part ["fence"] (defScope (top 10)) := ⟨rfl, rfl, rfl, by decide +kernel, rfl, by decide +kernel, by decide +kernel⟩
theorem ok_wrong_fence_part (T : Txt P w K mg base a fd b fI fe) : FnOk P w K mg base (L2.CX P w) 2 (a 3) (fd 3) ["fence"] (spOf K mg 1 den_wrong_fence_part) := by
  refine ok_def (k := 1) (N := N_wrong_fence_part) T.d_wrong_fence_part.F S_wrong_fence_part fun cdv A outer s H E hr => ?_
  have tk := takes_of (X := cxOf (L2.CX P w) P w K mg base N_wrong_fence_part "wrong_fence_part" (defScope (top 10)) (a 3) cdv A outer s H E) rfl rfl rfl rfl
  have pas := passes_of (X := cxOf (L2.CX P w) P w K mg base N_wrong_fence_part "wrong_fence_part" (defScope (top 10)) (a 3) cdv A outer s H E) rfl
  have hr : Room 1 (cxOf (L2.CX P w) P w K mg base N_wrong_fence_part "wrong_fence_part" (defScope (top 10)) (a 3) cdv A outer s H E).A := hr
  unfold c_wrong_fence_part
  exact (sS_cons (sS_if (PW.pt (sW_or (sT_not (tTru (qIsM T.n_isinstance (yC T.n_tuple bb_tuple (yC T.n_list bb_list .nil)) qV))) (sW_or1 (tCmp hr (qB vLen_ok T.n_len bb_len (qL qV sL_nil)) sE_int))))
    (sS_one (sS_ret (sE_neg sE_int)))
    sS_nil)
    (sS_cons (sUnpk (gT (gC (gN S_wrong_fence_part.nd) (gC (gN S_wrong_fence_part.nd) (gC (gN S_wrong_fence_part.nd) sGs_nil)))) qV)
    (sS_cons (sS_if (sT_not (tTru (qD T.d_is_int (ok_is_int T) hr tk (qL qV sL_nil))))
    (sS_one (sS_ret sE_int))
    sS_nil)
    (sS_cons (sS_if (PW.pt (sW_or (sT_not (tTru (qD T.d_is_int (ok_is_int T) hr tk (qL qV sL_nil)))) (sW_or1 (tCmp hr qV qV))))
    (sS_one (sS_ret sE_int))
    sS_nil)
    (sS_cons (sS_if (PW.pt (sW_or (sT_not (tTru (qD T.d_is_int (ok_is_int T) hr tk (qL qV sL_nil)))) (sW_or1 (tCmp hr qV sE_int))))
    (sS_one (sS_ret sE_int))
    sS_nil)
    (sS_cons (sS_if (tCmp hr qV sE_int)
    (sS_one (sS_ret (sE_if (tCmp hr qV qV) sE_none sE_int)))
    sS_nil)
    (sS_one (sS_ret (sE_if (PW.pt (sW_and (tCmp hr qV qV) (sW_and1 (tCmp hr (qBin (qBin qV qV) qV) sE_int)))) sE_none sE_int)))))))))
abbrev N_check_fence : List Str := ["fence", "wrong"]
theorem S_check_fence : FnScope N_check_fence ["fence"] (defScope (top 11)) := ⟨rfl, rfl, rfl, by decide +kernel, rfl, by decide +kernel, by decide +kernel⟩
theorem ok_check_fence (T : Txt P w K mg base a fd b fI fe) : FnOk P w K mg base (L2.CX P w) 3 (a 4) (fd 4) ["fence"] (spOf K mg 1 den_check_fence) := by
  refine ok_def (k := 2) (N := N_check_fence) T.d_check_fence.F S_check_fence fun cdv A outer s H E hr => ?_
  have tk := takes_of (X := cxOf (L2.CX P w) P w K mg base N_check_fence "check_fence" (defScope (top 11)) (a 4) cdv A outer s H E) rfl rfl rfl rfl
  have pas := passes_of (X := cxOf (L2.CX P w) P w K mg base N_check_fence "check_fence" (defScope (top 11)) (a 4) cdv A outer s H E) rfl
  have hr : Room 2 (cxOf (L2.CX P w) P w K mg base N_check_fence "check_fence" (defScope (top 11)) (a 4) cdv A outer s H E).A := hr
  unfold c_check_fence
  exact (sS_cons (sSet S_check_fence.nd (qD T.d_wrong_fence_part (ok_wrong_fence_part T) hr tk (qL qV sL_nil)))
    (sS_cons (sS_if (tCmp hr qV sE_none)
    (sS_one (sRse (own_BadRow T) tk hr (qL qV sL_nil)))
    sS_nil)
    (sS_one (sS_ret (qTy vTuple_ok T.n_tuple bb_tuple (qL qV sL_nil))))))
abbrev N_check_other_fence : List Str := ["fence", "wrong"]
theorem S_check_other_fence : FnScope N_check_other_fence ["fence"] (defScope (top 12)) := ⟨rfl, rfl, rfl, by decide +kernel, rfl, by decide +kernel, by decide +kernel⟩
theorem ok_check_other_fence (T : Txt P w K mg base a fd b fI fe) : FnOk P w K mg base (L2.CX P w) 3 (a 5) (fd 5) ["fence"] (spOf K mg 1 den_check_other_fence) := by
  refine ok_def (k := 2) (N := N_check_other_fence) T.d_check_other_fence.F S_check_other_fence fun cdv A outer s H E hr => ?_
  have tk := takes_of (X := cxOf (L2.CX P w) P w K mg base N_check_other_fence "check_other_fence" (defScope (top 12)) (a 5) cdv A outer s H E) rfl rfl rfl rfl
  have pas := passes_of (X := cxOf (L2.CX P w) P w K mg base N_check_other_fence "check_other_fence" (defScope (top 12)) (a 5) cdv A outer s H E) rfl
  have hr : Room 2 (cxOf (L2.CX P w) P w K mg base N_check_other_fence "check_other_fence" (defScope (top 12)) (a 5) cdv A outer s H E).A := hr
  unfold c_check_other_fence
  exact (sS_cons (sSet S_check_other_fence.nd (qD T.d_wrong_fence_part (ok_wrong_fence_part T) hr tk (qL qV sL_nil)))
    (sS_cons (sS_if (tCmp hr qV sE_none)
    (sS_one (sRse (own_BadRow T) tk hr (qL (sE_tup (qL (sE_neg sE_int) (qL qV sL_nil))) sL_nil)))
    sS_nil)
    (sS_one (sS_ret (qTy vTuple_ok T.n_tuple bb_tuple (qL qV sL_nil))))))
abbrev N_check_integers : List Str := ["numbers", "j", "number"]
theorem S_check_integers : FnScope N_check_integers ["numbers"] (defScope (top 13)) := ⟨rfl, rfl, rfl, by decide +kernel, rfl, by decide +kernel, by decide +kernel⟩
theorem ok_check_integers (T : Txt P w K mg base a fd b fI fe) : FnOk P w K mg base (L2.CX P w) 3 (a 6) (fd 6) ["numbers"] (spOf K mg 1 den_check_integers) := by
  refine ok_def (k := 2) (N := N_check_integers) T.d_check_integers.F S_check_integers fun cdv A outer s H E hr => ?_
  have tk := takes_of (X := cxOf (L2.CX P w) P w K mg base N_check_integers "check_integers" (defScope (top 13)) (a 6) cdv A outer s H E) rfl rfl rfl rfl
  have pas := passes_of (X := cxOf (L2.CX P w) P w K mg base N_check_integers "check_integers" (defScope (top 13)) (a 6) cdv A outer s H E) rfl
  have hr : Room 2 (cxOf (L2.CX P w) P w K mg base N_check_integers "check_integers" (defScope (top 13)) (a 6) cdv A outer s H E).A := hr
  unfold c_check_integers
  exact (sS_cons (sS_if (PW.pt (sW_or (sT_not (tTru (qIsM T.n_isinstance (yC T.n_tuple bb_tuple (yC T.n_list bb_list .nil)) qV))) (sW_or1 (tCmp hr (qB vLen_ok T.n_len bb_len (qL qV sL_nil)) sE_int))))
    (sS_one (sRse (own_BadRow T) tk hr (qL (sE_neg sE_int) sL_nil)))
    sS_nil)
    (sS_cons (sForL pas (iEnS T.n_enumerate (qL qV sL_nil)) (gT (gC (gN S_check_integers.nd) (gC (gN S_check_integers.nd) sGs_nil)))
    (sS_one (sS_if (sT_not (tTru (qD T.d_is_int (ok_is_int T) hr tk (qL qV sL_nil))))
    (sS_one (sRse (own_BadRow T) tk hr (qL qV sL_nil)))
    sS_nil)))
    (sS_one (sS_ret (qTy vTuple_ok T.n_tuple bb_tuple (qL qV sL_nil))))))
abbrev N_fence_of_plain : List Str := ["numbers", "lo", "step", "number"]
theorem S_fence_of_plain : FnScope N_fence_of_plain ["numbers"] (defScope (top 14)) := ⟨rfl, rfl, rfl, by decide +kernel, rfl, by decide +kernel, by decide +kernel⟩
theorem ok_fence_of_plain (T : Txt P w K mg base a fd b fI fe) : FnOk P w K mg base (L2.CX P w) 1 (a 7) (fd 7) ["numbers"] (spOf K mg 1 den_fence_of_plain) := by
  refine ok_def (k := 0) (N := N_fence_of_plain) T.d_fence_of_plain.F S_fence_of_plain fun cdv A outer s H E hr => ?_
  have tk := takes_of (X := cxOf (L2.CX P w) P w K mg base N_fence_of_plain "fence_of_plain" (defScope (top 14)) (a 7) cdv A outer s H E) rfl rfl rfl rfl
  have pas := passes_of (X := cxOf (L2.CX P w) P w K mg base N_fence_of_plain "fence_of_plain" (defScope (top 14)) (a 7) cdv A outer s H E) rfl
  have hr : Room 0 (cxOf (L2.CX P w) P w K mg base N_fence_of_plain "fence_of_plain" (defScope (top 14)) (a 7) cdv A outer s H E).A := hr
  unfold c_fence_of_plain
  exact (sS_cons (sSet S_fence_of_plain.nd (qB (vMin_ok rfl (units64 hr)) T.n_min bb_min (qL qV sL_nil)))
    (sS_cons (sSet S_fence_of_plain.nd sE_int)
    (sS_cons (sForL pas (sI_seq qV) (gN S_fence_of_plain.nd)
    (sS_one (sSet S_fence_of_plain.nd (qF vGcd_ok T.m_gcd (qL qV (qL (qBin qV qV) sL_nil))))))
    (sS_one (sS_ret (sE_tup (qL qV (qL (qB (vMax_ok rfl (units64 hr)) T.n_max bb_max (qL qV sL_nil)) (qL qV sL_nil)))))))))
abbrev N_fence_of : List Str := ["values"]
theorem S_fence_of : FnScope N_fence_of ["values"] (defScope (top 15)) := ⟨rfl, rfl, rfl, by decide +kernel, rfl, by decide +kernel, by decide +kernel⟩
theorem ok_fence_of (T : Txt P w K mg base a fd b fI fe) : FnOk P w K mg base (L2.CX P w) 4 (a 8) (fd 8) ["values"] (spOf K mg 1 den_fence_of) := by
  refine ok_def (k := 3) (N := N_fence_of) T.d_fence_of.F S_fence_of fun cdv A outer s H E hr => ?_
  have tk := takes_of (X := cxOf (L2.CX P w) P w K mg base N_fence_of "fence_of" (defScope (top 15)) (a 8) cdv A outer s H E) rfl rfl rfl rfl
  have pas := passes_of (X := cxOf (L2.CX P w) P w K mg base N_fence_of "fence_of" (defScope (top 15)) (a 8) cdv A outer s H E) rfl
  have hr : Room 3 (cxOf (L2.CX P w) P w K mg base N_fence_of "fence_of" (defScope (top 15)) (a 8) cdv A outer s H E).A := hr
  unfold c_fence_of
  exact (sS_one (sS_ret (qD T.d_fence_of_plain (ok_fence_of_plain T) hr tk (qL (qD T.d_check_integers (ok_check_integers T) hr tk (qL qV sL_nil)) sL_nil))))
abbrev N_holds_number : List Str := ["fence", "v", "lo", "hi", "step"]
theorem S_holds_number : FnScope N_holds_number ["fence", "v"] (defScope (top 16)) := ⟨rfl, rfl, rfl, by decide +kernel, rfl, by decide +kernel, by decide +kernel⟩
theorem ok_holds_number (T : Txt P w K mg base a fd b fI fe) : FnOk P w K mg base (L2.CX P w) 1 (a 9) (fd 9) ["fence", "v"] (spOf K mg 2 den_holds_number) := by
  refine ok_def (k := 0) (N := N_holds_number) T.d_holds_number.F S_holds_number fun cdv A outer s H E hr => ?_
  have tk := takes_of (X := cxOf (L2.CX P w) P w K mg base N_holds_number "holds_number" (defScope (top 16)) (a 9) cdv A outer s H E) rfl rfl rfl rfl
  have pas := passes_of (X := cxOf (L2.CX P w) P w K mg base N_holds_number "holds_number" (defScope (top 16)) (a 9) cdv A outer s H E) rfl
  have hr : Room 0 (cxOf (L2.CX P w) P w K mg base N_holds_number "holds_number" (defScope (top 16)) (a 9) cdv A outer s H E).A := hr
  unfold c_holds_number
  exact (sS_cons (sUnpk (gT (gC (gN S_holds_number.nd) (gC (gN S_holds_number.nd) (gC (gN S_holds_number.nd) sGs_nil)))) qV)
    (sS_cons (sS_if (tCmp hr qV sE_int)
    (sS_one (sS_ret (qCmp hr qV qV)))
    sS_nil)
    (sS_one (sS_ret (sE_and (qChain hr qV qV qV) (sE_one (qCmp hr (qBin (qBin qV qV) qV) sE_int)))))))
abbrev N_has_number : List Str := ["fence", "v", "told"]
theorem S_has_number : FnScope N_has_number ["fence", "v"] (defScope (top 17)) := ⟨rfl, rfl, rfl, by decide +kernel, rfl, by decide +kernel, by decide +kernel⟩
theorem ok_has_number (T : Txt P w K mg base a fd b fI fe) : FnOk P w K mg base (L2.CX P w) 4 (a 10) (fd 10) ["fence", "v"] (spOf K mg 2 den_has_number) := by
  refine ok_def (k := 3) (N := N_has_number) T.d_has_number.F S_has_number fun cdv A outer s H E hr => ?_
  have tk := takes_of (X := cxOf (L2.CX P w) P w K mg base N_has_number "has_number" (defScope (top 17)) (a 10) cdv A outer s H E) rfl rfl rfl rfl
  have pas := passes_of (X := cxOf (L2.CX P w) P w K mg base N_has_number "has_number" (defScope (top 17)) (a 10) cdv A outer s H E) rfl
  have hr : Room 3 (cxOf (L2.CX P w) P w K mg base N_has_number "has_number" (defScope (top 17)) (a 10) cdv A outer s H E).A := hr
  unfold c_has_number
  exact (sS_cons (sSet S_has_number.nd (qD T.d_check_fence (ok_check_fence T) hr tk (qL qV sL_nil)))
    (sS_cons (sS_if (sT_not (tTru (qD T.d_is_int (ok_is_int T) hr tk (qL qV sL_nil))))
    (sS_one (sRse (own_BadNumber T) tk hr (qL (qD T.d_plain_form (ok_plain_form T) hr tk (qL qV sL_nil)) sL_nil)))
    sS_nil)
    (sS_one (sS_ret (qD T.d_holds_number (ok_holds_number T) hr tk (qL qV (qL qV sL_nil)))))))
abbrev N_fence_size : List Str := ["fence", "lo", "hi", "step"]
theorem S_fence_size : FnScope N_fence_size ["fence"] (defScope (top 18)) := ⟨rfl, rfl, rfl, by decide +kernel, rfl, by decide +kernel, by decide +kernel⟩
theorem ok_fence_size (T : Txt P w K mg base a fd b fI fe) : FnOk P w K mg base (L2.CX P w) 4 (a 11) (fd 11) ["fence"] (spOf K mg 1 den_fence_size) := by
  refine ok_def (k := 3) (N := N_fence_size) T.d_fence_size.F S_fence_size fun cdv A outer s H E hr => ?_
  have tk := takes_of (X := cxOf (L2.CX P w) P w K mg base N_fence_size "fence_size" (defScope (top 18)) (a 11) cdv A outer s H E) rfl rfl rfl rfl
  have pas := passes_of (X := cxOf (L2.CX P w) P w K mg base N_fence_size "fence_size" (defScope (top 18)) (a 11) cdv A outer s H E) rfl
  have hr : Room 3 (cxOf (L2.CX P w) P w K mg base N_fence_size "fence_size" (defScope (top 18)) (a 11) cdv A outer s H E).A := hr
  unfold c_fence_size
  exact (sS_cons (sUnpk (gT (gC (gN S_fence_size.nd) (gC (gN S_fence_size.nd) (gC (gN S_fence_size.nd) sGs_nil)))) (qD T.d_check_fence (ok_check_fence T) hr tk (qL qV sL_nil)))
    (sS_one (sS_ret (sE_if (tCmp hr qV sE_int) sE_int (qBin (qBin (qBin qV qV) qV) sE_int)))))
abbrev N_turned_by : List Str := ["number", "base", "left", "right", "less", "more", "times"]
theorem S_turned_by : FnScope N_turned_by ["number", "base"] (defScope (top 19)) := ⟨rfl, rfl, rfl, by decide +kernel, rfl, by decide +kernel, by decide +kernel⟩
theorem ok_turned_by (T : Txt P w K mg base a fd b fI fe) : FnOk P w K mg base (L2.CX P w) 1 (a 12) (fd 12) ["number", "base"] (spOf K mg 2 den_turned_by) := by
  refine ok_def (k := 0) (N := N_turned_by) T.d_turned_by.F S_turned_by fun cdv A outer s H E hr => ?_
  have tk := takes_of (X := cxOf (L2.CX P w) P w K mg base N_turned_by "turned_by" (defScope (top 19)) (a 12) cdv A outer s H E) rfl rfl rfl rfl
  have pas := passes_of (X := cxOf (L2.CX P w) P w K mg base N_turned_by "turned_by" (defScope (top 19)) (a 12) cdv A outer s H E) rfl
  have hr : Room 0 (cxOf (L2.CX P w) P w K mg base N_turned_by "turned_by" (defScope (top 19)) (a 12) cdv A outer s H E).A := hr
  unfold c_turned_by
  exact (sS_cons (sPar2 S_turned_by.nd (qL qV (qL (qBin qV qV) sL_nil)))
    (sS_cons (sUnpk (gT (gC (gN S_turned_by.nd) (gC (gN S_turned_by.nd) sGs_nil))) (sE_tup (qL sE_int (qL sE_int sL_nil))))
    (sS_cons (sS_while pas (tCmp hr qV sE_int)
    (sS_cons (sSet S_turned_by.nd (qBin qV qV))
    (sS_cons (sPar2 S_turned_by.nd (qL qV (qL (qBin qV (qBin qV qV)) sL_nil)))
    (sS_one (sPar2 S_turned_by.nd (qL qV (qL (qBin qV (qBin qV qV)) sL_nil)))))))
    (sS_one (sS_ret (qBin qV qV))))))
abbrev N_common_numbers : List Str := ["fence", "other", "step", "mate", "both", "around", "turns", "whole", "low", "high", "first", "last"]
theorem S_common_numbers : FnScope N_common_numbers ["fence", "other"] (defScope (top 20)) := ⟨rfl, rfl, rfl, by decide +kernel, rfl, by decide +kernel, by decide +kernel⟩
theorem ok_common_numbers (T : Txt P w K mg base a fd b fI fe) : FnOk P w K mg base (L2.CX P w) 2 (a 13) (fd 13) ["fence", "other"] (spOf K mg 2 den_common_numbers) := by
  refine ok_def (k := 1) (N := N_common_numbers) T.d_common_numbers.F S_common_numbers fun cdv A outer s H E hr => ?_
  have tk := takes_of (X := cxOf (L2.CX P w) P w K mg base N_common_numbers "common_numbers" (defScope (top 20)) (a 13) cdv A outer s H E) rfl rfl rfl rfl
  have pas := passes_of (X := cxOf (L2.CX P w) P w K mg base N_common_numbers "common_numbers" (defScope (top 20)) (a 13) cdv A outer s H E) rfl
  have hr : Room 1 (cxOf (L2.CX P w) P w K mg base N_common_numbers "common_numbers" (defScope (top 20)) (a 13) cdv A outer s H E).A := hr
  unfold c_common_numbers
  exact (sS_cons (sPar2 S_common_numbers.nd (qL (qIx qV sE_int) (qL (qIx qV sE_int) sL_nil)))
    (sS_cons (sSet S_common_numbers.nd (qF vGcd_ok T.m_gcd (qL qV (qL qV sL_nil))))
    (sS_cons (sS_if (tCmp hr (qBin (qBin (qIx qV sE_int) (qIx qV sE_int)) qV) sE_int)
    (sS_one (sS_ret sE_none))
    sS_nil)
    (sS_cons (sSet S_common_numbers.nd (qBin qV qV))
    (sS_cons (sSet S_common_numbers.nd (qBin (qBin (qBin (qIx qV sE_int) (qIx qV sE_int)) qV) (qD T.d_turned_by (ok_turned_by T) hr tk (qL (qBin qV qV) (qL qV sL_nil)))))
    (sS_cons (sSet S_common_numbers.nd (qF vLcm_ok T.m_lcm (qL qV (qL qV sL_nil))))
    (sS_cons (sPar2 S_common_numbers.nd (qL (qB (vMax_ok rfl (units64 hr)) T.n_max bb_max (qL (qIx qV sE_int) (qL (qIx qV sE_int) sL_nil))) (qL (qB (vMin_ok rfl (units64 hr)) T.n_min bb_min (qL (qIx qV sE_int) (qL (qIx qV sE_int) sL_nil))) sL_nil)))
    (sS_cons (sSet S_common_numbers.nd (qBin (qIx qV sE_int) (qBin qV (qBin qV qV))))
    (sS_cons (sSet S_common_numbers.nd (qBin qV (qBin (qBin (qBin (qBin (qBin qV qV) qV) sE_int) qV) qV)))
    (sS_cons (sS_if (tCmp hr qV qV)
    (sS_one (sS_ret sE_none))
    sS_nil)
    (sS_cons (sSet S_common_numbers.nd (qBin qV (qBin (qBin (qBin qV qV) qV) qV)))
    (sS_one (sS_ret (sE_tup (qL qV (qL qV (qL (sE_if (tCmp hr qV qV) sE_int qV) sL_nil)))))))))))))))))
abbrev N_fences_met : List Str := ["fence", "other", "told", "mate"]
theorem S_fences_met : FnScope N_fences_met ["fence", "other"] (defScope (top 21)) := ⟨rfl, rfl, rfl, by decide +kernel, rfl, by decide +kernel, by decide +kernel⟩
theorem ok_fences_met (T : Txt P w K mg base a fd b fI fe) : FnOk P w K mg base (L2.CX P w) 4 (a 14) (fd 14) ["fence", "other"] (spOf K mg 2 den_fences_met) := by
  refine ok_def (k := 3) (N := N_fences_met) T.d_fences_met.F S_fences_met fun cdv A outer s H E hr => ?_
  have tk := takes_of (X := cxOf (L2.CX P w) P w K mg base N_fences_met "fences_met" (defScope (top 21)) (a 14) cdv A outer s H E) rfl rfl rfl rfl
  have pas := passes_of (X := cxOf (L2.CX P w) P w K mg base N_fences_met "fences_met" (defScope (top 21)) (a 14) cdv A outer s H E) rfl
  have hr : Room 3 (cxOf (L2.CX P w) P w K mg base N_fences_met "fences_met" (defScope (top 21)) (a 14) cdv A outer s H E).A := hr
  unfold c_fences_met
  exact (sS_cons (sSet S_fences_met.nd (qD T.d_check_fence (ok_check_fence T) hr tk (qL qV sL_nil)))
    (sS_cons (sSet S_fences_met.nd (qD T.d_check_other_fence (ok_check_other_fence T) hr tk (qL qV sL_nil)))
    (sS_cons (sS_if (tCmp hr (qIx qV sE_int) sE_int)
    (sS_one (sS_ret (sE_if (tTru (qD T.d_holds_number (ok_holds_number T) hr tk (qL qV (qL (qIx qV sE_int) sL_nil)))) qV sE_none)))
    sS_nil)
    (sS_cons (sS_if (tCmp hr (qIx qV sE_int) sE_int)
    (sS_one (sS_ret (sE_if (tTru (qD T.d_holds_number (ok_holds_number T) hr tk (qL qV (qL (qIx qV sE_int) sL_nil)))) qV sE_none)))
    sS_nil)
    (sS_one (sS_ret (qD T.d_common_numbers (ok_common_numbers T) hr tk (qL qV (qL qV sL_nil)))))))))
abbrev N_is_fence_within : List Str := ["fence", "other", "told", "mate"]
theorem S_is_fence_within : FnScope N_is_fence_within ["fence", "other"] (defScope (top 22)) := ⟨rfl, rfl, rfl, by decide +kernel, rfl, by decide +kernel, by decide +kernel⟩
theorem ok_is_fence_within (T : Txt P w K mg base a fd b fI fe) : FnOk P w K mg base (L2.CX P w) 4 (a 15) (fd 15) ["fence", "other"] (spOf K mg 2 den_is_fence_within) := by
  refine ok_def (k := 3) (N := N_is_fence_within) T.d_is_fence_within.F S_is_fence_within fun cdv A outer s H E hr => ?_
  have tk := takes_of (X := cxOf (L2.CX P w) P w K mg base N_is_fence_within "is_fence_within" (defScope (top 22)) (a 15) cdv A outer s H E) rfl rfl rfl rfl
  have pas := passes_of (X := cxOf (L2.CX P w) P w K mg base N_is_fence_within "is_fence_within" (defScope (top 22)) (a 15) cdv A outer s H E) rfl
  have hr : Room 3 (cxOf (L2.CX P w) P w K mg base N_is_fence_within "is_fence_within" (defScope (top 22)) (a 15) cdv A outer s H E).A := hr
  unfold c_is_fence_within
  exact (sS_cons (sSet S_is_fence_within.nd (qD T.d_check_fence (ok_check_fence T) hr tk (qL qV sL_nil)))
    (sS_cons (sSet S_is_fence_within.nd (qD T.d_check_other_fence (ok_check_other_fence T) hr tk (qL qV sL_nil)))
    (sS_cons (sS_if (PW.pt (sW_or (sT_not (tTru (qD T.d_holds_number (ok_holds_number T) hr tk (qL qV (qL (qIx qV sE_int) sL_nil))))) (sW_or1 (sT_not (tTru (qD T.d_holds_number (ok_holds_number T) hr tk (qL qV (qL (qIx qV sE_int) sL_nil))))))))
    (sS_one (sS_ret sE_bool))
    sS_nil)
    (sS_one (sS_ret (sE_or (qCmp hr (qIx qV sE_int) sE_int) (sE_one (qCmp hr (qBin (qIx qV sE_int) (qIx qV sE_int)) sE_int))))))))
abbrev N_fence_behind : List Str := ["fence", "other", "told", "mate"]
theorem S_fence_behind : FnScope N_fence_behind ["fence", "other"] (defScope (top 23)) := ⟨rfl, rfl, rfl, by decide +kernel, rfl, by decide +kernel, by decide +kernel⟩
theorem ok_fence_behind (T : Txt P w K mg base a fd b fI fe) : FnOk P w K mg base (L2.CX P w) 4 (a 16) (fd 16) ["fence", "other"] (spOf K mg 2 den_fence_behind) := by
  refine ok_def (k := 3) (N := N_fence_behind) T.d_fence_behind.F S_fence_behind fun cdv A outer s H E hr => ?_
  have tk := takes_of (X := cxOf (L2.CX P w) P w K mg base N_fence_behind "fence_behind" (defScope (top 23)) (a 16) cdv A outer s H E) rfl rfl rfl rfl
  have pas := passes_of (X := cxOf (L2.CX P w) P w K mg base N_fence_behind "fence_behind" (defScope (top 23)) (a 16) cdv A outer s H E) rfl
  have hr : Room 3 (cxOf (L2.CX P w) P w K mg base N_fence_behind "fence_behind" (defScope (top 23)) (a 16) cdv A outer s H E).A := hr
  unfold c_fence_behind
  exact (sS_cons (sSet S_fence_behind.nd (qD T.d_check_fence (ok_check_fence T) hr tk (qL qV sL_nil)))
    (sS_cons (sSet S_fence_behind.nd (qD T.d_check_other_fence (ok_check_other_fence T) hr tk (qL qV sL_nil)))
    (sS_one (sS_ret (sE_tup (qL (qBin (qIx qV sE_int) (qIx qV sE_int)) (qL (qBin (qIx qV sE_int) (qIx qV sE_int)) (qL (qF vGcd_ok T.m_gcd (qL (qIx qV sE_int) (qL (qIx qV sE_int) sL_nil))) sL_nil))))))))
abbrev N_either_fence : List Str := ["told", "mate", "step"]
theorem S_either_fence : FnScope N_either_fence ["told", "mate"] (defScope (top 24)) := ⟨rfl, rfl, rfl, by decide +kernel, rfl, by decide +kernel, by decide +kernel⟩
theorem ok_either_fence (T : Txt P w K mg base a fd b fI fe) : FnOk P w K mg base (L2.CX P w) 1 (a 17) (fd 17) ["told", "mate"] (spOf K mg 2 den_either_fence) := by
  refine ok_def (k := 0) (N := N_either_fence) T.d_either_fence.F S_either_fence fun cdv A outer s H E hr => ?_
  have tk := takes_of (X := cxOf (L2.CX P w) P w K mg base N_either_fence "either_fence" (defScope (top 24)) (a 17) cdv A outer s H E) rfl rfl rfl rfl
  have pas := passes_of (X := cxOf (L2.CX P w) P w K mg base N_either_fence "either_fence" (defScope (top 24)) (a 17) cdv A outer s H E) rfl
  have hr : Room 0 (cxOf (L2.CX P w) P w K mg base N_either_fence "either_fence" (defScope (top 24)) (a 17) cdv A outer s H E).A := hr
  unfold c_either_fence
  exact (sS_cons (sSet S_either_fence.nd (qF vGcd_ok T.m_gcd (qL (qF vGcd_ok T.m_gcd (qL (qIx qV sE_int) (qL (qIx qV sE_int) sL_nil))) (qL (qBin (qIx qV sE_int) (qIx qV sE_int)) sL_nil))))
    (sS_one (sS_ret (sE_tup (qL (qB (vMin_ok rfl (units64 hr)) T.n_min bb_min (qL (qIx qV sE_int) (qL (qIx qV sE_int) sL_nil))) (qL (qB (vMax_ok rfl (units64 hr)) T.n_max bb_max (qL (qIx qV sE_int) (qL (qIx qV sE_int) sL_nil))) (qL qV sL_nil)))))))
abbrev N_fence_either : List Str := ["fence", "other", "told"]
theorem S_fence_either : FnScope N_fence_either ["fence", "other"] (defScope (top 25)) := ⟨rfl, rfl, rfl, by decide +kernel, rfl, by decide +kernel, by decide +kernel⟩
theorem ok_fence_either (T : Txt P w K mg base a fd b fI fe) : FnOk P w K mg base (L2.CX P w) 4 (a 18) (fd 18) ["fence", "other"] (spOf K mg 2 den_fence_either) := by
  refine ok_def (k := 3) (N := N_fence_either) T.d_fence_either.F S_fence_either fun cdv A outer s H E hr => ?_
  have tk := takes_of (X := cxOf (L2.CX P w) P w K mg base N_fence_either "fence_either" (defScope (top 25)) (a 18) cdv A outer s H E) rfl rfl rfl rfl
  have pas := passes_of (X := cxOf (L2.CX P w) P w K mg base N_fence_either "fence_either" (defScope (top 25)) (a 18) cdv A outer s H E) rfl
  have hr : Room 3 (cxOf (L2.CX P w) P w K mg base N_fence_either "fence_either" (defScope (top 25)) (a 18) cdv A outer s H E).A := hr
  unfold c_fence_either
  exact (sS_cons (sSet S_fence_either.nd (qD T.d_check_fence (ok_check_fence T) hr tk (qL qV sL_nil)))
    (sS_one (sS_ret (qD T.d_either_fence (ok_either_fence T) hr tk (qL qV (qL (qD T.d_check_other_fence (ok_check_other_fence T) hr tk (qL qV sL_nil)) sL_nil))))))
abbrev N_fence_times : List Str := ["fence", "k", "lo", "hi", "step"]
theorem S_fence_times : FnScope N_fence_times ["fence", "k"] (defScope (top 26)) := ⟨rfl, rfl, rfl, by decide +kernel, rfl, by decide +kernel, by decide +kernel⟩
theorem ok_fence_times (T : Txt P w K mg base a fd b fI fe) : FnOk P w K mg base (L2.CX P w) 4 (a 19) (fd 19) ["fence", "k"] (spOf K mg 2 den_fence_times) := by
  refine ok_def (k := 3) (N := N_fence_times) T.d_fence_times.F S_fence_times fun cdv A outer s H E hr => ?_
  have tk := takes_of (X := cxOf (L2.CX P w) P w K mg base N_fence_times "fence_times" (defScope (top 26)) (a 19) cdv A outer s H E) rfl rfl rfl rfl
  have pas := passes_of (X := cxOf (L2.CX P w) P w K mg base N_fence_times "fence_times" (defScope (top 26)) (a 19) cdv A outer s H E) rfl
  have hr : Room 3 (cxOf (L2.CX P w) P w K mg base N_fence_times "fence_times" (defScope (top 26)) (a 19) cdv A outer s H E).A := hr
  unfold c_fence_times
  exact (sS_cons (sUnpk (gT (gC (gN S_fence_times.nd) (gC (gN S_fence_times.nd) (gC (gN S_fence_times.nd) sGs_nil)))) (qD T.d_check_fence (ok_check_fence T) hr tk (qL qV sL_nil)))
    (sS_cons (sExp (qD T.d_check_number (ok_check_number T) hr tk (qL qV (qL sE_int sL_nil))))
    (sS_one (sS_ret (sE_tup (qL (qBin qV qV) (qL (qBin qV qV) (qL qV sL_nil))))))))
abbrev N_law_draws : List Str := ["script", "draws", "at", "cell", "turn"]
theorem S_law_draws : FnScope N_law_draws ["script"] (defScope (top 28)) := ⟨rfl, rfl, rfl, by decide +kernel, rfl, by decide +kernel, by decide +kernel⟩
theorem ok_law_draws (T : Txt P w K mg base a fd b fI fe) : FnOk P w K mg base (L2.CX P w) 1 (a 20) (fd 20) ["script"] (spOf K mg 1 den_law_draws) := by
  refine ok_def (k := 0) (N := N_law_draws) T.d_law_draws.F S_law_draws fun cdv A outer s H E hr => ?_
  have tk := takes_of (X := cxOf (L2.CX P w) P w K mg base N_law_draws "_law_draws" (defScope (top 28)) (a 20) cdv A outer s H E) rfl rfl rfl rfl
  have pas := passes_of (X := cxOf (L2.CX P w) P w K mg base N_law_draws "_law_draws" (defScope (top 28)) (a 20) cdv A outer s H E) rfl
  have hr : Room 0 (cxOf (L2.CX P w) P w K mg base N_law_draws "_law_draws" (defScope (top 28)) (a 20) cdv A outer s H E).A := hr
  unfold c_law_draws
  exact (sS_cons (sSet S_law_draws.nd (sE_lst sL_nil))
    (sS_cons (sForL pas (iR1 T.n_range (qL (qB (vMin_ok rfl (units64 hr)) T.n_min bb_min (qL (qB vLen_ok T.n_len bb_len (qL qV sL_nil)) (qL sE_int sL_nil))) sL_nil)) (gN S_law_draws.nd)
    (sS_cons (sSet S_law_draws.nd (qTy vInt_ok T.n_int bb_int (qL (qIx qV qV) sL_nil)))
    (sS_cons (sS_if (tCmp hr qV sE_int)
    (sS_one (sSet S_law_draws.nd (qBin sE_int (qBin sE_int qV))))
    sS_nil)
    (sS_cons (sSet S_law_draws.nd (qBin (qTy vInt_ok T.n_int bb_int (qL qV sL_nil)) (qBin sE_int sE_int)))
    (sS_one (sForL pas (iR1 T.n_range (qL sE_int sL_nil)) (gN S_law_draws.nd)
    (sS_cons (sExp (qApp qV (qL (qBin (qTy vInt_ok T.n_int bb_int (qL qV sL_nil)) sE_int) sL_nil)))
    (sS_cons (sSet S_law_draws.nd (qBin qV sE_int))
    (sS_one (sS_if (tCmp hr qV sE_int)
    (sS_one sS_break)
    sS_nil))))))))))
    (sS_cons (sExp (qRev qV))
    (sS_one (sS_ret qV)))))
abbrev N_law_take : List Str := ["draws", "many"]
theorem S_law_take : FnScope N_law_take ["draws", "many"] (defScope (top 29)) := ⟨rfl, rfl, rfl, by decide +kernel, rfl, by decide +kernel, by decide +kernel⟩
theorem ok_law_take (T : Txt P w K mg base a fd b fI fe) : FnOk P w K mg base (L2.CX P w) 1 (a 21) (fd 21) ["draws", "many"] (spOf K mg 2 den_law_take) := by
  refine ok_def (k := 0) (N := N_law_take) T.d_law_take.F S_law_take fun cdv A outer s H E hr => ?_
  have tk := takes_of (X := cxOf (L2.CX P w) P w K mg base N_law_take "_law_take" (defScope (top 29)) (a 21) cdv A outer s H E) rfl rfl rfl rfl
  have pas := passes_of (X := cxOf (L2.CX P w) P w K mg base N_law_take "_law_take" (defScope (top 29)) (a 21) cdv A outer s H E) rfl
  have hr : Room 0 (cxOf (L2.CX P w) P w K mg base N_law_take "_law_take" (defScope (top 29)) (a 21) cdv A outer s H E).A := hr
  unfold c_law_take
  exact (sS_cons (sS_if (tCmp hr (qB vLen_ok T.n_len bb_len (qL qV sL_nil)) sE_int)
    (sS_one (sS_ret sE_int))
    sS_nil)
    (sS_one (sS_ret (qBin (qTy vInt_ok T.n_int bb_int (qL (qPop qV) sL_nil)) qV))))
abbrev N_law_gcd : List Str := ["a", "b", "turn"]
theorem S_law_gcd : FnScope N_law_gcd ["a", "b"] (defScope (top 30)) := ⟨rfl, rfl, rfl, by decide +kernel, rfl, by decide +kernel, by decide +kernel⟩
theorem ok_law_gcd (T : Txt P w K mg base a fd b fI fe) : FnOk P w K mg base (L2.CX P w) 1 (a 22) (fd 22) ["a", "b"] (spOf K mg 2 den_law_gcd) := by
  refine ok_def (k := 0) (N := N_law_gcd) T.d_law_gcd.F S_law_gcd fun cdv A outer s H E hr => ?_
  have tk := takes_of (X := cxOf (L2.CX P w) P w K mg base N_law_gcd "_law_gcd" (defScope (top 30)) (a 22) cdv A outer s H E) rfl rfl rfl rfl
  have pas := passes_of (X := cxOf (L2.CX P w) P w K mg base N_law_gcd "_law_gcd" (defScope (top 30)) (a 22) cdv A outer s H E) rfl
  have hr : Room 0 (cxOf (L2.CX P w) P w K mg base N_law_gcd "_law_gcd" (defScope (top 30)) (a 22) cdv A outer s H E).A := hr
  unfold c_law_gcd
  exact (sS_cons (sSet S_law_gcd.nd (qB vAbs_ok T.n_abs bb_abs (qL qV sL_nil)))
    (sS_cons (sSet S_law_gcd.nd (qB vAbs_ok T.n_abs bb_abs (qL qV sL_nil)))
    (sS_cons (sForL pas (iR1 T.n_range (qL sE_int sL_nil)) (gN S_law_gcd.nd)
    (sS_cons (sS_if (tCmp hr qV sE_int)
    (sS_one sS_break)
    sS_nil)
    (sS_one (sPar2 S_law_gcd.nd (qL qV (qL (qBin (qTy vInt_ok T.n_int bb_int (qL qV sL_nil)) (qTy vInt_ok T.n_int bb_int (qL qV sL_nil))) sL_nil))))))
    (sS_one (sS_ret qV)))))
abbrev N_law_is_number : List Str := ["told", "due"]
theorem S_law_is_number : FnScope N_law_is_number ["told", "due"] (defScope (top 32)) := ⟨rfl, rfl, rfl, by decide +kernel, rfl, by decide +kernel, by decide +kernel⟩
theorem ok_law_is_number (T : Txt P w K mg base a fd b fI fe) : FnOk P w K mg base (L2.CX P w) 1 (a 24) (fd 24) ["told", "due"] (spOf K mg 2 den_law_is_number) := by
  refine ok_def (k := 0) (N := N_law_is_number) T.d_law_is_number.F S_law_is_number fun cdv A outer s H E hr => ?_
  have tk := takes_of (X := cxOf (L2.CX P w) P w K mg base N_law_is_number "_law_is_number" (defScope (top 32)) (a 24) cdv A outer s H E) rfl rfl rfl rfl
  have pas := passes_of (X := cxOf (L2.CX P w) P w K mg base N_law_is_number "_law_is_number" (defScope (top 32)) (a 24) cdv A outer s H E) rfl
  have hr : Room 0 (cxOf (L2.CX P w) P w K mg base N_law_is_number "_law_is_number" (defScope (top 32)) (a 24) cdv A outer s H E).A := hr
  unfold c_law_is_number
  exact (sS_one (sS_ret (sE_and (qIs T.n_isinstance T.n_int bb_int qV) (sE_and (sE_not (qIs T.n_isinstance T.n_bool bb_bool qV)) (sE_one (qCmp hr qV qV))))))
abbrev N_law_is : List Str := ["told", "due", "at"]
theorem S_law_is : FnScope N_law_is ["told", "due"] (defScope (top 31)) := ⟨rfl, rfl, rfl, by decide +kernel, rfl, by decide +kernel, by decide +kernel⟩
theorem ok_law_is (T : Txt P w K mg base a fd b fI fe) : FnOk P w K mg base (L2.CX P w) 2 (a 23) (fd 23) ["told", "due"] (spOf K mg 2 den_law_is) := by
  refine ok_def (k := 1) (N := N_law_is) T.d_law_is.F S_law_is fun cdv A outer s H E hr => ?_
  have tk := takes_of (X := cxOf (L2.CX P w) P w K mg base N_law_is "_law_is" (defScope (top 31)) (a 23) cdv A outer s H E) rfl rfl rfl rfl
  have pas := passes_of (X := cxOf (L2.CX P w) P w K mg base N_law_is "_law_is" (defScope (top 31)) (a 23) cdv A outer s H E) rfl
  have hr : Room 1 (cxOf (L2.CX P w) P w K mg base N_law_is "_law_is" (defScope (top 31)) (a 23) cdv A outer s H E).A := hr
  unfold c_law_is
  exact (sS_cons (sS_if (tCmp hr qV sE_none)
    (sS_one (sS_ret (qCmp hr qV sE_none)))
    sS_nil)
    (sS_cons (sS_if (tTru (qIs T.n_isinstance T.n_tuple bb_tuple qV))
    (sS_cons (sS_if (PW.pt (sW_or (sT_not (tTru (qIs T.n_isinstance T.n_tuple bb_tuple qV))) (sW_or1 (tCmp hr (qB vLen_ok T.n_len bb_len (qL qV sL_nil)) (qB vLen_ok T.n_len bb_len (qL qV sL_nil))))))
    (sS_one (sS_ret sE_bool))
    sS_nil)
    (sS_one (sS_ret (qCmp hr (qB vLen_ok T.n_len bb_len (qL (qLc (own := [("at", 2)]) S_law_is.nd (iR1 T.n_range (qL (qB vLen_ok T.n_len bb_len (qL qV sL_nil)) sL_nil)) (by show BlkOk N_law_is (defScope (top 31)) _ [("at", 2)]; exact blkOk_by (by decide +kernel)) (fun s H C cl fp => (gN S_law_is.nd)) (fun s H C cl fp => (ts_one (sT_not (tTru (qD T.d_law_is_number (ok_law_is_number T) hr takes_none5 (qL (qIx qV qV) (qL (qIx qV qV) sL_nil))))))) (fun s H C cl fp => qV)) sL_nil)) sE_int))))
    sS_nil)
    (sS_one (sS_ret (qD T.d_law_is_number (ok_law_is_number T) hr tk (qL qV (qL qV sL_nil)))))))
abbrev N_law_yes : List Str := ["told", "due"]
theorem S_law_yes : FnScope N_law_yes ["told", "due"] (defScope (top 33)) := ⟨rfl, rfl, rfl, by decide +kernel, rfl, by decide +kernel, by decide +kernel⟩
theorem ok_law_yes (T : Txt P w K mg base a fd b fI fe) : FnOk P w K mg base (L2.CX P w) 1 (a 25) (fd 25) ["told", "due"] (spOf K mg 2 den_law_yes) := by
  refine ok_def (k := 0) (N := N_law_yes) T.d_law_yes.F S_law_yes fun cdv A outer s H E hr => ?_
  have tk := takes_of (X := cxOf (L2.CX P w) P w K mg base N_law_yes "_law_yes" (defScope (top 33)) (a 25) cdv A outer s H E) rfl rfl rfl rfl
  have pas := passes_of (X := cxOf (L2.CX P w) P w K mg base N_law_yes "_law_yes" (defScope (top 33)) (a 25) cdv A outer s H E) rfl
  have hr : Room 0 (cxOf (L2.CX P w) P w K mg base N_law_yes "_law_yes" (defScope (top 33)) (a 25) cdv A outer s H E).A := hr
  unfold c_law_yes
  exact (sS_cons (sS_if (tTru qV)
    (sS_one (sS_ret (qCmp hr qV sE_bool)))
    sS_nil)
    (sS_one (sS_ret (qCmp hr qV sE_bool))))
abbrev N_law_fence : List Str := ["draws", "lo", "many", "step"]
theorem S_law_fence : FnScope N_law_fence ["draws"] (defScope (top 34)) := ⟨rfl, rfl, rfl, by decide +kernel, rfl, by decide +kernel, by decide +kernel⟩
theorem ok_law_fence (T : Txt P w K mg base a fd b fI fe) : FnOk P w K mg base (L2.CX P w) 2 (a 26) (fd 26) ["draws"] (spOf K mg 1 den_law_fence) := by
  refine ok_def (k := 1) (N := N_law_fence) T.d_law_fence.F S_law_fence fun cdv A outer s H E hr => ?_
  have tk := takes_of (X := cxOf (L2.CX P w) P w K mg base N_law_fence "_law_fence" (defScope (top 34)) (a 26) cdv A outer s H E) rfl rfl rfl rfl
  have pas := passes_of (X := cxOf (L2.CX P w) P w K mg base N_law_fence "_law_fence" (defScope (top 34)) (a 26) cdv A outer s H E) rfl
  have hr : Room 1 (cxOf (L2.CX P w) P w K mg base N_law_fence "_law_fence" (defScope (top 34)) (a 26) cdv A outer s H E).A := hr
  unfold c_law_fence
  exact (sS_cons (sSet S_law_fence.nd (qBin (qIx (sE_lst (qL sE_int (qL sE_int (qL (sE_neg sE_int) (qL sE_int (qL (sE_neg sE_int) (qL sE_int sL_nil))))))) (qD T.d_law_take (ok_law_take T) hr tk (qL qV (qL sE_int sL_nil)))) (qD T.d_law_take (ok_law_take T) hr tk (qL qV (qL sE_int sL_nil)))))
    (sS_cons (sSet S_law_fence.nd (qIx (sE_lst (qL sE_int (qL sE_int (qL sE_int (qL sE_int (qL sE_int (qL sE_int (qL sE_int sL_nil)))))))) (qD T.d_law_take (ok_law_take T) hr tk (qL qV (qL sE_int sL_nil)))))
    (sS_cons (sSet S_law_fence.nd (qIx (sE_lst (qL sE_int (qL sE_int (qL sE_int (qL sE_int (qL sE_int (qL sE_int (qL sE_int sL_nil)))))))) (qD T.d_law_take (ok_law_take T) hr tk (qL qV (qL sE_int sL_nil)))))
    (sS_cons (sS_if (tCmp hr qV sE_int)
    (sS_one (sS_ret (sE_tup (qL qV (qL qV (qL sE_int sL_nil))))))
    sS_nil)
    (sS_one (sS_ret (sE_tup (qL qV (qL (qBin qV (qBin qV (qBin qV sE_int))) (qL qV sL_nil))))))))))
abbrev N_law_numbers : List Str := ["fence"]
theorem S_law_numbers : FnScope N_law_numbers ["fence"] (defScope (top 35)) := ⟨rfl, rfl, rfl, by decide +kernel, rfl, by decide +kernel, by decide +kernel⟩
theorem ok_law_numbers (T : Txt P w K mg base a fd b fI fe) : FnOk P w K mg base (L2.CX P w) 1 (a 27) (fd 27) ["fence"] (spOf K mg 1 den_law_numbers) := by
  refine ok_def (k := 0) (N := N_law_numbers) T.d_law_numbers.F S_law_numbers fun cdv A outer s H E hr => ?_
  have tk := takes_of (X := cxOf (L2.CX P w) P w K mg base N_law_numbers "_law_numbers" (defScope (top 35)) (a 27) cdv A outer s H E) rfl rfl rfl rfl
  have pas := passes_of (X := cxOf (L2.CX P w) P w K mg base N_law_numbers "_law_numbers" (defScope (top 35)) (a 27) cdv A outer s H E) rfl
  have hr : Room 0 (cxOf (L2.CX P w) P w K mg base N_law_numbers "_law_numbers" (defScope (top 35)) (a 27) cdv A outer s H E).A := hr
  unfold c_law_numbers
  exact (sS_cons (sS_if (tCmp hr (qIx qV sE_int) sE_int)
    (sS_one (sS_ret (sE_lst (qL (qIx qV sE_int) sL_nil))))
    sS_nil)
    (sS_one (sS_ret (qLR3 T.n_range T.n_list (qL (qIx qV sE_int) (qL (qBin (qIx qV sE_int) sE_int) (qL (qIx qV sE_int) sL_nil)))))))
abbrev N_law_least : List Str := ["values", "step", "value"]
theorem S_law_least : FnScope N_law_least ["values"] (defScope (top 36)) := ⟨rfl, rfl, rfl, by decide +kernel, rfl, by decide +kernel, by decide +kernel⟩
theorem ok_law_least (T : Txt P w K mg base a fd b fI fe) : FnOk P w K mg base (L2.CX P w) 2 (a 28) (fd 28) ["values"] (spOf K mg 1 den_law_least) := by
  refine ok_def (k := 1) (N := N_law_least) T.d_law_least.F S_law_least fun cdv A outer s H E hr => ?_
  have tk := takes_of (X := cxOf (L2.CX P w) P w K mg base N_law_least "_law_least" (defScope (top 36)) (a 28) cdv A outer s H E) rfl rfl rfl rfl
  have pas := passes_of (X := cxOf (L2.CX P w) P w K mg base N_law_least "_law_least" (defScope (top 36)) (a 28) cdv A outer s H E) rfl
  have hr : Room 1 (cxOf (L2.CX P w) P w K mg base N_law_least "_law_least" (defScope (top 36)) (a 28) cdv A outer s H E).A := hr
  unfold c_law_least
  exact (sS_cons (sS_if (tCmp hr (qB vLen_ok T.n_len bb_len (qL qV sL_nil)) sE_int)
    (sS_one (sS_ret sE_none))
    sS_nil)
    (sS_cons (sSet S_law_least.nd sE_int)
    (sS_cons (sForL pas (sI_seq qV) (gN S_law_least.nd)
    (sS_one (sSet S_law_least.nd (qD T.d_law_gcd (ok_law_gcd T) hr tk (qL qV (qL (qBin qV (qIx qV sE_int)) sL_nil))))))
    (sS_one (sS_ret (sE_tup (qL (qB (vMin_ok rfl (units64 hr)) T.n_min bb_min (qL qV sL_nil)) (qL (qB (vMax_ok rfl (units64 hr)) T.n_max bb_max (qL qV sL_nil)) (qL qV sL_nil)))))))))
abbrev N_law_sums : List Str := ["values", "others", "sums", "value", "other"]
theorem S_law_sums : FnScope N_law_sums ["values", "others"] (defScope (top 37)) := ⟨rfl, rfl, rfl, by decide +kernel, rfl, by decide +kernel, by decide +kernel⟩
theorem ok_law_sums (T : Txt P w K mg base a fd b fI fe) : FnOk P w K mg base (L2.CX P w) 1 (a 29) (fd 29) ["values", "others"] (spOf K mg 2 den_law_sums) := by
  refine ok_def (k := 0) (N := N_law_sums) T.d_law_sums.F S_law_sums fun cdv A outer s H E hr => ?_
  have tk := takes_of (X := cxOf (L2.CX P w) P w K mg base N_law_sums "_law_sums" (defScope (top 37)) (a 29) cdv A outer s H E) rfl rfl rfl rfl
  have pas := passes_of (X := cxOf (L2.CX P w) P w K mg base N_law_sums "_law_sums" (defScope (top 37)) (a 29) cdv A outer s H E) rfl
  have hr : Room 0 (cxOf (L2.CX P w) P w K mg base N_law_sums "_law_sums" (defScope (top 37)) (a 29) cdv A outer s H E).A := hr
  unfold c_law_sums
  exact (sS_cons (sSet S_law_sums.nd (sE_lst sL_nil))
    (sS_cons (sForL pas (sI_seq qV) (gN S_law_sums.nd)
    (sS_one (sSet S_law_sums.nd (qBin qV (qLc (own := [("other", 4)]) S_law_sums.nd (sI_seq qV) (by show BlkOk N_law_sums (defScope (top 37)) _ [("other", 4)]; exact blkOk_by (by decide +kernel)) (fun s H C cl fp => (gN S_law_sums.nd)) (fun s H C cl fp => (ts_one (tCmp hr (qBin qV qV) qV))) (fun s H C cl fp => (qBin qV qV)))))))
    (sS_one (sS_ret qV))))
abbrev N_law_far : List Str := ["fence", "by", "more"]
theorem S_law_far : FnScope N_law_far ["fence", "by", "more"] (defScope (top 38)) := ⟨rfl, rfl, rfl, by decide +kernel, rfl, by decide +kernel, by decide +kernel⟩
theorem ok_law_far (T : Txt P w K mg base a fd b fI fe) : FnOk P w K mg base (L2.CX P w) 1 (a 30) (fd 30) ["fence", "by", "more"] (spOf K mg 3 den_law_far) := by
  refine ok_def (k := 0) (N := N_law_far) T.d_law_far.F S_law_far fun cdv A outer s H E hr => ?_
  have tk := takes_of (X := cxOf (L2.CX P w) P w K mg base N_law_far "_law_far" (defScope (top 38)) (a 30) cdv A outer s H E) rfl rfl rfl rfl
  have pas := passes_of (X := cxOf (L2.CX P w) P w K mg base N_law_far "_law_far" (defScope (top 38)) (a 30) cdv A outer s H E) rfl
  have hr : Room 0 (cxOf (L2.CX P w) P w K mg base N_law_far "_law_far" (defScope (top 38)) (a 30) cdv A outer s H E).A := hr
  unfold c_law_far
  exact (sS_one (sS_ret (sE_tup (qL (qBin (qBin (qIx qV sE_int) qV) qV) (qL (qBin (qBin (qIx qV sE_int) qV) qV) (qL (qBin (qIx qV sE_int) qV) sL_nil))))))
abbrev N_law_pair_right : List Str := ["fence", "other", "by", "more", "one", "two", "common", "first", "second", "due", "number"]
theorem S_law_pair_right : FnScope N_law_pair_right ["fence", "other", "by", "more"] (defScope (top 39)) := ⟨rfl, rfl, rfl, by decide +kernel, rfl, by decide +kernel, by decide +kernel⟩
theorem ok_law_pair_right (T : Txt P w K mg base a fd b fI fe) : FnOk P w K mg base (L2.CX P w) 5 (a 31) (fd 31) ["fence", "other", "by", "more"] (spOf K mg 4 den_law_pair_right) := by
  refine ok_def (k := 4) (N := N_law_pair_right) T.d_law_pair_right.F S_law_pair_right fun cdv A outer s H E hr => ?_
  have tk := takes_of (X := cxOf (L2.CX P w) P w K mg base N_law_pair_right "_law_pair_right" (defScope (top 39)) (a 31) cdv A outer s H E) rfl rfl rfl rfl
  have pas := passes_of (X := cxOf (L2.CX P w) P w K mg base N_law_pair_right "_law_pair_right" (defScope (top 39)) (a 31) cdv A outer s H E) rfl
  have hr : Room 4 (cxOf (L2.CX P w) P w K mg base N_law_pair_right "_law_pair_right" (defScope (top 39)) (a 31) cdv A outer s H E).A := hr
  unfold c_law_pair_right
  exact (sS_cons (sUnpk (gT (gC (gN S_law_pair_right.nd) (gC (gN S_law_pair_right.nd) sGs_nil))) (sE_tup (qL (qD T.d_law_numbers (ok_law_numbers T) hr tk (qL qV sL_nil)) (qL (qD T.d_law_numbers (ok_law_numbers T) hr tk (qL qV sL_nil)) sL_nil))))
    (sS_cons (sSetLc (own := [("number", 10)]) S_law_pair_right.nd (sI_seq qV) (by show BlkOk N_law_pair_right (defScope (top 39)) _ [("number", 10)]; exact blkOk_by (by decide +kernel)) (fun s H C cl fp => (gN S_law_pair_right.nd)) (fun s H C cl fp => (ts_one (tCmp hr qV qV))) (fun s H C cl fp => qV))
    (sS_cons (sPar2 S_law_pair_right.nd (qL (qD T.d_law_far (ok_law_far T) hr tk (qL qV (qL qV (qL qV sL_nil)))) (qL (qD T.d_law_far (ok_law_far T) hr tk (qL qV (qL qV (qL qV sL_nil)))) sL_nil)))
    (sS_cons (sSet S_law_pair_right.nd (qD T.d_law_least (ok_law_least T) hr tk (qL qV sL_nil)))
    (sS_cons (sS_if (tCmp hr qV sE_none)
    (sS_one (sSet S_law_pair_right.nd (qD T.d_law_far (ok_law_far T) hr tk (qL qV (qL qV (qL qV sL_nil))))))
    sS_nil)
    (sS_cons (sS_if (PW.pt (sW_or (sT_not (tTru (qD T.d_law_is (ok_law_is T) hr tk (qL (qD T.d_fences_met (ok_fences_met T) hr tk (qL qV (qL (qTy vList_ok T.n_list bb_list (qL qV sL_nil)) sL_nil))) (qL qV sL_nil))))) (sW_or1 (sT_not (tTru (qD T.d_law_is (ok_law_is T) hr tk (qL (qD T.d_fences_met (ok_fences_met T) hr tk (qL qV (qL qV sL_nil))) (qL qV sL_nil))))))))
    (sS_one (sS_ret sE_bool))
    sS_nil)
    (sS_cons (sS_if (sT_not (tTru (qD T.d_law_yes (ok_law_yes T) hr tk (qL (qD T.d_is_fence_within (ok_is_fence_within T) hr tk (qL (qTy vList_ok T.n_list bb_list (qL qV sL_nil)) (qL qV sL_nil))) (qL (qCmp hr (qB vLen_ok T.n_len bb_len (qL qV sL_nil)) (qB vLen_ok T.n_len bb_len (qL qV sL_nil))) sL_nil)))))
    (sS_one (sS_ret sE_bool))
    sS_nil)
    (sS_cons (sS_if (tCmp hr qV sE_none)
    (sS_one (sS_if (PW.pt (sW_or (tCmp hr (qD T.d_is_fence_within (ok_is_fence_within T) hr tk (qL qV (qL qV sL_nil))) sE_bool) (sW_or1 (tCmp hr (qD T.d_is_fence_within (ok_is_fence_within T) hr tk (qL qV (qL qV sL_nil))) sE_bool))))
    (sS_one (sS_ret sE_bool))
    sS_nil))
    sS_nil)
    (sS_cons (sS_if (sT_not (tTru (qD T.d_law_is (ok_law_is T) hr tk (qL (qD T.d_fence_behind (ok_fence_behind T) hr tk (qL qV (qL qV sL_nil))) (qL (qD T.d_law_far (ok_law_far T) hr tk (qL (qD T.d_law_least (ok_law_least T) hr tk (qL (qD T.d_law_sums (ok_law_sums T) hr tk (qL qV (qL qV sL_nil))) sL_nil)) (qL qV (qL (qBin sE_int qV) sL_nil)))) sL_nil)))))
    (sS_one (sS_ret sE_bool))
    sS_nil)
    (sS_one (sS_ret (qD T.d_law_is (ok_law_is T) hr tk (qL (qD T.d_fence_either (ok_fence_either T) hr tk (qL (qTy vList_ok T.n_list bb_list (qL qV sL_nil)) (qL qV sL_nil))) (qL (qD T.d_law_far (ok_law_far T) hr tk (qL (qD T.d_law_least (ok_law_least T) hr tk (qL (qBin qV qV) sL_nil)) (qL qV (qL qV sL_nil)))) sL_nil))))))))))))))
abbrev N_law_one_right : List Str := ["fence", "by", "more", "draws", "numbers", "far", "handed", "some", "number", "sums", "k", "turn"]
theorem S_law_one_right : FnScope N_law_one_right ["fence", "by", "more", "draws"] (defScope (top 40)) := ⟨rfl, rfl, rfl, by decide +kernel, rfl, by decide +kernel, by decide +kernel⟩
theorem ok_law_one_right (T : Txt P w K mg base a fd b fI fe) : FnOk P w K mg base (L2.CX P w) 5 (a 32) (fd 32) ["fence", "by", "more", "draws"] (spOf K mg 4 den_law_one_right) := by
  refine ok_def (k := 4) (N := N_law_one_right) T.d_law_one_right.F S_law_one_right fun cdv A outer s H E hr => ?_
  have tk := takes_of (X := cxOf (L2.CX P w) P w K mg base N_law_one_right "_law_one_right" (defScope (top 40)) (a 32) cdv A outer s H E) rfl rfl rfl rfl
  have pas := passes_of (X := cxOf (L2.CX P w) P w K mg base N_law_one_right "_law_one_right" (defScope (top 40)) (a 32) cdv A outer s H E) rfl
  have hr : Room 4 (cxOf (L2.CX P w) P w K mg base N_law_one_right "_law_one_right" (defScope (top 40)) (a 32) cdv A outer s H E).A := hr
  unfold c_law_one_right
  exact (sS_cons (sSet S_law_one_right.nd (qD T.d_law_numbers (ok_law_numbers T) hr tk (qL qV sL_nil)))
    (sS_cons (sSet S_law_one_right.nd (qD T.d_law_far (ok_law_far T) hr tk (qL qV (qL qV (qL qV sL_nil)))))
    (sS_cons (sSet S_law_one_right.nd (qLc (own := [("number", 8)]) S_law_one_right.nd (sI_seq qV) (by show BlkOk N_law_one_right (defScope (top 40)) _ [("number", 8)]; exact blkOk_by (by decide +kernel)) (fun s H C cl fp => (gN S_law_one_right.nd)) (fun s H C cl fp => ts_true) (fun s H C cl fp => (qBin (qBin qV qV) qV))))
    (sS_cons (sSet S_law_one_right.nd (qBin (qSl0 qV sE_int) (qLc (own := [("turn", 11)]) S_law_one_right.nd (iR1 T.n_range (qL sE_int sL_nil)) (by show BlkOk N_law_one_right (defScope (top 40)) _ [("turn", 11)]; exact blkOk_by (by decide +kernel)) (fun s H C cl fp => (gN S_law_one_right.nd)) (fun s H C cl fp => ts_true) (fun s H C cl fp => (qIx qV (qBin (qD T.d_law_take (ok_law_take T) hr takes_none5 (qL qV (qL sE_int sL_nil))) (qB vLen_ok T.n_len bb_len (qL qV sL_nil))))))))
    (sS_cons (sS_if (PW.pt (sW_or (sT_not (tTru (qD T.d_law_is (ok_law_is T) hr tk (qL (qD T.d_fence_of (ok_fence_of T) hr tk (qL (qBin qV qV) sL_nil)) (qL qV sL_nil))))) (sW_or1 (sT_not (tTru (qD T.d_law_is (ok_law_is T) hr tk (qL (qD T.d_fence_of (ok_fence_of T) hr tk (qL (qTy vTuple_ok T.n_tuple bb_tuple (qL qV sL_nil)) sL_nil)) (qL (qD T.d_law_least (ok_law_least T) hr tk (qL qV sL_nil)) sL_nil))))))))
    (sS_one (sS_ret sE_bool))
    sS_nil)
    (sS_cons (sExp (qRev qV))
    (sS_cons (sS_if (PW.pt (sW_or (sT_not (tTru (qD T.d_law_is (ok_law_is T) hr tk (qL (qD T.d_fence_of (ok_fence_of T) hr tk (qL qV sL_nil)) (qL qV sL_nil))))) (sW_or1 (sT_not (tTru (qD T.d_law_is (ok_law_is T) hr tk (qL (qD T.d_fence_size (ok_fence_size T) hr tk (qL (qTy vList_ok T.n_list bb_list (qL qV sL_nil)) sL_nil)) (qL (qB vLen_ok T.n_len bb_len (qL qV sL_nil)) sL_nil))))))))
    (sS_one (sS_ret sE_bool))
    sS_nil)
    (sS_cons (sForL pas (iR2 T.n_range (qL (qBin (qIx qV sE_int) sE_int) (qL (qBin (qIx qV sE_int) sE_int) sL_nil))) (gN S_law_one_right.nd)
    (sS_cons (sS_if (sT_not (tTru (qD T.d_law_yes (ok_law_yes T) hr tk (qL (qD T.d_has_number (ok_has_number T) hr tk (qL qV (qL (qBin (qBin qV qV) qV) sL_nil))) (qL (qCmp hr qV qV) sL_nil)))))
    (sS_one (sS_ret sE_bool))
    sS_nil)
    (sS_one (sS_if (PW.pt (sW_and (tCmp hr qV sE_int) (sW_and1 (tCmp hr (qD T.d_has_number (ok_has_number T) hr tk (qL qV (qL (qBin (qBin (qBin qV qV) qV) sE_int) sL_nil))) sE_bool))))
    (sS_one (sS_ret sE_bool))
    sS_nil))))
    (sS_cons (sSet S_law_one_right.nd (sE_lst (qL sE_int sL_nil)))
    (sS_cons (sForL pas (iR2 T.n_range (qL sE_int (qL sE_int sL_nil))) (gN S_law_one_right.nd)
    (sS_cons (sSet S_law_one_right.nd (qD T.d_law_sums (ok_law_sums T) hr tk (qL qV (qL qV sL_nil))))
    (sS_one (sS_if (sT_not (tTru (qD T.d_law_is (ok_law_is T) hr tk (qL (qD T.d_fence_times (ok_fence_times T) hr tk (qL qV (qL qV sL_nil))) (qL (qD T.d_law_far (ok_law_far T) hr tk (qL (qD T.d_law_least (ok_law_least T) hr tk (qL qV sL_nil)) (qL qV (qL (qBin qV qV) sL_nil)))) sL_nil)))))
    (sS_one (sS_ret sE_bool))
    sS_nil))))
    (sS_cons (sSet S_law_one_right.nd (qBin (qBin sE_int sE_int) (qD T.d_law_take (ok_law_take T) hr tk (qL qV (qL sE_int sL_nil)))))
    (sS_one (sS_ret (qD T.d_law_is (ok_law_is T) hr tk (qL (qD T.d_fence_times (ok_fence_times T) hr tk (qL qV (qL qV sL_nil))) (qL (sE_tup (qL (qBin qV (qIx qV sE_int)) (qL (qBin qV (qIx qV sE_int)) (qL (qIx qV sE_int) sL_nil)))) sL_nil))))))))))))))))
abbrev N_law_long_right : List Str := ["draws", "far", "by", "steps", "counts", "middle", "one", "two", "both", "below", "above", "due", "moved", "shared", "lower", "upper", "turn"]
theorem S_law_long_right : FnScope N_law_long_right ["draws", "far"] (defScope (top 41)) := ⟨rfl, rfl, rfl, by decide +kernel, rfl, by decide +kernel, by decide +kernel⟩
theorem ok_law_long_right (T : Txt P w K mg base a fd b fI fe) : FnOk P w K mg base (L2.CX P w) 5 (a 33) (fd 33) ["draws", "far"] (spOf K mg 2 den_law_long_right) := by
  refine ok_def (k := 4) (N := N_law_long_right) T.d_law_long_right.F S_law_long_right fun cdv A outer s H E hr => ?_
  have tk := takes_of (X := cxOf (L2.CX P w) P w K mg base N_law_long_right "_law_long_right" (defScope (top 41)) (a 33) cdv A outer s H E) rfl rfl rfl rfl
  have pas := passes_of (X := cxOf (L2.CX P w) P w K mg base N_law_long_right "_law_long_right" (defScope (top 41)) (a 33) cdv A outer s H E) rfl
  have hr : Room 4 (cxOf (L2.CX P w) P w K mg base N_law_long_right "_law_long_right" (defScope (top 41)) (a 33) cdv A outer s H E).A := hr
  unfold c_law_long_right
  exact (sS_cons (sSet S_law_long_right.nd (qIx (sE_lst (qL sE_int (qL sE_int (qL sE_int (qL (qBin (qBin sE_int sE_int) sE_int) (qL (qBin sE_int (qBin sE_int sE_int)) (qL sE_int sL_nil))))))) (qD T.d_law_take (ok_law_take T) hr tk (qL qV (qL sE_int sL_nil)))))
    (sS_cons (sSet S_law_long_right.nd (sE_lst (qL (qBin qV (qBin sE_int (qD T.d_law_take (ok_law_take T) hr tk (qL qV (qL sE_int sL_nil))))) (qL (qBin qV (qBin sE_int (qD T.d_law_take (ok_law_take T) hr tk (qL qV (qL sE_int sL_nil))))) sL_nil))))
    (sS_cons (sSetLc (own := [("turn", 16)]) S_law_long_right.nd (iR1 T.n_range (qL sE_int sL_nil)) (by show BlkOk N_law_long_right (defScope (top 41)) _ [("turn", 16)]; exact blkOk_by (by decide +kernel)) (fun s H C cl fp => (gN S_law_long_right.nd)) (fun s H C cl fp => ts_true) (fun s H C cl fp => (qBin (qBin sE_int (qD T.d_law_take (ok_law_take T) hr takes_none5 (qL qV (qL sE_int sL_nil)))) (qIx (sE_lst (qL sE_int (qL qV (qL sE_int (qL sE_int sL_nil))))) (qD T.d_law_take (ok_law_take T) hr takes_none5 (qL qV (qL sE_int sL_nil)))))))
    (sS_cons (sSet S_law_long_right.nd (qBin (qIx (sE_lst (qL sE_int (qL (qBin sE_int sE_int) (qL (qBin (sE_neg (qBin sE_int sE_int)) sE_int) sL_nil)))) (qD T.d_law_take (ok_law_take T) hr tk (qL qV (qL sE_int sL_nil)))) (qD T.d_law_take (ok_law_take T) hr tk (qL qV (qL sE_int sL_nil)))))
    (sS_cons (sSet S_law_long_right.nd (sE_tup (qL (qBin qV (qBin (qIx qV sE_int) (qIx qV sE_int))) (qL (qBin qV (qBin (qIx qV sE_int) (qIx qV sE_int))) (qL (qIx qV sE_int) sL_nil)))))
    (sS_cons (sSet S_law_long_right.nd (sE_tup (qL (qBin qV (qBin (qIx qV sE_int) (qIx qV sE_int))) (qL (qBin qV (qBin (qIx qV sE_int) (qIx qV sE_int))) (qL (qIx qV sE_int) sL_nil)))))
    (sS_cons (sSet S_law_long_right.nd (qBin (qBin (qIx qV sE_int) (qD T.d_law_gcd (ok_law_gcd T) hr tk (qL (qIx qV sE_int) (qL (qIx qV sE_int) sL_nil)))) (qIx qV sE_int)))
    (sS_cons (sSet S_law_long_right.nd (qBin (qB (vMin_ok rfl (units64 hr)) T.n_min bb_min (qL (qBin (qIx qV sE_int) (qIx qV sE_int)) (qL (qBin (qIx qV sE_int) (qIx qV sE_int)) sL_nil))) qV))
    (sS_cons (sSet S_law_long_right.nd (qBin (qB (vMin_ok rfl (units64 hr)) T.n_min bb_min (qL (qBin (qIx qV sE_int) (qIx qV sE_int)) (qL (qBin (qIx qV sE_int) (qIx qV sE_int)) sL_nil))) qV))
    (sS_cons (sSet S_law_long_right.nd (sE_tup (qL (qBin qV (qBin qV qV)) (qL (qBin qV (qBin qV qV)) (qL qV sL_nil)))))
    (sS_cons (sS_if (tCmp hr (qBin qV qV) sE_int)
    (sS_one (sSet S_law_long_right.nd (sE_tup (qL qV (qL qV (qL sE_int sL_nil))))))
    sS_nil)
    (sS_cons (sS_if (PW.pt (sW_or (sT_not (tTru (qD T.d_law_is (ok_law_is T) hr tk (qL (qD T.d_fences_met (ok_fences_met T) hr tk (qL qV (qL qV sL_nil))) (qL qV sL_nil))))) (sW_or1 (sT_not (tTru (qD T.d_law_is (ok_law_is T) hr tk (qL (qD T.d_fences_met (ok_fences_met T) hr tk (qL qV (qL qV sL_nil))) (qL qV sL_nil))))))))
    (sS_one (sS_ret sE_bool))
    sS_nil)
    (sS_cons (sSet S_law_long_right.nd (sE_tup (qL (qBin (qIx qV sE_int) sE_int) (qL (qBin (qIx qV sE_int) sE_int) (qL (qIx qV sE_int) sL_nil)))))
    (sS_cons (sS_if (PW.pt (sW_or (tCmp hr (qD T.d_fences_met (ok_fences_met T) hr tk (qL qV (qL qV sL_nil))) sE_none) (sW_or1 (tCmp hr (qD T.d_is_fence_within (ok_is_fence_within T) hr tk (qL qV (qL qV sL_nil))) sE_bool))))
    (sS_one (sS_ret sE_bool))
    sS_nil)
    (sS_cons (sS_if (PW.pt (sW_or (tCmp hr (qD T.d_is_fence_within (ok_is_fence_within T) hr tk (qL qV (qL qV sL_nil))) sE_bool) (sW_or1 (tCmp hr (qD T.d_is_fence_within (ok_is_fence_within T) hr tk (qL qV (qL qV sL_nil))) sE_bool))))
    (sS_one (sS_ret sE_bool))
    sS_nil)
    (sS_cons (sS_if (sT_not (tTru (qD T.d_law_is (ok_law_is T) hr tk (qL (qD T.d_fence_size (ok_fence_size T) hr tk (qL qV sL_nil)) (qL (qBin (qBin (qIx qV sE_int) (qIx qV sE_int)) sE_int) sL_nil)))))
    (sS_one (sS_ret sE_bool))
    sS_nil)
    (sS_cons (sSet S_law_long_right.nd (qD T.d_law_gcd (ok_law_gcd T) hr tk (qL (qIx qV sE_int) (qL (qIx qV sE_int) sL_nil))))
    (sS_cons (sPar2 S_law_long_right.nd (qL (qB (vMin_ok rfl (units64 hr)) T.n_min bb_min (qL (qIx qV sE_int) (qL (qIx qV sE_int) sL_nil))) (qL (qB (vMax_ok rfl (units64 hr)) T.n_max bb_max (qL (qIx qV sE_int) (qL (qIx qV sE_int) sL_nil))) sL_nil)))
    (sS_cons (sS_if (sT_not (tTru (qD T.d_law_is (ok_law_is T) hr tk (qL (qD T.d_fence_behind (ok_fence_behind T) hr tk (qL qV (qL qV sL_nil))) (qL (sE_tup (qL (qBin (qIx qV sE_int) (qIx qV sE_int)) (qL (qBin (qIx qV sE_int) (qIx qV sE_int)) (qL qV sL_nil)))) sL_nil)))))
    (sS_one (sS_ret sE_bool))
    sS_nil)
    (sS_one (sS_ret (qD T.d_law_is (ok_law_is T) hr tk (qL (qD T.d_fence_either (ok_fence_either T) hr tk (qL qV (qL qV sL_nil))) (qL (sE_tup (qL qV (qL qV (qL (qD T.d_law_gcd (ok_law_gcd T) hr tk (qL qV (qL (qBin (qIx qV sE_int) (qIx qV sE_int)) sL_nil))) sL_nil)))) sL_nil))))))))))))))))))))))))
abbrev N_law_asked : List Str := ["which", "one", "two"]
theorem S_law_asked : FnScope N_law_asked ["which", "one", "two"] (defScope (top 42)) := ⟨rfl, rfl, rfl, by decide +kernel, rfl, by decide +kernel, by decide +kernel⟩
theorem ok_law_asked (T : Txt P w K mg base a fd b fI fe) : FnOk P w K mg base (L2.CX P w) 5 (a 34) (fd 34) ["which", "one", "two"] (spOf K mg 3 den_law_asked) := by
  refine ok_def (k := 4) (N := N_law_asked) T.d_law_asked.F S_law_asked fun cdv A outer s H E hr => ?_
  have tk := takes_of (X := cxOf (L2.CX P w) P w K mg base N_law_asked "_law_asked" (defScope (top 42)) (a 34) cdv A outer s H E) rfl rfl rfl rfl
  have pas := passes_of (X := cxOf (L2.CX P w) P w K mg base N_law_asked "_law_asked" (defScope (top 42)) (a 34) cdv A outer s H E) rfl
  have hr : Room 4 (cxOf (L2.CX P w) P w K mg base N_law_asked "_law_asked" (defScope (top 42)) (a 34) cdv A outer s H E).A := hr
  unfold c_law_asked
  exact (sS_cons (sS_if (tCmp hr qV sE_int)
    (sS_one (sS_ret (qD T.d_fence_of (ok_fence_of T) hr tk (qL qV sL_nil))))
    sS_nil)
    (sS_cons (sS_if (tCmp hr qV sE_int)
    (sS_one (sS_ret (qD T.d_has_number (ok_has_number T) hr tk (qL qV (qL qV sL_nil)))))
    sS_nil)
    (sS_cons (sS_if (tCmp hr qV sE_int)
    (sS_one (sS_ret (qD T.d_fence_size (ok_fence_size T) hr tk (qL qV sL_nil))))
    sS_nil)
    (sS_cons (sS_if (tCmp hr qV sE_int)
    (sS_one (sS_ret (qD T.d_fence_times (ok_fence_times T) hr tk (qL qV (qL qV sL_nil)))))
    sS_nil)
    (sS_cons (sS_if (tCmp hr qV sE_int)
    (sS_one (sS_ret (qD T.d_fences_met (ok_fences_met T) hr tk (qL qV (qL qV sL_nil)))))
    sS_nil)
    (sS_cons (sS_if (tCmp hr qV sE_int)
    (sS_one (sS_ret (qD T.d_is_fence_within (ok_is_fence_within T) hr tk (qL qV (qL qV sL_nil)))))
    sS_nil)
    (sS_cons (sS_if (tCmp hr qV sE_int)
    (sS_one (sS_ret (qD T.d_fence_behind (ok_fence_behind T) hr tk (qL qV (qL qV sL_nil)))))
    sS_nil)
    (sS_one (sS_ret (qD T.d_fence_either (ok_fence_either T) hr tk (qL qV (qL qV sL_nil))))))))))))
abbrev N_law_refused : List Str := ["which", "one", "two", "told", "raised"]
theorem S_law_refused : FnScope N_law_refused ["which", "one", "two"] (defScope (top 43)) := ⟨rfl, rfl, rfl, by decide +kernel, rfl, by decide +kernel, by decide +kernel⟩
theorem ok_law_refused (T : Txt P w K mg base a fd b fI fe) : FnOk P w K mg base (L2.CX P w) 6 (a 35) (fd 35) ["which", "one", "two"] (spOf K mg 3 den_law_refused) := by
  refine ok_def (k := 5) (N := N_law_refused) T.d_law_refused.F S_law_refused fun cdv A outer s H E hr => ?_
  have tk := takes_of (X := cxOf (L2.CX P w) P w K mg base N_law_refused "_law_refused" (defScope (top 43)) (a 35) cdv A outer s H E) rfl rfl rfl rfl
  have pas := passes_of (X := cxOf (L2.CX P w) P w K mg base N_law_refused "_law_refused" (defScope (top 43)) (a 35) cdv A outer s H E) rfl
  have hr : Room 5 (cxOf (L2.CX P w) P w K mg base N_law_refused "_law_refused" (defScope (top 43)) (a 35) cdv A outer s H E).A := hr
  unfold c_law_refused
  exact (sS_cons (sSet S_law_refused.nd sE_none)
    (sS_cons (sS_try rfl rfl S_law_refused.nd tk (fun W pn xe tk1 pas1 => (sS_one (sExp (qD T.d_law_asked (ok_law_asked T) hr tk1 (qL qV (qL qV (qL qV sL_nil))))))) (.named (i := 4) (ts := SuD _ (sAsg 3 false (dCallV vTupD (lCons (dC (.str "BadRow")) (lCons (dFldT "at" ["BadNumber", "BadRow"] (dVar 4)) (lCons (dIsE [("BadNumber", true), ("BadRow", true)] (dVar 4)) lNil)))))) T.nm_BadRow rfl rfl (fun a oe cls d pn hz hf => (sS_one (sSet S_law_refused.nd (sE_tup (qL sE_str (qL (qAtE (T.fld_at _ (by decide)) hz hf) (qL (qIsE (T.is_VariesError _) hz hf T.n_isinstance T.g_VariesError) sL_nil))))))) (.named (i := 4) (ts := SuD _ (sAsg 3 false (dCallV vTupD (lCons (dC (.str "BadNumber")) (lCons (dFldT "at" ["BadNumber", "BadRow"] (dVar 4)) (lCons (dIsE [("BadNumber", true), ("BadRow", true)] (dVar 4)) lNil)))))) T.nm_BadNumber rfl rfl (fun a oe cls d pn hz hf => (sS_one (sSet S_law_refused.nd (sE_tup (qL sE_str (qL (qAtE (T.fld_at _ (by decide)) hz hf) (qL (qIsE (T.is_VariesError _) hz hf T.n_isinstance T.g_VariesError) sL_nil))))))) (.bare (ts := SuD _ (sAsg 3 false (dCallV vTupD (lCons (dC (.str "other")) (lCons (dC (.int 0)) (lCons (dC (.bool true)) lNil)))))) T.nm_VariesError (fun a oe cls d pn hz hf => (sS_one (sSet S_law_refused.nd (sE_tup (qL sE_str (qL sE_int (qL sE_bool sL_nil))))))) .nil))) (.cons (T.tb_BadRow _) (.cons (T.tb_BadNumber _) (.cons (T.tb_VariesError _) .nil))))
    (sS_one (sS_ret qV))))
abbrev N_law_refusals : List Str := ["wrong", "fence", "at", "which", "values", "number", "told"]
theorem S_law_refusals : FnScope N_law_refusals [] (defScope (top 44)) := ⟨rfl, rfl, rfl, by decide +kernel, rfl, by decide +kernel, by decide +kernel⟩
theorem ok_law_refusals (T : Txt P w K mg base a fd b fI fe) : FnOk P w K mg base (L2.CX P w) 7 (a 36) (fd 36) [] (spOf K mg 0 den_law_refusals) := by
  refine ok_def (k := 6) (N := N_law_refusals) T.d_law_refusals.F S_law_refusals fun cdv A outer s H E hr => ?_
  have tk := takes_of (X := cxOf (L2.CX P w) P w K mg base N_law_refusals "_law_refusals" (defScope (top 44)) (a 36) cdv A outer s H E) rfl rfl rfl rfl
  have pas := passes_of (X := cxOf (L2.CX P w) P w K mg base N_law_refusals "_law_refusals" (defScope (top 44)) (a 36) cdv A outer s H E) rfl
  have hr : Room 6 (cxOf (L2.CX P w) P w K mg base N_law_refusals "_law_refusals" (defScope (top 44)) (a 36) cdv A outer s H E).A := hr
  unfold c_law_refusals
  exact (sS_cons (sSet S_law_refusals.nd (sE_lst (qL (sE_tup (qL sE_int (qL (sE_neg sE_int) sL_nil))) (qL (sE_tup (qL sE_str (qL (sE_neg sE_int) sL_nil))) (qL (sE_tup (qL (sE_tup (qL sE_int (qL sE_int sL_nil))) (qL (sE_neg sE_int) sL_nil))) (qL (sE_tup (qL (sE_tup (qL sE_int (qL sE_int (qL sE_int (qL sE_int sL_nil))))) (qL (sE_neg sE_int) sL_nil))) (qL (sE_tup (qL (sE_tup (qL sE_none (qL sE_int (qL sE_int sL_nil)))) (qL sE_int sL_nil))) (qL (sE_tup (qL (sE_tup (qL sE_bool (qL sE_int (qL sE_int sL_nil)))) (qL sE_int sL_nil))) (qL (sE_tup (qL (sE_tup (qL sE_str (qL sE_str (qL sE_int sL_nil)))) (qL sE_int sL_nil))) sL_nil)))))))))
    (sS_cons (sSet S_law_refusals.nd (qBin qV (sE_lst (qL (sE_tup (qL (sE_tup (qL sE_int (qL sE_int (qL sE_int sL_nil)))) (qL sE_int sL_nil))) (qL (sE_tup (qL (sE_tup (qL sE_int (qL sE_str (qL sE_int sL_nil)))) (qL sE_int sL_nil))) (qL (sE_tup (qL (sE_tup (qL sE_int (qL sE_bool (qL sE_int sL_nil)))) (qL sE_int sL_nil))) (qL (sE_tup (qL (sE_tup (qL sE_int (qL sE_int (qL sE_int sL_nil)))) (qL sE_int sL_nil))) (qL (sE_tup (qL (sE_tup (qL sE_int (qL sE_int (qL sE_int sL_nil)))) (qL sE_int sL_nil))) (qL (sE_tup (qL (sE_tup (qL sE_int (qL sE_int (qL sE_int sL_nil)))) (qL sE_int sL_nil))) sL_nil)))))))))
    (sS_cons (sSet S_law_refusals.nd (qBin qV (sE_lst (qL (sE_tup (qL (sE_tup (qL sE_int (qL sE_int (qL (sE_neg sE_int) sL_nil)))) (qL sE_int sL_nil))) (qL (sE_tup (qL (sE_tup (qL sE_int (qL sE_int (qL sE_str sL_nil)))) (qL sE_int sL_nil))) (qL (sE_tup (qL (sE_tup (qL sE_int (qL sE_int (qL sE_bool sL_nil)))) (qL sE_int sL_nil))) (qL (sE_tup (qL (sE_tup (qL sE_int (qL sE_int (qL sE_int sL_nil)))) (qL sE_int sL_nil))) sL_nil)))))))
    (sS_cons (sForL pas (sI_seq qV) (gT (gC (gN S_law_refusals.nd) (gC (gN S_law_refusals.nd) sGs_nil)))
    (sS_cons (sForL pas (iR2 T.n_range (qL sE_int (qL sE_int sL_nil))) (gN S_law_refusals.nd)
    (sS_one (sS_if (tCmp hr (qD T.d_law_refused (ok_law_refused T) hr tk (qL qV (qL qV (qL sE_str sL_nil)))) (sE_tup (qL sE_str (qL qV (qL sE_bool sL_nil)))))
    (sS_one (sS_ret sE_bool))
    sS_nil)))
    (sS_one (sForL pas (iR2 T.n_range (qL sE_int (qL sE_int sL_nil))) (gN S_law_refusals.nd)
    (sS_one (sS_if (tCmp hr (qD T.d_law_refused (ok_law_refused T) hr tk (qL qV (qL (sE_tup (qL sE_int (qL sE_int (qL sE_int sL_nil)))) (qL qV sL_nil)))) (sE_tup (qL sE_str (qL (sE_tup (qL (sE_neg sE_int) (qL qV sL_nil))) (qL sE_bool sL_nil)))))
    (sS_one (sS_ret sE_bool))
    sS_nil))))))
    (sS_cons (sForL pas (sI_seq (sE_lst (qL (sE_tup (qL sE_int (qL (sE_neg sE_int) sL_nil))) (qL (sE_tup (qL (sE_tup sL_nil) (qL (sE_neg sE_int) sL_nil))) (qL (sE_tup (qL sE_str (qL (sE_neg sE_int) sL_nil))) (qL (sE_tup (qL (sE_tup (qL sE_int (qL sE_str (qL sE_none sL_nil)))) (qL sE_int sL_nil))) (qL (sE_tup (qL (sE_tup (qL sE_bool (qL sE_int sL_nil))) (qL sE_int sL_nil))) (qL (sE_tup (qL (sE_tup (qL sE_int (qL sE_int (qL (sE_tup (qL sE_int sL_nil)) sL_nil)))) (qL sE_int sL_nil))) sL_nil)))))))) (gT (gC (gN S_law_refusals.nd) (gC (gN S_law_refusals.nd) sGs_nil)))
    (sS_one (sS_if (tCmp hr (qD T.d_law_refused (ok_law_refused T) hr tk (qL sE_int (qL qV (qL sE_int sL_nil)))) (sE_tup (qL sE_str (qL qV (qL sE_bool sL_nil)))))
    (sS_one (sS_ret sE_bool))
    sS_nil)))
    (sS_cons (sForL pas (sI_seq (sE_lst (qL sE_int (qL sE_int sL_nil)))) (gN S_law_refusals.nd)
    (sS_cons (sForL pas (sI_seq (sE_lst (qL (sE_tup (qL sE_str (qL sE_str sL_nil))) (qL (sE_tup (qL sE_none (qL sE_none sL_nil))) (qL (sE_tup (qL (sE_lst (qL sE_int sL_nil)) (qL (sE_tup (qL sE_int sL_nil)) sL_nil))) (qL (sE_tup (qL (sE_tup sL_nil) (qL (sE_tup sL_nil) sL_nil))) sL_nil)))))) (gT (gC (gN S_law_refusals.nd) (gC (gN S_law_refusals.nd) sGs_nil)))
    (sS_one (sS_if (tCmp hr (qD T.d_law_refused (ok_law_refused T) hr tk (qL qV (qL (sE_tup (qL sE_int (qL sE_int (qL sE_int sL_nil)))) (qL qV sL_nil)))) (sE_tup (qL sE_str (qL qV (qL sE_bool sL_nil)))))
    (sS_one (sS_ret sE_bool))
    sS_nil)))
    (sS_cons (sSet S_law_refusals.nd (qD T.d_law_refused (ok_law_refused T) hr tk (qL qV (qL (sE_tup (qL sE_int (qL sE_int (qL sE_int sL_nil)))) (qL sE_bool sL_nil)))))
    (sS_one (sS_if (PW.pt (sW_or (tCmp hr qV (sE_tup (qL sE_str (qL sE_bool (qL sE_bool sL_nil))))) (sW_or1 (tCmp hr (qIx qV sE_int) sE_bool))))
    (sS_one (sS_ret sE_bool))
    sS_nil)))))
    (sS_one (sS_ret (sE_and (qCmp hr (qD T.d_law_refused (ok_law_refused T) hr tk (qL sE_int (qL (sE_tup (qL sE_int (qL sE_int (qL sE_int sL_nil)))) (qL sE_int sL_nil)))) (sE_tup (qL sE_str (qL sE_int (qL sE_bool sL_nil))))) (sE_one (qCmp hr (qD T.d_law_refused (ok_law_refused T) hr tk (qL sE_int (qL (sE_tup (qL sE_int (qL sE_int (qL sE_int sL_nil)))) (qL (sE_neg sE_int) sL_nil)))) (sE_tup (qL sE_str (qL (sE_neg sE_int) (qL sE_bool sL_nil)))))))))))))))
abbrev N_law : List Str := ["script", "draws", "fence", "other", "by", "more", "far", "near", "one", "two"]
theorem S_law : FnScope N_law ["script"] (defScope (top 45)) := ⟨rfl, rfl, rfl, by decide +kernel, rfl, by decide +kernel, by decide +kernel⟩
theorem ok_law (T : Txt P w K mg base a fd b fI fe) : FnOk P w K mg base (L2.CX P w) 8 (a 37) (fd 37) ["script"] (spOf K mg 1 den_law) := by
  refine ok_def (k := 7) (N := N_law) T.d_law.F S_law fun cdv A outer s H E hr => ?_
  have tk := takes_of (X := cxOf (L2.CX P w) P w K mg base N_law "law" (defScope (top 45)) (a 37) cdv A outer s H E) rfl rfl rfl rfl
  have pas := passes_of (X := cxOf (L2.CX P w) P w K mg base N_law "law" (defScope (top 45)) (a 37) cdv A outer s H E) rfl
  have hr : Room 7 (cxOf (L2.CX P w) P w K mg base N_law "law" (defScope (top 45)) (a 37) cdv A outer s H E).A := hr
  unfold c_law
  exact (sS_cons (sSet S_law.nd (qD T.d_law_draws (ok_law_draws T) hr tk (qL qV sL_nil)))
    (sS_cons (sPar2 S_law.nd (qL (qD T.d_law_fence (ok_law_fence T) hr tk (qL qV sL_nil)) (qL (qD T.d_law_fence (ok_law_fence T) hr tk (qL qV sL_nil)) sL_nil)))
    (sS_cons (sSet S_law.nd (qIx (sE_lst (qL sE_int (qL (qBin sE_int sE_int) (qL sE_int (qL (qBin (qBin sE_int sE_int) sE_int) sL_nil))))) (qD T.d_law_take (ok_law_take T) hr tk (qL qV (qL sE_int sL_nil)))))
    (sS_cons (sSet S_law.nd (qIx (sE_lst (qL sE_int (qL (qBin (qBin sE_int sE_int) sE_int) (qL (sE_neg (qBin sE_int sE_int)) sL_nil)))) (qD T.d_law_take (ok_law_take T) hr tk (qL qV (qL sE_int sL_nil)))))
    (sS_cons (sSet S_law.nd (qBin (qBin sE_int sE_int) (qD T.d_law_take (ok_law_take T) hr tk (qL qV (qL sE_int sL_nil)))))
    (sS_cons (sSet S_law.nd (sE_tup (qL (qBin (qIx qV sE_int) (qIx qV sE_int)) (qL (qIx qV sE_int) (qL (qIx qV sE_int) sL_nil)))))
    (sS_cons (sS_if (tCmp hr (qBin (qIx qV sE_int) (qIx qV sE_int)) (qIx qV sE_int))
    (sS_one (sSet S_law.nd (sE_tup (qL (qIx qV sE_int) (qL (qIx qV sE_int) (qL sE_int sL_nil))))))
    sS_nil)
    (sS_cons (sForL pas (sI_seq (sE_lst (qL (sE_tup (qL qV (qL qV sL_nil))) (qL (sE_tup (qL qV (qL qV sL_nil))) (qL (sE_tup (qL qV (qL qV sL_nil))) (qL (sE_tup (qL qV (qL qV sL_nil))) (qL (sE_tup (qL qV (qL qV sL_nil))) sL_nil))))))) (gT (gC (gN S_law.nd) (gC (gN S_law.nd) sGs_nil)))
    (sS_one (sS_if (sT_not (tTru (qD T.d_law_pair_right (ok_law_pair_right T) hr tk (qL qV (qL qV (qL qV (qL qV sL_nil)))))))
    (sS_one (sS_ret sE_bool))
    sS_nil)))
    (sS_cons (sS_if (PW.pt (sW_or (sT_not (tTru (qD T.d_law_one_right (ok_law_one_right T) hr tk (qL qV (qL qV (qL qV (qL qV sL_nil))))))) (sW_or1 (sT_not (tTru (qD T.d_law_one_right (ok_law_one_right T) hr tk (qL qV (qL sE_int (qL sE_int (qL qV sL_nil))))))))))
    (sS_one (sS_ret sE_bool))
    sS_nil)
    (sS_one (sS_ret (sE_and (qD T.d_law_long_right (ok_law_long_right T) hr tk (qL qV (qL qV sL_nil))) (sE_one (qD0 T.d_law_refusals (ok_law_refusals T) hr tk))))))))))))))
end
end K72
namespace K72
open PySem PySem.Spec PyProof.Rows L2 Den
set_option maxHeartbeats 8000000 in
theorem all_mk {P : Program} {w : World} {K : PySem.W.Frag} {h : Heap} {mg : Str → Option Value} {fa : Addr} (X : K.In h) (G : h.Ns mainGlobals mg) (hfa : mg "law" = some (.ref fa))
    {e0 : Addr}
    {e1 : Addr}
    {e2 : Addr}
    {nm1 q1 : Str} {N1 : Addr} {bs1 bm1 : List Value} {sn1 : List Str} {sub1 : List Value} {ab1 : Bool} {col1 : Option Bool} {dd1 : Option Addr} {x1a x1b x1c x1d x1e : Option Value} {i1 : Addr} {od1I an1I : Option Addr} {sl1I : Array (Option Value)} {oc1I kV1I dc1I pm1I cd1I ct1I : Value}
    {nm2 q2 : Str} {N2 : Addr} {bs2 bm2 : List Value} {sn2 : List Str} {sub2 : List Value} {ab2 : Bool} {col2 : Option Bool} {dd2 : Option Addr} {x2a x2b x2c x2d x2e : Option Value} {i2 : Addr} {od2I an2I : Option Addr} {sl2I : Array (Option Value)} {oc2I kV2I dc2I pm2I cd2I ct2I : Value}
    {f0 : Addr} {od0 an0 : Option Addr} {sl0 : Array (Option Value)} {oc0 kV0 dc0 pm0 cd0 ct0 : Value}
    {f1 : Addr} {od1 an1 : Option Addr} {sl1 : Array (Option Value)} {oc1 kV1 dc1 pm1 cd1 ct1 : Value}
    {f2 : Addr} {od2 an2 : Option Addr} {sl2 : Array (Option Value)} {oc2 kV2 dc2 pm2 cd2 ct2 : Value}
    {f3 : Addr} {od3 an3 : Option Addr} {sl3 : Array (Option Value)} {oc3 kV3 dc3 pm3 cd3 ct3 : Value}
    {f4 : Addr} {od4 an4 : Option Addr} {sl4 : Array (Option Value)} {oc4 kV4 dc4 pm4 cd4 ct4 : Value}
    {f5 : Addr} {od5 an5 : Option Addr} {sl5 : Array (Option Value)} {oc5 kV5 dc5 pm5 cd5 ct5 : Value}
    {f6 : Addr} {od6 an6 : Option Addr} {sl6 : Array (Option Value)} {oc6 kV6 dc6 pm6 cd6 ct6 : Value}
    {f7 : Addr} {od7 an7 : Option Addr} {sl7 : Array (Option Value)} {oc7 kV7 dc7 pm7 cd7 ct7 : Value}
    {f8 : Addr} {od8 an8 : Option Addr} {sl8 : Array (Option Value)} {oc8 kV8 dc8 pm8 cd8 ct8 : Value}
    {f9 : Addr} {od9 an9 : Option Addr} {sl9 : Array (Option Value)} {oc9 kV9 dc9 pm9 cd9 ct9 : Value}
    {f10 : Addr} {od10 an10 : Option Addr} {sl10 : Array (Option Value)} {oc10 kV10 dc10 pm10 cd10 ct10 : Value}
    {f11 : Addr} {od11 an11 : Option Addr} {sl11 : Array (Option Value)} {oc11 kV11 dc11 pm11 cd11 ct11 : Value}
    {f12 : Addr} {od12 an12 : Option Addr} {sl12 : Array (Option Value)} {oc12 kV12 dc12 pm12 cd12 ct12 : Value}
    {f13 : Addr} {od13 an13 : Option Addr} {sl13 : Array (Option Value)} {oc13 kV13 dc13 pm13 cd13 ct13 : Value}
    {f14 : Addr} {od14 an14 : Option Addr} {sl14 : Array (Option Value)} {oc14 kV14 dc14 pm14 cd14 ct14 : Value}
    {f15 : Addr} {od15 an15 : Option Addr} {sl15 : Array (Option Value)} {oc15 kV15 dc15 pm15 cd15 ct15 : Value}
    {f16 : Addr} {od16 an16 : Option Addr} {sl16 : Array (Option Value)} {oc16 kV16 dc16 pm16 cd16 ct16 : Value}
    {f17 : Addr} {od17 an17 : Option Addr} {sl17 : Array (Option Value)} {oc17 kV17 dc17 pm17 cd17 ct17 : Value}
    {f18 : Addr} {od18 an18 : Option Addr} {sl18 : Array (Option Value)} {oc18 kV18 dc18 pm18 cd18 ct18 : Value}
    {f19 : Addr} {od19 an19 : Option Addr} {sl19 : Array (Option Value)} {oc19 kV19 dc19 pm19 cd19 ct19 : Value}
    {f20 : Addr} {od20 an20 : Option Addr} {sl20 : Array (Option Value)} {oc20 kV20 dc20 pm20 cd20 ct20 : Value}
    {f21 : Addr} {od21 an21 : Option Addr} {sl21 : Array (Option Value)} {oc21 kV21 dc21 pm21 cd21 ct21 : Value}
    {f22 : Addr} {od22 an22 : Option Addr} {sl22 : Array (Option Value)} {oc22 kV22 dc22 pm22 cd22 ct22 : Value}
    {f23 : Addr} {od23 an23 : Option Addr} {sl23 : Array (Option Value)} {oc23 kV23 dc23 pm23 cd23 ct23 : Value}
    {f24 : Addr} {od24 an24 : Option Addr} {sl24 : Array (Option Value)} {oc24 kV24 dc24 pm24 cd24 ct24 : Value}
    {f25 : Addr} {od25 an25 : Option Addr} {sl25 : Array (Option Value)} {oc25 kV25 dc25 pm25 cd25 ct25 : Value}
    {f26 : Addr} {od26 an26 : Option Addr} {sl26 : Array (Option Value)} {oc26 kV26 dc26 pm26 cd26 ct26 : Value}
    {f27 : Addr} {od27 an27 : Option Addr} {sl27 : Array (Option Value)} {oc27 kV27 dc27 pm27 cd27 ct27 : Value}
    {f28 : Addr} {od28 an28 : Option Addr} {sl28 : Array (Option Value)} {oc28 kV28 dc28 pm28 cd28 ct28 : Value}
    {f29 : Addr} {od29 an29 : Option Addr} {sl29 : Array (Option Value)} {oc29 kV29 dc29 pm29 cd29 ct29 : Value}
    {f30 : Addr} {od30 an30 : Option Addr} {sl30 : Array (Option Value)} {oc30 kV30 dc30 pm30 cd30 ct30 : Value}
    {f31 : Addr} {od31 an31 : Option Addr} {sl31 : Array (Option Value)} {oc31 kV31 dc31 pm31 cd31 ct31 : Value}
    {f32 : Addr} {od32 an32 : Option Addr} {sl32 : Array (Option Value)} {oc32 kV32 dc32 pm32 cd32 ct32 : Value}
    {f33 : Addr} {od33 an33 : Option Addr} {sl33 : Array (Option Value)} {oc33 kV33 dc33 pm33 cd33 ct33 : Value}
    {f34 : Addr} {od34 an34 : Option Addr} {sl34 : Array (Option Value)} {oc34 kV34 dc34 pm34 cd34 ct34 : Value}
    {f35 : Addr} {od35 an35 : Option Addr} {sl35 : Array (Option Value)} {oc35 kV35 dc35 pm35 cd35 ct35 : Value}
    {f36 : Addr} {od36 an36 : Option Addr} {sl36 : Array (Option Value)} {oc36 kV36 dc36 pm36 cd36 ct36 : Value}
    {f37 : Addr} {od37 an37 : Option Addr} {sl37 : Array (Option Value)} {oc37 kV37 dc37 pm37 cd37 ct37 : Value}
    (z_abs : PySem.W.nsIn K mainGlobals "abs" = some none)
    (z_bool : PySem.W.nsIn K mainGlobals "bool" = some none)
    (z_enumerate : PySem.W.nsIn K mainGlobals "enumerate" = some none)
    (z_int : PySem.W.nsIn K mainGlobals "int" = some none)
    (z_isinstance : PySem.W.nsIn K mainGlobals "isinstance" = some none)
    (z_len : PySem.W.nsIn K mainGlobals "len" = some none)
    (z_list : PySem.W.nsIn K mainGlobals "list" = some none)
    (z_max : PySem.W.nsIn K mainGlobals "max" = some none)
    (z_min : PySem.W.nsIn K mainGlobals "min" = some none)
    (z_range : PySem.W.nsIn K mainGlobals "range" = some none)
    (z_tuple : PySem.W.nsIn K mainGlobals "tuple" = some none)
    (m_gcd : PySem.W.nsIn K mainGlobals "gcd" = some (some (.builtin "math.gcd")))
    (m_lcm : PySem.W.nsIn K mainGlobals "lcm" = some (some (.builtin "math.lcm")))
    (ea0 : PySem.W.nsIn K mainGlobals "VariesError" = some (some (.ref e0)))
    (ea1 : PySem.W.nsIn K mainGlobals "BadNumber" = some (some (.ref e1)))
    (ea2 : PySem.W.nsIn K mainGlobals "BadRow" = some (some (.ref e2)))
    (kx0 : PySem.W.subIn K (.ref e0) (.type "BaseException") = some true)
    (kt0 : PySem.W.typeIn K (.ref e0) = some (.type "type"))
    (kh0 : PySem.W.hasDictIn K e0 = true)
    (kx1 : PySem.W.subIn K (.ref e1) (.type "BaseException") = some true)
    (kt1 : PySem.W.typeIn K (.ref e1) = some (.type "type"))
    (kh1 : PySem.W.hasDictIn K e1 = true)
    (xl1 : K.lookup e1 = some (excClassObj nm1 q1 e1 N1 bs1 bm1 true sn1 sub1 ab1 col1 dd1 x1a x1b x1c x1d x1e "ValueError.__new__"))
    (xv1 : PySem.HandSPX.refsVE bm1 = true)
    (sa1 : PySem.W.findIn K (.ref e1) "__setattr__" = some (some (.builtin "object.__setattr__")))
    (kp1 : PySem.W.keepIn K (.ref e1) = true)
    (nf1 : PySem.W.findIn K (.ref e1) "at" = some none)
    (fi1 : PySem.W.findIn K (.ref e1) "__init__" = some (some (.ref i1)))
    (ti1 : PySem.W.typeIn K (.ref i1) = some (.type "function"))
    (li1 : K.lookup i1 = some ⟨oc1I, od1I, .func (PySem.W.fnOf "__init__" "BadNumber.__init__" (defArgs (inClass (top 3) 0)) (defBody (inClass (top 3) 0)) (defScope (inClass (top 3) 0)) .none kV1I dc1I pm1I an1I cd1I ct1I), sl1I⟩)
    (ci1 : PySem.W.codeIn K cd1I "BadNumber.__init__" = true)
    (ki1 : PySem.W.keepIn K (.ref i1) = true)
    (ga1 : PySem.W.findIn K (.ref e1) "__getattribute__" = some (some (.builtin "BaseException.__getattribute__")))
    (gg1 : PySem.W.findIn K (.ref e1) "__getattr__" = some none)
    (ic1 : PySem.W.isClsIn K e1 = true)
    (cc1 : PySem.W.findIn K (.ref e1) "__class__" = some (some (.builtin "object.__class__")))
    (hn1 : PySem.W.specialIn K (.builtin "object.__class__") "__get__" = some (some (.builtin "getset_descriptor.__get__")))
    (tk1 : PySem.W.takesIn K (.builtin "object.__class__") = some true)
    (mo1 : PySem.W.mroIn K e1 (.type "object") = some true)
    (kx2 : PySem.W.subIn K (.ref e2) (.type "BaseException") = some true)
    (kt2 : PySem.W.typeIn K (.ref e2) = some (.type "type"))
    (kh2 : PySem.W.hasDictIn K e2 = true)
    (xl2 : K.lookup e2 = some (excClassObj nm2 q2 e2 N2 bs2 bm2 true sn2 sub2 ab2 col2 dd2 x2a x2b x2c x2d x2e "ValueError.__new__"))
    (xv2 : PySem.HandSPX.refsVE bm2 = true)
    (sa2 : PySem.W.findIn K (.ref e2) "__setattr__" = some (some (.builtin "object.__setattr__")))
    (kp2 : PySem.W.keepIn K (.ref e2) = true)
    (nf2 : PySem.W.findIn K (.ref e2) "at" = some none)
    (fi2 : PySem.W.findIn K (.ref e2) "__init__" = some (some (.ref i2)))
    (ti2 : PySem.W.typeIn K (.ref i2) = some (.type "function"))
    (li2 : K.lookup i2 = some ⟨oc2I, od2I, .func (PySem.W.fnOf "__init__" "BadRow.__init__" (defArgs (inClass (top 4) 0)) (defBody (inClass (top 4) 0)) (defScope (inClass (top 4) 0)) .none kV2I dc2I pm2I an2I cd2I ct2I), sl2I⟩)
    (ci2 : PySem.W.codeIn K cd2I "BadRow.__init__" = true)
    (ki2 : PySem.W.keepIn K (.ref i2) = true)
    (ga2 : PySem.W.findIn K (.ref e2) "__getattribute__" = some (some (.builtin "BaseException.__getattribute__")))
    (gg2 : PySem.W.findIn K (.ref e2) "__getattr__" = some none)
    (ic2 : PySem.W.isClsIn K e2 = true)
    (cc2 : PySem.W.findIn K (.ref e2) "__class__" = some (some (.builtin "object.__class__")))
    (hn2 : PySem.W.specialIn K (.builtin "object.__class__") "__get__" = some (some (.builtin "getset_descriptor.__get__")))
    (tk2 : PySem.W.takesIn K (.builtin "object.__class__") = some true)
    (mo2 : PySem.W.mroIn K e2 (.type "object") = some true)
    (su1_0 : PySem.W.subIn K (.ref e1) (.ref e0) = some true)
    (kk1_0 : PySem.W.kitOne K (.ref e1) (.ref e0) = some true)
    (su1_1 : PySem.W.subIn K (.ref e1) (.ref e1) = some true)
    (kk1_1 : PySem.W.kitOne K (.ref e1) (.ref e1) = some true)
    (su1_2 : PySem.W.subIn K (.ref e1) (.ref e2) = some false)
    (kk1_2 : PySem.W.kitOne K (.ref e1) (.ref e2) = some false)
    (su2_0 : PySem.W.subIn K (.ref e2) (.ref e0) = some true)
    (kk2_0 : PySem.W.kitOne K (.ref e2) (.ref e0) = some true)
    (su2_1 : PySem.W.subIn K (.ref e2) (.ref e1) = some false)
    (kk2_1 : PySem.W.kitOne K (.ref e2) (.ref e1) = some false)
    (su2_2 : PySem.W.subIn K (.ref e2) (.ref e2) = some true)
    (kk2_2 : PySem.W.kitOne K (.ref e2) (.ref e2) = some true)
    (a0 : PySem.W.nsIn K mainGlobals "is_int" = some (some (.ref f0)))
    (l0 : K.lookup f0 = some ⟨oc0, od0, .func (PySem.W.fnOf "is_int" "is_int" (defArgs (top 6)) (defBody (top 6)) (defScope (top 6)) .none kV0 dc0 pm0 an0 cd0 ct0), sl0⟩)
    (c0 : PySem.W.codeIn K cd0 "is_int" = true)
    (k0 : PySem.W.keepIn K (.ref f0) = true)
    (a1 : PySem.W.nsIn K mainGlobals "plain_form" = some (some (.ref f1)))
    (l1 : K.lookup f1 = some ⟨oc1, od1, .func (PySem.W.fnOf "plain_form" "plain_form" (defArgs (top 7)) (defBody (top 7)) (defScope (top 7)) .none kV1 dc1 pm1 an1 cd1 ct1), sl1⟩)
    (c1 : PySem.W.codeIn K cd1 "plain_form" = true)
    (k1 : PySem.W.keepIn K (.ref f1) = true)
    (a2 : PySem.W.nsIn K mainGlobals "check_number" = some (some (.ref f2)))
    (l2 : K.lookup f2 = some ⟨oc2, od2, .func (PySem.W.fnOf "check_number" "check_number" (defArgs (top 8)) (defBody (top 8)) (defScope (top 8)) .none kV2 dc2 pm2 an2 cd2 ct2), sl2⟩)
    (c2 : PySem.W.codeIn K cd2 "check_number" = true)
    (k2 : PySem.W.keepIn K (.ref f2) = true)
    (a3 : PySem.W.nsIn K mainGlobals "wrong_fence_part" = some (some (.ref f3)))
    (l3 : K.lookup f3 = some ⟨oc3, od3, .func (PySem.W.fnOf "wrong_fence_part" "wrong_fence_part" (defArgs (top 10)) (defBody (top 10)) (defScope (top 10)) .none kV3 dc3 pm3 an3 cd3 ct3), sl3⟩)
    (c3 : PySem.W.codeIn K cd3 "wrong_fence_part" = true)
    (k3 : PySem.W.keepIn K (.ref f3) = true)
    (a4 : PySem.W.nsIn K mainGlobals "check_fence" = some (some (.ref f4)))
    (l4 : K.lookup f4 = some ⟨oc4, od4, .func (PySem.W.fnOf "check_fence" "check_fence" (defArgs (top 11)) (defBody (top 11)) (defScope (top 11)) .none kV4 dc4 pm4 an4 cd4 ct4), sl4⟩)
    (c4 : PySem.W.codeIn K cd4 "check_fence" = true)
    (k4 : PySem.W.keepIn K (.ref f4) = true)
    (a5 : PySem.W.nsIn K mainGlobals "check_other_fence" = some (some (.ref f5)))
    (l5 : K.lookup f5 = some ⟨oc5, od5, .func (PySem.W.fnOf "check_other_fence" "check_other_fence" (defArgs (top 12)) (defBody (top 12)) (defScope (top 12)) .none kV5 dc5 pm5 an5 cd5 ct5), sl5⟩)
    (c5 : PySem.W.codeIn K cd5 "check_other_fence" = true)
    (k5 : PySem.W.keepIn K (.ref f5) = true)
    (a6 : PySem.W.nsIn K mainGlobals "check_integers" = some (some (.ref f6)))
    (l6 : K.lookup f6 = some ⟨oc6, od6, .func (PySem.W.fnOf "check_integers" "check_integers" (defArgs (top 13)) (defBody (top 13)) (defScope (top 13)) .none kV6 dc6 pm6 an6 cd6 ct6), sl6⟩)
    (c6 : PySem.W.codeIn K cd6 "check_integers" = true)
    (k6 : PySem.W.keepIn K (.ref f6) = true)
    (a7 : PySem.W.nsIn K mainGlobals "fence_of_plain" = some (some (.ref f7)))
    (l7 : K.lookup f7 = some ⟨oc7, od7, .func (PySem.W.fnOf "fence_of_plain" "fence_of_plain" (defArgs (top 14)) (defBody (top 14)) (defScope (top 14)) .none kV7 dc7 pm7 an7 cd7 ct7), sl7⟩)
    (c7 : PySem.W.codeIn K cd7 "fence_of_plain" = true)
    (k7 : PySem.W.keepIn K (.ref f7) = true)
    (a8 : PySem.W.nsIn K mainGlobals "fence_of" = some (some (.ref f8)))
    (l8 : K.lookup f8 = some ⟨oc8, od8, .func (PySem.W.fnOf "fence_of" "fence_of" (defArgs (top 15)) (defBody (top 15)) (defScope (top 15)) .none kV8 dc8 pm8 an8 cd8 ct8), sl8⟩)
    (c8 : PySem.W.codeIn K cd8 "fence_of" = true)
    (k8 : PySem.W.keepIn K (.ref f8) = true)
    (a9 : PySem.W.nsIn K mainGlobals "holds_number" = some (some (.ref f9)))
    (l9 : K.lookup f9 = some ⟨oc9, od9, .func (PySem.W.fnOf "holds_number" "holds_number" (defArgs (top 16)) (defBody (top 16)) (defScope (top 16)) .none kV9 dc9 pm9 an9 cd9 ct9), sl9⟩)
    (c9 : PySem.W.codeIn K cd9 "holds_number" = true)
    (k9 : PySem.W.keepIn K (.ref f9) = true)
    (a10 : PySem.W.nsIn K mainGlobals "has_number" = some (some (.ref f10)))
    (l10 : K.lookup f10 = some ⟨oc10, od10, .func (PySem.W.fnOf "has_number" "has_number" (defArgs (top 17)) (defBody (top 17)) (defScope (top 17)) .none kV10 dc10 pm10 an10 cd10 ct10), sl10⟩)
    (c10 : PySem.W.codeIn K cd10 "has_number" = true)
    (k10 : PySem.W.keepIn K (.ref f10) = true)
    (a11 : PySem.W.nsIn K mainGlobals "fence_size" = some (some (.ref f11)))
    (l11 : K.lookup f11 = some ⟨oc11, od11, .func (PySem.W.fnOf "fence_size" "fence_size" (defArgs (top 18)) (defBody (top 18)) (defScope (top 18)) .none kV11 dc11 pm11 an11 cd11 ct11), sl11⟩)
    (c11 : PySem.W.codeIn K cd11 "fence_size" = true)
    (k11 : PySem.W.keepIn K (.ref f11) = true)
    (a12 : PySem.W.nsIn K mainGlobals "turned_by" = some (some (.ref f12)))
    (l12 : K.lookup f12 = some ⟨oc12, od12, .func (PySem.W.fnOf "turned_by" "turned_by" (defArgs (top 19)) (defBody (top 19)) (defScope (top 19)) .none kV12 dc12 pm12 an12 cd12 ct12), sl12⟩)
    (c12 : PySem.W.codeIn K cd12 "turned_by" = true)
    (k12 : PySem.W.keepIn K (.ref f12) = true)
    (a13 : PySem.W.nsIn K mainGlobals "common_numbers" = some (some (.ref f13)))
    (l13 : K.lookup f13 = some ⟨oc13, od13, .func (PySem.W.fnOf "common_numbers" "common_numbers" (defArgs (top 20)) (defBody (top 20)) (defScope (top 20)) .none kV13 dc13 pm13 an13 cd13 ct13), sl13⟩)
    (c13 : PySem.W.codeIn K cd13 "common_numbers" = true)
    (k13 : PySem.W.keepIn K (.ref f13) = true)
    (a14 : PySem.W.nsIn K mainGlobals "fences_met" = some (some (.ref f14)))
    (l14 : K.lookup f14 = some ⟨oc14, od14, .func (PySem.W.fnOf "fences_met" "fences_met" (defArgs (top 21)) (defBody (top 21)) (defScope (top 21)) .none kV14 dc14 pm14 an14 cd14 ct14), sl14⟩)
    (c14 : PySem.W.codeIn K cd14 "fences_met" = true)
    (k14 : PySem.W.keepIn K (.ref f14) = true)
    (a15 : PySem.W.nsIn K mainGlobals "is_fence_within" = some (some (.ref f15)))
    (l15 : K.lookup f15 = some ⟨oc15, od15, .func (PySem.W.fnOf "is_fence_within" "is_fence_within" (defArgs (top 22)) (defBody (top 22)) (defScope (top 22)) .none kV15 dc15 pm15 an15 cd15 ct15), sl15⟩)
    (c15 : PySem.W.codeIn K cd15 "is_fence_within" = true)
    (k15 : PySem.W.keepIn K (.ref f15) = true)
    (a16 : PySem.W.nsIn K mainGlobals "fence_behind" = some (some (.ref f16)))
    (l16 : K.lookup f16 = some ⟨oc16, od16, .func (PySem.W.fnOf "fence_behind" "fence_behind" (defArgs (top 23)) (defBody (top 23)) (defScope (top 23)) .none kV16 dc16 pm16 an16 cd16 ct16), sl16⟩)
    (c16 : PySem.W.codeIn K cd16 "fence_behind" = true)
    (k16 : PySem.W.keepIn K (.ref f16) = true)
    (a17 : PySem.W.nsIn K mainGlobals "either_fence" = some (some (.ref f17)))
    (l17 : K.lookup f17 = some ⟨oc17, od17, .func (PySem.W.fnOf "either_fence" "either_fence" (defArgs (top 24)) (defBody (top 24)) (defScope (top 24)) .none kV17 dc17 pm17 an17 cd17 ct17), sl17⟩)
    (c17 : PySem.W.codeIn K cd17 "either_fence" = true)
    (k17 : PySem.W.keepIn K (.ref f17) = true)
    (a18 : PySem.W.nsIn K mainGlobals "fence_either" = some (some (.ref f18)))
    (l18 : K.lookup f18 = some ⟨oc18, od18, .func (PySem.W.fnOf "fence_either" "fence_either" (defArgs (top 25)) (defBody (top 25)) (defScope (top 25)) .none kV18 dc18 pm18 an18 cd18 ct18), sl18⟩)
    (c18 : PySem.W.codeIn K cd18 "fence_either" = true)
    (k18 : PySem.W.keepIn K (.ref f18) = true)
    (a19 : PySem.W.nsIn K mainGlobals "fence_times" = some (some (.ref f19)))
    (l19 : K.lookup f19 = some ⟨oc19, od19, .func (PySem.W.fnOf "fence_times" "fence_times" (defArgs (top 26)) (defBody (top 26)) (defScope (top 26)) .none kV19 dc19 pm19 an19 cd19 ct19), sl19⟩)
    (c19 : PySem.W.codeIn K cd19 "fence_times" = true)
    (k19 : PySem.W.keepIn K (.ref f19) = true)
    (a20 : PySem.W.nsIn K mainGlobals "_law_draws" = some (some (.ref f20)))
    (l20 : K.lookup f20 = some ⟨oc20, od20, .func (PySem.W.fnOf "_law_draws" "_law_draws" (defArgs (top 28)) (defBody (top 28)) (defScope (top 28)) .none kV20 dc20 pm20 an20 cd20 ct20), sl20⟩)
    (c20 : PySem.W.codeIn K cd20 "_law_draws" = true)
    (k20 : PySem.W.keepIn K (.ref f20) = true)
    (a21 : PySem.W.nsIn K mainGlobals "_law_take" = some (some (.ref f21)))
    (l21 : K.lookup f21 = some ⟨oc21, od21, .func (PySem.W.fnOf "_law_take" "_law_take" (defArgs (top 29)) (defBody (top 29)) (defScope (top 29)) .none kV21 dc21 pm21 an21 cd21 ct21), sl21⟩)
    (c21 : PySem.W.codeIn K cd21 "_law_take" = true)
    (k21 : PySem.W.keepIn K (.ref f21) = true)
    (a22 : PySem.W.nsIn K mainGlobals "_law_gcd" = some (some (.ref f22)))
    (l22 : K.lookup f22 = some ⟨oc22, od22, .func (PySem.W.fnOf "_law_gcd" "_law_gcd" (defArgs (top 30)) (defBody (top 30)) (defScope (top 30)) .none kV22 dc22 pm22 an22 cd22 ct22), sl22⟩)
    (c22 : PySem.W.codeIn K cd22 "_law_gcd" = true)
    (k22 : PySem.W.keepIn K (.ref f22) = true)
    (a23 : PySem.W.nsIn K mainGlobals "_law_is" = some (some (.ref f23)))
    (l23 : K.lookup f23 = some ⟨oc23, od23, .func (PySem.W.fnOf "_law_is" "_law_is" (defArgs (top 31)) (defBody (top 31)) (defScope (top 31)) .none kV23 dc23 pm23 an23 cd23 ct23), sl23⟩)
    (c23 : PySem.W.codeIn K cd23 "_law_is" = true)
    (k23 : PySem.W.keepIn K (.ref f23) = true)
    (a24 : PySem.W.nsIn K mainGlobals "_law_is_number" = some (some (.ref f24)))
    (l24 : K.lookup f24 = some ⟨oc24, od24, .func (PySem.W.fnOf "_law_is_number" "_law_is_number" (defArgs (top 32)) (defBody (top 32)) (defScope (top 32)) .none kV24 dc24 pm24 an24 cd24 ct24), sl24⟩)
    (c24 : PySem.W.codeIn K cd24 "_law_is_number" = true)
    (k24 : PySem.W.keepIn K (.ref f24) = true)
    (a25 : PySem.W.nsIn K mainGlobals "_law_yes" = some (some (.ref f25)))
    (l25 : K.lookup f25 = some ⟨oc25, od25, .func (PySem.W.fnOf "_law_yes" "_law_yes" (defArgs (top 33)) (defBody (top 33)) (defScope (top 33)) .none kV25 dc25 pm25 an25 cd25 ct25), sl25⟩)
    (c25 : PySem.W.codeIn K cd25 "_law_yes" = true)
    (k25 : PySem.W.keepIn K (.ref f25) = true)
    (a26 : PySem.W.nsIn K mainGlobals "_law_fence" = some (some (.ref f26)))
    (l26 : K.lookup f26 = some ⟨oc26, od26, .func (PySem.W.fnOf "_law_fence" "_law_fence" (defArgs (top 34)) (defBody (top 34)) (defScope (top 34)) .none kV26 dc26 pm26 an26 cd26 ct26), sl26⟩)
    (c26 : PySem.W.codeIn K cd26 "_law_fence" = true)
    (k26 : PySem.W.keepIn K (.ref f26) = true)
    (a27 : PySem.W.nsIn K mainGlobals "_law_numbers" = some (some (.ref f27)))
    (l27 : K.lookup f27 = some ⟨oc27, od27, .func (PySem.W.fnOf "_law_numbers" "_law_numbers" (defArgs (top 35)) (defBody (top 35)) (defScope (top 35)) .none kV27 dc27 pm27 an27 cd27 ct27), sl27⟩)
    (c27 : PySem.W.codeIn K cd27 "_law_numbers" = true)
    (k27 : PySem.W.keepIn K (.ref f27) = true)
    (a28 : PySem.W.nsIn K mainGlobals "_law_least" = some (some (.ref f28)))
    (l28 : K.lookup f28 = some ⟨oc28, od28, .func (PySem.W.fnOf "_law_least" "_law_least" (defArgs (top 36)) (defBody (top 36)) (defScope (top 36)) .none kV28 dc28 pm28 an28 cd28 ct28), sl28⟩)
    (c28 : PySem.W.codeIn K cd28 "_law_least" = true)
    (k28 : PySem.W.keepIn K (.ref f28) = true)
    (a29 : PySem.W.nsIn K mainGlobals "_law_sums" = some (some (.ref f29)))
    (l29 : K.lookup f29 = some ⟨oc29, od29, .func (PySem.W.fnOf "_law_sums" "_law_sums" (defArgs (top 37)) (defBody (top 37)) (defScope (top 37)) .none kV29 dc29 pm29 an29 cd29 ct29), sl29⟩)
    (c29 : PySem.W.codeIn K cd29 "_law_sums" = true)
    (k29 : PySem.W.keepIn K (.ref f29) = true)
    (a30 : PySem.W.nsIn K mainGlobals "_law_far" = some (some (.ref f30)))
    (l30 : K.lookup f30 = some ⟨oc30, od30, .func (PySem.W.fnOf "_law_far" "_law_far" (defArgs (top 38)) (defBody (top 38)) (defScope (top 38)) .none kV30 dc30 pm30 an30 cd30 ct30), sl30⟩)
    (c30 : PySem.W.codeIn K cd30 "_law_far" = true)
    (k30 : PySem.W.keepIn K (.ref f30) = true)
    (a31 : PySem.W.nsIn K mainGlobals "_law_pair_right" = some (some (.ref f31)))
    (l31 : K.lookup f31 = some ⟨oc31, od31, .func (PySem.W.fnOf "_law_pair_right" "_law_pair_right" (defArgs (top 39)) (defBody (top 39)) (defScope (top 39)) .none kV31 dc31 pm31 an31 cd31 ct31), sl31⟩)
    (c31 : PySem.W.codeIn K cd31 "_law_pair_right" = true)
    (k31 : PySem.W.keepIn K (.ref f31) = true)
    (a32 : PySem.W.nsIn K mainGlobals "_law_one_right" = some (some (.ref f32)))
    (l32 : K.lookup f32 = some ⟨oc32, od32, .func (PySem.W.fnOf "_law_one_right" "_law_one_right" (defArgs (top 40)) (defBody (top 40)) (defScope (top 40)) .none kV32 dc32 pm32 an32 cd32 ct32), sl32⟩)
    (c32 : PySem.W.codeIn K cd32 "_law_one_right" = true)
    (k32 : PySem.W.keepIn K (.ref f32) = true)
    (a33 : PySem.W.nsIn K mainGlobals "_law_long_right" = some (some (.ref f33)))
    (l33 : K.lookup f33 = some ⟨oc33, od33, .func (PySem.W.fnOf "_law_long_right" "_law_long_right" (defArgs (top 41)) (defBody (top 41)) (defScope (top 41)) .none kV33 dc33 pm33 an33 cd33 ct33), sl33⟩)
    (c33 : PySem.W.codeIn K cd33 "_law_long_right" = true)
    (k33 : PySem.W.keepIn K (.ref f33) = true)
    (a34 : PySem.W.nsIn K mainGlobals "_law_asked" = some (some (.ref f34)))
    (l34 : K.lookup f34 = some ⟨oc34, od34, .func (PySem.W.fnOf "_law_asked" "_law_asked" (defArgs (top 42)) (defBody (top 42)) (defScope (top 42)) .none kV34 dc34 pm34 an34 cd34 ct34), sl34⟩)
    (c34 : PySem.W.codeIn K cd34 "_law_asked" = true)
    (k34 : PySem.W.keepIn K (.ref f34) = true)
    (a35 : PySem.W.nsIn K mainGlobals "_law_refused" = some (some (.ref f35)))
    (l35 : K.lookup f35 = some ⟨oc35, od35, .func (PySem.W.fnOf "_law_refused" "_law_refused" (defArgs (top 43)) (defBody (top 43)) (defScope (top 43)) .none kV35 dc35 pm35 an35 cd35 ct35), sl35⟩)
    (c35 : PySem.W.codeIn K cd35 "_law_refused" = true)
    (k35 : PySem.W.keepIn K (.ref f35) = true)
    (a36 : PySem.W.nsIn K mainGlobals "_law_refusals" = some (some (.ref f36)))
    (l36 : K.lookup f36 = some ⟨oc36, od36, .func (PySem.W.fnOf "_law_refusals" "_law_refusals" (defArgs (top 44)) (defBody (top 44)) (defScope (top 44)) .none kV36 dc36 pm36 an36 cd36 ct36), sl36⟩)
    (c36 : PySem.W.codeIn K cd36 "_law_refusals" = true)
    (k36 : PySem.W.keepIn K (.ref f36) = true)
    (a37 : PySem.W.nsIn K mainGlobals "law" = some (some (.ref f37)))
    (l37 : K.lookup f37 = some ⟨oc37, od37, .func (PySem.W.fnOf "law" "law" (defArgs (top 45)) (defBody (top 45)) (defScope (top 45)) .none kV37 dc37 pm37 an37 cd37 ct37), sl37⟩)
    (c37 : PySem.W.codeIn K cd37 "law" = true)
    (k37 : PySem.W.keepIn K (.ref f37) = true)
    : ∃ fd : FuncData, (∀ (s : Shared) (v : Value), BindsTo s fd ⟨[v], []⟩ [("script", v)]) ∧ ∀ base : Heap, K.In base → base.Ns mainGlobals mg → FnOk P w K mg base (L2.CX P w) 8 fa fd ["script"] (spOf K mg 1 den_law) := by
  have e := hfa.symm.trans (PySem.W.mg_of X G a37)
  cases e
  have I1 := fun_mk (st := (inClass (top 3) 0)) li1 ci1 ki1
  have I2 := fun_mk (st := (inClass (top 4) 0)) li2 ci2 ki2
  have F0 := fun_mk (st := top 6) l0 c0 k0
  have F1 := fun_mk (st := top 7) l1 c1 k1
  have F2 := fun_mk (st := top 8) l2 c2 k2
  have F3 := fun_mk (st := top 10) l3 c3 k3
  have F4 := fun_mk (st := top 11) l4 c4 k4
  have F5 := fun_mk (st := top 12) l5 c5 k5
  have F6 := fun_mk (st := top 13) l6 c6 k6
  have F7 := fun_mk (st := top 14) l7 c7 k7
  have F8 := fun_mk (st := top 15) l8 c8 k8
  have F9 := fun_mk (st := top 16) l9 c9 k9
  have F10 := fun_mk (st := top 17) l10 c10 k10
  have F11 := fun_mk (st := top 18) l11 c11 k11
  have F12 := fun_mk (st := top 19) l12 c12 k12
  have F13 := fun_mk (st := top 20) l13 c13 k13
  have F14 := fun_mk (st := top 21) l14 c14 k14
  have F15 := fun_mk (st := top 22) l15 c15 k15
  have F16 := fun_mk (st := top 23) l16 c16 k16
  have F17 := fun_mk (st := top 24) l17 c17 k17
  have F18 := fun_mk (st := top 25) l18 c18 k18
  have F19 := fun_mk (st := top 26) l19 c19 k19
  have F20 := fun_mk (st := top 28) l20 c20 k20
  have F21 := fun_mk (st := top 29) l21 c21 k21
  have F22 := fun_mk (st := top 30) l22 c22 k22
  have F23 := fun_mk (st := top 31) l23 c23 k23
  have F24 := fun_mk (st := top 32) l24 c24 k24
  have F25 := fun_mk (st := top 33) l25 c25 k25
  have F26 := fun_mk (st := top 34) l26 c26 k26
  have F27 := fun_mk (st := top 35) l27 c27 k27
  have F28 := fun_mk (st := top 36) l28 c28 k28
  have F29 := fun_mk (st := top 37) l29 c29 k29
  have F30 := fun_mk (st := top 38) l30 c30 k30
  have F31 := fun_mk (st := top 39) l31 c31 k31
  have F32 := fun_mk (st := top 40) l32 c32 k32
  have F33 := fun_mk (st := top 41) l33 c33 k33
  have F34 := fun_mk (st := top 42) l34 c34 k34
  have F35 := fun_mk (st := top 43) l35 c35 k35
  have F36 := fun_mk (st := top 44) l36 c36 k36
  have F37 := fun_mk (st := top 45) l37 c37 k37
  have T : ∀ base, Txt P w K mg base (fun i => ([f0, f1, f2, f3, f4, f5, f6, f7, f8, f9, f10, f11, f12, f13, f14, f15, f16, f17, f18, f19, f20, f21, f22, f23, f24, f25, f26, f27, f28, f29, f30, f31, f32, f33, f34, f35, f36, fa] : List _).getD i 0) (fun i => ([PySem.W.fnOf "is_int" "is_int" (defArgs (top 6)) (defBody (top 6)) (defScope (top 6)) .none kV0 dc0 pm0 an0 cd0 ct0, PySem.W.fnOf "plain_form" "plain_form" (defArgs (top 7)) (defBody (top 7)) (defScope (top 7)) .none kV1 dc1 pm1 an1 cd1 ct1, PySem.W.fnOf "check_number" "check_number" (defArgs (top 8)) (defBody (top 8)) (defScope (top 8)) .none kV2 dc2 pm2 an2 cd2 ct2, PySem.W.fnOf "wrong_fence_part" "wrong_fence_part" (defArgs (top 10)) (defBody (top 10)) (defScope (top 10)) .none kV3 dc3 pm3 an3 cd3 ct3, PySem.W.fnOf "check_fence" "check_fence" (defArgs (top 11)) (defBody (top 11)) (defScope (top 11)) .none kV4 dc4 pm4 an4 cd4 ct4, PySem.W.fnOf "check_other_fence" "check_other_fence" (defArgs (top 12)) (defBody (top 12)) (defScope (top 12)) .none kV5 dc5 pm5 an5 cd5 ct5, PySem.W.fnOf "check_integers" "check_integers" (defArgs (top 13)) (defBody (top 13)) (defScope (top 13)) .none kV6 dc6 pm6 an6 cd6 ct6, PySem.W.fnOf "fence_of_plain" "fence_of_plain" (defArgs (top 14)) (defBody (top 14)) (defScope (top 14)) .none kV7 dc7 pm7 an7 cd7 ct7, PySem.W.fnOf "fence_of" "fence_of" (defArgs (top 15)) (defBody (top 15)) (defScope (top 15)) .none kV8 dc8 pm8 an8 cd8 ct8, PySem.W.fnOf "holds_number" "holds_number" (defArgs (top 16)) (defBody (top 16)) (defScope (top 16)) .none kV9 dc9 pm9 an9 cd9 ct9, PySem.W.fnOf "has_number" "has_number" (defArgs (top 17)) (defBody (top 17)) (defScope (top 17)) .none kV10 dc10 pm10 an10 cd10 ct10, PySem.W.fnOf "fence_size" "fence_size" (defArgs (top 18)) (defBody (top 18)) (defScope (top 18)) .none kV11 dc11 pm11 an11 cd11 ct11, PySem.W.fnOf "turned_by" "turned_by" (defArgs (top 19)) (defBody (top 19)) (defScope (top 19)) .none kV12 dc12 pm12 an12 cd12 ct12, PySem.W.fnOf "common_numbers" "common_numbers" (defArgs (top 20)) (defBody (top 20)) (defScope (top 20)) .none kV13 dc13 pm13 an13 cd13 ct13, PySem.W.fnOf "fences_met" "fences_met" (defArgs (top 21)) (defBody (top 21)) (defScope (top 21)) .none kV14 dc14 pm14 an14 cd14 ct14, PySem.W.fnOf "is_fence_within" "is_fence_within" (defArgs (top 22)) (defBody (top 22)) (defScope (top 22)) .none kV15 dc15 pm15 an15 cd15 ct15, PySem.W.fnOf "fence_behind" "fence_behind" (defArgs (top 23)) (defBody (top 23)) (defScope (top 23)) .none kV16 dc16 pm16 an16 cd16 ct16, PySem.W.fnOf "either_fence" "either_fence" (defArgs (top 24)) (defBody (top 24)) (defScope (top 24)) .none kV17 dc17 pm17 an17 cd17 ct17, PySem.W.fnOf "fence_either" "fence_either" (defArgs (top 25)) (defBody (top 25)) (defScope (top 25)) .none kV18 dc18 pm18 an18 cd18 ct18, PySem.W.fnOf "fence_times" "fence_times" (defArgs (top 26)) (defBody (top 26)) (defScope (top 26)) .none kV19 dc19 pm19 an19 cd19 ct19, PySem.W.fnOf "_law_draws" "_law_draws" (defArgs (top 28)) (defBody (top 28)) (defScope (top 28)) .none kV20 dc20 pm20 an20 cd20 ct20, PySem.W.fnOf "_law_take" "_law_take" (defArgs (top 29)) (defBody (top 29)) (defScope (top 29)) .none kV21 dc21 pm21 an21 cd21 ct21, PySem.W.fnOf "_law_gcd" "_law_gcd" (defArgs (top 30)) (defBody (top 30)) (defScope (top 30)) .none kV22 dc22 pm22 an22 cd22 ct22, PySem.W.fnOf "_law_is" "_law_is" (defArgs (top 31)) (defBody (top 31)) (defScope (top 31)) .none kV23 dc23 pm23 an23 cd23 ct23, PySem.W.fnOf "_law_is_number" "_law_is_number" (defArgs (top 32)) (defBody (top 32)) (defScope (top 32)) .none kV24 dc24 pm24 an24 cd24 ct24, PySem.W.fnOf "_law_yes" "_law_yes" (defArgs (top 33)) (defBody (top 33)) (defScope (top 33)) .none kV25 dc25 pm25 an25 cd25 ct25, PySem.W.fnOf "_law_fence" "_law_fence" (defArgs (top 34)) (defBody (top 34)) (defScope (top 34)) .none kV26 dc26 pm26 an26 cd26 ct26, PySem.W.fnOf "_law_numbers" "_law_numbers" (defArgs (top 35)) (defBody (top 35)) (defScope (top 35)) .none kV27 dc27 pm27 an27 cd27 ct27, PySem.W.fnOf "_law_least" "_law_least" (defArgs (top 36)) (defBody (top 36)) (defScope (top 36)) .none kV28 dc28 pm28 an28 cd28 ct28, PySem.W.fnOf "_law_sums" "_law_sums" (defArgs (top 37)) (defBody (top 37)) (defScope (top 37)) .none kV29 dc29 pm29 an29 cd29 ct29, PySem.W.fnOf "_law_far" "_law_far" (defArgs (top 38)) (defBody (top 38)) (defScope (top 38)) .none kV30 dc30 pm30 an30 cd30 ct30, PySem.W.fnOf "_law_pair_right" "_law_pair_right" (defArgs (top 39)) (defBody (top 39)) (defScope (top 39)) .none kV31 dc31 pm31 an31 cd31 ct31, PySem.W.fnOf "_law_one_right" "_law_one_right" (defArgs (top 40)) (defBody (top 40)) (defScope (top 40)) .none kV32 dc32 pm32 an32 cd32 ct32, PySem.W.fnOf "_law_long_right" "_law_long_right" (defArgs (top 41)) (defBody (top 41)) (defScope (top 41)) .none kV33 dc33 pm33 an33 cd33 ct33, PySem.W.fnOf "_law_asked" "_law_asked" (defArgs (top 42)) (defBody (top 42)) (defScope (top 42)) .none kV34 dc34 pm34 an34 cd34 ct34, PySem.W.fnOf "_law_refused" "_law_refused" (defArgs (top 43)) (defBody (top 43)) (defScope (top 43)) .none kV35 dc35 pm35 an35 cd35 ct35, PySem.W.fnOf "_law_refusals" "_law_refusals" (defArgs (top 44)) (defBody (top 44)) (defScope (top 44)) .none kV36 dc36 pm36 an36 cd36 ct36, PySem.W.fnOf "law" "law" (defArgs (top 45)) (defBody (top 45)) (defScope (top 45)) .none kV37 dc37 pm37 an37 cd37 ct37] : List _).getD i (PySem.W.fnOf "law" "law" (defArgs (top 45)) (defBody (top 45)) (defScope (top 45)) .none kV37 dc37 pm37 an37 cd37 ct37)) (fun i => ([e0, e1, e2] : List _).getD i 0) (fun i => ([0, i1, i2] : List _).getD i 0) (fun i => ([PySem.W.fnOf "law" "law" (defArgs (top 45)) (defBody (top 45)) (defScope (top 45)) .none kV37 dc37 pm37 an37 cd37 ct37, PySem.W.fnOf "__init__" "BadNumber.__init__" (defArgs (inClass (top 3) 0)) (defBody (inClass (top 3) 0)) (defScope (inClass (top 3) 0)) .none kV1I dc1I pm1I an1I cd1I ct1I, PySem.W.fnOf "__init__" "BadRow.__init__" (defArgs (inClass (top 4) 0)) (defBody (inClass (top 4) 0)) (defScope (inClass (top 4) 0)) .none kV2I dc2I pm2I an2I cd2I ct2I] : List _).getD i (PySem.W.fnOf "law" "law" (defArgs (top 45)) (defBody (top 45)) (defScope (top 45)) .none kV37 dc37 pm37 an37 cd37 ct37)) := fun base => {
    n_abs := PySem.W.mg_none_of X G z_abs,
    n_bool := PySem.W.mg_none_of X G z_bool,
    n_enumerate := PySem.W.mg_none_of X G z_enumerate,
    n_int := PySem.W.mg_none_of X G z_int,
    n_isinstance := PySem.W.mg_none_of X G z_isinstance,
    n_len := PySem.W.mg_none_of X G z_len,
    n_list := PySem.W.mg_none_of X G z_list,
    n_max := PySem.W.mg_none_of X G z_max,
    n_min := PySem.W.mg_none_of X G z_min,
    n_range := PySem.W.mg_none_of X G z_range,
    n_tuple := PySem.W.mg_none_of X G z_tuple,
    m_gcd := PySem.W.mg_of X G m_gcd,
    m_lcm := PySem.W.mg_of X G m_lcm,
    d_is_int := ⟨PySem.W.mg_of X G a0, F0, F0.binds (ps := ["x"]) fun _ _ _ _ _ _ us hl => match us, hl with | [_], _ => rfl⟩,
    d_plain_form := ⟨PySem.W.mg_of X G a1, F1, F1.binds (ps := ["x"]) fun _ _ _ _ _ _ us hl => match us, hl with | [_], _ => rfl⟩,
    d_check_number := ⟨PySem.W.mg_of X G a2, F2, F2.binds (ps := ["x", "least"]) fun _ _ _ _ _ _ us hl => match us, hl with | [_, _], _ => rfl⟩,
    d_wrong_fence_part := ⟨PySem.W.mg_of X G a3, F3, F3.binds (ps := ["fence"]) fun _ _ _ _ _ _ us hl => match us, hl with | [_], _ => rfl⟩,
    d_check_fence := ⟨PySem.W.mg_of X G a4, F4, F4.binds (ps := ["fence"]) fun _ _ _ _ _ _ us hl => match us, hl with | [_], _ => rfl⟩,
    d_check_other_fence := ⟨PySem.W.mg_of X G a5, F5, F5.binds (ps := ["fence"]) fun _ _ _ _ _ _ us hl => match us, hl with | [_], _ => rfl⟩,
    d_check_integers := ⟨PySem.W.mg_of X G a6, F6, F6.binds (ps := ["numbers"]) fun _ _ _ _ _ _ us hl => match us, hl with | [_], _ => rfl⟩,
    d_fence_of_plain := ⟨PySem.W.mg_of X G a7, F7, F7.binds (ps := ["numbers"]) fun _ _ _ _ _ _ us hl => match us, hl with | [_], _ => rfl⟩,
    d_fence_of := ⟨PySem.W.mg_of X G a8, F8, F8.binds (ps := ["values"]) fun _ _ _ _ _ _ us hl => match us, hl with | [_], _ => rfl⟩,
    d_holds_number := ⟨PySem.W.mg_of X G a9, F9, F9.binds (ps := ["fence", "v"]) fun _ _ _ _ _ _ us hl => match us, hl with | [_, _], _ => rfl⟩,
    d_has_number := ⟨PySem.W.mg_of X G a10, F10, F10.binds (ps := ["fence", "v"]) fun _ _ _ _ _ _ us hl => match us, hl with | [_, _], _ => rfl⟩,
    d_fence_size := ⟨PySem.W.mg_of X G a11, F11, F11.binds (ps := ["fence"]) fun _ _ _ _ _ _ us hl => match us, hl with | [_], _ => rfl⟩,
    d_turned_by := ⟨PySem.W.mg_of X G a12, F12, F12.binds (ps := ["number", "base"]) fun _ _ _ _ _ _ us hl => match us, hl with | [_, _], _ => rfl⟩,
    d_common_numbers := ⟨PySem.W.mg_of X G a13, F13, F13.binds (ps := ["fence", "other"]) fun _ _ _ _ _ _ us hl => match us, hl with | [_, _], _ => rfl⟩,
    d_fences_met := ⟨PySem.W.mg_of X G a14, F14, F14.binds (ps := ["fence", "other"]) fun _ _ _ _ _ _ us hl => match us, hl with | [_, _], _ => rfl⟩,
    d_is_fence_within := ⟨PySem.W.mg_of X G a15, F15, F15.binds (ps := ["fence", "other"]) fun _ _ _ _ _ _ us hl => match us, hl with | [_, _], _ => rfl⟩,
    d_fence_behind := ⟨PySem.W.mg_of X G a16, F16, F16.binds (ps := ["fence", "other"]) fun _ _ _ _ _ _ us hl => match us, hl with | [_, _], _ => rfl⟩,
    d_either_fence := ⟨PySem.W.mg_of X G a17, F17, F17.binds (ps := ["told", "mate"]) fun _ _ _ _ _ _ us hl => match us, hl with | [_, _], _ => rfl⟩,
    d_fence_either := ⟨PySem.W.mg_of X G a18, F18, F18.binds (ps := ["fence", "other"]) fun _ _ _ _ _ _ us hl => match us, hl with | [_, _], _ => rfl⟩,
    d_fence_times := ⟨PySem.W.mg_of X G a19, F19, F19.binds (ps := ["fence", "k"]) fun _ _ _ _ _ _ us hl => match us, hl with | [_, _], _ => rfl⟩,
    d_law_draws := ⟨PySem.W.mg_of X G a20, F20, F20.binds (ps := ["script"]) fun _ _ _ _ _ _ us hl => match us, hl with | [_], _ => rfl⟩,
    d_law_take := ⟨PySem.W.mg_of X G a21, F21, F21.binds (ps := ["draws", "many"]) fun _ _ _ _ _ _ us hl => match us, hl with | [_, _], _ => rfl⟩,
    d_law_gcd := ⟨PySem.W.mg_of X G a22, F22, F22.binds (ps := ["a", "b"]) fun _ _ _ _ _ _ us hl => match us, hl with | [_, _], _ => rfl⟩,
    d_law_is := ⟨PySem.W.mg_of X G a23, F23, F23.binds (ps := ["told", "due"]) fun _ _ _ _ _ _ us hl => match us, hl with | [_, _], _ => rfl⟩,
    d_law_is_number := ⟨PySem.W.mg_of X G a24, F24, F24.binds (ps := ["told", "due"]) fun _ _ _ _ _ _ us hl => match us, hl with | [_, _], _ => rfl⟩,
    d_law_yes := ⟨PySem.W.mg_of X G a25, F25, F25.binds (ps := ["told", "due"]) fun _ _ _ _ _ _ us hl => match us, hl with | [_, _], _ => rfl⟩,
    d_law_fence := ⟨PySem.W.mg_of X G a26, F26, F26.binds (ps := ["draws"]) fun _ _ _ _ _ _ us hl => match us, hl with | [_], _ => rfl⟩,
    d_law_numbers := ⟨PySem.W.mg_of X G a27, F27, F27.binds (ps := ["fence"]) fun _ _ _ _ _ _ us hl => match us, hl with | [_], _ => rfl⟩,
    d_law_least := ⟨PySem.W.mg_of X G a28, F28, F28.binds (ps := ["values"]) fun _ _ _ _ _ _ us hl => match us, hl with | [_], _ => rfl⟩,
    d_law_sums := ⟨PySem.W.mg_of X G a29, F29, F29.binds (ps := ["values", "others"]) fun _ _ _ _ _ _ us hl => match us, hl with | [_, _], _ => rfl⟩,
    d_law_far := ⟨PySem.W.mg_of X G a30, F30, F30.binds (ps := ["fence", "by", "more"]) fun _ _ _ _ _ _ us hl => match us, hl with | [_, _, _], _ => rfl⟩,
    d_law_pair_right := ⟨PySem.W.mg_of X G a31, F31, F31.binds (ps := ["fence", "other", "by", "more"]) fun _ _ _ _ _ _ us hl => match us, hl with | [_, _, _, _], _ => rfl⟩,
    d_law_one_right := ⟨PySem.W.mg_of X G a32, F32, F32.binds (ps := ["fence", "by", "more", "draws"]) fun _ _ _ _ _ _ us hl => match us, hl with | [_, _, _, _], _ => rfl⟩,
    d_law_long_right := ⟨PySem.W.mg_of X G a33, F33, F33.binds (ps := ["draws", "far"]) fun _ _ _ _ _ _ us hl => match us, hl with | [_, _], _ => rfl⟩,
    d_law_asked := ⟨PySem.W.mg_of X G a34, F34, F34.binds (ps := ["which", "one", "two"]) fun _ _ _ _ _ _ us hl => match us, hl with | [_, _, _], _ => rfl⟩,
    d_law_refused := ⟨PySem.W.mg_of X G a35, F35, F35.binds (ps := ["which", "one", "two"]) fun _ _ _ _ _ _ us hl => match us, hl with | [_, _, _], _ => rfl⟩,
    d_law_refusals := ⟨PySem.W.mg_of X G a36, F36, F36.binds (ps := []) fun _ _ _ _ _ _ us hl => match us, hl with | [], _ => rfl⟩,
    d_law := ⟨PySem.W.mg_of X G a37, F37, F37.binds (ps := ["script"]) fun _ _ _ _ _ _ us hl => match us, hl with | [_], _ => rfl⟩,
    g_VariesError := PySem.W.mg_of X G ea0,
    xc_VariesError := ⟨kx0, kt0, kh0⟩,
    g_BadNumber := PySem.W.mg_of X G ea1,
    xc_BadNumber := ⟨kx1, kt1, kh1⟩,
    o_BadNumber := ⟨⟨nm1, q1, N1, bs1, bm1, sn1, sub1, ab1, col1, dd1, x1a, x1b, x1c, x1d, x1e, xl1, xv1⟩, sa1, kx1, kt1, kp1⟩,
    no_BadNumber := nf1,
    iC_BadNumber := fi1,
    tI_BadNumber := ti1,
    fn_BadNumber := I1,
    bi_BadNumber := I1.binds (ps := ["self", "at"]) fun _ _ _ _ _ _ us hl => match us, hl with | [_, _], _ => rfl,
    xf_BadNumber := ⟨ga1, gg1, kx1, kh1⟩,
    ic_BadNumber := ⟨ic1, ga1, gg1, kx1, cc1, hn1, tk1, mo1⟩,
    g_BadRow := PySem.W.mg_of X G ea2,
    xc_BadRow := ⟨kx2, kt2, kh2⟩,
    o_BadRow := ⟨⟨nm2, q2, N2, bs2, bm2, sn2, sub2, ab2, col2, dd2, x2a, x2b, x2c, x2d, x2e, xl2, xv2⟩, sa2, kx2, kt2, kp2⟩,
    no_BadRow := nf2,
    iC_BadRow := fi2,
    tI_BadRow := ti2,
    fn_BadRow := I2,
    bi_BadRow := I2.binds (ps := ["self", "at"]) fun _ _ _ _ _ _ us hl => match us, hl with | [_, _], _ => rfl,
    xf_BadRow := ⟨ga2, gg2, kx2, kh2⟩,
    ic_BadRow := ⟨ic2, ga2, gg2, kx2, cc2, hn2, tk2, mo2⟩,
    su_BadNumber_VariesError := su1_0,
    ki_BadNumber_VariesError := kk1_0,
    su_BadNumber_BadNumber := su1_1,
    ki_BadNumber_BadNumber := kk1_1,
    su_BadNumber_BadRow := su1_2,
    ki_BadNumber_BadRow := kk1_2,
    su_BadRow_VariesError := su2_0,
    ki_BadRow_VariesError := kk2_0,
    su_BadRow_BadNumber := su2_1,
    ki_BadRow_BadNumber := kk2_1,
    su_BadRow_BadRow := su2_2,
    ki_BadRow_BadRow := kk2_2 }
  exact ⟨PySem.W.fnOf "law" "law" (defArgs (top 45)) (defBody (top 45)) (defScope (top 45)) .none kV37 dc37 pm37 an37 cd37 ct37, fun s v => .of_eq rfl, fun base _ _ => ok_law (T base)⟩
end K72
namespace K72
def inF (a b c v : Int) : Prop := (c = 0 ∧ v = a) ∨ (0 < c ∧ a ≤ v ∧ v ≤ b ∧ c ∣ v - a)
def Fen (a b c : Int) : Prop := (c = 0 ∧ a = b) ∨ (0 < c ∧ a < b ∧ c ∣ b - a)
structure Spec (P : Int → Prop) (a b c : Int) : Prop where
  lo : P a
  hi : P b
  al : ∀ x, P x → a ≤ x ∧ x ≤ b ∧ c ∣ x - a
  nn : 0 ≤ c
  gr : ∀ d, (∀ x, P x → d ∣ x - a) → d ∣ c
theorem Spec.unique {P : Int → Prop} {a b c a' b' c' : Int} (h : Spec P a b c) (k : Spec P a' b' c') : a = a' ∧ b = b' ∧ c = c' := by
  have e1 : a = a' := Int.le_antisymm (h.al _ k.lo).1 (k.al _ h.lo).1
  have e2 : b = b' := Int.le_antisymm (k.al _ h.hi).2.1 (h.al _ k.hi).2.1
  subst e1 e2
  refine ⟨rfl, rfl, ?_⟩
  have d1 : c ∣ c' := k.gr _ fun x hx => (h.al x hx).2.2
  have d2 : c' ∣ c := h.gr _ fun x hx => (k.al x hx).2.2
  exact Int.dvd_antisymm h.nn k.nn d1 d2
theorem Spec.congr {P P' : Int → Prop} {a b c : Int} (h : Spec P a b c) (e : ∀ x, P x ↔ P' x) : Spec P' a b c :=
  ⟨(e _).mp h.lo, (e _).mp h.hi, fun x hx => h.al x ((e x).mpr hx), h.nn, fun d k => h.gr d fun x hx => k x ((e x).mp hx)⟩
theorem dvd_cop {d c y : Int} (h : d ∣ c * y) (k : Int.gcd d y = 1) : d ∣ c := by
  have h2 := Int.natAbs_dvd_natAbs.mpr h
  rw [Int.natAbs_mul] at h2
  have k2 : Nat.Coprime d.natAbs y.natAbs := k
  exact Int.natAbs_dvd_natAbs.mp (Nat.Coprime.dvd_of_dvd_mul_right k2 h2)
theorem mul_mono {x y z : Int} (hz : 0 < z) (h : x ≤ y) : x * z ≤ y * z := Int.mul_le_mul_of_nonneg_right h (Int.le_of_lt hz)
theorem Spec.scale {P : Int → Prop} {a b c : Int} (h : Spec P a b c) {y : Int} (hy : 0 < y) (m : Int) : Spec (fun z => ∃ x, P x ∧ z = x * y + m) (a * y + m) (b * y + m) (c * y) := by
  refine ⟨⟨a, h.lo, rfl⟩, ⟨b, h.hi, rfl⟩, ?_, Int.mul_nonneg h.nn (Int.le_of_lt hy), fun d k => ?_⟩
  · rintro z ⟨x, hx, rfl⟩
    obtain ⟨h1, h2, q, h3⟩ := h.al x hx
    have := mul_mono hy h1
    have := mul_mono hy h2
    refine ⟨by omega, by omega, q, ?_⟩
    have e : x * y + m - (a * y + m) = (x - a) * y := by rw [Int.sub_mul]; omega
    rw [e, h3, Int.mul_assoc, Int.mul_comm q y, ← Int.mul_assoc]
  · -- d divides every (x - a) * y; take the gcd
    have key : d ∣ c * y := by
      -- g = gcd d y; d / g divides every x - a
      have hg0 : (Int.gcd d y : Int) ≠ 0 := by
        have : Int.gcd d y ≠ 0 := by
          intro z
          rw [Int.gcd_eq_zero_iff] at z
          omega
        omega
      obtain ⟨d', hd'⟩ : (Int.gcd d y : Int) ∣ d := Int.gcd_dvd_left ..
      obtain ⟨y', hy'⟩ : (Int.gcd d y : Int) ∣ y := Int.gcd_dvd_right ..
      have cop : Int.gcd d' y' = 1 := by
        have e := Int.gcd_mul_left (Int.gcd d y : Int) d' y'
        rw [← hd', ← hy'] at e
        have hp : 0 < Int.gcd d y := by omega
        have e2 : Int.gcd d y * 1 = Int.gcd d y * Int.gcd d' y' := by simpa using e
        exact (Nat.eq_of_mul_eq_mul_left hp e2).symm
      have hd : d' ∣ c := by
        refine h.gr d' fun x hx => ?_
        obtain ⟨q, hq⟩ := k _ ⟨x, hx, rfl⟩
        have e : (x - a) * y = d * q := by rw [← hq, Int.sub_mul]; omega
        have e2 : (x - a) * y' = d' * q := by
          have : (Int.gcd d y : Int) * ((x - a) * y') = (Int.gcd d y : Int) * (d' * q) := by
            calc (Int.gcd d y : Int) * ((x - a) * y') = (x - a) * ((Int.gcd d y : Int) * y') := by rw [Int.mul_left_comm]
              _ = (x - a) * y := by rw [← hy']
              _ = d * q := e
              _ = ((Int.gcd d y : Int) * d') * q := by rw [← hd']
              _ = _ := by rw [Int.mul_assoc]
          exact Int.eq_of_mul_eq_mul_left hg0 this
        have : d' ∣ (x - a) * y' := ⟨q, e2⟩
        exact dvd_cop this cop
      obtain ⟨r, hr⟩ := hd
      refine ⟨r * y', ?_⟩
      calc c * y = (d' * r) * ((Int.gcd d y : Int) * y') := by rw [← hr, ← hy']
        _ = ((Int.gcd d y : Int) * d') * (r * y') := by
          rw [Int.mul_comm d' r, Int.mul_assoc, Int.mul_left_comm d', Int.mul_assoc, Int.mul_left_comm r, Int.mul_left_comm r]
        _ = d * (r * y') := by rw [← hd']
    exact key

/-! ### fences -/
theorem inF_lo {a b c : Int} (h : Fen a b c) : inF a b c a := by
  rcases h with ⟨h1, h2⟩ | ⟨h1, h2, h3⟩
  · exact .inl ⟨h1, rfl⟩
  · exact .inr ⟨h1, Int.le_refl _, by omega, by rw [Int.sub_self]; exact Int.dvd_zero c⟩
theorem inF_hi {a b c : Int} (h : Fen a b c) : inF a b c b := by
  rcases h with ⟨h1, h2⟩ | ⟨h1, h2, h3⟩
  · exact .inl ⟨h1, h2.symm⟩
  · exact .inr ⟨h1, by omega, Int.le_refl _, h3⟩
theorem Fen.spec {a b c : Int} (h : Fen a b c) : Spec (inF a b c) a b c := by
  refine ⟨inF_lo h, inF_hi h, fun x hx => ?_, ?_, fun d k => ?_⟩
  · rcases h with ⟨h1, h2⟩ | ⟨h1, h2, h3⟩
    · rcases hx with ⟨_, k2⟩ | ⟨k1, _⟩
      · subst k2
        exact ⟨Int.le_refl _, by omega, by rw [Int.sub_self]; exact Int.dvd_zero c⟩
      · omega
    · rcases hx with ⟨k1, _⟩ | ⟨_, k2, k3, k4⟩
      · omega
      · exact ⟨k2, k3, k4⟩
  · rcases h with ⟨h1, h2⟩ | ⟨h1, h2, h3⟩ <;> omega
  · rcases h with ⟨h1, h2⟩ | ⟨h1, h2, h3⟩
    · rw [h1]
      exact Int.dvd_zero d
    · have hs : a + c ≤ b := by
        have := Int.le_of_dvd (by omega) h3
        omega
      have := k (a + c) (.inr ⟨h1, by omega, hs, by rw [show a + c - a = c by omega]; exact Int.dvd_refl c⟩)
      rwa [show a + c - a = c by omega] at this
theorem Fen.scale {a b c : Int} (h : Fen a b c) {y : Int} (hy : 0 < y) (m : Int) : Fen (a * y + m) (b * y + m) (c * y) := by
  rcases h with ⟨h1, h2⟩ | ⟨h1, h2, q, h3⟩
  · exact .inl ⟨by rw [h1, Int.zero_mul], by rw [h2]⟩
  · refine .inr ⟨Int.mul_pos h1 hy, ?_, q, ?_⟩
    · have := Int.mul_lt_mul_of_pos_right h2 hy
      omega
    · have e : b * y + m - (a * y + m) = (b - a) * y := by rw [Int.sub_mul]; omega
      rw [e, h3, Int.mul_assoc, Int.mul_comm q y, ← Int.mul_assoc]
theorem inF_scale {a b c y m z : Int} (hy : 0 < y) : inF (a * y + m) (b * y + m) (c * y) z ↔ ∃ x, inF a b c x ∧ z = x * y + m := by
  constructor
  · rintro (⟨h1, h2⟩ | ⟨h1, h2, h3, q, h4⟩)
    · have c0 : c = 0 := by
        rcases Int.mul_eq_zero.mp h1 with e | e
        · exact e
        · omega
      exact ⟨a, .inl ⟨c0, rfl⟩, h2⟩
    · have c0 : 0 < c := by
        rcases Int.lt_or_le 0 c with e | e
        · exact e
        · have := Int.mul_nonpos_of_nonpos_of_nonneg e (Int.le_of_lt hy)
          omega
      have ez : z = (a + c * q) * y + m := by
        have : z - (a * y + m) = c * q * y := by rw [h4, Int.mul_assoc, Int.mul_comm y q, ← Int.mul_assoc]
        rw [Int.add_mul]
        omega
      refine ⟨a + c * q, .inr ⟨c0, ?_, ?_, ?_⟩, ez⟩
      · refine Int.not_lt.mp fun l => ?_
        have := Int.mul_lt_mul_of_pos_right l hy
        omega
      · refine Int.not_lt.mp fun l => ?_
        have := Int.mul_lt_mul_of_pos_right l hy
        omega
      · rw [show a + c * q - a = c * q by omega]
        exact Int.dvd_mul_right c q
  · rintro ⟨x, (⟨h1, h2⟩ | ⟨h1, h2, h3, q, h4⟩), rfl⟩
    · exact .inl ⟨by rw [h1, Int.zero_mul], by rw [h2]⟩
    · have := mul_mono hy h2
      have := mul_mono hy h3
      refine .inr ⟨Int.mul_pos h1 hy, by omega, by omega, q, ?_⟩
      have e : x * y + m - (a * y + m) = (x - a) * y := by rw [Int.sub_mul]; omega
      rw [e, h4, Int.mul_assoc, Int.mul_comm q y, ← Int.mul_assoc]
theorem scale_inj {x x' y m : Int} (hy : 0 < y) (h : x * y + m = x' * y + m) : x = x' := by
  have : x * y = x' * y := by omega
  exact Int.eq_of_mul_eq_mul_right (by omega) this
/-- sums of two -/
theorem Spec.sum {P Q : Int → Prop} {a b c a' b' c' : Int} (h : Spec P a b c) (k : Spec Q a' b' c') : Spec (fun z => ∃ x y, P x ∧ Q y ∧ z = x + y) (a + a') (b + b') (Int.gcd c c') := by
  refine ⟨⟨a, a', h.lo, k.lo, rfl⟩, ⟨b, b', h.hi, k.hi, rfl⟩, ?_, Int.natCast_nonneg _, fun d q => ?_⟩
  · rintro z ⟨x, y, hx, hy, rfl⟩
    obtain ⟨h1, h2, h3⟩ := h.al x hx
    obtain ⟨k1, k2, k3⟩ := k.al y hy
    refine ⟨by omega, by omega, ?_⟩
    rw [show x + y - (a + a') = (x - a) + (y - a') by omega]
    exact Int.dvd_add (Int.dvd_trans (Int.gcd_dvd_left ..) h3) (Int.dvd_trans (Int.gcd_dvd_right ..) k3)
  · refine Int.dvd_coe_gcd (h.gr d fun x hx => ?_) (k.gr d fun y hy => ?_)
    · have := q _ ⟨x, a', hx, k.lo, rfl⟩
      rwa [show x + a' - (a + a') = x - a by omega] at this
    · have := q _ ⟨a, y, h.lo, hy, rfl⟩
      rwa [show a + y - (a + a') = y - a' by omega] at this
/-- both together -/
theorem Spec.either {P Q : Int → Prop} {a b c a' b' c' : Int} (h : Spec P a b c) (k : Spec Q a' b' c') : Spec (fun z => P z ∨ Q z) (if a' < a then a' else a) (if b' > b then b' else b) (Int.gcd (Int.gcd c c') (a' - a)) := by
  have hd : ∀ {z : Int}, (∀ g : Int, g ∣ a' - a → g ∣ z - a → g ∣ z - (if a' < a then a' else a)) := by
    intro z g h1 h2
    split
    · rw [show z - a' = (z - a) - (a' - a) by omega]
      exact Int.dvd_sub h2 h1
    · exact h2
  refine ⟨?_, ?_, ?_, Int.natCast_nonneg _, fun d q => ?_⟩
  · split
    · exact .inr k.lo
    · exact .inl h.lo
  · split
    · exact .inr k.hi
    · exact .inl h.hi
  · have g3 : ((Int.gcd (Int.gcd c c') (a' - a) : Nat) : Int) ∣ a' - a := Int.gcd_dvd_right ..
    have g0 : ((Int.gcd (Int.gcd c c') (a' - a) : Nat) : Int) ∣ (Int.gcd c c' : Int) := Int.gcd_dvd_left ..
    rintro z (hz | hz)
    · obtain ⟨h1, h2, h3⟩ := h.al z hz
      refine ⟨by split <;> omega, by split <;> omega, hd _ g3 (Int.dvd_trans (Int.dvd_trans g0 (Int.gcd_dvd_left ..)) h3)⟩
    · obtain ⟨h1, h2, h3⟩ := k.al z hz
      refine ⟨by split <;> omega, by split <;> omega, hd _ g3 ?_⟩
      rw [show z - a = (z - a') + (a' - a) by omega]
      exact Int.dvd_add (Int.dvd_trans (Int.dvd_trans g0 (Int.gcd_dvd_right ..)) h3) g3
  · have back : ∀ z, P z ∨ Q z → d ∣ z - a := by
      intro z hz
      have e1 := q z hz
      have e2 := q a (.inl h.lo)
      have := Int.dvd_sub e1 e2
      rwa [show z - (if a' < a then a' else a) - (a - (if a' < a then a' else a)) = z - a by omega] at this
    refine Int.dvd_coe_gcd (Int.dvd_coe_gcd (h.gr d fun x hx => back x (.inl hx)) (k.gr d fun y hy => ?_)) (back a' (.inr k.lo))
    have e1 := back y (.inr hy)
    have e2 := back a' (.inr k.lo)
    have := Int.dvd_sub e1 e2
    rwa [show y - a - (a' - a) = y - a' by omega] at this
end K72
namespace K72
/-! ### what two fences have in common -/
theorem ceil_bounds {x w : Int} (hw : 0 < w) : x ≤ (x + w - 1) / w * w ∧ (x + w - 1) / w * w < x + w := by
  have h := Int.emod_nonneg (x + w - 1) (by omega : w ≠ 0)
  have h2 := Int.emod_lt_of_pos (x + w - 1) hw
  have h3 := Int.ediv_mul_add_emod (x + w - 1) w
  omega
theorem floor_bounds {x w : Int} (hw : 0 < w) : x / w * w ≤ x ∧ x < x / w * w + w := by
  have h := Int.emod_nonneg x (by omega : w ≠ 0)
  have h2 := Int.emod_lt_of_pos x hw
  have h3 := Int.ediv_mul_add_emod x w
  omega
theorem lcm_pos' {s1 s2 : Int} (p1 : 0 < s1) (p2 : 0 < s2) : (0 : Int) < (Int.lcm s1 s2 : Nat) := by
  have := Int.lcm_pos (m := s1) (n := s2) (by omega) (by omega)
  omega
def low2 (l1 l2 : Int) : Int := if l2 > l1 then l2 else l1
def high2 (h1 h2 : Int) : Int := if h2 < h1 then h2 else h1
theorem both_iff {l1 h1 s1 l2 h2 s2 t x : Int} (p1 : 0 < s1) (p2 : 0 < s2) (d1 : s1 ∣ t - l1) (d2 : s2 ∣ t - l2) :
    (inF l1 h1 s1 x ∧ inF l2 h2 s2 x) ↔ low2 l1 l2 ≤ x ∧ x ≤ high2 h1 h2 ∧ (Int.lcm s1 s2 : Int) ∣ x - t := by
  unfold low2 high2
  constructor
  · rintro ⟨(⟨a1, _⟩ | ⟨_, a2, a3, a4⟩), (⟨b1, _⟩ | ⟨_, b2, b3, b4⟩)⟩
    · omega
    · omega
    · omega
    · refine ⟨by split <;> omega, by split <;> omega, Int.coe_lcm_dvd ?_ ?_⟩
      · rw [show x - t = (x - l1) - (t - l1) by omega]
        exact Int.dvd_sub a4 d1
      · rw [show x - t = (x - l2) - (t - l2) by omega]
        exact Int.dvd_sub b4 d2
  · rintro ⟨h3, h4, h5⟩
    have e1 : s1 ∣ x - l1 := by
      rw [show x - l1 = (x - t) + (t - l1) by omega]
      exact Int.dvd_add (Int.dvd_trans (Int.dvd_lcm_left ..) h5) d1
    have e2 : s2 ∣ x - l2 := by
      rw [show x - l2 = (x - t) + (t - l2) by omega]
      exact Int.dvd_add (Int.dvd_trans (Int.dvd_lcm_right ..) h5) d2
    refine ⟨.inr ⟨p1, ?_, ?_, e1⟩, .inr ⟨p2, ?_, ?_, e2⟩⟩ <;> (split at h3 <;> split at h4 <;> omega)
/-- the numbers of a class between two bounds -/
theorem class_spec {P : Int → Prop} {low high w t first : Int} (hw : 0 < w) (hP : ∀ x, P x ↔ low ≤ x ∧ x ≤ high ∧ w ∣ x - t) (hf : first = t + (low - t + w - 1) / w * w) :
    (first > high → ∀ x, ¬ P x) ∧ (¬ first > high → Spec P first (first + (high - first) / w * w) (if first = first + (high - first) / w * w then 0 else w)) := by
  have c := ceil_bounds (x := low - t) hw
  have dt : w ∣ first - t := by
    rw [hf, show t + (low - t + w - 1) / w * w - t = (low - t + w - 1) / w * w by omega]
    exact Int.dvd_mul_left ..
  have least : ∀ x, P x → first ≤ x := by
    intro x hx
    obtain ⟨h1, h2, h3⟩ := (hP x).mp hx
    have d : w ∣ x - first := by
      rw [show x - first = (x - t) - (first - t) by omega]
      exact Int.dvd_sub h3 dt
    refine Int.not_lt.mp fun l => ?_
    have := Int.le_of_dvd (by omega : 0 < first - x) (by
      rw [show first - x = -(x - first) by omega]
      exact Int.dvd_neg.mpr d)
    omega
  refine ⟨fun h x hx => ?_, fun h => ?_⟩
  · have := least x hx
    obtain ⟨h1, h2, h3⟩ := (hP x).mp hx
    omega
  · have f := floor_bounds (x := high - first) hw
    have nn : 0 ≤ (high - first) / w := Int.ediv_nonneg (by omega) (by omega)
    have nn2 : 0 ≤ (high - first) / w * w := Int.mul_nonneg nn (by omega)
    have pf : P first := (hP _).mpr ⟨by omega, by omega, dt⟩
    have pl : P (first + (high - first) / w * w) := (hP _).mpr ⟨by omega, by omega, by
      rw [show first + (high - first) / w * w - t = (first - t) + (high - first) / w * w by omega]
      exact Int.dvd_add dt (Int.dvd_mul_left ..)⟩
    have hd : ∀ x, P x → w ∣ x - first := fun x hx => by
      obtain ⟨h1, h2, h3⟩ := (hP x).mp hx
      rw [show x - first = (x - t) - (first - t) by omega]
      exact Int.dvd_sub h3 dt
    have most : ∀ x, P x → x ≤ first + (high - first) / w * w := fun x hx => by
      obtain ⟨q, hq⟩ := hd x hx
      obtain ⟨h1, h2, h3⟩ := (hP x).mp hx
      have : q ≤ (high - first) / w := by
        rw [Int.le_ediv_iff_mul_le hw, Int.mul_comm]
        omega
      have := mul_mono hw this
      have e : q * w = w * q := Int.mul_comm ..
      omega
    refine ⟨pf, pl, fun x hx => ⟨least x hx, most x hx, ?_⟩, by split <;> omega, fun d k => ?_⟩
    · split
      · rename_i e
        have h1 := least x hx
        have h2 := most x hx
        rw [show x - first = 0 by omega]
        exact Int.dvd_refl 0
      · exact hd x hx
    · split
      · exact Int.dvd_zero d
      · rename_i e
        have : first + w ≤ high := by
          have h1 : 1 ≤ (high - first) / w := by
            refine Int.not_lt.mp fun l => ?_
            have : (high - first) / w = 0 := by omega
            rw [this] at e
            omega
          have := mul_mono hw h1
          omega
        have := k (first + w) ((hP _).mpr ⟨by omega, this, by
          rw [show first + w - t = (first - t) + w by omega]
          exact Int.dvd_add dt (Int.dvd_refl w)⟩)
        rwa [show first + w - first = w by omega] at this
/-- the one that both classes hold -/
theorem turn_ok {l1 s1 l2 s2 g r t : Int} (p1 : 0 < s1) (p2 : 0 < s2) (hg : g = (Int.gcd s1 s2 : Nat)) (hd : g ∣ l2 - l1) (hr : s2 / g ∣ s1 / g * r - 1) (ht : t = l1 + s1 * ((l2 - l1) / g * r % (s2 / g))) : s1 ∣ t - l1 ∧ s2 ∣ t - l2 := by
  have g0 : 0 < g := by
    have : 0 < Int.gcd s1 s2 := Int.gcd_pos_of_ne_zero_left _ (by omega)
    omega
  have d1 : g ∣ s1 := by rw [hg]; exact Int.gcd_dvd_left ..
  have d2 : g ∣ s2 := by rw [hg]; exact Int.gcd_dvd_right ..
  obtain ⟨a, ha⟩ := d1
  obtain ⟨b, hb⟩ := d2
  obtain ⟨c, hc⟩ := hd
  have ea : s1 / g = a := by rw [ha, Int.mul_ediv_cancel_left _ (by omega)]
  have eb : s2 / g = b := by rw [hb, Int.mul_ediv_cancel_left _ (by omega)]
  have ec : (l2 - l1) / g = c := by rw [hc, Int.mul_ediv_cancel_left _ (by omega)]
  rw [ea, eb] at hr
  rw [eb, ec] at ht
  refine ⟨⟨c * r % b, by omega⟩, ?_⟩
  -- t - l2 = s1 * (c r mod b) - g c
  obtain ⟨k, hk⟩ := hr
  have em := Int.ediv_mul_add_emod (c * r) b
  refine ⟨c * k - a * (c * r / b), ?_⟩
  have h1 : t - l2 = s1 * (c * r % b) - g * c := by omega
  have h2 : c * r % b = c * r - c * r / b * b := by omega
  rw [h1, h2, hb, ha]
  have h3 : a * r = b * k + 1 := by omega
  calc g * a * (c * r - c * r / b * b) - g * c = g * (c * (a * r)) - g * (a * (c * r / b) * b) - g * c := by
        rw [Int.mul_sub, Int.mul_assoc g a, Int.mul_assoc g a, Int.mul_left_comm a c r, Int.mul_assoc a (c * r / b) b]
    _ = g * (c * (b * k + 1)) - g * (a * (c * r / b) * b) - g * c := by rw [h3]
    _ = g * b * (c * k - a * (c * r / b)) := by
        rw [Int.mul_add, Int.mul_one, Int.mul_add, Int.mul_assoc g b, Int.mul_sub b, Int.mul_sub g, Int.mul_left_comm b c k, Int.mul_comm b (a * (c * r / b))]
        omega
/-! ### within -/
theorem within_iff {a b c a' b' c' : Int} (h : Fen a b c) (k : Fen a' b' c') : (∀ x, inF a b c x → inF a' b' c' x) ↔ (inF a' b' c' a ∧ inF a' b' c' b ∧ (c = 0 ∨ c' ∣ c)) := by
  constructor
  · intro q
    refine ⟨q _ (inF_lo h), q _ (inF_hi h), ?_⟩
    rcases h with ⟨h1, _⟩ | ⟨h1, h2, h3⟩
    · exact .inl h1
    · refine .inr ?_
      have h' : Fen a b c := .inr ⟨h1, h2, h3⟩
      have hs : a + c ≤ b := by
        have := Int.le_of_dvd (by omega) h3
        omega
      have i1 := q _ (inF_lo h')
      have i2 := q (a + c) (.inr ⟨h1, by omega, hs, by rw [show a + c - a = c by omega]; exact Int.dvd_refl c⟩)
      rcases i1 with ⟨e, j1⟩ | ⟨e, _, _, j1⟩
      · rcases i2 with ⟨_, j2⟩ | ⟨e2, _⟩ <;> omega
      · rcases i2 with ⟨e2, _⟩ | ⟨_, _, _, j2⟩
        · omega
        · have := Int.dvd_sub j2 j1
          rwa [show a + c - a' - (a - a') = c by omega] at this
  · rintro ⟨i1, i2, i3⟩ x hx
    rcases hx with ⟨h1, h2⟩ | ⟨h1, h2, h3, h4⟩
    · subst h2
      exact i1
    · rcases i1 with ⟨e1, j1⟩ | ⟨e1, j1, j2, j3⟩
      · rcases i2 with ⟨_, j2⟩ | ⟨e2, _⟩
        · subst j1
          subst j2
          exact .inl ⟨e1, by omega⟩
        · omega
      · rcases i2 with ⟨e2, _⟩ | ⟨_, k1, k2, k3⟩
        · omega
        · rcases i3 with z | z
          · omega
          · refine .inr ⟨e1, by omega, by omega, ?_⟩
            rw [show x - a' = (x - a) + (a - a') by omega]
            exact Int.dvd_add (Int.dvd_trans z h4) j3
/-! ### the k-fold sums -/
/-! ### of a list -/
theorem list_spec {l : List Int} {a b c v0 : Int} (ha : a ∈ l) (hb : b ∈ l) (hv : v0 ∈ l) (h : ∀ x ∈ l, a ≤ x ∧ x ≤ b) (hc : 0 ≤ c) (h1 : ∀ x ∈ l, c ∣ x - v0) (h2 : ∀ d, (∀ x ∈ l, d ∣ x - v0) → d ∣ c) : Spec (fun x => x ∈ l) a b c := by
  refine ⟨ha, hb, fun x hx => ⟨(h x hx).1, (h x hx).2, ?_⟩, hc, fun d k => h2 d fun x hx => ?_⟩
  · rw [show x - a = (x - v0) - (a - v0) by omega]
    exact Int.dvd_sub (h1 x hx) (h1 a ha)
  · rw [show x - v0 = (x - a) - (v0 - a) by omega]
    exact Int.dvd_sub (k x hx) (k v0 hv)
/-- the gcd of the differences, one after the other -/
def gcdF (v0 : Int) (l : List Int) (s : Int) : Int := l.foldl (fun s v => ((Int.gcd s (v - v0) : Nat) : Int)) s
theorem gcdF_nn (v0 : Int) : ∀ (l : List Int) (s : Int), 0 ≤ s → 0 ≤ gcdF v0 l s
  | [], s, h => h
  | v :: l, s, _ => gcdF_nn v0 l _ (Int.natCast_nonneg _)
theorem gcdF_dvd (v0 : Int) : ∀ (l : List Int) (s : Int), gcdF v0 l s ∣ s ∧ ∀ x ∈ l, gcdF v0 l s ∣ x - v0
  | [], s => ⟨Int.dvd_refl s, fun x h => by cases h⟩
  | v :: l, s => by
    obtain ⟨h1, h2⟩ := gcdF_dvd v0 l (Int.gcd s (v - v0) : Nat)
    refine ⟨Int.dvd_trans h1 (Int.gcd_dvd_left ..), fun x hx => ?_⟩
    rcases List.mem_cons.mp hx with rfl | hx
    · exact Int.dvd_trans h1 (Int.gcd_dvd_right ..)
    · exact h2 x hx
theorem gcdF_gr (v0 : Int) : ∀ (l : List Int) (s d : Int), d ∣ s → (∀ x ∈ l, d ∣ x - v0) → d ∣ gcdF v0 l s
  | [], s, d, h, _ => h
  | v :: l, s, d, h, k => gcdF_gr v0 l _ d (Int.dvd_coe_gcd h (k v List.mem_cons_self)) fun x hx => k x (List.mem_cons_of_mem _ hx)
theorem gcdF_spec {l : List Int} {a b v0 : Int} (ha : a ∈ l) (hb : b ∈ l) (hv : v0 ∈ l) (h : ∀ x ∈ l, a ≤ x ∧ x ≤ b) : Spec (fun x => x ∈ l) a b (gcdF v0 l 0) :=
  list_spec ha hb hv h (gcdF_nn v0 l 0 (Int.le_refl 0)) (gcdF_dvd v0 l 0).2 fun d k => gcdF_gr v0 l 0 d (Int.dvd_zero d) k
end K72
namespace K72
open PySem PySem.Spec PyProof.Rows L2 Den
theorem r_is_int (x : Int) (S : AS) : den_is_int [.d (.int x)] S = .ok (.d (.bool true)) S := by
  unfold den_is_int c_is_int
  rw [den_of]
  simp [dVar, kitS]
abbrev tri (a b c : Int) : D := .tuple [.int a, .int b, .int c]
/-- a fence as it is handed in -/
def Seq3 (x : D) (a b c : Int) : Prop := x = .tuple [.int a, .int b, .int c] ∨ x = .list [.int a, .int b, .int c]
theorem Fen.mod {a b c : Int} (h : Fen a b c) : ¬ b < a ∧ ¬ c < 0 ∧ (c = 0 → a = b) ∧ (¬ c = 0 → 0 < c ∧ a < b ∧ (b - a) % c = 0) := by
  rcases h with ⟨h1, h2⟩ | ⟨h1, h2, h3⟩
  · exact ⟨by omega, by omega, fun _ => h2, fun z => absurd h1 z⟩
  · exact ⟨by omega, by omega, fun z => by omega, fun _ => ⟨h1, h2, Int.emod_eq_zero_of_dvd h3⟩⟩
theorem r_part {x : D} {a b c : Int} (h : Fen a b c) (hx : Seq3 x a b c) (S : AS) : den_wrong_fence_part [.d x] S = .ok (.d .none) S := by
  obtain ⟨h1, h2, h3, h4⟩ := h.mod
  unfold den_wrong_fence_part c_wrong_fence_part
  rw [den_of]
  by_cases c0 : c = 0
  · have h5 := h3 c0
    rcases hx with rfl | rfl <;> simp [r_is_int, dVar, kitS, h1, h2, c0, h5]
  · obtain ⟨h5, h6, h7⟩ := h4 c0
    rcases hx with rfl | rfl <;> simp [r_is_int, dVar, kitS, h1, h2, c0, h5, h6, h7, mod_i]
theorem r_check {x : D} {a b c : Int} (h : Fen a b c) (hx : Seq3 x a b c) (S : AS) : den_check_fence [.d x] S = .ok (.d (tri a b c)) S := by
  unfold den_check_fence c_check_fence
  rw [den_of]
  have e := fun S => r_part h hx S
  rcases hx with rfl | rfl <;> simp [e, dVar]
theorem r_check2 {x : D} {a b c : Int} (h : Fen a b c) (hx : Seq3 x a b c) (S : AS) : den_check_other_fence [.d x] S = .ok (.d (tri a b c)) S := by
  unfold den_check_other_fence c_check_other_fence
  rw [den_of]
  have e := fun S => r_part h hx S
  rcases hx with rfl | rfl <;> simp [e, dVar]
def inFb (a b c v : Int) : Bool := if c = 0 then decide (v = a) else decide (a ≤ v) && (decide (v ≤ b) && decide ((v - a) % c = 0))
theorem inFb_iff {a b c v : Int} (hc : 0 ≤ c) : inFb a b c v = true ↔ inF a b c v := by
  unfold inFb inF
  by_cases c0 : c = 0
  · simp [c0]
  · have : 0 < c := by omega
    simp [c0, this, Int.dvd_iff_emod_eq_zero]
theorem r_holds {a b c v : Int} (hc : 0 ≤ c) (S : AS) : den_holds_number [.d (tri a b c), .d (.int v)] S = .ok (.d (.bool (inFb a b c v))) S := by
  unfold den_holds_number c_holds_number inFb
  rw [den_of]
  by_cases c0 : c = 0
  · simp [dVar, c0]
  · have : 0 < c := by omega
    by_cases h1 : a ≤ v
    · by_cases h2 : v ≤ b
      · simp [dVar, c0, mod_i, this, h1, h2]
      · simp [dVar, c0, mod_i, this, h1, h2]
    · simp [dVar, c0, mod_i, this, h1]
theorem r_has {x : D} {a b c v : Int} (h : Fen a b c) (hx : Seq3 x a b c) (S : AS) : den_has_number [.d x, .d (.int v)] S = .ok (.d (.bool (inFb a b c v))) S := by
  unfold den_has_number c_has_number
  rw [den_of]
  have e := fun S => r_check h hx S
  have hc : 0 ≤ c := h.spec.nn
  simp [e, dVar, r_is_int, r_holds, hc]
theorem r_size {x : D} {a b c : Int} (h : Fen a b c) (hx : Seq3 x a b c) (hl : c.natAbs.log2 < 9000) (S : AS) : den_fence_size [.d x] S = .ok (.d (.int (if c = 0 then 1 else (b - a) / c + 1))) S := by
  unfold den_fence_size c_fence_size
  rw [den_of]
  have e := fun S => r_check h hx S
  obtain ⟨h1, h2, h3, h4⟩ := h.mod
  by_cases c0 : c = 0
  · simp [e, dVar, c0]
  · have : 0 < c := by omega
    simp [e, dVar, c0, this, fdiv_i, hl]
theorem r_within_t {x y : D} {a b c a' b' c' : Int} (h : Fen a b c) (k : Fen a' b' c') (hx : Seq3 x a b c) (hy : Seq3 y a' b' c') (S : AS) :
    ∃ q : Bool, den_is_fence_within [.d x, .d y] S = .ok (.d (.bool q)) S ∧ (q = true ↔ ∀ z, inF a b c z → inF a' b' c' z) := by
  unfold den_is_fence_within c_is_fence_within
  rw [den_of]
  have e := fun S => r_check h hx S
  have e2 := fun S => r_check2 k hy S
  have n1 : 0 ≤ c := h.spec.nn
  have n2 : 0 ≤ c' := k.spec.nn
  rw [within_iff h k, ← inFb_iff n2, ← inFb_iff n2]
  by_cases p1 : inFb a' b' c' a = true
  · by_cases p2 : inFb a' b' c' b = true
    · by_cases c0 : c = 0
      · refine ⟨true, ?_, by simp [p1, p2, c0]⟩
        simp [e, e2, dVar, r_holds, n2, p1, p2, c0]
      · have c1 : 0 < c' := by
          refine Int.not_le.mp fun z => ?_
          have z2 : c' = 0 := by omega
          rw [inFb_iff n2] at p1 p2
          rcases p1 with ⟨_, j1⟩ | ⟨j1, _⟩
          · rcases p2 with ⟨_, j2⟩ | ⟨j2, _⟩
            · obtain ⟨_, _, _, h4⟩ := h.mod
              have := h4 c0
              omega
            · omega
          · omega
        refine ⟨decide (c % c' = 0), ?_, by simp [p1, p2, c0, Int.dvd_iff_emod_eq_zero]⟩
        simp [e, e2, dVar, r_holds, n2, p1, p2, c0, mod_i, c1]
    · refine ⟨false, ?_, by simp [p2]⟩
      have p2 : inFb a' b' c' b = false := by simpa using p2
      simp [e, e2, dVar, r_holds, n2, p1, p2]
  · refine ⟨false, ?_, by simp [p1]⟩
    have p1 : inFb a' b' c' a = false := by simpa using p1
    simp [e, e2, dVar, r_holds, n2, p1]
theorem r_behind {x y : D} {a b c a' b' c' : Int} (h : Fen a b c) (k : Fen a' b' c') (hx : Seq3 x a b c) (hy : Seq3 y a' b' c') (S : AS) :
    den_fence_behind [.d x, .d y] S = .ok (.d (tri (a + a') (b + b') (Int.gcd c c'))) S := by
  unfold den_fence_behind c_fence_behind
  rw [den_of]
  have e := fun S => r_check h hx S
  have e2 := fun S => r_check2 k hy S
  simp [e, e2, dVar]
  rfl
theorem r_either {x y : D} {a b c a' b' c' : Int} (h : Fen a b c) (k : Fen a' b' c') (hx : Seq3 x a b c) (hy : Seq3 y a' b' c') (S : AS) :
    den_fence_either [.d x, .d y] S = .ok (.d (tri (if a' < a then a' else a) (if b' > b then b' else b) (Int.gcd (Int.gcd c c') (a' - a)))) S := by
  unfold den_fence_either c_fence_either
  rw [den_of]
  have e := fun S => r_check h hx S
  have e2 := fun S => r_check2 k hy S
  simp [e, e2, dVar, den_either_fence, c_either_fence, den_of]
  rfl
theorem r_times {x : D} {a b c k : Int} (h : Fen a b c) (hx : Seq3 x a b c) (hk : 1 ≤ k) (h1 : k.natAbs.log2 + a.natAbs.log2 < 100000000) (h2 : k.natAbs.log2 + b.natAbs.log2 < 100000000) (S : AS) :
    den_fence_times [.d x, .d (.int k)] S = .ok (.d (tri (k * a) (k * b) c)) S := by
  unfold den_fence_times c_fence_times
  rw [den_of]
  have e := fun S => r_check h hx S
  have hk2 : ¬ k < 1 := by omega
  simp [e, dVar, den_check_number, c_check_number, den_of, r_is_int, hk2, mul_i, h1, h2]
theorem r_far {a b c y m : Int} (S : AS) (h1 : a.natAbs.log2 + y.natAbs.log2 < 100000000) (h2 : b.natAbs.log2 + y.natAbs.log2 < 100000000) (h3 : c.natAbs.log2 + y.natAbs.log2 < 100000000) : den_law_far [.d (tri a b c), .d (.int y), .d (.int m)] S = .ok (.d (tri (a * y + m) (b * y + m) (c * y))) S := by
  unfold den_law_far c_law_far
  rw [den_of]
  simp [dVar, mul_i, h1, h2, h3]
end K72
namespace K72
open PySem PySem.Spec PyProof.Rows L2 Den
/-! ### bounds by powers of two -/
def B (n : Nat) (x : Int) : Prop := x.natAbs < 2 ^ n
theorem B.mono {n m : Nat} {x : Int} (h : B n x) (k : n ≤ m) : B m x := Nat.lt_of_lt_of_le h (Nat.pow_le_pow_right (by decide) k)
theorem B.add {n : Nat} {x y : Int} (h : B n x) (k : B n y) : B (n + 1) (x + y) := by
  unfold B at *
  rw [Nat.pow_succ]
  omega
theorem B.sub {n : Nat} {x y : Int} (h : B n x) (k : B n y) : B (n + 1) (x - y) := by
  unfold B at *
  rw [Nat.pow_succ]
  omega
theorem B.mul {n m : Nat} {x y : Int} (h : B n x) (k : B m y) : B (n + m) (x * y) := by
  unfold B at *
  rw [Int.natAbs_mul, Nat.pow_add]
  exact Nat.mul_lt_mul'' h k
theorem B.le {n : Nat} {x y : Int} (h : B n y) (h0 : 0 ≤ x) (k : x ≤ y) : B n x := by
  unfold B at *
  omega
theorem B.div {n : Nat} {x y : Int} (h : B n x) : B n (x / y) := Nat.lt_of_le_of_lt (Int.natAbs_ediv_le_natAbs x y) h
theorem B.log {n : Nat} {x : Int} (h : B n x) : x.natAbs.log2 ≤ n := by
  by_cases z : x.natAbs = 0
  · rw [z]
    exact Nat.zero_le _
  · exact Nat.le_of_lt ((Nat.log2_lt z).mpr h)
theorem B.g {n m : Nat} {x y : Int} (h : B n x) (k : B m y) (q : n + m < 100000000 := by decide) : x.natAbs.log2 + y.natAbs.log2 < 100000000 := by
  have := h.log
  have := k.log
  omega
theorem gcd_mod (a b : Int) : Int.gcd (a % b) b = Int.gcd a b := by
  have em := Int.ediv_mul_add_emod a b
  refine Nat.dvd_antisymm (Int.ofNat_dvd.mp (Int.dvd_coe_gcd ?_ (Int.gcd_dvd_right ..))) (Int.ofNat_dvd.mp (Int.dvd_coe_gcd ?_ (Int.gcd_dvd_right ..)))
  · have h := Int.dvd_add (Int.dvd_trans (Int.gcd_dvd_right (a := a % b) (b := b)) (Int.dvd_mul_left (a / b) b)) (Int.gcd_dvd_left (a := a % b) (b := b))
    rwa [em] at h
  · have h := Int.dvd_sub (Int.gcd_dvd_left (a := a) (b := b)) (Int.dvd_trans (Int.gcd_dvd_right (a := a) (b := b)) (Int.dvd_mul_left (a / b) b))
    rwa [show a - a / b * b = a % b by omega] at h
/-! ### turned_by -/
theorem turned_loop (num base : Int) (hb : 0 < base) (hB : B 8000 base) (S : AS) : ∀ (n : Nat) (left right less more : Int) (tv : Option AV), 0 < left → 0 ≤ right → left ≤ base → right ≤ base → Int.gcd left right = 1 → base ∣ num * less - left → base ∣ num * more - right →
    less.natAbs * right.natAbs + more.natAbs * left.natAbs ≤ base.natAbs → right.natAbs < n →
    ∃ σ r, whileGo (dBin (cop .NotEq) (dVar 3) (dC (.int 0)))
      (sSeq (sAsg 6 false (dBin bFdiv (dVar 2) (dVar 3)))
    (sSeq (sPar 2 3 (lCons (dVar 3) (lCons (dBin bSub (dVar 2) (dBin bMul (dVar 6) (dVar 3))) lNil)))
    (sPar 4 5 (lCons (dVar 5) (lCons (dBin bSub (dVar 4) (dBin bMul (dVar 6) (dVar 5))) lNil))))) n
      [some (.d (.int num)), some (.d (.int base)), some (.d (.int left)), some (.d (.int right)), some (.d (.int less)), some (.d (.int more)), tv] S = .nx σ S ∧ σ[1]? = some (some (.d (.int base))) ∧ σ[4]? = some (some (.d (.int r))) ∧ base ∣ num * r - 1
  | 0, _, _, _, _, _, _, _, _, _, _, _, _, _, h => by omega
  | n + 1, left, right, less, more, tv, h1, h2, h3, h4, h5, h6, h7, h8, h9 => by
    by_cases r0 : right = 0
    · subst r0
      have e1 : left = 1 := by
        rw [Int.gcd_zero_right] at h5
        omega
      subst e1
      refine ⟨[some (.d (.int num)), some (.d (.int base)), some (.d (.int 1)), some (.d (.int 0)), some (.d (.int less)), some (.d (.int more)), tv], less, ?_, rfl, rfl, h6⟩
      unfold whileGo
      simp [dVar]
    · have hr : 0 < right := by omega
      have bR : B 8000 right := hB.le h2 h4
      have bL : B 8000 left := hB.le (by omega) h3
      have l9 : right.natAbs.log2 < 9000 := Nat.lt_of_le_of_lt bR.log (by decide)
      have t0 : 0 ≤ left / right := Int.ediv_nonneg (by omega) h2
      have bT : B 8000 (left / right) := bL.div
      have em := Int.ediv_mul_add_emod left right
      have e1 := Int.emod_nonneg left r0
      have e2 := Int.emod_lt_of_pos left hr
      have bM : B 8000 more := by
        have : more.natAbs * 1 ≤ more.natAbs * left.natAbs := Nat.mul_le_mul_left _ (by omega)
        unfold B at hB ⊢
        omega
      have g1 := bT.g bR
      have g2 := bT.g bM
      obtain ⟨t, ht⟩ : ∃ t, t = left / right := ⟨_, rfl⟩
      rw [← ht] at g1 g2 t0 em
      have emod : left - t * right = left % right := by omega
      obtain ⟨σ, r, k1, k2, k3, k4⟩ := turned_loop num base hb hB S n right (left - t * right) more (less - t * more) (some (.d (.int t))) hr (by omega) h4 (by omega) (by
          rw [emod, Int.gcd_comm, gcd_mod]
          exact h5) h7 (by
          rw [show num * (less - t * more) - (left - t * right) = (num * less - left) - t * (num * more - right) by
            rw [Int.mul_sub, Int.mul_sub, Int.mul_left_comm num t more]
            omega]
          exact Int.dvd_sub h6 (Int.dvd_trans h7 (Int.dvd_mul_left t _))) (by
          -- the sizes
          have a1 : (left - t * right).natAbs + t.natAbs * right.natAbs = left.natAbs := by
            have : (t * right).natAbs = t.natAbs * right.natAbs := Int.natAbs_mul ..
            have : 0 ≤ t * right := Int.mul_nonneg t0 h2
            omega
          have a2 : (less - t * more).natAbs ≤ less.natAbs + t.natAbs * more.natAbs := by
            have : (t * more).natAbs = t.natAbs * more.natAbs := Int.natAbs_mul ..
            omega
          calc more.natAbs * (left - t * right).natAbs + (less - t * more).natAbs * right.natAbs
              ≤ more.natAbs * (left - t * right).natAbs + (less.natAbs + t.natAbs * more.natAbs) * right.natAbs := Nat.add_le_add_left (Nat.mul_le_mul_right _ a2) _
            _ = more.natAbs * ((left - t * right).natAbs + t.natAbs * right.natAbs) + less.natAbs * right.natAbs := by
                rw [Nat.mul_add, Nat.add_mul, Nat.mul_assoc, Nat.mul_left_comm t.natAbs more.natAbs]
                omega
            _ = more.natAbs * left.natAbs + less.natAbs * right.natAbs := by rw [a1]
            _ ≤ base.natAbs := by omega) (by omega)
      refine ⟨σ, r, ?_, k2, k3, k4⟩
      unfold whileGo
      simp [dVar, r0, hr, fdiv_i, l9, mul_i, ← ht, g1, g2]
      exact k1
theorem r_turned {num base : Int} (hb : 0 < base) (hB : B 8000 base) (hg : Int.gcd num base = 1) (S : AS) : ∃ r, den_turned_by [.d (.int num), .d (.int base)] S = .ok (.d (.int r)) S ∧ base ∣ num * r - 1 ∧ 0 ≤ r ∧ r < base := by
  have e1 := Int.emod_nonneg num (by omega : base ≠ 0)
  have e2 := Int.emod_lt_of_pos num hb
  obtain ⟨σ, r, k1, k2, k3, k4⟩ := turned_loop num base hb hB S ((num % base).natAbs + 2) base (num % base) 0 1 none hb e1 (Int.le_refl _) (by omega) (by
      rw [Int.gcd_comm, gcd_mod]
      exact hg) (by rw [Int.mul_zero, Int.zero_sub]; exact Int.dvd_neg.mpr (Int.dvd_refl _)) (by
      rw [Int.mul_one]
      exact Int.dvd_self_sub_of_emod_eq rfl) (by simp) (by omega)
  refine ⟨r % base, ?_, ?_, Int.emod_nonneg _ (by omega), Int.emod_lt_of_pos _ hb⟩
  · unfold den_turned_by c_turned_by
    rw [den_of]
    have hb0 : base ≠ 0 := by omega
    simp [dVar, mod_i, hb, sWhile, fuel_turned_by]
    rw [k1]
    simp [k2, k3, mod_i, hb]
  · obtain ⟨q, hq⟩ := k4
    have em := Int.ediv_mul_add_emod r base
    refine ⟨q - num * (r / base), ?_⟩
    have : num * (r % base) = num * r - num * (r / base) * base := by
      rw [show r % base = r - r / base * base by omega, Int.mul_sub, Int.mul_assoc]
    rw [this, Int.mul_sub, Int.mul_comm base (num * (r / base))]
    omega
end K72
namespace K72
open PySem PySem.Spec PyProof.Rows L2 Den
/-- what may be told of a lot of numbers -/
def Out (P : Int → Prop) (x : D) : Prop := (x = .none ∧ ∀ z, ¬ P z) ∨ ∃ a b c, x = tri a b c ∧ Spec P a b c
theorem Out.unique {P : Int → Prop} {x y : D} (h : Out P x) (k : Out P y) : x = y := by
  rcases h with ⟨rfl, h⟩ | ⟨a, b, c, rfl, h⟩
  · rcases k with ⟨rfl, k⟩ | ⟨a, b, c, rfl, k⟩
    · rfl
    · exact absurd k.lo (h _)
  · rcases k with ⟨rfl, k⟩ | ⟨a', b', c', rfl, k⟩
    · exact absurd h.lo (k _)
    · obtain ⟨rfl, rfl, rfl⟩ := h.unique k
      rfl
theorem Out.congr {P P' : Int → Prop} {x : D} (h : Out P x) (e : ∀ z, P z ↔ P' z) : Out P' x := by
  rcases h with ⟨rfl, h⟩ | ⟨a, b, c, rfl, h⟩
  · exact .inl ⟨rfl, fun z hz => h z ((e z).mpr hz)⟩
  · exact .inr ⟨a, b, c, rfl, h.congr e⟩
theorem r_common {l1 h1 s1 l2 h2 s2 : Int} (p1 : 0 < s1) (p2 : 0 < s2) (b1 : B 500 l1) (b2 : B 500 h1) (b3 : B 500 s1) (b4 : B 500 l2) (b5 : B 500 h2) (b6 : B 500 s2) (S : AS) :
    ∃ x, den_common_numbers [.d (tri l1 h1 s1), .d (tri l2 h2 s2)] S = .ok (.d x) S ∧ Out (fun z => inF l1 h1 s1 z ∧ inF l2 h2 s2 z) x := by
  obtain ⟨g, hg⟩ : ∃ g, ((Nat.gcd s1.natAbs s2.natAbs : Nat) : Int) = g := ⟨_, rfl⟩
  have hg' : g = (Int.gcd s1 s2 : Nat) := hg.symm
  have g0 : 0 < g := by
    have : 0 < Int.gcd s1 s2 := Int.gcd_pos_of_ne_zero_left _ (by omega)
    omega
  have d1 : g ∣ s1 := by rw [hg']; exact Int.gcd_dvd_left ..
  have d2 : g ∣ s2 := by rw [hg']; exact Int.gcd_dvd_right ..
  have bg : B 500 g := b3.le (by omega) (Int.le_of_dvd p1 d1)
  have lg : g.natAbs.log2 < 9000 := Nat.lt_of_le_of_lt bg.log (by decide)
  by_cases hd : (l2 - l1) % g = 0
  · have dv : g ∣ l2 - l1 := Int.dvd_of_emod_eq_zero hd
    obtain ⟨ar, ha⟩ : ∃ ar, s2 / g = ar := ⟨_, rfl⟩
    obtain ⟨n, hn⟩ : ∃ n, s1 / g = n := ⟨_, rfl⟩
    obtain ⟨q, hq⟩ : ∃ q, (l2 - l1) / g = q := ⟨_, rfl⟩
    have ar0 : 0 < ar := by rw [← ha]; exact Int.ediv_pos_of_pos_of_dvd p2 (by omega) d2
    have bar : B 500 ar := by rw [← ha]; exact b6.div
    have cop : Int.gcd n ar = 1 := by
      rw [← ha, ← hn, hg']
      exact Int.gcd_ediv_gcd_ediv_gcd (by have := g0; rw [hg'] at this; omega)
    obtain ⟨r, hr, r1, r2, r3⟩ := r_turned ar0 (bar.mono (by decide)) cop S
    have br : B 500 r := bar.le r2 (by omega)
    have bq : B 501 q := by rw [← hq]; exact (b4.sub b1).div
    obtain ⟨t, ht⟩ : ∃ t, q * r = t := ⟨_, rfl⟩
    obtain ⟨w, hw⟩ : ∃ w, ((Nat.lcm s1.natAbs s2.natAbs : Nat) : Int) = w := ⟨_, rfl⟩
    have hw' : (Int.lcm s1 s2 : Int) = w := hw
    have w0 : 0 < w := by rw [← hw']; exact lcm_pos' p1 p2
    have bw : B 1000 w := by
      rw [← hw]
      unfold B at *
      have : Nat.lcm s1.natAbs s2.natAbs ≤ s1.natAbs * s2.natAbs := Nat.le_of_dvd (Nat.mul_pos (by omega) (by omega)) (Nat.lcm_dvd (Nat.dvd_mul_right ..) (Nat.dvd_mul_left ..))
      rw [show (2 : Nat) ^ 1000 = 2 ^ 500 * 2 ^ 500 by rw [← Nat.pow_add]]
      have := Nat.mul_lt_mul'' b3 b6
      omega
    have lw : (Nat.lcm s1.natAbs s2.natAbs).log2 < 100000 := by
      have := bw.log
      rw [← hw, Int.natAbs_natCast] at this
      omega
    have lw2 : w.natAbs.log2 < 9000 := Nat.lt_of_le_of_lt bw.log (by decide)
    have l3 : s1.natAbs.log2 < 10000 := Nat.lt_of_le_of_lt b3.log (by decide)
    have l6 : s2.natAbs.log2 < 10000 := Nat.lt_of_le_of_lt b6.log (by decide)
    have vl : ∀ S, vLcm [.d (.int s1), .d (.int s2)] S = some (.d (.int w), S) := fun S => by
      show (if s1.natAbs.log2 < 10000 ∧ s2.natAbs.log2 < 10000 ∧ (Nat.lcm s1.natAbs s2.natAbs).log2 < 100000 then some (AV.d (.int ((Nat.lcm s1.natAbs s2.natAbs : Nat) : Int)), S) else none) = _
      rw [if_pos ⟨l3, l6, lw⟩, hw]
    obtain ⟨low, hlow⟩ : ∃ low, (if l1 < l2 then l2 else l1) = low := ⟨_, rfl⟩
    obtain ⟨high, hhigh⟩ : ∃ high, (if h2 < h1 then h2 else h1) = high := ⟨_, rfl⟩
    obtain ⟨m, hm⟩ : ∃ m, t % ar = m := ⟨_, rfl⟩
    have m0 : 0 ≤ m := by rw [← hm]; exact Int.emod_nonneg _ (by omega)
    have m1 : m < ar := by rw [← hm]; exact Int.emod_lt_of_pos _ ar0
    have bm : B 500 m := bar.le m0 (by omega)
    obtain ⟨f0, hf0⟩ : ∃ f0, l1 + s1 * m = f0 := ⟨_, rfl⟩
    obtain ⟨u, hu⟩ : ∃ u, (low - f0 + w - 1) / w = u := ⟨_, rfl⟩
    obtain ⟨f1, hf1⟩ : ∃ f1, f0 + u * w = f1 := ⟨_, rfl⟩
    obtain ⟨v, hv⟩ : ∃ v, (high - f1) / w = v := ⟨_, rfl⟩
    have blow : B 500 low := by rw [← hlow]; split <;> assumption
    have bhigh : B 500 high := by rw [← hhigh]; split <;> assumption
    have bf0 : B 1001 f0 := by rw [← hf0]; exact (b1.mono (by decide)).add (b3.mul bm)
    have bu : B 1004 u := by
      rw [← hu]
      refine B.div ?_
      have x1 : B 1002 (low - f0) := (blow.mono (by decide)).sub bf0
      have x2 : B 1003 (low - f0 + w) := x1.add (bw.mono (by decide))
      exact x2.sub (show B 1003 1 by unfold B; exact Nat.one_lt_two_pow (by decide))
    have bf1 : B 2005 f1 := by rw [← hf1]; exact (bf0.mono (by decide)).add (bu.mul bw)
    have bv : B 2006 v := by rw [← hv]; exact B.div ((bhigh.mono (by decide)).sub bf1)
    have g1 := bq.g br
    have g2 := b3.g bm
    have g3 := bu.g bw
    have g4 := bv.g bw
    have td := turn_ok (l1 := l1) (t := f0) p1 p2 hg' dv (by rw [ha, hn]; exact r1) (by rw [hq, ha, ht, hm]; exact hf0.symm)
    have cl := class_spec (P := fun z => inF l1 h1 s1 z ∧ inF l2 h2 s2 z) (low := low2 l1 l2) (high := high2 h1 h2) (first := f1) w0 (fun x => by
      have := both_iff (x := x) (h1 := h1) (h2 := h2) p1 p2 td.1 td.2
      rw [hw'] at this
      exact this) (by
      rw [show low2 l1 l2 = low from hlow, hu]
      exact hf1.symm)
    rw [show high2 h1 h2 = high from hhigh, hv] at cl
    by_cases hfh : high < f1
    · refine ⟨.none, ?_, .inl ⟨rfl, cl.1 hfh⟩⟩
      unfold den_common_numbers c_common_numbers
      rw [den_of]
      simp [dVar, hg, hd, mod_i, g0, fdiv_i, lg, ha, hn, hq, hr, ht, mul_i, g1, vl, hlow, hhigh, hm, ar0, g2, hf0, hu, w0, lw2, g3, hf1, hfh]
    · obtain ⟨y, hy⟩ : ∃ y, v * w = y := ⟨_, rfl⟩
      refine ⟨tri f1 (f1 + v * w) (if f1 = f1 + v * w then 0 else w), ?_, .inr ⟨_, _, _, rfl, cl.2 hfh⟩⟩
      unfold den_common_numbers c_common_numbers
      rw [den_of, hy]
      by_cases hz : y = 0
      · rw [if_pos (by omega)]
        simp [dVar, hg, hd, mod_i, g0, fdiv_i, lg, ha, hn, hq, hr, ht, mul_i, g1, vl, hlow, hhigh, hm, ar0, g2, hf0, hu, w0, lw2, g3, hf1, hfh, hv, g4, hy, hz]
      · have hz3 : ¬ f1 = f1 + y := by omega
        rw [if_neg hz3]
        simp [hz3, dVar, hg, hd, mod_i, g0, fdiv_i, lg, ha, hn, hq, hr, ht, mul_i, g1, vl, hlow, hhigh, hm, ar0, g2, hf0, hu, w0, lw2, g3, hf1, hfh, hv, g4, hy, hz]
  · refine ⟨.none, ?_, .inl ⟨rfl, ?_⟩⟩
    · unfold den_common_numbers c_common_numbers
      rw [den_of]
      simp [dVar, hg, hd, mod_i, g0]
    · rintro z ⟨z1, z2⟩
      refine hd (Int.emod_eq_zero_of_dvd ?_)
      rcases z1 with ⟨a1, _⟩ | ⟨_, _, _, a4⟩
      · omega
      rcases z2 with ⟨c1, _⟩ | ⟨_, _, _, c4⟩
      · omega
      have := Int.dvd_sub (Int.dvd_trans d1 a4) (Int.dvd_trans d2 c4)
      rwa [show z - l1 - (z - l2) = l2 - l1 by omega] at this
theorem r_met {x y : D} {a b c a' b' c' : Int} (h : Fen a b c) (k : Fen a' b' c') (hx : Seq3 x a b c) (hy : Seq3 y a' b' c') (b1 : B 500 a) (b2 : B 500 b) (b3 : B 500 c) (b4 : B 500 a') (b5 : B 500 b') (b6 : B 500 c') (S : AS) :
    ∃ z, den_fences_met [.d x, .d y] S = .ok (.d z) S ∧ Out (fun v => inF a b c v ∧ inF a' b' c' v) z := by
  have e := fun S => r_check h hx S
  have e2 := fun S => r_check2 k hy S
  have n1 : 0 ≤ c := h.spec.nn
  have n2 : 0 ≤ c' := k.spec.nn
  unfold den_fences_met c_fences_met
  rw [den_of]
  by_cases c0 : c = 0
  · obtain ⟨_, _, h3, _⟩ := h.mod
    have ab := h3 c0
    by_cases q : inFb a' b' c' a = true
    · refine ⟨tri a b c, by simp [e, e2, dVar, c0, r_holds, n2, q], .inr ⟨a, b, c, rfl, ?_⟩⟩
      rw [inFb_iff n2] at q
      refine h.spec.congr fun z => ⟨fun hz => ⟨hz, ?_⟩, fun hz => hz.1⟩
      rcases hz with ⟨_, e⟩ | ⟨e, _⟩
      · rw [e]
        exact q
      · omega
    · refine ⟨.none, ?_, .inl ⟨rfl, fun z hz => q ?_⟩⟩
      · have q : inFb a' b' c' a = false := by simpa using q
        simp [e, e2, dVar, c0, r_holds, n2, q]
      · rw [inFb_iff n2]
        rcases hz.1 with ⟨_, e⟩ | ⟨e, _⟩
        · rw [← e]
          exact hz.2
        · omega
  · by_cases c1 : c' = 0
    · obtain ⟨_, _, h3, _⟩ := k.mod
      have ab := h3 c1
      by_cases q : inFb a b c a' = true
      · refine ⟨tri a' b' c', by simp [e, e2, dVar, c0, c1, r_holds, n1, q], .inr ⟨a', b', c', rfl, ?_⟩⟩
        rw [inFb_iff n1] at q
        refine k.spec.congr fun z => ⟨fun hz => ⟨?_, hz⟩, fun hz => hz.2⟩
        rcases hz with ⟨_, e⟩ | ⟨e, _⟩
        · rw [e]
          exact q
        · omega
      · refine ⟨.none, ?_, .inl ⟨rfl, fun z hz => q ?_⟩⟩
        · have q : inFb a b c a' = false := by simpa using q
          simp [e, e2, dVar, c0, c1, r_holds, n1, q]
        · rw [inFb_iff n1]
          rcases hz.2 with ⟨_, e⟩ | ⟨e, _⟩
          · rw [← e]
            exact hz.1
          · omega
    · obtain ⟨z, hz, o⟩ := r_common (l1 := a) (h1 := b) (s1 := c) (l2 := a') (h2 := b') (s2 := c') (by omega) (by omega) b1 b2 b3 b4 b5 b6 S
      exact ⟨z, by simp [e, e2, dVar, c0, c1, hz], o⟩
end K72
namespace K72
open PySem PySem.Spec PyProof.Rows L2 Den
theorem r_refusals (l : List PyData) : den_law_refusals [] [.lst l] = .ok (.d (.bool true)) [.lst l] := by kernel_rfl
def ds (l : List Int) : List D := l.map PyData.int
@[simp] theorem ds_len (l : List Int) : (ds l).length = l.length := by unfold ds; rw [List.length_map]
theorem ds_app (l m : List Int) : ds l ++ ds m = ds (l ++ m) := by unfold ds; rw [List.map_append]
theorem ds_ints (l : List Int) : ints? (ds l) = some l := ints?_map _
/-! ### fence_of -/
theorem chk_loop : ∀ (l : List Int) (k : Nat) (a : AV) (x y : Option AV) (S : AS), ∃ x' y', forGo (.tp (.cons (.nm 1) (.cons (.nm 2) .nil)))
    (sIf (dNot (dTru (dCall (arity 1 den_is_int) (lCons (dVar 2) lNil))))
    (sRaise "BadRow" "at" (lCons (dVar 1) lNil))
    sSkip) (enumL (ds l) k) [some a, x, y] S = .nx [some a, x', y'] S
  | [], k, a, x, y, S => ⟨x, y, rfl⟩
  | n :: l, k, a, x, y, S => by
    obtain ⟨x', y', h⟩ := chk_loop l (k + 1) a (some (.d (.int k))) (some (.d (.int n))) S
    refine ⟨x', y', ?_⟩
    show forGo _ _ (.tuple [.int (k : Nat), .int n] :: enumL (ds l) (k + 1)) _ _ = _
    rw [for_cons]
    simp [dVar, r_is_int]
    exact h
theorem min_loop (lo : Int) : ∀ (l : List Int) (a : AV) (s : Int) (x : Option AV) (S : AS), ∃ x', forGo (.nm 3)
    (sAsg 2 false (dCallV vGcd (lCons (dVar 2) (lCons (dBin bSub (dVar 3) (dVar 1)) lNil)))) (ds l) [some a, some (.d (.int lo)), some (.d (.int s)), x] S = .nx [some a, some (.d (.int lo)), some (.d (.int (gcdF lo l s))), x'] S
  | [], a, s, x, S => ⟨x, rfl⟩
  | n :: l, a, s, x, S => by
    obtain ⟨x', h⟩ := min_loop lo l a (Int.gcd s (n - lo) : Nat) (some (.d (.int n))) S
    refine ⟨x', ?_⟩
    show forGo _ _ (.int n :: ds l) _ _ = _
    rw [for_cons]
    simp [dVar]
    exact h
def L3 (l : List Int) : D := tri (minI l) (maxI l) (gcdF (minI l) l 0)
theorem L3_spec {l : List Int} (h : l ≠ []) : Out (fun x => x ∈ l) (L3 l) := by
  cases l with
  | nil => exact absurd rfl h
  | cons n r => exact .inr ⟨_, _, _, rfl, gcdF_spec (minI_mem n r) (maxI_mem n r) (minI_mem n r) fun x hx => ⟨minI_least hx, maxI_most hx⟩⟩
theorem r_plain (n : Int) (r : List Int) (S : AS) : den_fence_of_plain [.d (.tuple (ds (n :: r)))] S = .ok (.d (L3 (n :: r))) S := by
  have e : ints? (ds (n :: r)) = some (n :: r) := ints?_map _
  have v1 : ∀ S, vMin [.d (.tuple (ds (n :: r)))] S = some (.d (.int (minI (n :: r))), S) := fun S => by
    show (match ints? (ds (n :: r)) with | some (n :: ns) => some (AV.d (.int (minI (n :: ns))), S) | _ => none) = _
    rw [e]
  have v2 : ∀ S, vMax [.d (.tuple (ds (n :: r)))] S = some (.d (.int (maxI (n :: r))), S) := fun S => by
    show (match ints? (ds (n :: r)) with | some (n :: ns) => some (AV.d (.int (maxI (n :: ns))), S) | _ => none) = _
    rw [e]
  obtain ⟨x', h⟩ := min_loop (minI (n :: r)) (n :: r) (.d (.tuple (ds (n :: r)))) 0 none S
  unfold den_fence_of_plain c_fence_of_plain
  rw [den_of]
  generalize hl : ds (n :: r) = l at *
  simp [dVar, v1, v2, iSeq, frzD, h]
  rfl
theorem r_ints_seq (b : Bool) (n : Int) (r : List Int) (S : AS) : den_check_integers [.d (if b then .list (ds (n :: r)) else .tuple (ds (n :: r)))] S = .ok (.d (.tuple (ds (n :: r)))) S := by
  unfold den_check_integers c_check_integers
  rw [den_of]
  have hne : ((ds (n :: r)).length : Int) ≠ 0 := by simp; omega
  have h := fun a => chk_loop (n :: r) 0 a none none S
  generalize hl : ds (n :: r) = l at *
  cases b
  · obtain ⟨x', y', h⟩ := h (.d (.tuple l))
    simp only [Bool.false_eq_true, if_false]
    simp [dVar, kitS, fEnumS, frzD, h]
    have hn2 : ¬ l = [] := fun z => by rw [z] at hne; exact hne rfl
    simp [hn2, dVar, h]
  · obtain ⟨x', y', h⟩ := h (.d (.list l))
    simp only [if_true]
    simp [dVar, kitS, fEnumS, frzD, h]
    have hn2 : ¬ l = [] := fun z => by rw [z] at hne; exact hne rfl
    simp [hn2, dVar, h]
theorem r_fence_of (b : Bool) (n : Int) (r : List Int) (S : AS) : den_fence_of [.d (if b then .list (ds (n :: r)) else .tuple (ds (n :: r)))] S = .ok (.d (L3 (n :: r))) S := by
  unfold den_fence_of c_fence_of
  rw [den_of]
  simp [dVar, r_ints_seq, r_plain]
/-! ### the law's gcd -/
theorem gcd_loop : ∀ (k : Nat) (its : List D) (a b : Int) (x : Option AV) (S : AS), 0 ≤ a → 0 ≤ b → b.natAbs < 2 ^ k → 2 * k + 1 ≤ its.length → ∃ y z, forGo (.nm 2)
    (sSeq (sIf (dBin (cop .Eq) (dVar 1) (dC (.int 0)))
    sBreak
    sSkip)
    (sPar 0 1 (lCons (dVar 1) (lCons (dBin bMod (dCallV vInt (lCons (dVar 0) lNil)) (dCallV vInt (lCons (dVar 1) lNil))) lNil)))) its [some (.d (.int a)), some (.d (.int b)), x] S = .nx [some (.d (.int (Int.gcd a b : Nat))), y, z] S := by
  intro k
  induction k with
  | zero =>
    intro its a b x S ha hb hk hl
    have b0 : b = 0 := by
      have : b.natAbs < 1 := hk
      omega
    subst b0
    cases its with
    | nil => simp at hl
    | cons i its =>
      refine ⟨some (.d (.int 0)), some (.d i), ?_⟩
      have e : ((Int.gcd a 0 : Nat) : Int) = a := by rw [Int.gcd_zero_right]; omega
      rw [for_cons, e]
      simp [dVar]
  | succ k ih =>
    intro its a b x S ha hb hk hl
    match its, hl with
    | i :: j :: its, hl =>
      by_cases b0 : b = 0
      · subst b0
        refine ⟨some (.d (.int 0)), some (.d i), ?_⟩
        rw [for_cons]
        have : ((Int.gcd a 0 : Nat) : Int) = a := by rw [Int.gcd_zero_right]; omega
        rw [this]
        simp [dVar]
      · have hb' : 0 < b := by omega
        have r0 := Int.emod_nonneg a b0
        have r1 := Int.emod_lt_of_pos a hb'
        obtain ⟨r, hr⟩ : ∃ r, a % b = r := ⟨_, rfl⟩
        rw [hr] at r0 r1
        have g1 : Int.gcd b r = Int.gcd a b := by rw [← hr, Int.gcd_comm, gcd_mod]
        by_cases r00 : r = 0
        · subst r00
          refine ⟨some (.d (.int 0)), some (.d j), ?_⟩
          have : ((Int.gcd a b : Nat) : Int) = b := by rw [← g1, Int.gcd_zero_right]; omega
          rw [this, for_cons]
          simp [dVar, b0, mod_i, hb', hr]
          rw [for_cons]
          simp [dVar]
        · have hr' : 0 < r := by omega
          have q0 := Int.emod_nonneg b r00
          have q1 := Int.emod_lt_of_pos b hr'
          have em := Int.ediv_mul_add_emod b r
          obtain ⟨q, hq⟩ : ∃ q, b % r = q := ⟨_, rfl⟩
          rw [hq] at q0 q1 em
          have g2 : Int.gcd r q = Int.gcd a b := by rw [← g1, ← hq, Int.gcd_comm, gcd_mod]
          have d1 : 1 ≤ b / r := by
            rw [Int.le_ediv_iff_mul_le hr']
            omega
          have d2 := mul_mono hr' d1
          have half : q.natAbs < 2 ^ k := by
            rw [Nat.pow_succ] at hk
            omega
          obtain ⟨y, z, h⟩ := ih its r q (some (.d j)) S (by omega) q0 half (by simp at hl; omega)
          refine ⟨y, z, ?_⟩
          rw [g2] at h
          rw [for_cons]
          simp [dVar, b0, mod_i, hb', hr]
          rw [for_cons]
          simp [dVar, r00, mod_i, hr', hq]
          exact h
theorem r_gcd {a b : Int} (hb : b.natAbs < 2 ^ 140) (S : AS) : den_law_gcd [.d (.int a), .d (.int b)] S = .ok (.d (.int (Int.gcd a b : Nat))) S := by
  obtain ⟨y, z, h⟩ := gcd_loop 140 (rngL 0 300 1) (a.natAbs : Int) (b.natAbs : Int) none S (by omega) (by omega) (by simpa using hb) (by rw [rngL_len]; decide)
  have e : Int.gcd (a.natAbs : Int) (b.natAbs : Int) = Int.gcd a b := by
    show Nat.gcd (Int.natAbs (a.natAbs : Int)) (Int.natAbs (b.natAbs : Int)) = Nat.gcd a.natAbs b.natAbs
    rw [Int.natAbs_natCast, Int.natAbs_natCast]
  rw [e] at h
  have ea : (if a < 0 then -a else a) = (a.natAbs : Int) := by split <;> omega
  have eb : (if b < 0 then -b else b) = (b.natAbs : Int) := by split <;> omega
  unfold den_law_gcd c_law_gcd
  rw [den_of]
  generalize hi : rngL 0 300 1 = its at *
  have fr : ∀ S, fRng1 [.d (.int 300)] S = some (its, S) := fun S => by
    rw [← hi]
    rfl
  simp [dVar, ea, eb, fr, h]
/-! ### _law_is, _law_yes -/
theorem r_isn (i : Int) (S : AS) : den_law_is_number [.d (.int i), .d (.int i)] S = .ok (.d (.bool true)) S := by
  unfold den_law_is_number c_law_is_number
  rw [den_of]
  simp [dVar, kitS]
theorem r_is_int' (i : Int) (S : AS) : den_law_is [.d (.int i), .d (.int i)] S = .ok (.d (.bool true)) S := by
  unfold den_law_is c_law_is
  rw [den_of]
  simp [dVar, kitS, r_isn]
theorem r_is_none (S : AS) : den_law_is [.d .none, .d .none] S = .ok (.d (.bool true)) S := by
  unfold den_law_is c_law_is
  rw [den_of]
  simp [dVar]
theorem r_is_tri (a b c : Int) (S : AS) : den_law_is [.d (tri a b c), .d (tri a b c)] S = .ok (.d (.bool true)) S := by
  unfold den_law_is c_law_is
  rw [den_of]
  have fr : ∀ S, fRng1 [.d (.int 3)] S = some ([.int 0, .int 1, .int 2], S) := fun S => by rfl
  simp [dVar, kitS, r_isn, dLc, fr, wipeA, lcGo]
theorem r_is {P : Int → Prop} {x y : D} (h : Out P x) (k : Out P y) (S : AS) : den_law_is [.d x, .d y] S = .ok (.d (.bool true)) S := by
  rw [← h.unique k]
  rcases h with ⟨rfl, _⟩ | ⟨a, b, c, rfl, _⟩
  · exact r_is_none S
  · exact r_is_tri a b c S
theorem r_yes (q : Bool) (S : AS) : den_law_yes [.d (.bool q), .d (.bool q)] S = .ok (.d (.bool true)) S := by
  unfold den_law_yes c_law_yes
  rw [den_of]
  cases q <;> simp [dVar]
end K72
namespace K72
open PySem PySem.Spec PyProof.Rows L2 Den
/-! ### the numbers of a small fence -/
structure Sm (a b c : Int) : Prop where
  f : Fen a b c
  lo : -100 ≤ a
  hi : b ≤ 100
  st : c ≤ 100
theorem r_numbers {a b c : Int} (h : Sm a b c) (S : AS) : ∃ l : List Int, den_law_numbers [.d (tri a b c)] S = .ok (.own (ds l)) S ∧ (∀ x, x ∈ l ↔ inF a b c x) ∧ (l.length : Int) = (if c = 0 then 1 else (b - a) / c + 1) ∧ l.length ≤ 201 := by
  obtain ⟨hf, h1, h2, h3⟩ := h
  by_cases c0 : c = 0
  · refine ⟨[a], ?_, fun x => ?_, by simp [c0], by simp⟩
    · unfold den_law_numbers c_law_numbers
      rw [den_of]
      have e : ∀ S, vLstD [.d (.int a)] S = some (.own (ds [a]), S) := fun S => rfl
      simp [dVar, c0, e]
    · unfold inF
      simp [c0]
  · have cp : 0 < c := by have := hf.spec.nn; omega
    obtain ⟨ab, dv⟩ : a < b ∧ c ∣ b - a := by
      rcases hf with ⟨e, _⟩ | ⟨_, e1, e2⟩
      · exact absurd e c0
      · exact ⟨e1, e2⟩
    obtain ⟨q, hq⟩ := dv
    have hq2 : b - a = q * c := by rw [hq, Int.mul_comm]
    have qd : (b - a) / c = q := by rw [hq, Int.mul_ediv_cancel_left _ c0]
    have q0 : 0 ≤ q := by
      refine Int.not_lt.mp fun l => ?_
      have := mul_mono cp (show q ≤ -1 by omega)
      omega
    have q1 : q ≤ 200 := by
      refine Int.not_lt.mp fun l => ?_
      have : q * 1 ≤ q * c := Int.mul_le_mul_of_nonneg_left (by omega) q0
      omega
    have rsz : Builtin.Range.rangeSize a (b + 1) c = q + 1 := by
      unfold Builtin.Range.rangeSize
      rw [if_pos (show c > 0 from cp), if_pos (by omega), show b + 1 - a - 1 = b - a by omega, qd]
    have sml : Builtin.Range.small a (b + 1) c = true := by
      unfold Builtin.Range.small
      rw [rsz, if_pos (show c > 0 from cp)]
      simp only [Builtin.Range.rangeFitsLong, Bool.and_eq_true, Bool.or_eq_true, decide_eq_true_eq]
      refine ⟨⟨⟨⟨⟨by omega, by omega⟩, by omega, by omega⟩, by omega, by omega⟩, by omega, by omega⟩, .inr ⟨by omega, by omega⟩⟩
    have tn : (Builtin.Range.rangeSize a (b + 1) c).toNat = q.toNat + 1 := by rw [rsz]; omega
    refine ⟨(List.range (q.toNat + 1)).map fun i => a + (i : Nat) * c, ?_, fun x => ?_, ?_, ?_⟩
    · have e : ∀ S, vLRg3 [.d (.int a), .d (.int (b + 1)), .d (.int c)] S = some (.own (ds ((List.range (q.toNat + 1)).map fun i => a + (i : Nat) * c)), S) := fun S => by
        show (if c ≠ 0 ∧ c.natAbs < 1073741824 ∧ Builtin.Range.small a (b + 1) c = true ∧ 0 ≤ Builtin.Range.rangeSize a (b + 1) c ∧ (Builtin.Range.rangeSize a (b + 1) c).toNat ≤ cap then some (AV.own (rngL a (Builtin.Range.rangeSize a (b + 1) c).toNat c), S) else none) = _
        rw [if_pos ⟨c0, by omega, sml, by omega, by rw [tn]; show q.toNat + 1 ≤ 1000000; omega⟩, tn]
        unfold rngL ds
        rw [List.map_map]
        rfl
      unfold den_law_numbers c_law_numbers
      rw [den_of]
      simp [dVar, c0, e]
    · constructor
      · intro hx
        obtain ⟨i, hi, rfl⟩ := List.mem_map.mp hx
        have hi := List.mem_range.mp hi
        have := mul_mono cp (show (i : Int) ≤ q by omega)
        have := Int.mul_nonneg (show (0 : Int) ≤ i by omega) (Int.le_of_lt cp)
        exact .inr ⟨cp, by omega, by omega, i, by rw [Int.mul_comm]; omega⟩
      · rintro (⟨e, _⟩ | ⟨_, e1, e2, r, e3⟩)
        · exact absurd e c0
        · have e3 : x - a = r * c := by rw [e3, Int.mul_comm]
          have r0 : 0 ≤ r := by
            refine Int.not_lt.mp fun l => ?_
            have := mul_mono cp (show r ≤ -1 by omega)
            omega
          have r1 : r ≤ q := by
            refine Int.not_lt.mp fun l => ?_
            have := mul_mono cp (show q + 1 ≤ r by omega)
            rw [Int.add_mul] at this
            omega
          refine List.mem_map.mpr ⟨r.toNat, List.mem_range.mpr (by omega), ?_⟩
          rw [Int.toNat_of_nonneg r0]
          omega
    · rw [if_neg c0, qd, List.length_map, List.length_range]
      omega
    · rw [List.length_map, List.length_range]
      omega
/-! ### _law_least -/
theorem least_loop (v0 : Int) (l0 : List D) (h0 : l0[0]? = some (.int v0)) : ∀ (l : List Int) (s : Int) (x : Option AV) (S : AS), (∀ z ∈ l, (z - v0).natAbs < 2 ^ 140) → ∃ x', forGo (.nm 2)
    (sAsg 1 false (dCall (arity 2 den_law_gcd) (lCons (dVar 1) (lCons (dBin bSub (dVar 2) (dBin vIx (dVar 0) (dC (.int 0)))) lNil)))) (ds l) [some (.d (.list l0)), some (.d (.int s)), x] S = .nx [some (.d (.list l0)), some (.d (.int (gcdF v0 l s))), x'] S
  | [], s, x, S, _ => ⟨x, rfl⟩
  | n :: l, s, x, S, hb => by
    obtain ⟨x', h⟩ := least_loop v0 l0 h0 l (Int.gcd s (n - v0) : Nat) (some (.d (.int n))) S fun z hz => hb z (List.mem_cons_of_mem _ hz)
    refine ⟨x', ?_⟩
    have e : atD l0 0 = some (.int v0) := at_nat (i := 0) h0
    have g := r_gcd (a := s) (hb n List.mem_cons_self)
    show forGo _ _ (.int n :: ds l) _ _ = _
    rw [for_cons]
    simp [dVar, e, g]
    exact h
theorem r_least {l : List Int} (hl : ∀ x ∈ l, -2 ^ 138 ≤ x ∧ x ≤ 2 ^ 138) (S : AS) : ∃ x, den_law_least [.d (.list (ds l))] S = .ok (.d x) S ∧ Out (fun z => z ∈ l) x := by
  cases l with
  | nil =>
    refine ⟨.none, ?_, .inl ⟨rfl, fun z hz => by cases hz⟩⟩
    unfold den_law_least c_law_least
    rw [den_of]
    simp [dVar, ds]
  | cons n r =>
    refine ⟨tri (minI (n :: r)) (maxI (n :: r)) (gcdF n (n :: r) 0), ?_, .inr ⟨_, _, _, rfl, gcdF_spec (minI_mem n r) (maxI_mem n r) List.mem_cons_self fun x hx => ⟨minI_least hx, maxI_most hx⟩⟩⟩
    have v1 : ∀ S, vMin [.d (.list (ds (n :: r)))] S = some (.d (.int (minI (n :: r))), S) := fun S => by
      show (match ints? (ds (n :: r)) with | some (n :: ns) => some (AV.d (.int (minI (n :: ns))), S) | _ => none) = _
      rw [ds_ints]
    have v2 : ∀ S, vMax [.d (.list (ds (n :: r)))] S = some (.d (.int (maxI (n :: r))), S) := fun S => by
      show (match ints? (ds (n :: r)) with | some (n :: ns) => some (AV.d (.int (maxI (n :: ns))), S) | _ => none) = _
      rw [ds_ints]
    obtain ⟨x', h⟩ := least_loop n (ds (n :: r)) rfl (n :: r) 0 none S fun z hz => by
      have h1 := hl z hz
      have h2 := hl n List.mem_cons_self
      omega
    have hz : ((r.length : Int) + 1 = 0) = False := by
      apply eq_false
      omega
    unfold den_law_least c_law_least
    rw [den_of]
    simp [dVar, v1, v2, iSeq, frzD, h, hz]
/-! ### membership -/
theorem ds_flat : ∀ l : List Int, (ds l).all flatD = true
  | [] => rfl
  | n :: l => by
    show (flatD (.int n) && (ds l).all flatD) = true
    rw [ds_flat l]
    rfl
theorem ds_any (v : Int) : ∀ l : List Int, ((ds l).any fun y => PyData.eqv y (.int v)) = decide (v ∈ l)
  | [] => by simp [ds]
  | n :: l => by
    show (PyData.eqv (.int n) (.int v) || (ds l).any fun y => PyData.eqv y (.int v)) = _
    rw [ds_any v l, show PyData.eqv (.int n) (.int v) = (n == v) from rfl]
    by_cases e : v = n
    · simp [e]
    · have e2 : ¬ n = v := fun z => e z.symm
      simp [e, e2]
theorem in_ds (v : Int) (l : List Int) (S : AS) : cop .In (.d (.int v)) (.d (.list (ds l))) S = some (.d (.bool (decide (v ∈ l))), S) := by
  have e : inD S (.d (.int v)) (.d (.list (ds l))) = some (decide (v ∈ l)) := by
    show (if flatD (.int v) && (ds l).all flatD then some ((ds l).any fun y => PyData.eqv y (.int v)) else none) = _
    rw [ds_flat, ds_any]
    rfl
  show (match inD S (.d (.int v)) (.d (.list (ds l))) with | some k => some (AV.d (.bool k), S) | none => none) = _
  rw [e]
theorem notin_ds (v : Int) (l : List Int) (S : AS) : cop .NotIn (.d (.int v)) (.d (.list (ds l))) S = some (.d (.bool (!decide (v ∈ l))), S) := by
  have e : inD S (.d (.int v)) (.d (.list (ds l))) = some (decide (v ∈ l)) := by
    show (if flatD (.int v) && (ds l).all flatD then some ((ds l).any fun y => PyData.eqv y (.int v)) else none) = _
    rw [ds_flat, ds_any]
    rfl
  show (match inD S (.d (.int v)) (.d (.list (ds l))) with | some k => some (AV.d (.bool (!k)), S) | none => none) = _
  rw [e]
/-! ### _law_sums -/
theorem sums_lc (a b x4 : Option AV) (v : Int) (s : List Int) (S : AS) : ∀ (os : List Int) (acc : List Int), acc.length + os.length ≤ 1000000 →
    lcGo (.nm 4) (dBin (cop .NotIn) (dBin bAdd (dVar 3) (dVar 4)) (dVar 2)) (dBin bAdd (dVar 3) (dVar 4)) [a, b, some (.d (.list (ds s))), some (.d (.int v)), x4] (ds os) S (ds acc) = .ok (.own (ds (acc ++ (os.map (v + ·)).filter fun z => !decide (z ∈ s)))) S
  | [], acc, _ => by
    show ER.ok (.own (ds acc)) S = _
    simp
  | o :: os, acc, hl => by
    have hl : acc.length + (os.length + 1) ≤ 1000000 := hl
    have hc : (ds acc).length < cap := by rw [ds_len]; show acc.length < 1000000; omega
    show lcGo _ _ _ _ (.int o :: ds os) S (ds acc) = _
    by_cases m : v + o ∈ s
    · have ih := sums_lc a b x4 v s S os acc (by omega)
      unfold lcGo
      simp only [bind_nm, x_Bin, dVar, List.set_cons_succ, List.set_cons_zero, List.getElem?_cons_succ, List.getElem?_cons_zero, bind_ok, fz_d, add_i, lift_some, notin_ds, m, decide_true, Bool.not_true]
      rw [ih]
      simp [m]
    · have ih := sums_lc a b x4 v s S os (acc ++ [v + o]) (by simp; omega)
      unfold lcGo
      simp only [bind_nm, x_Bin, dVar, List.set_cons_succ, List.set_cons_zero, List.getElem?_cons_succ, List.getElem?_cons_zero, bind_ok, fz_d, add_i, lift_some, notin_ds, m, decide_false, Bool.not_false, frzD, hc, if_true]
      rw [show ds acc ++ [PyData.int (v + o)] = ds (acc ++ [v + o]) by rw [← ds_app]; rfl, ih]
      simp [m]
theorem sums_loop (a : Option AV) (os : List Int) (S : AS) : ∀ (vs s : List Int) (x3 x4 : Option AV), s.length + vs.length * os.length ≤ 1000000 → ∃ (m : List Int) (y3 y4 : Option AV), forGo (.nm 3)
    (sAsg 2 false (dBin bAdd (dVar 2) (dLc (iSeq (dVar 1)) (.nm 4) (dBin (cop .NotIn) (dBin bAdd (dVar 3) (dVar 4)) (dVar 2)) (dBin bAdd (dVar 3) (dVar 4)) [4]))) (ds vs) [a, some (.d (.list (ds os))), some (.d (.list (ds s))), x3, x4] S = .nx [a, some (.d (.list (ds os))), some (.d (.list (ds m))), y3, y4] S ∧
      (∀ z, z ∈ m ↔ z ∈ s ∨ ∃ v o, v ∈ vs ∧ o ∈ os ∧ z = v + o) ∧ m.length ≤ s.length + vs.length * os.length
  | [], s, x3, x4, _ => ⟨s, x3, x4, rfl, fun z => by simp, by simp⟩
  | v :: vs, s, x3, x4, hl => by
    have e1 : (v :: vs).length * os.length = os.length + vs.length * os.length := by rw [List.length_cons, Nat.add_mul, Nat.one_mul, Nat.add_comm]
    rw [e1] at hl
    have fl : ((os.map (v + ·)).filter fun z => !decide (z ∈ s)).length ≤ os.length := Nat.le_trans (List.length_filter_le ..) (by rw [List.length_map]; exact Nat.le_refl _)
    obtain ⟨m, y3, y4, h, h2, h3⟩ := sums_loop a os S vs (s ++ (os.map (v + ·)).filter fun z => !decide (z ∈ s)) (some (.d (.int v))) x4 (by rw [List.length_append]; omega)
    refine ⟨m, y3, y4, ?_, fun z => ?_, ?_⟩
    · show forGo _ _ (.int v :: ds vs) _ _ = _
      rw [for_cons]
      have lc := sums_lc a (some (.d (.list (ds os)))) none v s S os [] (by simp; omega)
      have ct : ∀ S, bAdd (.d (.list (ds s))) (.d (.list (ds ((os.map (v + ·)).filter fun z => !decide (z ∈ s))))) S = some (.own (ds (s ++ (os.map (v + ·)).filter fun z => !decide (z ∈ s))), S) := fun S => by
        show (if (ds s).length + (ds _).length ≤ cap then some (AV.own (ds s ++ ds _), S) else none) = _
        rw [if_pos (by rw [ds_len, ds_len]; show _ ≤ 1000000; omega), ds_app]
      rw [List.nil_append] at lc
      have lc : lcGo (.nm 4) (dBin (cop .NotIn) (dBin bAdd (dVar 3) (dVar 4)) (dVar 2)) (dBin bAdd (dVar 3) (dVar 4)) [a, some (.d (.list (ds os))), some (.d (.list (ds s))), some (.d (.int v)), none] (ds os) S [] = .ok (.own (ds ((os.map (v + ·)).filter fun z => !decide (z ∈ s)))) S := lc
      generalize hf : (os.map (v + ·)).filter (fun z => !decide (z ∈ s)) = fo at *
      simp only [bind_nm, x_Asg, x_Bin, dVar, dLc, iSeq, frzD, wipeA, List.set_cons_succ, List.set_cons_zero, List.getElem?_cons_succ, List.getElem?_cons_zero, bind_ok, fz_d, fz_own, lift_some, lc, ct, then_ok, asg_ownF]
      exact h
    · rw [h2, List.mem_append, List.mem_filter, List.mem_map]
      constructor
      · rintro ((q | ⟨⟨o, ho, rfl⟩, _⟩) | ⟨v', o, hv, ho, rfl⟩)
        · exact .inl q
        · exact .inr ⟨v, o, List.mem_cons_self, ho, rfl⟩
        · exact .inr ⟨v', o, List.mem_cons_of_mem _ hv, ho, rfl⟩
      · rintro (q | ⟨v', o, hv, ho, rfl⟩)
        · exact .inl (.inl q)
        · rcases List.mem_cons.mp hv with rfl | hv
          · by_cases c : v' + o ∈ s
            · exact .inl (.inl c)
            · exact .inl (.inr ⟨⟨o, ho, rfl⟩, by simpa using c⟩)
          · exact .inr ⟨v', o, hv, ho, rfl⟩
    · rw [e1]
      rw [List.length_append] at h3
      omega
theorem r_sums {vs os : List Int} (hl : vs.length * os.length ≤ 1000000) (S : AS) : ∃ m : List Int, den_law_sums [.d (.list (ds vs)), .d (.list (ds os))] S = .ok (.d (.list (ds m))) S ∧ (∀ z, z ∈ m ↔ ∃ v o, v ∈ vs ∧ o ∈ os ∧ z = v + o) ∧ m.length ≤ vs.length * os.length := by
  obtain ⟨m, y3, y4, h, h2, h3⟩ := sums_loop (some (.d (.list (ds vs)))) os S vs [] none none (by simpa using hl)
  refine ⟨m, ?_, fun z => by rw [h2]; simp, by simpa using h3⟩
  have h : forGo (.nm 3) (sAsg 2 false (dBin bAdd (dVar 2) (dLc (iSeq (dVar 1)) (.nm 4) (dBin (cop .NotIn) (dBin bAdd (dVar 3) (dVar 4)) (dVar 2)) (dBin bAdd (dVar 3) (dVar 4)) [4]))) (ds vs) [some (.d (.list (ds vs))), some (.d (.list (ds os))), some (.d (.list [])), none, none] S = _ := h
  unfold den_law_sums c_law_sums
  rw [den_of]
  have e0 : ∀ S, vLstD [] S = some (.own [], S) := fun S => rfl
  generalize hb : (sAsg 2 false (dBin bAdd (dVar 2) (dLc (iSeq (dVar 1)) (.nm 4) (dBin (cop .NotIn) (dBin bAdd (dVar 3) (dVar 4)) (dVar 2)) (dBin bAdd (dVar 3) (dVar 4)) [4]))) = body at *
  simp [dVar, e0, iSeq, frzD, h]
end K72
namespace K72
open PySem PySem.Spec PyProof.Rows L2 Den
/-! ### draws -/
def Dr (l : List Int) : Prop := ∀ x ∈ l, 0 ≤ x ∧ x < 30
theorem Dr.drop {l : List Int} (h : Dr l) : Dr l.dropLast := fun x hx => h x (List.dropLast_subset l hx)
theorem ds_dropLast (l : List Int) : (ds l).dropLast = ds l.dropLast := by
  unfold ds
  rw [List.map_dropLast]
theorem r_take {l : List Int} (h : Dr l) {m : Int} (hm : 0 < m) (S0 : AS) : ∃ (v : Int) (l' : List Int), den_law_take [.ref 0, .d (.int m)] (.lst (ds l) :: S0) = .ok (.d (.int v)) (.lst (ds l') :: S0) ∧ Dr l' ∧ 0 ≤ v ∧ v < m ∧ v < 30 := by
  unfold den_law_take c_law_take
  rw [den_of]
  by_cases e : l = []
  · subst e
    refine ⟨0, [], ?_, h, Int.le_refl _, hm, by decide⟩
    have v : vLen [.ref 0] (.lst (ds []) :: S0) = some (.d (.int 0), .lst (ds []) :: S0) := rfl
    simp [dVar, v]
  · have hl : 0 < l.length := List.length_pos_iff.mpr e
    have hi : l.length - 1 < l.length := by omega
    obtain ⟨x, hx⟩ : ∃ x, l[l.length - 1]? = some x := ⟨_, List.getElem?_eq_getElem hi⟩
    have xr := h x (List.mem_of_getElem? hx)
    have v : vLen [.ref 0] (.lst (ds l) :: S0) = some (.d (.int l.length), .lst (ds l) :: S0) := by
      show some (AV.d (.int ((ds l).length : Nat)), _) = _
      rw [ds_len]
    have p : mPop (.ref 0) [] (.lst (ds l) :: S0) = some (.d (.int x), .lst (ds l.dropLast) :: S0) := by
      have e1 : (ds l)[(ds l).length - 1]? = some (.int x) := by
        rw [ds_len]
        unfold ds
        rw [List.getElem?_map, hx]
        rfl
      show (match (ds l)[(ds l).length - 1]? with | some x => some (AV.d x, _) | none => none) = _
      rw [e1, ← ds_dropLast]
      rfl
    have il : isL (.lst (ds l) :: S0) (.ref 0) = true := rfl
    have b0 := Int.emod_nonneg x (by omega : m ≠ 0)
    have b1 := Int.emod_lt_of_pos x hm
    have b2 : x % m ≤ x := (by have em := Int.ediv_mul_add_emod x m; have := Int.mul_nonneg (Int.ediv_nonneg xr.1 (Int.le_of_lt hm)) (Int.le_of_lt hm); omega)
    refine ⟨x % m, l.dropLast, ?_, h.drop, b0, b1, by omega⟩
    have ln : ((l.length : Int) = 0) = False := by
      apply eq_false
      omega
    simp [dVar, v, ln, e, p, il, mod_i, hm]
/-! ### a fence drawn -/
theorem at_ds {l : List Int} {v : Int} (h0 : 0 ≤ v) (h1 : v < l.length) : ∃ x, x ∈ l ∧ atD (ds l) v = some (.int x) := by
  have hi : v.toNat < l.length := by omega
  refine ⟨l[v.toNat], List.getElem_mem hi, ?_⟩
  have e := at_nat (l := ds l) (i := v.toNat) (x := .int l[v.toNat]) (by unfold ds; rw [List.getElem?_map, List.getElem?_eq_getElem hi]; rfl)
  rwa [Int.toNat_of_nonneg h0] at e
theorem r_fence {l : List Int} (h : Dr l) (S0 : AS) : ∃ (a b c : Int) (l' : List Int), den_law_fence [.ref 0] (.lst (ds l) :: S0) = .ok (.d (tri a b c)) (.lst (ds l') :: S0) ∧ Dr l' ∧ Sm a b c ∧ b - a ≤ 7 * c := by
  obtain ⟨v1, l1, t1, d1, p1, q1, _⟩ := r_take h (show (0 : Int) < 6 by decide) S0
  obtain ⟨v2, l2, t2, d2, p2, q2, _⟩ := r_take d1 (show (0 : Int) < 4 by decide) S0
  obtain ⟨v3, l3, t3, d3, p3, q3, _⟩ := r_take d2 (show (0 : Int) < 7 by decide) S0
  obtain ⟨v4, l4, t4, d4, p4, q4, _⟩ := r_take d3 (show (0 : Int) < 7 by decide) S0
  obtain ⟨x1, m1, e1⟩ := at_ds (l := [0, 3, -5, 12, -1, 7]) p1 q1
  obtain ⟨x3, m3, e3⟩ := at_ds (l := [4, 1, 6, 3, 8, 2, 5]) p3 q3
  obtain ⟨x4, m4, e4⟩ := at_ds (l := [2, 3, 1, 6, 4, 5, 10]) p4 q4
  have b1 : -5 ≤ x1 ∧ x1 ≤ 12 := (by decide : ∀ x ∈ ([0, 3, -5, 12, -1, 7] : List Int), -5 ≤ x ∧ x ≤ 12) x1 m1
  have b3 : 1 ≤ x3 ∧ x3 ≤ 8 := (by decide : ∀ x ∈ ([4, 1, 6, 3, 8, 2, 5] : List Int), 1 ≤ x ∧ x ≤ 8) x3 m3
  have b4 : 1 ≤ x4 ∧ x4 ≤ 10 := (by decide : ∀ x ∈ ([2, 3, 1, 6, 4, 5, 10] : List Int), 1 ≤ x ∧ x ≤ 10) x4 m4
  have w1 : ∀ S, vLstD [.d (.int 0), .d (.int 3), .d (.int (-5)), .d (.int 12), .d (.int (-1)), .d (.int 7)] S = some (.own (ds [0, 3, -5, 12, -1, 7]), S) := fun S => rfl
  have w3 : ∀ S, vLstD [.d (.int 4), .d (.int 1), .d (.int 6), .d (.int 3), .d (.int 8), .d (.int 2), .d (.int 5)] S = some (.own (ds [4, 1, 6, 3, 8, 2, 5]), S) := fun S => rfl
  have w4 : ∀ S, vLstD [.d (.int 2), .d (.int 3), .d (.int 1), .d (.int 6), .d (.int 4), .d (.int 5), .d (.int 10)] S = some (.own (ds [2, 3, 1, 6, 4, 5, 10]), S) := fun S => rfl
  unfold den_law_fence c_law_fence
  rw [den_of]
  by_cases c1 : x3 = 1
  · subst c1
    refine ⟨x1 + v2, x1 + v2, 0, l4, ?_, d4, ⟨.inl ⟨rfl, rfl⟩, by omega, by omega, by decide⟩, by omega⟩
    simp [dVar, w1, w3, w4, t1, t2, t3, t4, e1, e3, e4]
  · have p1' : x4 * (x3 - 1) ≤ 10 * 7 := Int.mul_le_mul b4.2 (by omega) (by omega) (by decide)
    have p2' : x4 * 1 ≤ x4 * (x3 - 1) := Int.mul_le_mul_of_nonneg_left (by omega) (by omega)
    have g : x4.natAbs.log2 + (x3 - 1).natAbs.log2 < 100000000 := B.g (n := 10) (m := 10) (by unfold B; omega) (by unfold B; omega)
    refine ⟨x1 + v2, x1 + v2 + x4 * (x3 - 1), x4, l4, ?_, d4, ⟨.inr ⟨by omega, by omega, x3 - 1, by omega⟩, by omega, by omega, by omega⟩, by
      have := Int.mul_le_mul_of_nonneg_left (show x3 - 1 ≤ 7 by omega) (show 0 ≤ x4 by omega)
      omega⟩
    simp [dVar, w1, w3, w4, t1, t2, t3, t4, e1, e3, e4, c1, mul_i, g]
/-! ### from what is told of a lot, to the far lot -/
theorem Spec.fen {P : Int → Prop} {a b c : Int} (h : Spec P a b c) : Fen a b c := by
  obtain ⟨_, h1, h2⟩ := h.al b h.hi
  have h0 := (h.al a h.lo).2.1
  by_cases c0 : c = 0
  · refine .inl ⟨c0, ?_⟩
    obtain ⟨q, hq⟩ := h2
    rw [c0, Int.zero_mul] at hq
    omega
  · have cp : 0 < c := by have := h.nn; omega
    by_cases ab : a = b
    · have := h.gr (c + 1) fun x hx => by
        obtain ⟨x1, x2, _⟩ := h.al x hx
        rw [show x - a = 0 by omega]
        exact Int.dvd_zero _
      have := Int.le_of_dvd cp this
      omega
    · exact .inr ⟨cp, by omega, h2⟩
theorem Spec.c_le {P : Int → Prop} {a b c : Int} (h : Spec P a b c) : c ≤ b - a := by
  rcases h.fen with ⟨h1, h2⟩ | ⟨h1, h2, h3⟩
  · omega
  · exact Int.le_of_dvd (by omega) h3
theorem r_far_out {P : Int → Prop} {x : D} {y m : Int} (h : Out P x) (hx : x ≠ .none) (hb : ∀ z, P z → -100000 ≤ z ∧ z ≤ 100000) (hy : 0 < y) (by_ : B 110 y) (S : AS) :
    ∃ x', den_law_far [.d x, .d (.int y), .d (.int m)] S = .ok (.d x') S ∧ x' ≠ .none ∧ Out (fun z => ∃ v, P v ∧ z = v * y + m) x' := by
  rcases h with ⟨rfl, _⟩ | ⟨a, b, c, rfl, sp⟩
  · exact absurd rfl hx
  · have h1 := hb a sp.lo
    have h2 := hb b sp.hi
    have h3 := sp.c_le
    have h4 := sp.nn
    have g : ∀ v : Int, -200000 ≤ v → v ≤ 200000 → v.natAbs.log2 + y.natAbs.log2 < 100000000 := fun v u1 u2 => B.g (n := 20) (m := 110) (by unfold B; omega) by_
    exact ⟨_, r_far S (g a (by omega) (by omega)) (g b (by omega) (by omega)) (g c (by omega) (by omega)), (fun z => nomatch z), .inr ⟨_, _, _, rfl, sp.scale hy m⟩⟩
theorem Spec.within {P : Int → Prop} {a b c a' b' c' : Int} (h : Spec P a b c) (k : Fen a' b' c') (q : ∀ z, P z → inF a' b' c' z) : ∀ z, inF a b c z → inF a' b' c' z := by
  rw [within_iff h.fen k]
  refine ⟨q _ h.lo, q _ h.hi, .inr (h.gr c' fun x hx => ?_)⟩
  have e1 := (k.spec.al x (q x hx)).2.2
  have e2 := (k.spec.al a (q a h.lo)).2.2
  rw [show x - a = (x - a') - (a - a') by omega]
  exact Int.dvd_sub e1 e2
theorem common_lc (a b c d e f g h i j : Option AV) (l2 : List Int) (he : f = some (.d (.list (ds l2)))) (S : AS) : ∀ (l acc : List Int), acc.length + l.length ≤ 1000000 →
    lcGo (.nm 10) (dBin (cop .In) (dVar 10) (dVar 5)) (dVar 10) [a, b, c, d, e, f, g, h, i, j, none] (ds l) S (ds acc) = .ok (.own (ds (acc ++ l.filter fun z => decide (z ∈ l2)))) S
  | [], acc, _ => by
    show ER.ok (.own (ds acc)) S = _
    simp
  | o :: os, acc, hl => by
    have hl : acc.length + (os.length + 1) ≤ 1000000 := hl
    have hc : (ds acc).length < cap := by rw [ds_len]; show acc.length < 1000000; omega
    show lcGo _ _ _ _ (.int o :: ds os) S (ds acc) = _
    by_cases m : o ∈ l2
    · have ih := common_lc a b c d e f g h i j l2 he S os (acc ++ [o]) (by simp; omega)
      unfold lcGo
      simp only [bind_nm, x_Bin, dVar, List.set_cons_succ, List.set_cons_zero, List.getElem?_cons_succ, List.getElem?_cons_zero, bind_ok, fz_d, lift_some, he, in_ds, m, decide_true, frzD, hc, if_true]
      rw [he] at ih
      rw [show ds acc ++ [PyData.int o] = ds (acc ++ [o]) by rw [← ds_app]; rfl, ih]
      simp [m]
    · have ih := common_lc a b c d e f g h i j l2 he S os acc (by omega)
      unfold lcGo
      simp only [bind_nm, x_Bin, dVar, List.set_cons_succ, List.set_cons_zero, List.getElem?_cons_succ, List.getElem?_cons_zero, bind_ok, fz_d, lift_some, he, in_ds, m, decide_false]
      rw [he] at ih
      rw [ih]
      simp [m]
end K72
namespace K72
open PySem PySem.Spec PyProof.Rows L2 Den
theorem B_far {v y m : Int} (h1 : -1000 ≤ v) (h2 : v ≤ 1000) (by_ : B 110 y) (bm : B 130 m) : B 500 (v * y + m) := by
  have b1 : B 10 v := by unfold B; omega
  exact ((((b1.mul by_).mono (by decide : 10 + 110 ≤ 130))).add bm).mono (by decide)
theorem B_st {v y : Int} (h1 : 0 ≤ v) (h2 : v ≤ 1000) (by_ : B 110 y) : B 500 (v * y) := by
  have b1 : B 10 v := by unfold B; omega
  exact (b1.mul by_).mono (by decide)
theorem Sm.all {a b c x : Int} (h : Sm a b c) (k : inF a b c x) : -1000 ≤ x ∧ x ≤ 1000 := by
  have := (h.f.spec.al x k)
  have := h.lo
  have := h.hi
  omega
theorem filter_len {p : Int → Bool} {l : List Int} : (l.filter p).length = l.length ↔ ∀ x ∈ l, p x = true := List.length_filter_eq_length_iff
theorem r_pair {a b c a' b' c' y m : Int} (h1 : Sm a b c) (h2 : Sm a' b' c') (hy : 0 < y) (by_ : B 110 y) (bm : B 130 m) (S : AS) :
    den_law_pair_right [.d (tri a b c), .d (tri a' b' c'), .d (.int y), .d (.int m)] S = .ok (.d (.bool true)) S := by
  obtain ⟨l1, e1, i1, n1, s1⟩ := r_numbers h1 S
  obtain ⟨l2, e2, i2, n2, s2⟩ := r_numbers h2 S
  have lc := common_lc (some (.d (tri a b c))) (some (.d (tri a' b' c'))) (some (.d (.int y))) (some (.d (.int m))) (some (.d (.list (ds l1)))) (some (.d (.list (ds l2)))) none none none none l2 rfl S l1 [] (by simp; omega)
  rw [List.nil_append] at lc
  have lc : lcGo (.nm 10) (dBin (cop .In) (dVar 10) (dVar 5)) (dVar 10) [some (.d (tri a b c)), some (.d (tri a' b' c')), some (.d (.int y)), some (.d (.int m)), some (.d (.list (ds l1))), some (.d (.list (ds l2))), none, none, none, none, none] (ds l1) S [] = _ := lc
  have memc : ∀ x, x ∈ l1.filter (fun z => decide (z ∈ l2)) ↔ inF a b c x ∧ inF a' b' c' x := fun x => by rw [List.mem_filter, decide_eq_true_iff, i1, i2]
  have lenc : (l1.filter (fun z => decide (z ∈ l2))).length = l1.length ↔ ∀ x, inF a b c x → inF a' b' c' x := by
    rw [filter_len]
    exact ⟨fun q x hx => (i2 x).mp (by simpa using q x ((i1 x).mpr hx)), fun q x hx => by simpa using (i2 x).mpr (q x ((i1 x).mp hx))⟩
  obtain ⟨cm, hcm⟩ : ∃ cm, l1.filter (fun z => decide (z ∈ l2)) = cm := ⟨_, rfl⟩
  rw [hcm] at lc memc lenc
  have smC : ∀ x, x ∈ cm → -1000 ≤ x ∧ x ≤ 1000 := fun x hx => h1.all ((memc x).mp hx).1
  -- the far fences
  have f1 := h1.f.scale hy m
  have f2 := h2.f.scale hy m
  have c0 := h1.f.spec.nn
  have c0' := h2.f.spec.nn
  have a1 := h1.all (inF_lo h1.f)
  have a2 := h1.all (inF_hi h1.f)
  have a3 := h2.all (inF_lo h2.f)
  have a4 := h2.all (inF_hi h2.f)
  have g : ∀ v : Int, -1000 ≤ v → v ≤ 1000 → v.natAbs.log2 + y.natAbs.log2 < 100000000 := fun v u1 u2 => B.g (n := 10) (m := 110) (by unfold B; omega) by_
  have e3 := r_far (a := a) (b := b) (c := c) (y := y) (m := m) S (g a a1.1 a1.2) (g b a2.1 a2.2) (g c (by omega) (by have := h1.st; omega))
  have e4 := r_far (a := a') (b := b') (c := c') (y := y) (m := m) S (g a' a3.1 a3.2) (g b' a4.1 a4.2) (g c' (by omega) (by have := h2.st; omega))
  have o1 : ∀ {z}, inF (a * y + m) (b * y + m) (c * y) z ↔ ∃ x, inF a b c x ∧ z = x * y + m := inF_scale hy
  have o2 : ∀ {z}, inF (a' * y + m) (b' * y + m) (c' * y) z ↔ ∃ x, inF a' b' c' x ∧ z = x * y + m := inF_scale hy
  have b1 := B_far a1.1 a1.2 by_ bm
  have b2 := B_far a2.1 a2.2 by_ bm
  have b3 := B_st c0 (by have := h1.st; omega) by_
  have b4 := B_far a3.1 a3.2 by_ bm
  have b5 := B_far a4.1 a4.2 by_ bm
  have b6 := B_st c0' (by have := h2.st; omega) by_
  obtain ⟨fa, hfa⟩ : ∃ v, a * y + m = v := ⟨_, rfl⟩
  obtain ⟨fb, hfb⟩ : ∃ v, b * y + m = v := ⟨_, rfl⟩
  obtain ⟨fc, hfc⟩ : ∃ v, c * y = v := ⟨_, rfl⟩
  obtain ⟨ga, hga⟩ : ∃ v, a' * y + m = v := ⟨_, rfl⟩
  obtain ⟨gb, hgb⟩ : ∃ v, b' * y + m = v := ⟨_, rfl⟩
  obtain ⟨gc, hgc⟩ : ∃ v, c' * y = v := ⟨_, rfl⟩
  rw [hfa, hfb, hfc] at f1 e3 o1
  rw [hga, hgb, hgc] at f2 e4 o2
  rw [hfa] at b1
  rw [hfb] at b2
  rw [hfc] at b3
  rw [hga] at b4
  rw [hgb] at b5
  rw [hgc] at b6
  have scaleAnd : ∀ z, (inF fa fb fc z ∧ inF ga gb gc z) ↔ ∃ v, v ∈ cm ∧ z = v * y + m := fun z => by
    rw [o1, o2]
    constructor
    · rintro ⟨⟨x, x1, rfl⟩, x', x2, x3⟩
      have := scale_inj hy x3
      subst this
      exact ⟨x, (memc x).mpr ⟨x1, x2⟩, rfl⟩
    · rintro ⟨x, x1, rfl⟩
      have := (memc x).mp x1
      exact ⟨⟨x, this.1, rfl⟩, x, this.2, rfl⟩
  -- the meeting
  obtain ⟨z1, m1, oz1⟩ := r_met f1 f2 (.inl rfl) (.inr rfl) b1 b2 b3 b4 b5 b6 S
  obtain ⟨z2, m2, oz2⟩ := r_met f2 f1 (.inl rfl) (.inl rfl) b4 b5 b6 b1 b2 b3 S
  have oz1 := oz1.congr scaleAnd
  have oz2 := oz2.congr fun z => Iff.trans And.comm (scaleAnd z)
  obtain ⟨q1, w1, hq1⟩ := r_within_t f1 f2 (.inr rfl) (.inl rfl) S
  have hq : decide (cm.length = l1.length) = q1 := by
    have : (q1 = true) ↔ cm.length = l1.length := by
      rw [hq1, lenc]
      constructor
      · intro q x hx
        have := q _ (o1.mpr ⟨x, hx, rfl⟩)
        obtain ⟨x', h', e'⟩ := o2.mp this
        rwa [scale_inj hy e']
      · intro q z hz
        obtain ⟨x, hx, rfl⟩ := o1.mp hz
        exact o2.mpr ⟨x, q x hx, rfl⟩
    cases q1
    · exact decide_eq_false fun z => nomatch this.mpr z
    · exact decide_eq_true (this.mp rfl)
  have hqi : decide ((cm.length : Int) = (l1.length : Int)) = q1 := by
    rw [← hq]
    exact decide_eq_decide.mpr (by omega)
  -- behind
  have bh := r_behind f1 f2 (.inl rfl) (.inl rfl) S
  have obh := Spec.sum f1.spec f2.spec
  obtain ⟨sm, e7, i7, s7⟩ := r_sums (vs := l1) (os := l2) (Nat.le_trans (Nat.mul_le_mul s1 s2) (by decide)) S
  have smB : ∀ z ∈ sm, -2000 ≤ z ∧ z ≤ 2000 := fun z hz => by
    obtain ⟨v, o, hv, ho, rfl⟩ := (i7 z).mp hz
    have := h1.all ((i1 v).mp hv)
    have := h2.all ((i2 o).mp ho)
    omega
  obtain ⟨x8, e8, o8⟩ := r_least (l := sm) (fun z hz => by have := smB z hz; omega) S
  have x8n : x8 ≠ .none := by
    rintro rfl
    rcases o8 with ⟨_, o8⟩ | ⟨_, _, _, e, _⟩
    · exact o8 (a + a') ((i7 _).mpr ⟨a, a', (i1 a).mpr (inF_lo h1.f), (i2 a').mpr (inF_lo h2.f), rfl⟩)
    · cases e
  obtain ⟨d8, e8', d8n, od8⟩ := r_far_out (m := 2 * m) o8 x8n (fun z hz => by have := smB z hz; omega) hy by_ S
  have t8 := r_is (x := tri (fa + ga) (fb + gb) (Int.gcd fc gc)) (.inr ⟨_, _, _, rfl, obh⟩) (od8.congr fun z => by
    constructor
    · rintro ⟨v, hv, rfl⟩
      obtain ⟨p, o, hp, ho, rfl⟩ := (i7 v).mp hv
      exact ⟨p * y + m, o * y + m, o1.mpr ⟨p, (i1 p).mp hp, rfl⟩, o2.mpr ⟨o, (i2 o).mp ho, rfl⟩, by rw [Int.add_mul]; omega⟩
    · rintro ⟨u, v, hu, hv, rfl⟩
      obtain ⟨p, hp, rfl⟩ := o1.mp hu
      obtain ⟨o, ho, rfl⟩ := o2.mp hv
      exact ⟨p + o, (i7 _).mpr ⟨p, o, (i1 p).mpr hp, (i2 o).mpr ho, rfl⟩, by rw [Int.add_mul]; omega⟩) S
  -- either
  have ei := r_either f1 f2 (.inr rfl) (.inl rfl) S
  have oei := Spec.either f1.spec f2.spec
  obtain ⟨x9, e9, o9⟩ := r_least (l := l1 ++ l2) (fun z hz => by
    rcases List.mem_append.mp hz with hz | hz
    · have := h1.all ((i1 z).mp hz)
      omega
    · have := h2.all ((i2 z).mp hz)
      omega) S
  have x9n : x9 ≠ .none := by
    rintro rfl
    rcases o9 with ⟨_, o9⟩ | ⟨_, _, _, e, _⟩
    · exact o9 a (List.mem_append_left _ ((i1 a).mpr (inF_lo h1.f)))
    · cases e
  obtain ⟨d9, e9', d9n, od9⟩ := r_far_out (m := m) o9 x9n (fun z hz => by
    rcases List.mem_append.mp hz with hz | hz
    · have := h1.all ((i1 z).mp hz)
      omega
    · have := h2.all ((i2 z).mp hz)
      omega) hy by_ S
  have t9 := r_is (x := tri (if ga < fa then ga else fa) (if gb > fb then gb else fb) (Int.gcd (Int.gcd fc gc) (ga - fa))) (.inr ⟨_, _, _, rfl, oei⟩) (od9.congr fun z => by
    constructor
    · rintro ⟨v, hv, rfl⟩
      rcases List.mem_append.mp hv with hv | hv
      · exact .inl (o1.mpr ⟨v, (i1 v).mp hv, rfl⟩)
      · exact .inr (o2.mpr ⟨v, (i2 v).mp hv, rfl⟩)
    · rintro (hz | hz)
      · obtain ⟨v, hv, rfl⟩ := o1.mp hz
        exact ⟨v, List.mem_append_left _ ((i1 v).mpr hv), rfl⟩
      · obtain ⟨v, hv, rfl⟩ := o2.mp hz
        exact ⟨v, List.mem_append_right _ ((i2 v).mpr hv), rfl⟩) S
  have ct : ∀ S, bAdd (.d (.list (ds l1))) (.d (.list (ds l2))) S = some (.own (ds (l1 ++ l2)), S) := fun S => by
    show (if (ds l1).length + (ds l2).length ≤ cap then some (AV.own (ds l1 ++ ds l2), S) else none) = _
    rw [if_pos (by rw [ds_len, ds_len]; show _ ≤ 1000000; omega), ds_app]
  have g2 : (2 : Int).natAbs.log2 + m.natAbs.log2 < 100000000 := B.g (n := 2) (m := 130) (by unfold B; decide) bm
  have mm : ∀ S, bMul (.d (.int 2)) (.d (.int m)) S = some (.d (.int (2 * m)), S) := fun S => mul_i g2
  obtain ⟨x5, e5, o5⟩ := r_least (l := cm) (fun z hz => by have := smC z hz; omega) S
  unfold den_law_pair_right c_law_pair_right
  rw [den_of]
  by_cases x5n : x5 = .none
  · subst x5n
    have od : Out (fun z => ∃ v, v ∈ cm ∧ z = v * y + m) .none := .inl ⟨rfl, by
      rintro z ⟨v, hv, _⟩
      rcases o5 with ⟨_, o5⟩ | ⟨_, _, _, e, _⟩
      · exact o5 v hv
      · cases e⟩
    have t1 := r_is oz1 od S
    have t2 := r_is oz2 od S
    simp [dVar, e1, e2, dLc, iSeq, frzD, wipeA, lc, hcm, e3, e4, e5, m1, m2, t1, t2, w1, hq, hqi, r_yes, bh, e7, e8, e8', mm, t8, ei, ct, e9, e9', t9]
  · obtain ⟨d5, e5', d5n, od⟩ := r_far_out (m := m) o5 x5n (fun z hz => by have := smC z hz; omega) hy by_ S
    have t1 := r_is oz1 od S
    have t2 := r_is oz2 od S
    rcases od with ⟨e, _⟩ | ⟨da, db, dc, rfl, sp⟩
    · exact absurd e d5n
    · have sp' := sp.congr fun z => (scaleAnd z).symm
      obtain ⟨q2, w2, hq2⟩ := r_within_t sp.fen f1 (.inl rfl) (.inl rfl) S
      obtain ⟨q3, w3, hq3⟩ := r_within_t sp.fen f2 (.inl rfl) (.inl rfl) S
      have q2t : q2 = true := hq2.mpr (sp'.within f1 fun z hz => hz.1)
      have q3t : q3 = true := hq3.mpr (sp'.within f2 fun z hz => hz.2)
      subst q2t q3t
      rcases o5 with ⟨e, _⟩ | ⟨ca, cb, cc, rfl, _⟩
      · exact absurd e x5n
      · simp [dVar, e1, e2, dLc, iSeq, frzD, wipeA, lc, hcm, e3, e4, e5, e5', m1, m2, t1, t2, w1, hq, hqi, r_yes, w2, w3, bh, e7, e8, e8', mm, t8, ei, ct, e9, e9', t9]
end K72
namespace K72
open PySem PySem.Spec PyProof.Rows L2 Den
def farL (y m : Int) (l : List Int) : List Int := l.map fun v => v * y + m
theorem hand_lc (a d e f g h i k n : Option AV) (y m : Int) (S : AS) : ∀ (l acc : List Int), acc.length + l.length ≤ 1000000 → (∀ v ∈ l, v.natAbs.log2 + y.natAbs.log2 < 100000000) →
    lcGo (.nm 8) (dC (.bool true)) (dBin bAdd (dBin bMul (dVar 8) (dVar 1)) (dVar 2)) [a, some (.d (.int y)), some (.d (.int m)), d, e, f, g, h, none, i, k, n] (ds l) S (ds acc) = .ok (.own (ds (acc ++ farL y m l))) S
  | [], acc, _, _ => by
    show ER.ok (.own (ds acc)) S = _
    simp [farL]
  | o :: os, acc, hl, hb => by
    have hl : acc.length + (os.length + 1) ≤ 1000000 := hl
    have hc : (ds acc).length < cap := by rw [ds_len]; show acc.length < 1000000; omega
    have ih := hand_lc a d e f g h i k n y m S os (acc ++ [o * y + m]) (by simp; omega) fun v hv => hb v (List.mem_cons_of_mem _ hv)
    have g1 := hb o List.mem_cons_self
    show lcGo _ _ _ _ (.int o :: ds os) S (ds acc) = _
    unfold lcGo
    simp only [bind_nm, x_Bin, x_C, dVar, List.set_cons_succ, List.set_cons_zero, List.getElem?_cons_succ, List.getElem?_cons_zero, bind_ok, fz_d, lift_some, mul_i g1, add_i, frzD, hc, if_true]
    rw [show ds acc ++ [PyData.int (o * y + m)] = ds (acc ++ [o * y + m]) by rw [← ds_app]; rfl, ih]
    simp [farL]
/-- three more of them -/
theorem some_lc (a b c e f h i k n : Option AV) (hl : List Int) (hne : 0 < hl.length) (hb : hl.length ≤ 1000) : ∀ (its : List D) (dl acc : List Int), Dr dl → acc.length + its.length ≤ 1000000 → ∃ (dl' xs : List Int),
    lcGo (.nm 11) (dC (.bool true)) (dBin vIx (dVar 6) (dBin bMod (dCall (arity 2 den_law_take) (lCons (dVar 3) (lCons (dC (.int 30)) lNil))) (dCallV vLen (lCons (dVar 6) lNil)))) [a, b, c, some (.ref 0), e, f, some (.ref 1), h, i, k, n, none] its [.lst (ds dl), .lst (ds hl)] (ds acc) = .ok (.own (ds (acc ++ xs))) [.lst (ds dl'), .lst (ds hl)] ∧ Dr dl' ∧ (∀ x ∈ xs, x ∈ hl) ∧ xs.length = its.length
  | [], dl, acc, hd, _ => ⟨dl, [], by show ER.ok (.own (ds acc)) _ = _; simp, hd, (fun x hx => (by cases hx)), rfl⟩
  | o :: os, dl, acc, hd, hk => by
    have hk : acc.length + (os.length + 1) ≤ 1000000 := hk
    have hc : (ds acc).length < cap := by rw [ds_len]; show acc.length < 1000000; omega
    obtain ⟨v, dl1, t1, d1, v0, v1, _⟩ := r_take hd (show (0 : Int) < 30 by decide) [.lst (ds hl)]
    have w0 := Int.emod_nonneg v (show (hl.length : Int) ≠ 0 by omega)
    have w1 := Int.emod_lt_of_pos v (show 0 < (hl.length : Int) by omega)
    obtain ⟨x, xm, ex⟩ := at_ds w0 w1
    have ix : vIx (.ref 1) (.d (.int (v % (hl.length : Int)))) [.lst (ds dl1), .lst (ds hl)] = some (.d (.int x), [.lst (ds dl1), .lst (ds hl)]) := by
      show (match atD (ds hl) (v % (hl.length : Int)) with | some x => some (AV.d x, _) | none => none) = _
      rw [ex]
    have ln : vLen [.ref 1] [.lst (ds dl1), .lst (ds hl)] = some (.d (.int hl.length), [.lst (ds dl1), .lst (ds hl)]) := by
      show some (AV.d (.int ((ds hl).length : Nat)), _) = _
      rw [ds_len]
    obtain ⟨dl', xs, h1, h2, h3, h4⟩ := some_lc a b c e f h i k n hl hne hb os dl1 (acc ++ [x]) d1 (by simp; omega)
    refine ⟨dl', x :: xs, ?_, h2, fun z hz => ?_, by simp [h4]⟩
    · unfold lcGo
      have md : bMod (.d (.int v)) (.d (.int (hl.length : Nat))) [.lst (ds dl1), .lst (ds hl)] = some (.d (.int (v % (hl.length : Int))), [.lst (ds dl1), .lst (ds hl)]) := mod_i (by omega)
      simp only [bind_nm, x_Bin, x_C, x_Call, x_arity, x_CallV, x_lCons, x_lNil, bindL_ok, lbind_ok, lcons_ok, List.length_cons, List.length_nil, dVar, List.set_cons_succ, List.set_cons_zero, List.getElem?_cons_succ, List.getElem?_cons_zero, bind_ok, fz_d, fz_ref, lift_some, t1, ln, md, ix, frzD, hc, if_true]
      rw [show ds acc ++ [PyData.int x] = ds (acc ++ [x]) by rw [← ds_app]; rfl, h1]
      simp
    · rcases List.mem_cons.mp hz with rfl | hz
      · exact xm
      · exact h3 z hz
theorem cut1 (n : Int) (r : List Int) : Den.cutD (ds (n :: r)) none (some 1) = ds [n] := by
  have h1 : HT.sIx (ds (n :: r)).length 0 none = 0 := rfl
  have h2 : HT.sIx (ds (n :: r)).length (ds (n :: r)).length (some 1) = 1 := by
    rw [ds_len, List.length_cons]
    simp [HT.sIx]
  unfold Den.cutD
  rw [h1, h2]
  rfl
theorem r_fence_ref (dl : List D) (n : Int) (r : List Int) : den_fence_of [.ref 1] [.lst dl, .lst (ds (n :: r))] = .ok (.d (L3 (n :: r))) [.lst dl, .froz (ds (n :: r))] := by
  obtain ⟨x', y', h⟩ := chk_loop (n :: r) 0 (.ref 1) none none [.lst dl, .froz (ds (n :: r))]
  have e : den_check_integers [.ref 1] [.lst dl, .lst (ds (n :: r))] = .ok (.d (.tuple (ds (n :: r)))) [.lst dl, .froz (ds (n :: r))] := by
    unfold den_check_integers c_check_integers
    rw [den_of]
    have hn2 : ¬ ds (n :: r) = [] := fun z => by cases z
    have ln : vLen [.ref 1] [.lst dl, .lst (ds (n :: r))] = some (.d (.int (ds (n :: r)).length), [.lst dl, .lst (ds (n :: r))]) := rfl
    have is1 : vIsi ["tuple", "list"] (.ref 1) [.lst dl, .lst (ds (n :: r))] = some (.d (.bool true), [.lst dl, .lst (ds (n :: r))]) := by simp [vIsi, tyName, kitS]
    have fe : fEnumS [.ref 1] [.lst dl, .lst (ds (n :: r))] = some (enumL (ds (n :: r)) 0, [.lst dl, .froz (ds (n :: r))]) := rfl
    have vt : vTuple [.ref 1] [.lst dl, .froz (ds (n :: r))] = some (.d (.tuple (ds (n :: r))), [.lst dl, .froz (ds (n :: r))]) := rfl
    generalize hl : ds (n :: r) = l at *
    simp [dVar, is1, ln, hn2, fe, h, vt]
  unfold den_fence_of c_fence_of
  rw [den_of]
  simp [dVar, e, r_plain]
end K72
namespace K72
open PySem PySem.Spec PyProof.Rows L2 Den
def hasB : Sn := (sSeq (sIf (dNot (dTru (dCall (arity 2 den_law_yes) (lCons (dCall (arity 2 den_has_number) (lCons (dVar 5) (lCons (dBin bAdd (dBin bMul (dVar 8) (dVar 1)) (dVar 2)) lNil))) (lCons (dBin (cop .In) (dVar 8) (dVar 4)) lNil)))))
    (sRet (dC (.bool false)))
    sSkip)
    (sIf (dAnd (dBin (cop .Gt) (dVar 1) (dC (.int 1))) (dBin (cop .IsNot) (dCall (arity 2 den_has_number) (lCons (dVar 5) (lCons (dBin bAdd (dBin bAdd (dBin bMul (dVar 8) (dVar 1)) (dVar 2)) (dC (.int 1))) lNil))) (dC (.bool false))))
    (sRet (dC (.bool false)))
    sSkip))
theorem has_loop {a b c y m : Int} (h1 : Sm a b c) (hy : 0 < y) (by_ : B 110 y) {l1 : List Int} (i1 : ∀ x, x ∈ l1 ↔ inF a b c x) (s0 s3 s6 s7 s9 s10 s11 : Option AV) (S : AS) : ∀ (vs : List Int) (x : Option AV), (∀ v ∈ vs, -1000 ≤ v ∧ v ≤ 1000) → ∃ x', forGo (.nm 8) hasB (ds vs)
    [s0, some (.d (.int y)), some (.d (.int m)), s3, some (.d (.list (ds l1))), some (.d (tri (a * y + m) (b * y + m) (c * y))), s6, s7, x, s9, s10, s11] S =
    .nx [s0, some (.d (.int y)), some (.d (.int m)), s3, some (.d (.list (ds l1))), some (.d (tri (a * y + m) (b * y + m) (c * y))), s6, s7, x', s9, s10, s11] S
  | [], x, _ => ⟨x, rfl⟩
  | v :: vs, x, hb => by
    obtain ⟨x', h⟩ := has_loop h1 hy by_ i1 s0 s3 s6 s7 s9 s10 s11 S vs (some (.d (.int v))) fun z hz => hb z (List.mem_cons_of_mem _ hz)
    refine ⟨x', ?_⟩
    have f1 := h1.f.scale hy m
    have hv := hb v List.mem_cons_self
    have g : v.natAbs.log2 + y.natAbs.log2 < 100000000 := B.g (n := 10) (m := 110) (by unfold B; omega) by_
    have e1 := r_has (v := v * y + m) f1 (.inl rfl) S
    have e2 := r_has (v := v * y + m + 1) f1 (.inl rfl) S
    have nn := f1.spec.nn
    have q1 : inFb (a * y + m) (b * y + m) (c * y) (v * y + m) = decide (v ∈ l1) := by
      have : inFb (a * y + m) (b * y + m) (c * y) (v * y + m) = true ↔ v ∈ l1 := by
        rw [inFb_iff nn, inF_scale hy, i1]
        constructor
        · rintro ⟨x, hx, e⟩
          rwa [scale_inj hy e]
        · intro hx
          exact ⟨v, hx, rfl⟩
      by_cases q : v ∈ l1
      · rw [decide_eq_true q]
        exact this.mpr q
      · rw [decide_eq_false q]
        exact Bool.eq_false_iff.mpr fun z => q (this.mp z)
    obtain ⟨fa, hfa⟩ : ∃ t, a * y + m = t := ⟨_, rfl⟩
    obtain ⟨fb, hfb⟩ : ∃ t, b * y + m = t := ⟨_, rfl⟩
    obtain ⟨fc, hfc⟩ : ∃ t, c * y = t := ⟨_, rfl⟩
    have q2 : 1 < y → inFb (a * y + m) (b * y + m) (c * y) (v * y + m + 1) = false := fun y1 => by
      refine Bool.eq_false_iff.mpr fun z => ?_
      rw [inFb_iff nn, inF_scale hy] at z
      obtain ⟨x, _, e⟩ := z
      have e2 : (x - v) * y = 1 := by rw [Int.sub_mul]; omega
      have : y ∣ 1 := ⟨x - v, by rw [Int.mul_comm]; exact e2.symm⟩
      have := Int.le_of_dvd (by decide) this
      omega
    rw [hfa, hfb, hfc] at h e1 e2 q1 q2 ⊢
    show forGo _ _ (.int v :: ds vs) _ _ = _
    rw [for_cons]
    have yes := fun q S => r_yes q S
    unfold hasB at h ⊢
    by_cases y1 : 1 < y
    · have q2 := q2 y1
      rw [q2] at e2
      rw [q1] at e1
      generalize hd : decide (v ∈ l1) = w at *
      simp [dVar, mul_i, g, e1, in_ds, hd, yes, y1, e2]
      exact h
    · rw [q1] at e1
      generalize hd : decide (v ∈ l1) = w at *
      simp [dVar, mul_i, g, e1, in_ds, hd, yes, y1]
      exact h
/-! ### the k-fold sums -/
structure KS (a b c k : Int) (s : List Int) : Prop where
  sp : Spec (fun z => z ∈ s) (k * a) (k * b) (if k = 0 then 0 else c)
  bd : ∀ z ∈ s, -100 * k ≤ z ∧ z ≤ 100 * k
def timesB : Sn := (sSeq (sAsg 9 false (dCall (arity 2 den_law_sums) (lCons (dVar 4) (lCons (dVar 9) lNil))))
    (sIf (dNot (dTru (dCall (arity 2 den_law_is) (lCons (dCall (arity 2 den_fence_times) (lCons (dVar 5) (lCons (dVar 10) lNil))) (lCons (dCall (arity 3 den_law_far) (lCons (dCall (arity 1 den_law_least) (lCons (dVar 9) lNil)) (lCons (dVar 1) (lCons (dBin bMul (dVar 10) (dVar 2)) lNil)))) lNil)))))
    (sRet (dC (.bool false)))
    sSkip))
theorem times_step {a b c y m k : Int} (h1 : Sm a b c) (hy : 0 < y) (by_ : B 110 y) (bm : B 130 m) {l1 s : List Int} (i1 : ∀ x, x ∈ l1 ↔ inF a b c x) (ln : l1.length ≤ 8) (hk0 : 0 ≤ k) (hk : k ≤ 3) (hs : KS a b c k s) (sl : s.length ≤ 1000) (s0 s3 s6 s7 s8 x10 s11 : Option AV) (S : AS) (rest : List D) : ∃ s', KS a b c (k + 1) s' ∧ s'.length ≤ 8 * s.length ∧ forGo (.nm 10) timesB (.int (k + 1) :: rest)
    [s0, some (.d (.int y)), some (.d (.int m)), s3, some (.d (.list (ds l1))), some (.d (tri (a * y + m) (b * y + m) (c * y))), s6, s7, s8, some (.d (.list (ds s))), x10, s11] S =
    forGo (.nm 10) timesB rest [s0, some (.d (.int y)), some (.d (.int m)), s3, some (.d (.list (ds l1))), some (.d (tri (a * y + m) (b * y + m) (c * y))), s6, s7, s8, some (.d (.list (ds s'))), some (.d (.int (k + 1))), s11] S := by
  obtain ⟨s', e1, i2, l2⟩ := r_sums (vs := l1) (os := s) (Nat.le_trans (Nat.mul_le_mul ln sl) (by decide)) S
  have bd' : ∀ z ∈ s', -100 * (k + 1) ≤ z ∧ z ≤ 100 * (k + 1) := fun z hz => by
    obtain ⟨v, o, hv, ho, rfl⟩ := (i2 z).mp hz
    have hv := (i1 v).mp hv
    have h2 := h1.f.spec.al v hv
    have := hs.bd o ho
    have := h1.lo
    have := h1.hi
    omega
  have sp' : Spec (fun z => z ∈ s') ((k + 1) * a) ((k + 1) * b) c := by
    have q := (Spec.sum h1.f.spec hs.sp).congr (P' := fun z => z ∈ s') fun z => by
      rw [i2]
      constructor
      · rintro ⟨x, y, hx, hy, rfl⟩
        exact ⟨x, y, (i1 x).mpr hx, hy, rfl⟩
      · rintro ⟨x, y, hx, hy, rfl⟩
        exact ⟨x, y, (i1 x).mp hx, hy, rfl⟩
    have ea : a + k * a = (k + 1) * a := by rw [Int.add_mul]; omega
    have eb : b + k * b = (k + 1) * b := by rw [Int.add_mul]; omega
    have ec : ((Int.gcd c (if k = 0 then 0 else c) : Nat) : Int) = c := by
      have := h1.f.spec.nn
      split
      · rw [Int.gcd_zero_right]
        omega
      · rw [Int.gcd_self]
        omega
    rwa [ea, eb, ec] at q
  have hs' : KS a b c (k + 1) s' := ⟨by rw [if_neg (by omega)]; exact sp', bd'⟩
  refine ⟨s', hs', Nat.le_trans l2 (Nat.mul_le_mul_right _ ln), ?_⟩
  obtain ⟨x5, e5, o5⟩ := r_least (l := s') (fun z hz => by have := bd' z hz; omega) S
  have x5n : x5 ≠ .none := by
    rintro rfl
    rcases o5 with ⟨_, o5⟩ | ⟨_, _, _, e, _⟩
    · exact o5 _ sp'.lo
    · cases e
  obtain ⟨d5, e5', d5n, od⟩ := r_far_out (m := (k + 1) * m) o5 x5n (fun z hz => by have := bd' z hz; omega) hy by_ S
  have f1 := h1.f.scale hy m
  have a1 := h1.all (inF_lo h1.f)
  have a2 := h1.all (inF_hi h1.f)
  have bk : B 10 (k + 1) := by unfold B; omega
  have tt := r_times (k := k + 1) f1 (.inl rfl) (by omega) (bk.g (B_far a1.1 a1.2 by_ bm)) (bk.g (B_far a2.1 a2.2 by_ bm)) S
  have g2 : ∀ S, bMul (.d (.int (k + 1))) (.d (.int m)) S = some (.d (.int ((k + 1) * m)), S) := fun S => mul_i (bk.g bm)
  have sc := sp'.scale hy ((k + 1) * m)
  have ea : (k + 1) * a * y + (k + 1) * m = (k + 1) * (a * y + m) := by rw [Int.mul_add, Int.mul_assoc]
  have eb : (k + 1) * b * y + (k + 1) * m = (k + 1) * (b * y + m) := by rw [Int.mul_add, Int.mul_assoc]
  rw [ea, eb] at sc
  have t1 := r_is (.inr ⟨_, _, _, rfl, sc⟩) od S
  obtain ⟨k1, hk1⟩ : ∃ t, k + 1 = t := ⟨_, rfl⟩
  obtain ⟨fa, hfa⟩ : ∃ t, a * y + m = t := ⟨_, rfl⟩
  obtain ⟨fb, hfb⟩ : ∃ t, b * y + m = t := ⟨_, rfl⟩
  obtain ⟨fc, hfc⟩ : ∃ t, c * y = t := ⟨_, rfl⟩
  rw [hk1] at g2 e5' tt t1 ⊢
  rw [hfa, hfb, hfc] at tt t1 ⊢
  rw [for_cons]
  unfold timesB
  simp [dVar, e1, tt, e5, e5', g2, t1]
end K72
namespace K72
open PySem PySem.Spec PyProof.Rows L2 Den
theorem sl_0 (ca ch : Dn) (σ : ASt) (S : AS) : dSl ca none (some ch) σ S = (ca σ S).bind fun a S1 => (ch σ S1).bind fun b S2 => match b with | .d (.int i) => liftV (vSl a none (some i) S2) | _ => .stuck := rfl
theorem rng_ds (lo : Int) (n : Nat) : rngL lo n 1 = ds ((List.range n).map fun i => lo + (i : Nat) * 1) := by
  unfold rngL ds
  rw [List.map_map]
  rfl
theorem KS.zero (a b c : Int) : KS a b c 0 [0] := ⟨⟨by simp, by simp, fun x hx => by
    have : x = 0 := by simpa using hx
    subst this
    simp, by simp, fun d _ => by simp⟩, fun z hz => by
    have : z = 0 := by simpa using hz
    subst this
    simp⟩
theorem r_one {a b c y m : Int} (h1 : Sm a b c) (h7 : b - a ≤ 7 * c) (hy : 0 < y) (by_ : B 110 y) (bm : B 130 m) {dl : List Int} (hd : Dr dl) :
    ∃ dl', den_law_one_right [.d (tri a b c), .d (.int y), .d (.int m), .ref 0] [.lst (ds dl)] = .ok (.d (.bool true)) [.lst (ds dl')] ∧ Dr dl' := by
  obtain ⟨l1, e1, i1, n1, _⟩ := r_numbers h1 [.lst (ds dl)]
  have c0 := h1.f.spec.nn
  have ln : l1.length ≤ 8 := by
    by_cases z : c = 0
    · rw [if_pos z] at n1
      omega
    · rw [if_neg z] at n1
      have : (b - a) / c ≤ 7 := Int.ediv_le_of_le_mul (by omega) h7
      omega
  have inl : ∀ v ∈ l1, -1000 ≤ v ∧ v ≤ 1000 := fun v hv => h1.all ((i1 v).mp hv)
  have g : ∀ v : Int, -1000 ≤ v → v ≤ 1000 → v.natAbs.log2 + y.natAbs.log2 < 100000000 := fun v u1 u2 => B.g (n := 10) (m := 110) (by unfold B; omega) by_
  have a1 := h1.all (inF_lo h1.f)
  have a2 := h1.all (inF_hi h1.f)
  have e2 := r_far (a := a) (b := b) (c := c) (y := y) (m := m) [.lst (ds dl)] (g a a1.1 a1.2) (g b a2.1 a2.2) (g c (by omega) (by have := h1.st; omega))
  have f1 := h1.f.scale hy m
  have o1 : ∀ {z}, inF (a * y + m) (b * y + m) (c * y) z ↔ ∃ x, inF a b c x ∧ z = x * y + m := inF_scale hy
  -- handed
  have e3 := hand_lc (some (.d (tri a b c))) (some (.ref 0)) (some (.d (.list (ds l1)))) (some (.d (tri (a * y + m) (b * y + m) (c * y)))) none none none none none y m [.lst (ds dl)] l1 [] (by simp; omega) fun v hv => g v (inl v hv).1 (inl v hv).2
  have e3 : lcGo (.nm 8) (dC (.bool true)) (dBin bAdd (dBin bMul (dVar 8) (dVar 1)) (dVar 2)) [some (.d (tri a b c)), some (.d (.int y)), some (.d (.int m)), some (.ref 0), some (.d (.list (ds l1))), some (.d (tri (a * y + m) (b * y + m) (c * y))), none, none, none, none, none, none] (ds l1) [.lst (ds dl)] [] = .ok (.own (ds (farL y m l1))) [.lst (ds dl)] := e3
  have memh : ∀ z, z ∈ farL y m l1 ↔ inF (a * y + m) (b * y + m) (c * y) z := fun z => by
    rw [o1]
    unfold farL
    rw [List.mem_map]
    constructor
    · rintro ⟨v, hv, rfl⟩
      exact ⟨v, (i1 v).mp hv, rfl⟩
    · rintro ⟨v, hv, rfl⟩
      exact ⟨v, (i1 v).mpr hv, rfl⟩
  have lenh : (farL y m l1).length = l1.length := by unfold farL; rw [List.length_map]
  obtain ⟨hl, hhl⟩ : ∃ hl, farL y m l1 = hl := ⟨_, rfl⟩
  rw [hhl] at e3 memh lenh
  have smh : ∀ z ∈ hl, -2 ^ 138 ≤ z ∧ z ≤ 2 ^ 138 := fun z hz => by
    obtain ⟨v, hv, rfl⟩ := o1.mp ((memh z).mp hz)
    have u := h1.all hv
    have b1 : B 10 v := by unfold B; omega
    have b2 : B 131 (v * y + m) := ((b1.mul by_).mono (by decide : 10 + 110 ≤ 130)).add bm
    unfold B at b2
    omega
  have hne : hl ≠ [] := fun z => by
    have := (memh (a * y + m)).mpr (inF_lo f1)
    rw [z] at this
    cases this
  -- some
  obtain ⟨dl1, xs, e4, d1, xm, xl⟩ := some_lc (some (.d (tri a b c))) (some (.d (.int y))) (some (.d (.int m))) (some (.d (.list (ds l1)))) (some (.d (tri (a * y + m) (b * y + m) (c * y)))) none none none none hl (List.length_pos_iff.mpr hne) (by omega) [.int 0, .int 1, .int 2] dl [] hd (by decide)
  rw [List.nil_append] at e4
  have e4 : lcGo (.nm 11) (dC (.bool true)) (dBin vIx (dVar 6) (dBin bMod (dCall (arity 2 den_law_take) (lCons (dVar 3) (lCons (dC (.int 30)) lNil))) (dCallV vLen (lCons (dVar 6) lNil)))) [some (.d (tri a b c)), some (.d (.int y)), some (.d (.int m)), some (.ref 0), some (.d (.list (ds l1))), some (.d (tri (a * y + m) (b * y + m) (c * y))), some (.ref 1), none, none, none, none, none] [.int 0, .int 1, .int 2] [.lst (ds dl), .lst (ds hl)] [] = .ok (.own (ds xs)) [.lst (ds dl1), .lst (ds hl)] := e4
  obtain ⟨n, r, hnr⟩ : ∃ n r, hl = n :: r := by
    cases hl with
    | nil => exact absurd rfl hne
    | cons n r => exact ⟨n, r, rfl⟩
  have sl1 : ∀ D1, vSl (.ref 1) none (some 1) [.lst D1, .lst (ds hl)] = some (.own (ds [n]), [.lst D1, .lst (ds hl)]) := fun D1 => by
    show some (AV.own (Den.cutD (ds hl) none (some 1)), _) = _
    rw [hnr, cut1]
  have ct1 : ∀ S, bAdd (.d (.list (ds [n]))) (.d (.list (ds xs))) S = some (.own (ds (n :: xs)), S) := fun S => by
    show (if (ds [n]).length + (ds xs).length ≤ cap then some (AV.own (ds [n] ++ ds xs), S) else none) = _
    rw [if_pos (by rw [ds_len, ds_len, xl]; show 1 + 3 ≤ 1000000; decide), ds_app]
    rfl
  have ct2 : ∀ D1, bAdd (.ref 1) (.d (.list (ds (n :: xs)))) [.lst D1, .lst (ds hl)] = some (.own (ds (n :: (r ++ n :: xs))), [.lst D1, .lst (ds hl)]) := fun D1 => by
    show (if (ds hl).length + (ds (n :: xs)).length ≤ cap then some (AV.own (ds hl ++ ds (n :: xs)), _) else none) = _
    rw [if_pos (by rw [ds_len, ds_len, List.length_cons, xl]; show _ ≤ 1000000; simp; omega), ds_app, hnr]
    rfl
  have fo1 := fun S => r_fence_of true n (r ++ n :: xs) S
  have fo2 := fun S => r_fence_of false n xs S
  simp only [if_true, Bool.false_eq_true, if_false] at fo1 fo2
  have nm : n ∈ hl := by rw [hnr]; exact List.mem_cons_self
  have of1 := (L3_spec (l := n :: (r ++ n :: xs)) (fun z => by cases z)).congr (P' := inF (a * y + m) (b * y + m) (c * y)) fun z => by
    rw [← memh]
    constructor
    · intro hz
      have : z ∈ hl ∨ z ∈ n :: xs := by
        rw [hnr]
        rw [show n :: (r ++ n :: xs) = (n :: r) ++ (n :: xs) from rfl] at hz
        exact List.mem_append.mp hz
      rcases this with q | q
      · exact q
      · rcases List.mem_cons.mp q with rfl | q
        · exact nm
        · exact xm z q
    · intro hz
      rw [show n :: (r ++ n :: xs) = (n :: r) ++ (n :: xs) from rfl, ← hnr]
      exact List.mem_append_left _ hz
  have t1 := fun S => r_is of1 (.inr ⟨_, _, _, rfl, f1.spec⟩) S
  have of2 := L3_spec (l := n :: xs) (fun z => by cases z)
  obtain ⟨x6, e6, o6⟩ := r_least (l := n :: xs) (fun z hz => by
    rcases List.mem_cons.mp hz with rfl | q
    · exact smh _ nm
    · exact smh _ (xm z q)) [.lst (ds dl1), .lst (ds hl)]
  have t2 := fun S => r_is of2 o6 S
  -- reversed
  obtain ⟨n', r', hnr'⟩ : ∃ n' r', hl.reverse = n' :: r' := by
    cases e : hl.reverse with
    | nil => exact absurd (List.reverse_eq_nil_iff.mp e) hne
    | cons n r => exact ⟨n, r, rfl⟩
  have rv : ∀ D1, mReverse (.ref 1) [] [.lst D1, .lst (ds hl)] = some (.d .none, [.lst D1, .lst (ds (n' :: r'))]) := fun D1 => by
    show some (AV.d .none, [AO.lst D1, AO.lst (ds hl).reverse]) = _
    rw [← hnr']
    unfold ds
    rw [List.map_reverse]
  have il : ∀ D1, isL [.lst D1, .lst (ds hl)] (.ref 1) = true := fun D1 => rfl
  have fo3 := r_fence_ref (ds dl1) n' r'
  have of3 := (L3_spec (l := n' :: r') (fun z => by cases z)).congr (P' := inF (a * y + m) (b * y + m) (c * y)) fun z => by
    rw [← memh, ← hnr', List.mem_reverse]
  have t3 := fun S => r_is of3 (.inr ⟨_, _, _, rfl, f1.spec⟩) S
  -- the size
  have sz := fun S => r_size f1 (x := .list [.int (a * y + m), .int (b * y + m), .int (c * y)]) (.inr rfl) (Nat.lt_of_le_of_lt (B_st c0 (by have := h1.st; omega) by_).log (by decide)) S
  have szl : (if c * y = 0 then (1 : Int) else (b * y + m - (a * y + m)) / (c * y) + 1) = l1.length := by
    rw [n1]
    by_cases z : c = 0
    · rw [if_pos z, if_pos (by rw [z, Int.zero_mul])]
    · have cy : c * y ≠ 0 := fun e => by
        rcases Int.mul_eq_zero.mp e with q | q <;> omega
      rw [if_neg z, if_neg cy]
      rcases h1.f with ⟨q, _⟩ | ⟨cp, ab, q, hq⟩
      · exact absurd q z
      · have e : b * y + m - (a * y + m) = c * y * q := by
          have : (b - a) * y = c * q * y := by rw [hq]
          rw [Int.sub_mul] at this
          rw [Int.mul_assoc, Int.mul_comm y q, ← Int.mul_assoc]
          omega
        rw [e, hq, Int.mul_ediv_cancel_left _ cy, Int.mul_ediv_cancel_left _ z]
  rw [szl] at sz
  have t4 := fun S => r_is_int' (l1.length : Int) S
  -- each number around
  have rg : ∀ S, fRng2 [.d (.int (a - 3)), .d (.int (b + 4))] S = some (ds ((List.range (b + 4 - (a - 3)).toNat).map fun i => a - 3 + (i : Nat) * 1), S) := fun S => by
    show (if (-big62 ≤ a - 3 ∧ a - 3 < big62) ∧ (-big62 ≤ b + 4 ∧ b + 4 < big62) then some (rngL (a - 3) (b + 4 - (a - 3)).toNat 1, S) else none) = _
    rw [if_pos (by unfold big62; omega), rng_ds]
  obtain ⟨vs, hvs⟩ : ∃ vs, ((List.range (b + 4 - (a - 3)).toNat).map fun i => a - 3 + (i : Nat) * 1) = vs := ⟨_, rfl⟩
  have vsb : ∀ v ∈ vs, -1000 ≤ v ∧ v ≤ 1000 := fun v hv => by
    rw [← hvs] at hv
    obtain ⟨i, hi, rfl⟩ := List.mem_map.mp hv
    have := List.mem_range.mp hi
    have := h1.lo
    have := h1.hi
    omega
  rw [hvs] at rg
  obtain ⟨x8, e8⟩ := has_loop h1 hy by_ (m := m) i1 (some (.d (tri a b c))) (some (.ref 0)) (some (.ref 1)) (some (.d (.list (ds (n :: xs))))) none none none [.lst (ds dl1), .froz (ds (n' :: r'))] vs none vsb
  -- the sums
  have w1 : ∀ S, vLstD [.d (.int 0)] S = some (.own (ds [0]), S) := fun S => rfl
  have rg2 : ∀ S, fRng2 [.d (.int 1), .d (.int 5)] S = some ([.int 1, .int 2, .int 3, .int 4], S) := fun S => rfl
  obtain ⟨s1, k1, q1, p1⟩ := times_step h1 hy by_ bm i1 ln (k := 0) (by decide) (by decide) (KS.zero a b c) (by decide) (some (.d (tri a b c))) (some (.ref 0)) (some (.ref 1)) (some (.d (.list (ds (n :: xs))))) x8 none none [.lst (ds dl1), .froz (ds (n' :: r'))] [.int 2, .int 3, .int 4]
  obtain ⟨s2, k2, q2, p2⟩ := times_step h1 hy by_ bm i1 ln (k := 0 + 1) (by decide) (by decide) k1 (by simp at q1; omega) (some (.d (tri a b c))) (some (.ref 0)) (some (.ref 1)) (some (.d (.list (ds (n :: xs))))) x8 (some (.d (.int (0 + 1)))) none [.lst (ds dl1), .froz (ds (n' :: r'))] [.int 3, .int 4]
  obtain ⟨s3, k3, q3, p3⟩ := times_step h1 hy by_ bm i1 ln (k := 0 + 1 + 1) (by decide) (by decide) k2 (by simp at q1; omega) (some (.d (tri a b c))) (some (.ref 0)) (some (.ref 1)) (some (.d (.list (ds (n :: xs))))) x8 (some (.d (.int (0 + 1 + 1)))) none [.lst (ds dl1), .froz (ds (n' :: r'))] [.int 4]
  obtain ⟨s4, k4, q4, p4⟩ := times_step h1 hy by_ bm i1 ln (k := 0 + 1 + 1 + 1) (by decide) (by decide) k3 (by simp at q1; omega) (some (.d (tri a b c))) (some (.ref 0)) (some (.ref 1)) (some (.d (.list (ds (n :: xs))))) x8 (some (.d (.int (0 + 1 + 1 + 1)))) none [.lst (ds dl1), .froz (ds (n' :: r'))] []
  have p : forGo (.nm 10) timesB [.int 1, .int 2, .int 3, .int 4] [some (.d (tri a b c)), some (.d (.int y)), some (.d (.int m)), some (.ref 0), some (.d (.list (ds l1))), some (.d (tri (a * y + m) (b * y + m) (c * y))), some (.ref 1), some (.d (.list (ds (n :: xs)))), x8, some (.d (.list (ds [0]))), none, none] [.lst (ds dl1), .froz (ds (n' :: r'))] =
      .nx [some (.d (tri a b c)), some (.d (.int y)), some (.d (.int m)), some (.ref 0), some (.d (.list (ds l1))), some (.d (tri (a * y + m) (b * y + m) (c * y))), some (.ref 1), some (.d (.list (ds (n :: xs)))), x8, some (.d (.list (ds s4))), some (.d (.int (0 + 1 + 1 + 1 + 1))), none] [.lst (ds dl1), .froz (ds (n' :: r'))] :=
    (p1.trans (p2.trans (p3.trans p4))).trans rfl
  -- the last
  obtain ⟨v9, dl2, e9, d2, v0, _, v30⟩ := r_take d1 (show (0 : Int) < 30 by decide) [.froz (ds (n' :: r'))]
  have pw : ∀ S, bPow (.d (.int 10)) (.d (.int 20)) S = some (.d (.int 100000000000000000000), S) := fun S => by rfl
  have bk : B 100 (100000000000000000000 + v9) := by unfold B; omega
  have bfa := B_far a1.1 a1.2 by_ bm
  have bfb := B_far a2.1 a2.2 by_ bm
  have tt := fun S => r_times (k := 100000000000000000000 + v9) f1 (.inl rfl) (by omega) (bk.g bfa) (bk.g bfb) S
  have m1 := fun S => mul_i (S := S) (bk.g bfa)
  have m2 := fun S => mul_i (S := S) (bk.g bfb)
  obtain ⟨fa, hfa⟩ : ∃ t, a * y + m = t := ⟨_, rfl⟩
  obtain ⟨fb, hfb⟩ : ∃ t, b * y + m = t := ⟨_, rfl⟩
  obtain ⟨fc, hfc⟩ : ∃ t, c * y = t := ⟨_, rfl⟩
  obtain ⟨kk, hkk⟩ : ∃ t, 100000000000000000000 + v9 = t := ⟨_, rfl⟩
  rw [hfa, hfb, hfc] at e2 e3 e4 t1 t3 sz e8 p
  rw [hfa, hkk] at m1
  rw [hfb, hkk] at m2
  rw [hfa, hfb, hfc, hkk] at tt
  refine ⟨dl2, ?_, d2⟩
  have fr3 : ∀ S, fRng1 [.d (.int 3)] S = some ([.int 0, .int 1, .int 2], S) := fun S => rfl
  unfold den_law_one_right c_law_one_right
  unfold hasB at e8
  unfold timesB at p
  rw [den_of]
  simp [dVar, e1, e2, dLc, iSeq, frzD, wipeA, e3, sl_0, sl1, fr3, e4, ct1, ct2, fo1, fo2, t1, e6, t2, il, rv, fo3, t3, sz, t4, rg, e8, w1, rg2, p, pw, e9, hkk, tt, m1, m2, r_is_tri]
end K72
namespace K72
open PySem PySem.Spec PyProof.Rows L2 Den
theorem cnt_lc (b c : Option AV) (far : Int) (hf : 1 ≤ far) (hf2 : far ≤ 1000000000100) : ∀ (its : List D) (dl acc : List Int), Dr dl → acc.length + its.length ≤ 1000000 → ∃ (dl' xs : List Int),
    lcGo (.nm 16) (dC (.bool true)) (dBin bMul (dBin bAdd (dC (.int 1)) (dCall (arity 2 den_law_take) (lCons (dVar 0) (lCons (dC (.int 30)) lNil)))) (dBin vIx (dCallV vLstD (lCons (dC (.int 1)) (lCons (dVar 1) (lCons (dC (.int 1)) (lCons (dC (.int 10)) lNil))))) (dCall (arity 2 den_law_take) (lCons (dVar 0) (lCons (dC (.int 4)) lNil)))))
      [some (.ref 0), some (.d (.int far)), b, c, none, none, none, none, none, none, none, none, none, none, none, none, none] its [.lst (ds dl)] (ds acc) = .ok (.own (ds (acc ++ xs))) [.lst (ds dl')] ∧ Dr dl' ∧ (∀ x ∈ xs, 1 ≤ x ∧ x ≤ 31000000003100) ∧ xs.length = its.length
  | [], dl, acc, hd, _ => ⟨dl, [], by show ER.ok (.own (ds acc)) _ = _; simp, hd, (fun x hx => (by cases hx)), rfl⟩
  | o :: os, dl, acc, hd, hk => by
    have hk : acc.length + (os.length + 1) ≤ 1000000 := hk
    have hc : (ds acc).length < cap := by rw [ds_len]; show acc.length < 1000000; omega
    obtain ⟨v, dl1, t1, d1, v0, v1, _⟩ := r_take hd (show (0 : Int) < 30 by decide) []
    obtain ⟨u, dl2, t2, d2, u0, u1, _⟩ := r_take d1 (show (0 : Int) < 4 by decide) []
    obtain ⟨x, xm, ex⟩ := at_ds (l := [1, far, 1, 10]) u0 u1
    have xb : 1 ≤ x ∧ x ≤ 1000000000100 := by
      simp at xm
      omega
    have w1 : ∀ S, vLstD [.d (.int 1), .d (.int far), .d (.int 1), .d (.int 10)] S = some (.own (ds [1, far, 1, 10]), S) := fun S => rfl
    have g := fun S => mul_i (S := S) (B.g (x := 1 + v) (y := x) (n := 10) (m := 50) (by unfold B; omega) (by unfold B; omega))
    have pb : (1 + v) * x ≤ 31 * 1000000000100 := Int.mul_le_mul (by omega) xb.2 (by omega) (by decide)
    have pb2 : 1 * x ≤ (1 + v) * x := Int.mul_le_mul_of_nonneg_right (by omega) (by omega)
    obtain ⟨dl', xs, h1, h2, h3, h4⟩ := cnt_lc b c far hf hf2 os dl2 (acc ++ [(1 + v) * x]) d2 (by simp; omega)
    refine ⟨dl', (1 + v) * x :: xs, ?_, h2, fun z hz => ?_, by simp [h4]⟩
    · unfold lcGo
      simp only [bind_nm, x_Bin, x_C, x_Call, x_arity, x_CallV, x_lCons, x_lNil, bindL_ok, lbind_ok, lcons_ok, List.length_cons, List.length_nil, dVar, List.set_cons_succ, List.set_cons_zero, List.getElem?_cons_succ, List.getElem?_cons_zero, bind_ok, fz_d, fz_ref, fz_own, lift_some, add_i, t1, t2, w1, ix_l, ex, g, frzD, hc, if_true]
      rw [show ds acc ++ [PyData.int ((1 + v) * x)] = ds (acc ++ [(1 + v) * x]) by rw [← ds_app]; rfl, h1]
      simp
    · rcases List.mem_cons.mp hz with rfl | hz
      · omega
      · exact h3 z hz
/-- two fences through one middle -/
theorem middle_out {M s0 s1 k0 k1 k2 k3 w : Int} (p0 : 0 < s0) (p1 : 0 < s1) (q0 : 1 ≤ k0) (q1 : 1 ≤ k1) (q2 : 1 ≤ k2) (q3 : 1 ≤ k3) (hw : w = (Int.lcm s0 s1 : Nat)) {lo hi : Int}
    (hlo : lo = (if k2 * s1 < k0 * s0 then k2 * s1 else k0 * s0) / w) (hhi : hi = (if k3 * s1 < k1 * s0 then k3 * s1 else k1 * s0) / w) :
    Spec (fun z => inF (M - k0 * s0) (M + k1 * s0) s0 z ∧ inF (M - k2 * s1) (M + k3 * s1) s1 z) (M - lo * w) (M + hi * w) (if lo + hi = 0 then 0 else w) ∧ 0 ≤ lo ∧ 0 ≤ hi := by
  have w0 : 0 < w := by rw [hw]; exact lcm_pos' p0 p1
  have m0 := mul_mono p0 q0
  have m1 := mul_mono p0 q1
  have m2 := mul_mono p1 q2
  have m3 := mul_mono p1 q3
  obtain ⟨A, hA⟩ : ∃ A, (if k2 * s1 < k0 * s0 then k2 * s1 else k0 * s0) = A := ⟨_, rfl⟩
  obtain ⟨C, hC⟩ : ∃ C, (if k3 * s1 < k1 * s0 then k3 * s1 else k1 * s0) = C := ⟨_, rfl⟩
  rw [hA] at hlo
  rw [hC] at hhi
  have A0 : 0 < A := by rw [← hA]; split <;> omega
  have C0 : 0 < C := by rw [← hC]; split <;> omega
  have l0 : 0 ≤ lo := by rw [hlo]; exact Int.ediv_nonneg (by omega) (by omega)
  have h0 : 0 ≤ hi := by rw [hhi]; exact Int.ediv_nonneg (by omega) (by omega)
  have fl := floor_bounds (x := A) w0
  have fh := floor_bounds (x := C) w0
  rw [← hlo] at fl
  rw [← hhi] at fh
  have key : ∀ z, (inF (M - k0 * s0) (M + k1 * s0) s0 z ∧ inF (M - k2 * s1) (M + k3 * s1) s1 z) ↔ M - A ≤ z ∧ z ≤ M + C ∧ w ∣ z - M := fun z => by
    have e := both_iff (l1 := M - k0 * s0) (h1 := M + k1 * s0) (l2 := M - k2 * s1) (h2 := M + k3 * s1) (t := M) (x := z) p0 p1 ⟨k0, by rw [Int.mul_comm]; omega⟩ ⟨k2, by rw [Int.mul_comm]; omega⟩
    rw [e, ← hw]
    have e1 : low2 (M - k0 * s0) (M - k2 * s1) = M - A := by
      unfold low2
      rw [← hA]
      split <;> split <;> omega
    have e2 : high2 (M + k1 * s0) (M + k3 * s1) = M + C := by
      unfold high2
      rw [← hC]
      split <;> split <;> omega
    rw [e1, e2]
  have nl : 0 ≤ lo * w := Int.mul_nonneg l0 (by omega)
  have nh : 0 ≤ hi * w := Int.mul_nonneg h0 (by omega)
  refine ⟨⟨(key _).mpr ⟨by omega, by omega, -lo, ?_⟩, (key _).mpr ⟨by omega, by omega, hi, ?_⟩, fun z hz => ?_, by split <;> omega, fun d k => ?_⟩, l0, h0⟩
  · rw [Int.mul_neg, Int.mul_comm w lo]
    omega
  · rw [Int.mul_comm w hi]
    omega
  · obtain ⟨z1, z2, q, hq⟩ := (key z).mp hz
    have hq2 : z - M = q * w := by rw [hq, Int.mul_comm]
    have a1 : -lo ≤ q := by
      refine Int.not_lt.mp fun l => ?_
      have := mul_mono w0 (show q ≤ -(lo + 1) by omega)
      rw [Int.neg_mul, Int.add_mul] at this
      omega
    have a2 : q ≤ hi := by
      refine Int.not_lt.mp fun l => ?_
      have := mul_mono w0 (show hi + 1 ≤ q by omega)
      rw [Int.add_mul] at this
      omega
    have b1 := mul_mono w0 a1
    have b2 := mul_mono w0 a2
    rw [Int.neg_mul] at b1
    refine ⟨by omega, by omega, ?_⟩
    split
    · have : lo = 0 := by omega
      subst this
      have : hi = 0 := by omega
      subst this
      have : z = M := by omega
      subst this
      simp
    · refine ⟨q + lo, ?_⟩
      rw [Int.mul_add, ← hq, Int.mul_comm w lo]
      omega
  · split
    · exact Int.dvd_zero d
    · rename_i ne
      have := k (M - lo * w + w) ((key _).mpr ⟨by omega, by
        rcases Int.lt_or_le 0 lo with g | g
        · have := mul_mono w0 (show 1 ≤ lo by omega)
          omega
        · have e : lo = 0 := by omega
          subst e
          have := mul_mono w0 (show 1 ≤ hi by omega)
          omega, 1 - lo, by rw [Int.mul_sub, Int.mul_comm w lo]; omega⟩)
      rwa [show M - lo * w + w - (M - lo * w) = w by omega] at this
end K72
namespace K72
open PySem PySem.Spec PyProof.Rows L2 Den
theorem r_long {far : Int} (hf : 1 ≤ far) (hf2 : far ≤ 1000000000100) {dl : List Int} (hd : Dr dl) : ∃ dl', den_law_long_right [.ref 0, .d (.int far)] [.lst (ds dl)] = .ok (.d (.bool true)) [.lst (ds dl')] ∧ Dr dl' := by
  obtain ⟨v0, d0, t0, dr0, a0, b0, _⟩ := r_take hd (show (0 : Int) < 6 by decide) []
  obtain ⟨by', bym, eby⟩ := at_ds (l := [2, 3, 6, 1000000007, 700000000, 4]) a0 b0
  have byb : 2 ≤ by' ∧ by' ≤ 1000000007 := (by decide : ∀ x ∈ ([2, 3, 6, 1000000007, 700000000, 4] : List Int), 2 ≤ x ∧ x ≤ 1000000007) by' bym
  have w0 : ∀ S, vLstD [.d (.int 2), .d (.int 3), .d (.int 6), .d (.int 1000000007), .d (.int 700000000), .d (.int 4)] S = some (.own (ds [2, 3, 6, 1000000007, 700000000, 4]), S) := fun S => rfl
  obtain ⟨v1, d1, t1, dr1, a1, b1, _⟩ := r_take dr0 (show (0 : Int) < 12 by decide) []
  obtain ⟨v2, d2, t2, dr2, a2, b2, _⟩ := r_take dr1 (show (0 : Int) < 12 by decide) []
  have bb : B 30 by' := by unfold B; omega
  have g1 := fun S => mul_i (S := S) (bb.g (y := 2 + v1) (m := 10) (by unfold B; omega))
  have g2 := fun S => mul_i (S := S) (bb.g (y := 3 + v2) (m := 10) (by unfold B; omega))
  have dv0 : by' ∣ by' * (2 + v1) := Int.dvd_mul_right ..
  have dv1 : by' ∣ by' * (3 + v2) := Int.dvd_mul_right ..
  have p0 : by' * 1 ≤ by' * (2 + v1) := Int.mul_le_mul_of_nonneg_left (by omega) (by omega)
  have p1 : by' * 1 ≤ by' * (3 + v2) := Int.mul_le_mul_of_nonneg_left (by omega) (by omega)
  have q0 : by' * (2 + v1) ≤ 1000000007 * 16 := Int.mul_le_mul byb.2 (by omega) (by omega) (by decide)
  have q1 : by' * (3 + v2) ≤ 1000000007 * 16 := Int.mul_le_mul byb.2 (by omega) (by omega) (by decide)
  obtain ⟨s0, hs0⟩ : ∃ s, by' * (2 + v1) = s := ⟨_, rfl⟩
  obtain ⟨s1, hs1⟩ : ∃ s, by' * (3 + v2) = s := ⟨_, rfl⟩
  rw [hs0] at g1 dv0 p0 q0
  rw [hs1] at g2 dv1 p1 q1
  obtain ⟨d3, xs, e3, dr3, xb, xl⟩ := cnt_lc (some (.d (.int by'))) (some (.d (.list (ds [s0, s1])))) far hf hf2 [.int 0, .int 1, .int 2, .int 3] d2 [] dr2 (by decide)
  obtain ⟨k0, k1, k2, k3, rfl⟩ : ∃ a b c d, xs = [a, b, c, d] := by
    match xs, xl with
    | [a, b, c, d], _ => exact ⟨a, b, c, d, rfl⟩
  rw [List.nil_append] at e3
  have e3 : lcGo (.nm 16) (dC (.bool true)) (dBin bMul (dBin bAdd (dC (.int 1)) (dCall (arity 2 den_law_take) (lCons (dVar 0) (lCons (dC (.int 30)) lNil)))) (dBin vIx (dCallV vLstD (lCons (dC (.int 1)) (lCons (dVar 1) (lCons (dC (.int 1)) (lCons (dC (.int 10)) lNil))))) (dCall (arity 2 den_law_take) (lCons (dVar 0) (lCons (dC (.int 4)) lNil)))))
      [some (.ref 0), some (.d (.int far)), some (.d (.int by')), some (.d (.list [.int s0, .int s1])), none, none, none, none, none, none, none, none, none, none, none, none, none] [.int 0, .int 1, .int 2, .int 3] [.lst (ds d2)] [] = .ok (.own [.int k0, .int k1, .int k2, .int k3]) [.lst (ds d3)] := e3
  have c0 := xb k0 (by simp)
  have c1 := xb k1 (by simp)
  have c2 := xb k2 (by simp)
  have c3 := xb k3 (by simp)
  obtain ⟨v4, d4, t4, dr4, a4, b4, _⟩ := r_take dr3 (show (0 : Int) < 3 by decide) []
  obtain ⟨md, mdm, emd⟩ := at_ds (l := [0, 1000000000000000000000000000000, -10000000000000000000000001]) a4 b4
  have mdb : -10000000000000000000000001 ≤ md ∧ md ≤ 1000000000000000000000000000000 := (by decide : ∀ x ∈ ([0, 1000000000000000000000000000000, -10000000000000000000000001] : List Int), -10000000000000000000000001 ≤ x ∧ x ≤ 1000000000000000000000000000000) md mdm
  have w4 : ∀ S, vLstD [.d (.int 0), .d (.int 1000000000000000000000000000000), .d (.int (-10000000000000000000000001))] S = some (.own (ds [0, 1000000000000000000000000000000, -10000000000000000000000001]), S) := fun S => rfl
  obtain ⟨v5, d5, t5, dr5, a5, b5, _⟩ := r_take dr4 (show (0 : Int) < 30 by decide) []
  obtain ⟨M, hM⟩ : ∃ M, md + v5 = M := ⟨_, rfl⟩
  have MB : B 110 M := by unfold B; omega
  have z0 : 0 < s0 := by omega
  have z1 : 0 < s1 := by omega
  have S0 : B 40 s0 := by unfold B; omega
  have S1 : B 40 s1 := by unfold B; omega
  have K0 : B 50 k0 := by unfold B; omega
  have K1 : B 50 k1 := by unfold B; omega
  have K2 : B 50 k2 := by unfold B; omega
  have K3 : B 50 k3 := by unfold B; omega
  have h0 := fun S => mul_i (S := S) (K0.g S0)
  have h1 := fun S => mul_i (S := S) (K1.g S0)
  have h2 := fun S => mul_i (S := S) (K2.g S1)
  have h3 := fun S => mul_i (S := S) (K3.g S1)
  have n0 := mul_mono z0 c0.1
  have n1 := mul_mono z0 c1.1
  have n2 := mul_mono z1 c2.1
  have n3 := mul_mono z1 c3.1
  -- the fences
  have f1 : Fen (M - k0 * s0) (M + k1 * s0) s0 := .inr ⟨z0, by omega, k0 + k1, by rw [Int.mul_add, Int.mul_comm s0 k0, Int.mul_comm s0 k1]; omega⟩
  have f2 : Fen (M - k2 * s1) (M + k3 * s1) s1 := .inr ⟨z1, by omega, k2 + k3, by rw [Int.mul_add, Int.mul_comm s1 k2, Int.mul_comm s1 k3]; omega⟩
  have f3 : Fen (M - k2 * s1 + 1) (M + k3 * s1 + 1) s1 := .inr ⟨z1, by omega, k2 + k3, by rw [Int.mul_add, Int.mul_comm s1 k2, Int.mul_comm s1 k3]; omega⟩
  have B1 : B 200 (M - k0 * s0) := ((MB.mono (by decide : 110 ≤ 110)).sub ((K0.mul S0).mono (by decide : 50 + 40 ≤ 110))).mono (by decide)
  have B2 : B 200 (M + k1 * s0) := ((MB.mono (by decide : 110 ≤ 110)).add ((K1.mul S0).mono (by decide : 50 + 40 ≤ 110))).mono (by decide)
  have B3 : B 111 (M - k2 * s1) := ((MB.mono (by decide : 110 ≤ 110)).sub ((K2.mul S1).mono (by decide : 50 + 40 ≤ 110)))
  have B4 : B 111 (M + k3 * s1) := ((MB.mono (by decide : 110 ≤ 110)).add ((K3.mul S1).mono (by decide : 50 + 40 ≤ 110)))
  have B1' : B 111 (M - k0 * s0) := ((MB.mono (by decide : 110 ≤ 110)).sub ((K0.mul S0).mono (by decide : 50 + 40 ≤ 110)))
  have one : B 111 1 := by unfold B; exact Nat.one_lt_two_pow (by decide)
  have B5 : B 112 (M - k2 * s1 + 1) := B3.add one
  have B6 : B 112 (M + k3 * s1 + 1) := B4.add one
  have dif : (M - k2 * s1 + 1 - (M - k0 * s0)).natAbs < 2 ^ 140 := (((B5.sub (B1'.mono (by decide : 111 ≤ 112))).mono (by decide : 113 ≤ 140)) : B 140 _)
  -- the gcd, the lcm
  have gg := fun S => r_gcd (a := s0) (b := s1) (S1.mono (by decide : 40 ≤ 140)) S
  have gp : 0 < Int.gcd s0 s1 := Int.gcd_pos_of_ne_zero_left _ (by omega)
  have gd0 : (Int.gcd s0 s1 : Int) ∣ s0 := Int.gcd_dvd_left ..
  have gle := Int.le_of_dvd z0 gd0
  have glog : ((Int.gcd s0 s1 : Nat) : Int).natAbs.log2 < 9000 := Nat.lt_of_le_of_lt (B.log (n := 40) (by unfold B; omega)) (by decide)
  have fd0 := fun S => fdiv_i (i := s0) (S := S) (show (0 : Int) < (Int.gcd s0 s1 : Nat) by omega) glog
  have wl : s0 / (Int.gcd s0 s1 : Nat) * s1 = (Int.lcm s0 s1 : Nat) := by
    have e := Int.gcd_mul_lcm s0 s1
    have e2 : ((Int.gcd s0 s1 : Nat) : Int) * (Int.lcm s0 s1 : Nat) = s0 * s1 := by
      have : ((Int.gcd s0 s1 * Int.lcm s0 s1 : Nat) : Int) = ((s0 * s1).natAbs : Int) := by rw [e, Int.natAbs_mul]
      rw [Int.natCast_mul] at this
      have pos := Int.mul_pos z0 z1
      omega
    have e3 : ((Int.gcd s0 s1 : Nat) : Int) * (s0 / (Int.gcd s0 s1 : Nat) * s1) = s0 * s1 := by
      rw [← Int.mul_assoc, Int.mul_ediv_cancel' gd0]
    exact Int.eq_of_mul_eq_mul_left (by omega) (e3.trans e2.symm)
  have gw := fun S => mul_i (i := s0 / (Int.gcd s0 s1 : Nat)) (j := s1) (S := S) ((S0.div).g S1)
  rw [wl] at gw
  obtain ⟨sh, hsh⟩ : ∃ t, ((Int.gcd s0 s1 : Nat) : Int) = t := ⟨_, rfl⟩
  obtain ⟨w, hw⟩ : ∃ t, ((Int.lcm s0 s1 : Nat) : Int) = t := ⟨_, rfl⟩
  have w0' : 0 < w := by rw [← hw]; exact lcm_pos' z0 z1
  have wB : B 80 w := by
    rw [← hw, ← wl]
    exact (S0.div).mul S1
  rw [hw] at gw
  rw [hsh] at gg fd0 gw
  have wlog : w.natAbs.log2 < 9000 := Nat.lt_of_le_of_lt wB.log (by decide)
  obtain ⟨A, hA⟩ : ∃ A, (if k2 * s1 < k0 * s0 then k2 * s1 else k0 * s0) = A := ⟨_, rfl⟩
  obtain ⟨C, hC⟩ : ∃ C, (if k3 * s1 < k1 * s0 then k3 * s1 else k1 * s0) = C := ⟨_, rfl⟩
  have AB : B 90 A := by rw [← hA]; split <;> first | exact K2.mul S1 | exact K0.mul S0
  have CB : B 90 C := by rw [← hC]; split <;> first | exact K3.mul S1 | exact K1.mul S0
  obtain ⟨lo, hlo⟩ : ∃ t, A / w = t := ⟨_, rfl⟩
  obtain ⟨hi, hhi⟩ : ∃ t, C / w = t := ⟨_, rfl⟩
  have LB : B 90 lo := by rw [← hlo]; exact AB.div
  have HB : B 90 hi := by rw [← hhi]; exact CB.div
  have gl := fun S => mul_i (S := S) (LB.g wB)
  have gh := fun S => mul_i (S := S) (HB.g wB)
  have fdA := fun S => fdiv_i (i := A) (S := S) w0' wlog
  have fdC := fun S => fdiv_i (i := C) (S := S) w0' wlog
  rw [hlo] at fdA
  rw [hhi] at fdC
  obtain ⟨spm, lo0, hi0⟩ := middle_out (M := M) z0 z1 c0.1 c1.1 c2.1 c3.1 hw.symm (lo := lo) (hi := hi) (by rw [hA]; exact hlo.symm) (by rw [hC]; exact hhi.symm)
  -- what is asked
  obtain ⟨x1, m1, o1⟩ := r_met f1 f2 (.inl rfl) (.inl rfl) (B1.mono (by decide)) (B2.mono (by decide)) (S0.mono (by decide)) (B3.mono (by decide)) (B4.mono (by decide)) (S1.mono (by decide)) [.lst (ds d5)]
  obtain ⟨x2, m2, o2⟩ := r_met f2 f1 (.inl rfl) (.inl rfl) (B3.mono (by decide)) (B4.mono (by decide)) (S1.mono (by decide)) (B1.mono (by decide)) (B2.mono (by decide)) (S0.mono (by decide)) [.lst (ds d5)]
  have o2 := o2.congr fun z => And.comm
  have u1 := r_is o1 (.inr ⟨_, _, _, rfl, spm⟩) [.lst (ds d5)]
  have u2 := r_is o2 (.inr ⟨_, _, _, rfl, spm⟩) [.lst (ds d5)]
  have apart : ∀ z, ¬ (inF (M - k0 * s0) (M + k1 * s0) s0 z ∧ inF (M - k2 * s1 + 1) (M + k3 * s1 + 1) s1 z) := by
    rintro z ⟨y1, y2⟩
    rcases y1 with ⟨q, _⟩ | ⟨_, _, _, y1⟩
    · omega
    rcases y2 with ⟨q, _⟩ | ⟨_, _, _, y2⟩
    · omega
    have e1 := Int.dvd_trans dv0 y1
    have e2 := Int.dvd_trans dv1 y2
    have e3 : by' ∣ k0 * s0 := Int.dvd_trans dv0 (Int.dvd_mul_left ..)
    have e4 : by' ∣ k2 * s1 := Int.dvd_trans dv1 (Int.dvd_mul_left ..)
    have := Int.dvd_sub (Int.dvd_sub e1 e2) (Int.dvd_sub e3 e4)
    rw [show z - (M - k0 * s0) - (z - (M - k2 * s1 + 1)) - (k0 * s0 - k2 * s1) = 1 by omega] at this
    have := Int.le_of_dvd (by decide) this
    omega
  obtain ⟨x3, m3, o3⟩ := r_met f1 f3 (.inl rfl) (.inl rfl) (B1.mono (by decide)) (B2.mono (by decide)) (S0.mono (by decide)) (B5.mono (by decide)) (B6.mono (by decide)) (S1.mono (by decide)) [.lst (ds d5)]
  have x3n : x3 = .none := by
    rcases o3 with ⟨e, _⟩ | ⟨_, _, _, _, sp⟩
    · exact e
    · exact absurd sp.lo (apart _)
  subst x3n
  obtain ⟨q4, w4', hq4⟩ := r_within_t f3 f1 (.inl rfl) (.inl rfl) [.lst (ds d5)]
  have q4f : q4 = false := by
    cases q4
    · rfl
    · exact absurd ⟨hq4.mp rfl _ (inF_lo f3), inF_lo f3⟩ (apart _)
  subst q4f
  obtain ⟨q5, w5, hq5⟩ := r_within_t spm.fen f1 (.inl rfl) (.inl rfl) [.lst (ds d5)]
  obtain ⟨q6, w6, hq6⟩ := r_within_t spm.fen f2 (.inl rfl) (.inl rfl) [.lst (ds d5)]
  have q5t : q5 = true := hq5.mpr (spm.within f1 fun z hz => hz.1)
  have q6t : q6 = true := hq6.mpr (spm.within f2 fun z hz => hz.2)
  subst q5t q6t
  have sz := r_size f1 (.inl rfl) (Nat.lt_of_le_of_lt S0.log (by decide)) [.lst (ds d5)]
  have szl : (if s0 = 0 then (1 : Int) else (M + k1 * s0 - (M - k0 * s0)) / s0 + 1) = k0 + k1 + 1 := by
    rw [if_neg (by omega), show M + k1 * s0 - (M - k0 * s0) = (k0 + k1) * s0 by rw [Int.add_mul]; omega, Int.mul_ediv_cancel _ (by omega)]
  rw [szl] at sz
  have bh := r_behind f1 f2 (.inl rfl) (.inl rfl) [.lst (ds d5)]
  have ei := r_either f1 f3 (.inl rfl) (.inl rfl) [.lst (ds d5)]
  have g3 := r_gcd (a := (Int.gcd s0 s1 : Nat)) dif [.lst (ds d5)]
  rw [hsh] at bh ei g3
  have fr4 : ∀ S, fRng1 [.d (.int 4)] S = some ([.int 0, .int 1, .int 2, .int 3], S) := fun S => rfl
  have pw1 : ∀ S, bPow (.d (.int 10)) (.d (.int 9)) S = some (.d (.int 1000000000), S) := fun S => by rfl
  have pw2 : ∀ S, bPow (.d (.int 10)) (.d (.int 8)) S = some (.d (.int 100000000), S) := fun S => by rfl
  have pw3 : ∀ S, bPow (.d (.int 10)) (.d (.int 30)) S = some (.d (.int 1000000000000000000000000000000), S) := fun S => by rfl
  have pw4 : ∀ S, bPow (.d (.int 10)) (.d (.int 25)) S = some (.d (.int 10000000000000000000000000), S) := fun S => by rfl
  have m7 : ∀ S, bMul (.d (.int 7)) (.d (.int 100000000)) S = some (.d (.int 700000000), S) := fun S => by rfl
  have lsd2 : ∀ S, vLstD [.d (.int s0), .d (.int s1)] S = some (.own [.int s0, .int s1], S) := fun S => rfl
  have at3 : atD [PyData.int k0, .int k1, .int k2, .int k3] 3 = some (.int k3) := at_nat (i := 3) rfl
  refine ⟨d5, ?_, dr5⟩
  unfold den_law_long_right c_law_long_right
  rw [den_of]
  by_cases nz : lo + hi = 0
  · rw [if_pos nz] at w5 w6 u1 u2
    have e1 : lo = 0 := by omega
    have e2 : hi = 0 := by omega
    subst e1 e2
    simp only [Int.zero_mul, Int.sub_zero, Int.add_zero] at w5 w6 u1 u2
    simp [dVar, w0, t0, eby, pw1, pw2, m7, t1, t2, g1, g2, lsd2, dLc, fr4, wipeA, e3, w4, pw3, pw4, t4, emd, t5, hM, h0, h1, h2, h3, at3, gg, fd0, gw, hA, hC, fdA, fdC, gl, gh, m1, m2, u1, u2, m3, w4', w5, w6, sz, r_is_int', bh, ei, g3, r_is_tri]
  · rw [if_neg nz] at w5 w6 u1 u2
    simp [dVar, w0, t0, eby, pw1, pw2, m7, t1, t2, g1, g2, lsd2, dLc, fr4, wipeA, e3, w4, pw3, pw4, t4, emd, t5, hM, h0, h1, h2, h3, at3, gg, fd0, gw, hA, hC, fdA, fdC, gl, gh, nz, m1, m2, u1, u2, m3, w4', w5, w6, sz, r_is_int', bh, ei, g3, r_is_tri]
end K72
namespace K72
open PySem PySem.Spec PyProof.Rows L2 Den
def drawB : Sn := (sSeq (sExpr (dMeth mAppend (dVar 1) (lCons (dBin bMod (dCallV vInt (lCons (dVar 3) lNil)) (dC (.int 30))) lNil)))
    (sSeq (sAsg 3 false (dBin bFdiv (dVar 3) (dC (.int 30))))
    (sIf (dBin (cop .Eq) (dVar 3) (dC (.int 0)))
    sBreak
    sSkip)))
theorem draw_in (s0 s2 : Option AV) : ∀ (its : List D) (acc : List Int) (cell : Int) (x : Option AV), Dr acc → acc.length + its.length ≤ 1000000 → ∃ (acc' : List Int) (y z : Option AV), forGo (.nm 4) drawB its [s0, some (.ref 0), s2, some (.d (.int cell)), x] [.lst (ds acc)] = .nx [s0, some (.ref 0), s2, y, z] [.lst (ds acc')] ∧ Dr acc' ∧ acc'.length ≤ acc.length + its.length
  | [], acc, cell, x, h, _ => ⟨acc, _, _, rfl, h, Nat.le_refl _⟩
  | o :: its, acc, cell, x, h, hl => by
    have hl : acc.length + (its.length + 1) ≤ 1000000 := hl
    have b0 := Int.emod_nonneg cell (show (30 : Int) ≠ 0 by decide)
    have b1 := Int.emod_lt_of_pos cell (show (0 : Int) < 30 by decide)
    have h' : Dr (acc ++ [cell % 30]) := fun z hz => by
      rcases List.mem_append.mp hz with q | q
      · exact h z q
      · have : z = cell % 30 := by simpa using q
        subst this
        exact ⟨b0, b1⟩
    have md : ∀ S, bMod (.d (.int cell)) (.d (.int 30)) S = some (.d (.int (cell % 30)), S) := fun S => mod_i (by decide)
    have fd : ∀ S, bFdiv (.d (.int cell)) (.d (.int 30)) S = some (.d (.int (cell / 30)), S) := fun S => fdiv_i (by decide) (by decide)
    have ap : mAppend (.ref 0) [.d (.int (cell % 30))] [.lst (ds acc)] = some (.d .none, [.lst (ds (acc ++ [cell % 30]))]) := by
      show (if (ds acc).length < cap then some (AV.d .none, [AO.lst (ds acc ++ [PyData.int (cell % 30)])]) else none) = _
      rw [if_pos (by rw [ds_len]; show acc.length < 1000000; omega), ← ds_app]
      rfl
    have il : isL [.lst (ds acc)] (.ref 0) = true := rfl
    obtain ⟨q, hq⟩ : ∃ q, cell / 30 = q := ⟨_, rfl⟩
    rw [hq] at fd
    by_cases q0 : q = 0
    · refine ⟨acc ++ [cell % 30], some (.d (.int 0)), some (.d o), ?_, h', by simp⟩
      rw [for_cons]
      unfold drawB
      simp [dVar, il, md, ap, fd, q0]
    · obtain ⟨acc', y, z, e, d, l⟩ := draw_in s0 s2 its (acc ++ [cell % 30]) q (some (.d o)) h' (by simp; omega)
      refine ⟨acc', y, z, ?_, d, by
        rw [List.length_append, List.length_singleton] at l
        show acc'.length ≤ acc.length + (its.length + 1)
        omega⟩
      rw [for_cons]
      unfold drawB at e ⊢
      simp [dVar, il, md, ap, fd, q0]
      exact e
def drawO : Sn := (sSeq (sAsg 3 false (dCallV vInt (lCons (dBin vIx (dVar 0) (dVar 2)) lNil)))
    (sSeq (sIf (dBin (cop .Lt) (dVar 3) (dC (.int 0)))
    (sAsg 3 false (dBin bSub (dC (.int 11)) (dBin bMul (dC (.int 2)) (dVar 3))))
    sSkip)
    (sSeq (sAsg 3 false (dBin bMod (dCallV vInt (lCons (dVar 3) lNil)) (dBin bPow (dC (.int 30)) (dC (.int 24)))))
    (sFor (itL (lCons (dC (.int 24)) lNil) fRng1) (.nm 4) drawB))))
theorem draw_out (ns : List Int) (hb : ∀ z ∈ ns, z.natAbs.log2 ≤ 1048576) : ∀ (is : List Nat) (acc : List Int) (x y z : Option AV), (∀ i ∈ is, i < ns.length) → Dr acc → acc.length + 24 * is.length ≤ 1000000 → ∃ (acc' : List Int) (x' y' z' : Option AV), forGo (.nm 2) drawO (is.map fun i => PyData.int (i : Nat)) [some (.d (.list (ds ns))), some (.ref 0), x, y, z] [.lst (ds acc)] = .nx [some (.d (.list (ds ns))), some (.ref 0), x', y', z'] [.lst (ds acc')] ∧ Dr acc'
  | [], acc, x, y, z, _, h, _ => ⟨acc, _, _, _, rfl, h⟩
  | i :: is, acc, x, y, z, hi, h, hl => by
    have hl : acc.length + 24 * (is.length + 1) ≤ 1000000 := hl
    have ii := hi i List.mem_cons_self
    obtain ⟨c, hc⟩ : ∃ c, ns[i]? = some c := ⟨_, List.getElem?_eq_getElem ii⟩
    have cb := hb c (List.mem_of_getElem? hc)
    have at_ : atD (ds ns) (i : Int) = some (.int c) := at_nat (by unfold ds; rw [List.getElem?_map, hc]; rfl)
    have pw : ∀ S, bPow (.d (.int 30)) (.d (.int 24)) S = some (.d (.int 282429536481000000000000000000000000), S) := fun S => by rfl
    have fr : ∀ S, fRng1 [.d (.int 24)] S = some (rngL 0 24 1, S) := fun S => rfl
    have ml : ∀ S, bMul (.d (.int 2)) (.d (.int c)) S = some (.d (.int (2 * c)), S) := fun S => mul_i (by
      have : (2 : Int).natAbs.log2 = 1 := by decide
      rw [this]
      omega)
    have md : ∀ (v : Int) S, bMod (.d (.int v)) (.d (.int 282429536481000000000000000000000000)) S = some (.d (.int (v % 282429536481000000000000000000000000)), S) := fun v S => mod_i (by decide)
    have step : ∀ v : Int, ∃ (acc1 : List Int) (y1 z1 : Option AV), forGo (.nm 4) drawB (rngL 0 24 1) [some (.d (.list (ds ns))), some (.ref 0), some (.d (.int i)), some (.d (.int v)), z] [.lst (ds acc)] = .nx [some (.d (.list (ds ns))), some (.ref 0), some (.d (.int i)), y1, z1] [.lst (ds acc1)] ∧ Dr acc1 ∧ acc1.length ≤ acc.length + 24 := fun v => by
      obtain ⟨a, b, c, e, d, l⟩ := draw_in (some (.d (.list (ds ns)))) (some (.d (.int i))) (rngL 0 24 1) acc v z h (by rw [rngL_len]; omega)
      rw [rngL_len] at l
      exact ⟨a, b, c, e, d, l⟩
    show ∃ acc' x' y' z', forGo (.nm 2) drawO (PyData.int (i : Nat) :: is.map fun i => PyData.int (i : Nat)) _ _ = _ ∧ _
    generalize hR : rngL 0 24 1 = R at *
    by_cases neg : c < 0
    · obtain ⟨acc1, y1, z1, e1, d1, l1⟩ := step ((11 - 2 * c) % 282429536481000000000000000000000000)
      obtain ⟨acc', x', y', z', e2, d2⟩ := draw_out ns hb is acc1 (some (.d (.int i))) y1 z1 (fun j hj => hi j (List.mem_cons_of_mem _ hj)) d1 (by omega)
      refine ⟨acc', x', y', z', ?_, d2⟩
      rw [for_cons]
      unfold drawO at e2 ⊢
      simp [dVar, at_, neg, ml, pw, md, fr, e1]
      exact e2
    · obtain ⟨acc1, y1, z1, e1, d1, l1⟩ := step (c % 282429536481000000000000000000000000)
      obtain ⟨acc', x', y', z', e2, d2⟩ := draw_out ns hb is acc1 (some (.d (.int i))) y1 z1 (fun j hj => hi j (List.mem_cons_of_mem _ hj)) d1 (by omega)
      refine ⟨acc', x', y', z', ?_, d2⟩
      rw [for_cons]
      unfold drawO at e2 ⊢
      simp [dVar, at_, neg, ml, pw, md, fr, e1]
      exact e2
theorem itL_of {l : Ln} {f : List AV → AS → Option (List D × AS)} {σ : ASt} {S S1 S2 : AS} {as : List AV} {m : List D} (h : l σ S = .ok as S1) (k : f as S1 = some (m, S2)) : itL l f σ S = .ok m S2 := by
  rw [x_itL, h]
  show (match f as S1 with | some (m, S2) => IR.ok m S2 | none => .stuck) = _
  rw [k]
theorem r_draws {ns : List Int} (hn : ns.length ≤ 63) (hb : ∀ z ∈ ns, z.natAbs.log2 ≤ 1048576) : ∃ l, den_law_draws [.d (.list (ds ns))] [] = .ok (.own (ds l)) [] ∧ Dr l := by
  obtain ⟨acc, x, y, z, e, d⟩ := draw_out ns hb (List.range ns.length) [] none none none (fun i hi => List.mem_range.mp hi) (fun x hx => by cases hx) (by rw [List.length_range, List.length_nil]; omega)
  refine ⟨acc.reverse, ?_, fun v hv => d v (List.mem_reverse.mp hv)⟩
  have fr : ∀ S, fRng1 [.d (.int ns.length)] S = some ((List.range ns.length).map fun i => PyData.int (i : Nat), S) := fun S => by
    show (if -big62 ≤ (ns.length : Int) ∧ (ns.length : Int) < big62 then some (rngL 0 (ns.length : Int).toNat 1, S) else none) = _
    rw [if_pos (by unfold big62; omega), Int.toNat_natCast]
    have er : rngL 0 ns.length 1 = (List.range ns.length).map fun i => PyData.int (i : Nat) := by
      unfold rngL
      refine List.map_congr_left fun i _ => ?_
      rw [Int.zero_add, Int.mul_one]
    rw [er]
  have mn : (if (63 : Int) < (ns.length : Int) then (63 : Int) else (ns.length : Int)) = ns.length := if_neg (by omega)
  have e0 : ∀ S, vLstD [] S = some (.own [], S) := fun S => rfl
  have rv : mReverse (.ref 0) [] [.lst (ds acc)] = some (.d .none, [.lst (ds acc.reverse)]) := by
    show some (AV.d .none, [AO.lst (ds acc).reverse]) = _
    unfold ds
    rw [List.map_reverse]
  have il : ∀ l, isL [.lst l] (.ref 0) = true := fun l => rfl
  have fin : finA 0 (.ref 0) [.lst (ds acc.reverse)] = .ok (.own (ds acc.reverse)) [] := rfl
  have vm : ∀ S, vMin [.d (.int ns.length), .d (.int 63)] S = some (.d (.int ns.length), S) := fun S => by rw [vmin_i, mn]
  have s1 : sAsg 1 true (dCallV vLstD lNil) [some (.d (.list (ds ns))), none, none, none, none] [] = .nx [some (.d (.list (ds ns))), some (.ref 0), none, none, none] [.lst (ds [])] := rfl
  have s3 : sExpr (dMeth mReverse (dVar 1) lNil) [some (.d (.list (ds ns))), some (.ref 0), x, y, z] [.lst (ds acc)] = .nx [some (.d (.list (ds ns))), some (.ref 0), x, y, z] [.lst (ds acc.reverse)] := by
    simp only [x_Expr, x_Meth, x_bMeth, dVar, List.getElem?_cons_succ, List.getElem?_cons_zero, bind_ok, fz_ref, il, if_true, x_lNil, lbind_ok, rv, lift_some, then_ok]
  have s4 : sRet (dVar 1) [some (.d (.list (ds ns))), some (.ref 0), x, y, z] [.lst (ds acc.reverse)] = .rt (.ref 0) [.lst (ds acc.reverse)] := rfl
  obtain ⟨σ, hσ⟩ : ∃ σ : ASt, [some (.d (.list (ds ns))), some (.ref 0), none, none, none] = σ := ⟨_, rfl⟩
  obtain ⟨S, hS⟩ : ∃ S : AS, [.lst (ds [])] = S := ⟨_, rfl⟩
  have a0 : dCallV vLen (lCons (dVar 0) lNil) σ S = .ok (.d (.int ns.length)) S := by
    have e1 : vLen [.d (.list (ds ns))] S = some (.d (.int ns.length), S) := by
      rw [len_l, ds_len]
    have e2 : (lCons (dVar 0) lNil) σ S = .ok [.d (.list (ds ns))] S := by rw [← hσ]; rfl
    rw [x_CallV, e2, lbind_ok, e1, lift_some]
  have a2 : dCallV vMin (lCons (dCallV vLen (lCons (dVar 0) lNil)) (lCons (dC (.int 63)) lNil)) σ S = .ok (.d (.int ns.length)) S := by
    have e2 : (lCons (dCallV vLen (lCons (dVar 0) lNil)) (lCons (dC (.int 63)) lNil)) σ S = .ok [.d (.int ns.length), .d (.int 63)] S := by
      rw [x_lCons, a0, bindL_ok, fz_d]
      rfl
    rw [x_CallV, e2, lbind_ok, vm, lift_some]
  have a1 : (lCons (dCallV vMin (lCons (dCallV vLen (lCons (dVar 0) lNil)) (lCons (dC (.int 63)) lNil))) lNil) σ S = .ok [.d (.int ns.length)] S := by
    rw [x_lCons, a2, bindL_ok, fz_d]
    rfl
  have it : itL (lCons (dCallV vMin (lCons (dCallV vLen (lCons (dVar 0) lNil)) (lCons (dC (.int 63)) lNil))) lNil) fRng1 σ S = .ok ((List.range ns.length).map fun i => PyData.int (i : Nat)) S := by
    exact itL_of a1 (fr S)
  rw [← hσ, ← hS] at it
  have s2 : sFor (itL (lCons (dCallV vMin (lCons (dCallV vLen (lCons (dVar 0) lNil)) (lCons (dC (.int 63)) lNil))) lNil) fRng1) (.nm 2) drawO [some (.d (.list (ds ns))), some (.ref 0), none, none, none] [.lst (ds [])] = .nx [some (.d (.list (ds ns))), some (.ref 0), x, y, z] [.lst (ds acc)] := by
    rw [x_For, it]
    exact e
  have sq : ∀ {c1 c2 : Sn} {σ σ1 : ASt} {S S1 : AS}, c1 σ S = .nx σ1 S1 → sSeq c1 c2 σ S = c2 σ1 S1 := fun h => by rw [x_Seq, h]
  have whole : c_law_draws [some (.d (.list (ds ns))), none, none, none, none] [] = .rt (.ref 0) [.lst (ds acc.reverse)] := (sq s1).trans ((sq s2).trans ((sq s3).trans s4))
  show (match c_law_draws [some (.d (.list (ds ns))), none, none, none, none] [] with
    | .nx _ S' => ER.ok (.d .none) (S'.take 0)
    | .rt a S' => finA 0 a S'
    | .er x _ S' => .err x (S'.take 0)
    | _ => .stuck) = _
  rw [whole]
  exact fin
end K72
namespace K72
open PySem PySem.Spec PyProof.Rows L2 Den
theorem law_true (ns : List Int) (h : ns.length ≤ 63) (hb : ∀ z ∈ ns, Builtin.Int.intBits z ≤ 1048576) : ∃ S, den_law [.d (.list (ns.map PyData.int))] [] = .ok (.d (.bool true)) S := by
  obtain ⟨dl, e0, dr⟩ := r_draws h fun z hz => by
    by_cases z0 : z.natAbs = 0
    · rw [z0]
      exact Nat.zero_le _
    · have := hb z hz
      unfold Builtin.Int.intBits at this
      split at this
      · rename_i q
        have q2 : z = 0 := by simpa using q
        rw [q2] at z0
        exact absurd rfl z0
      · omega
  obtain ⟨a, b, c, d1, e1, dr1, sm1, w1⟩ := r_fence dr []
  obtain ⟨a', b', c', d2, e2, dr2, sm2, w2⟩ := r_fence dr1 []
  obtain ⟨v3, d3, e3, dr3, p3, q3, _⟩ := r_take dr2 (show (0 : Int) < 4 by decide) []
  obtain ⟨y, ym, ey⟩ := at_ds (l := [1, 1000000000000000000000000000000, 1, 1000000000000000009]) p3 q3
  have yb : 0 < y ∧ y ≤ 1000000000000000000000000000000 := (by decide : ∀ x ∈ ([1, 1000000000000000000000000000000, 1, 1000000000000000009] : List Int), 0 < x ∧ x ≤ 1000000000000000000000000000000) y ym
  obtain ⟨v4, d4, e4, dr4, p4, q4, _⟩ := r_take dr3 (show (0 : Int) < 3 by decide) []
  obtain ⟨m, mm, em⟩ := at_ds (l := [0, 100000000000000000000000000000000007, -100000000000000000000]) p4 q4
  have mb : -100000000000000000000 ≤ m ∧ m ≤ 100000000000000000000000000000000007 := (by decide : ∀ x ∈ ([0, 100000000000000000000000000000000007, -100000000000000000000] : List Int), -100000000000000000000 ≤ x ∧ x ≤ 100000000000000000000000000000000007) m mm
  obtain ⟨v5, d5, e5, dr5, p5, q5, _⟩ := r_take dr4 (show (0 : Int) < 30 by decide) []
  have yB : B 110 y := by unfold B; omega
  have mB : B 130 m := by unfold B; omega
  have w3 : ∀ S, vLstD [.d (.int 1), .d (.int 1000000000000000000000000000000), .d (.int 1), .d (.int 1000000000000000009)] S = some (.own (ds [1, 1000000000000000000000000000000, 1, 1000000000000000009]), S) := fun S => rfl
  have w4 : ∀ S, vLstD [.d (.int 0), .d (.int 100000000000000000000000000000000007), .d (.int (-100000000000000000000))] S = some (.own (ds [0, 100000000000000000000000000000000007, -100000000000000000000]), S) := fun S => rfl
  have pw1 : ∀ S, bPow (.d (.int 10)) (.d (.int 30)) S = some (.d (.int 1000000000000000000000000000000), S) := fun S => by rfl
  have pw2 : ∀ S, bPow (.d (.int 10)) (.d (.int 18)) S = some (.d (.int 1000000000000000000), S) := fun S => by rfl
  have pw3 : ∀ S, bPow (.d (.int 10)) (.d (.int 35)) S = some (.d (.int 100000000000000000000000000000000000), S) := fun S => by rfl
  have pw4 : ∀ S, bPow (.d (.int 10)) (.d (.int 20)) S = some (.d (.int 100000000000000000000), S) := fun S => by rfl
  have pw5 : ∀ S, bPow (.d (.int 10)) (.d (.int 12)) S = some (.d (.int 1000000000000), S) := fun S => by rfl
  obtain ⟨d6, e6, dr6⟩ := r_one sm1 w1 yb.1 yB mB dr5
  obtain ⟨d7, e7, dr7⟩ := r_one (y := 1) (m := 0) sm2 w2 (by decide) (by unfold B; exact Nat.one_lt_two_pow (by decide)) (by unfold B; exact Nat.pow_pos (by decide)) dr6
  obtain ⟨d8, e8, dr8⟩ := r_long (far := 1000000000000 + v5) (by omega) (by omega) dr7
  have rf := r_refusals (ds d8)
  have l5 : ∀ (p q r s t : D) S, vLstD [.d p, .d q, .d r, .d s, .d t] S = some (.own [p, q, r, s, t], S) := fun p q r s t S => rfl
  -- the near one
  obtain ⟨na, nb, nc, near, hnear, smn⟩ : ∃ (na nb nc : Int) (near : D), near = tri na nb nc ∧ ((b - a ≤ c → near = tri b b 0) ∧ (¬ b - a ≤ c → near = tri (a + c) b c)) ∧ Sm na nb nc := by
    by_cases q : b - a ≤ c
    · have lo := sm1.lo
      have hi := sm1.hi
      have := (sm1.f.spec.al b sm1.f.spec.hi)
      exact ⟨b, b, 0, _, rfl, ⟨fun _ => rfl, fun z => absurd q z⟩, ⟨.inl ⟨rfl, rfl⟩, by omega, by omega, by decide⟩⟩
    · refine ⟨a + c, b, c, _, rfl, ⟨fun z => absurd z q, fun _ => rfl⟩, ?_⟩
      rcases sm1.f with ⟨c0, ab⟩ | ⟨cp, ab, dv⟩
      · omega
      · have lo := sm1.lo
        have hi := sm1.hi
        have st := sm1.st
        refine ⟨.inr ⟨cp, by omega, ?_⟩, by omega, by omega, by omega⟩
        rw [show b - (a + c) = b - a - c by omega]
        exact Int.dvd_sub dv (Int.dvd_refl c)
  obtain ⟨hn, smn⟩ := smn
  have P1 := fun S => r_pair sm1 sm2 yb.1 yB mB S
  have P2 := fun S => r_pair sm2 sm1 yb.1 yB mB S
  have P3 := fun S => r_pair sm1 sm1 yb.1 yB mB S
  have P4 := fun S => r_pair smn sm1 yb.1 yB mB S
  have P5 := fun S => r_pair sm1 smn yb.1 yB mB S
  rw [← hnear] at P4 P5
  refine ⟨[.lst (ds d8)].take 0, ?_⟩
  have e0 : den_law_draws [.d (.list (ns.map PyData.int))] [] = .ok (.own (ds dl)) [] := e0
  unfold den_law c_law
  rw [den_of]
  by_cases q : b - a ≤ c
  · have hn := hn.1 q
    subst hn
    simp [dVar, e0, e1, e2, w3, pw1, pw2, pw3, pw4, pw5, e3, ey, w4, e4, em, e5, q, l5, iSeq, frzD, for_cons, P1, P2, P3, P4, P5, e6, e7, e8, rf]
  · have hn := hn.2 q
    subst hn
    simp [dVar, e0, e1, e2, w3, pw1, pw2, pw3, pw4, pw5, e3, ey, w4, e4, em, e5, q, l5, iSeq, frzD, for_cons, P1, P2, P3, P4, P5, e6, e7, e8, rf]
end K72
namespace K72
open PySem PySem.Spec PyProof.Rows L2 Den
def spL (K : PySem.W.Frag) : Sp := fun vs H Q E => ∀ mg, spOf K mg 1 den_law vs H Q E
theorem spL_here (K : PySem.W.Frag) (H : Hp) (a : Addr) (ns : List Int) (h : ns.length ≤ 63) (hb : ∀ z ∈ ns, Builtin.Int.intBits z ≤ 1048576) (hS : SqL K H a (ns.map V.int)) : spL K [.ref a] H (fun v _ => v = .bl true) fun _ _ _ => False := by
  intro mg
  obtain ⟨S, e⟩ := law_true ns h hb
  refine ⟨rfl, H, ⟨[], fun _ => none⟩, [], [.d (.list (ns.map PyData.int))], ⟨Same.refl H, rfl, List.nodup_nil, fun n p o z => (by cases z), fun p o z => (by cases z)⟩, .cons (show Dp _ _ _ _ from .lst hS (dpA_of_ints ns)) .nil, ?_⟩
  rw [e]
  intro F' ρ' H' v t rs rw'
  exact dbool (show Dp _ F' v _ from rw')
theorem ok_spL {P : Program} {w : World} {K : PySem.W.Frag} {mg : Str → Option Value} {base : Heap} {k : Nat} {f : Addr} {fd : FuncData} (F : FnOk P w K mg base (L2.CX P w) k f fd ["script"] (spOf K mg 1 den_law)) : FnOk P w K mg base (L2.CX P w) k f fd ["script"] (spL K) :=
  F.imp fun vs H Q E q => q mg
theorem cx_no {P : Program} {w : World} {H : Hp} {s : Shared} {e : Value} {s' : Shared} (h : L2.CX P w [] H s (fun _ _ _ => False) e s') : False := by
  obtain ⟨_, _, _, _, _, _, _, _, _, _, _, _, z⟩ := h
  exact z
theorem fin {P : Program} {w : World} {K : PySem.W.Frag} {mg : Str → Option Value} {k : Nat} {fa : Addr}
    (h : ∃ fd : FuncData, (∀ (s : Shared) (v : Value), BindsTo s fd ⟨[v], []⟩ [("script", v)]) ∧ ∀ base : Heap, K.In base → base.Ns mainGlobals mg → FnOk P w K mg base (L2.CX P w) k fa fd ["script"] (spOf K mg 1 den_law)) :
    ∃ fd : FuncData, (∀ (s : Shared) (v : Value), BindsTo s fd ⟨[v], []⟩ [("script", v)]) ∧ ∀ base : Heap, K.In base → base.Ns mainGlobals mg → FnOk P w K mg base (L2.CX P w) k fa fd ["script"] (spL K) := by
  obtain ⟨fd, hb, hF⟩ := h
  exact ⟨fd, hb, fun base hi hn => ok_spL (hF base hi hn)⟩
end K72
open PySem PySem.W PyProof.Rows
set_option maxHeartbeats 0 in
theorem PySem.Challenge.cw_onlywhatvaries_k72_fences_reckoned_holds : PySem.Challenge.rw_onlywhatvaries_k72_fences_reckoned.Holds := by
  w_on; o_law; k_head; (case hw => w_witness2)
  k_fill
  refine L2.walk_ofB (l := PySem.Challenge.rw_onlywhatvaries_k72_fences_reckoned) (n := 63) (k := 8) (x := "script") (CX := fun w => L2.CX (PySem.Challenge.rw_onlywhatvaries_k72_fences_reckoned).prog w) (sp := fun w => K72.spL _) rfl (by decide) rfl ⟨rfl, by decide, by decide⟩ (fun w h Y => PySem.W.kIn_of Y) ?F (fun w H a ns h1 h2 _ hS => K72.spL_here _ H a ns h1 h2 hS) (fun _ _ _ _ _ h => K72.cx_no h)
  case F =>
    intro w mg fa h KX G hmg
    refine K72.fin ?_
    refine' K72.all_mk KX G hmg ?z_abs ?z_bool ?z_enumerate ?z_int ?z_isinstance ?z_len ?z_list ?z_max ?z_min ?z_range ?z_tuple ?m_gcd ?m_lcm ?ea0 ?ea1 ?ea2 ?kx0 ?kt0 ?kh0 ?kx1 ?kt1 ?kh1 ?xl1 ?xv1 ?sa1 ?kp1 ?nf1 ?fi1 ?ti1 ?li1 ?ci1 ?ki1 ?ga1 ?gg1 ?ic1 ?cc1 ?hn1 ?tk1 ?mo1 ?kx2 ?kt2 ?kh2 ?xl2 ?xv2 ?sa2 ?kp2 ?nf2 ?fi2 ?ti2 ?li2 ?ci2 ?ki2 ?ga2 ?gg2 ?ic2 ?cc2 ?hn2 ?tk2 ?mo2 ?su1_0 ?kk1_0 ?su1_1 ?kk1_1 ?su1_2 ?kk1_2 ?su2_0 ?kk2_0 ?su2_1 ?kk2_1 ?su2_2 ?kk2_2 ?a0 ?l0 ?c0 ?k0 ?a1 ?l1 ?c1 ?k1 ?a2 ?l2 ?c2 ?k2 ?a3 ?l3 ?c3 ?k3 ?a4 ?l4 ?c4 ?k4 ?a5 ?l5 ?c5 ?k5 ?a6 ?l6 ?c6 ?k6 ?a7 ?l7 ?c7 ?k7 ?a8 ?l8 ?c8 ?k8 ?a9 ?l9 ?c9 ?k9 ?a10 ?l10 ?c10 ?k10 ?a11 ?l11 ?c11 ?k11 ?a12 ?l12 ?c12 ?k12 ?a13 ?l13 ?c13 ?k13 ?a14 ?l14 ?c14 ?k14 ?a15 ?l15 ?c15 ?k15 ?a16 ?l16 ?c16 ?k16 ?a17 ?l17 ?c17 ?k17 ?a18 ?l18 ?c18 ?k18 ?a19 ?l19 ?c19 ?k19 ?a20 ?l20 ?c20 ?k20 ?a21 ?l21 ?c21 ?k21 ?a22 ?l22 ?c22 ?k22 ?a23 ?l23 ?c23 ?k23 ?a24 ?l24 ?c24 ?k24 ?a25 ?l25 ?c25 ?k25 ?a26 ?l26 ?c26 ?k26 ?a27 ?l27 ?c27 ?k27 ?a28 ?l28 ?c28 ?k28 ?a29 ?l29 ?c29 ?k29 ?a30 ?l30 ?c30 ?k30 ?a31 ?l31 ?c31 ?k31 ?a32 ?l32 ?c32 ?k32 ?a33 ?l33 ?c33 ?k33 ?a34 ?l34 ?c34 ?k34 ?a35 ?l35 ?c35 ?k35 ?a36 ?l36 ?c36 ?k36 ?a37 ?l37 ?c37 ?k37
    (case z_abs => first | k_is | rfl)
    (case z_bool => first | k_is | rfl)
    (case z_enumerate => first | k_is | rfl)
    (case z_int => first | k_is | rfl)
    (case z_isinstance => first | k_is | rfl)
    (case z_len => first | k_is | rfl)
    (case z_list => first | k_is | rfl)
    (case z_max => first | k_is | rfl)
    (case z_min => first | k_is | rfl)
    (case z_range => first | k_is | rfl)
    (case z_tuple => first | k_is | rfl)
    (case m_gcd => first | k_is | rfl)
    (case m_lcm => first | k_is | rfl)
    (case ea0 => first | k_is | rfl)
    (case ea1 => first | k_is | rfl)
    (case ea2 => first | k_is | rfl)
    (case kx0 => first | k_is | rfl)
    (case kt0 => first | k_is | rfl)
    (case kh0 => first | k_is | rfl)
    (case kx1 => first | k_is | rfl)
    (case kt1 => first | k_is | rfl)
    (case kh1 => first | k_is | rfl)
    (case xl1 => first | k_is | rfl)
    (case xv1 => first | k_is | rfl)
    (case sa1 => first | k_is | rfl)
    (case kp1 => first | k_is | rfl)
    (case nf1 => first | k_is | rfl)
    (case fi1 => first | k_is | rfl)
    (case ti1 => first | k_is | rfl)
    (case li1 => first | k_is | rfl)
    (case ci1 => first | k_is | rfl)
    (case ki1 => first | k_is | rfl)
    (case ga1 => first | k_is | rfl)
    (case gg1 => first | k_is | rfl)
    (case ic1 => first | k_is | rfl)
    (case cc1 => first | k_is | rfl)
    (case hn1 => first | k_is | rfl)
    (case tk1 => first | k_is | rfl)
    (case mo1 => first | k_is | rfl)
    (case kx2 => first | k_is | rfl)
    (case kt2 => first | k_is | rfl)
    (case kh2 => first | k_is | rfl)
    (case xl2 => first | k_is | rfl)
    (case xv2 => first | k_is | rfl)
    (case sa2 => first | k_is | rfl)
    (case kp2 => first | k_is | rfl)
    (case nf2 => first | k_is | rfl)
    (case fi2 => first | k_is | rfl)
    (case ti2 => first | k_is | rfl)
    (case li2 => first | k_is | rfl)
    (case ci2 => first | k_is | rfl)
    (case ki2 => first | k_is | rfl)
    (case ga2 => first | k_is | rfl)
    (case gg2 => first | k_is | rfl)
    (case ic2 => first | k_is | rfl)
    (case cc2 => first | k_is | rfl)
    (case hn2 => first | k_is | rfl)
    (case tk2 => first | k_is | rfl)
    (case mo2 => first | k_is | rfl)
    (case su1_0 => first | k_is | rfl)
    (case kk1_0 => first | k_is | rfl)
    (case su1_1 => first | k_is | rfl)
    (case kk1_1 => first | k_is | rfl)
    (case su1_2 => first | k_is | rfl)
    (case kk1_2 => first | k_is | rfl)
    (case su2_0 => first | k_is | rfl)
    (case kk2_0 => first | k_is | rfl)
    (case su2_1 => first | k_is | rfl)
    (case kk2_1 => first | k_is | rfl)
    (case su2_2 => first | k_is | rfl)
    (case kk2_2 => first | k_is | rfl)
    (case a0 => first | k_is | rfl)
    (case l0 => first | k_is | rfl)
    (case c0 => first | k_is | rfl)
    (case k0 => first | k_is | rfl)
    (case a1 => first | k_is | rfl)
    (case l1 => first | k_is | rfl)
    (case c1 => first | k_is | rfl)
    (case k1 => first | k_is | rfl)
    (case a2 => first | k_is | rfl)
    (case l2 => first | k_is | rfl)
    (case c2 => first | k_is | rfl)
    (case k2 => first | k_is | rfl)
    (case a3 => first | k_is | rfl)
    (case l3 => first | k_is | rfl)
    (case c3 => first | k_is | rfl)
    (case k3 => first | k_is | rfl)
    (case a4 => first | k_is | rfl)
    (case l4 => first | k_is | rfl)
    (case c4 => first | k_is | rfl)
    (case k4 => first | k_is | rfl)
    (case a5 => first | k_is | rfl)
    (case l5 => first | k_is | rfl)
    (case c5 => first | k_is | rfl)
    (case k5 => first | k_is | rfl)
    (case a6 => first | k_is | rfl)
    (case l6 => first | k_is | rfl)
    (case c6 => first | k_is | rfl)
    (case k6 => first | k_is | rfl)
    (case a7 => first | k_is | rfl)
    (case l7 => first | k_is | rfl)
    (case c7 => first | k_is | rfl)
    (case k7 => first | k_is | rfl)
    (case a8 => first | k_is | rfl)
    (case l8 => first | k_is | rfl)
    (case c8 => first | k_is | rfl)
    (case k8 => first | k_is | rfl)
    (case a9 => first | k_is | rfl)
    (case l9 => first | k_is | rfl)
    (case c9 => first | k_is | rfl)
    (case k9 => first | k_is | rfl)
    (case a10 => first | k_is | rfl)
    (case l10 => first | k_is | rfl)
    (case c10 => first | k_is | rfl)
    (case k10 => first | k_is | rfl)
    (case a11 => first | k_is | rfl)
    (case l11 => first | k_is | rfl)
    (case c11 => first | k_is | rfl)
    (case k11 => first | k_is | rfl)
    (case a12 => first | k_is | rfl)
    (case l12 => first | k_is | rfl)
    (case c12 => first | k_is | rfl)
    (case k12 => first | k_is | rfl)
    (case a13 => first | k_is | rfl)
    (case l13 => first | k_is | rfl)
    (case c13 => first | k_is | rfl)
    (case k13 => first | k_is | rfl)
    (case a14 => first | k_is | rfl)
    (case l14 => first | k_is | rfl)
    (case c14 => first | k_is | rfl)
    (case k14 => first | k_is | rfl)
    (case a15 => first | k_is | rfl)
    (case l15 => first | k_is | rfl)
    (case c15 => first | k_is | rfl)
    (case k15 => first | k_is | rfl)
    (case a16 => first | k_is | rfl)
    (case l16 => first | k_is | rfl)
    (case c16 => first | k_is | rfl)
    (case k16 => first | k_is | rfl)
    (case a17 => first | k_is | rfl)
    (case l17 => first | k_is | rfl)
    (case c17 => first | k_is | rfl)
    (case k17 => first | k_is | rfl)
    (case a18 => first | k_is | rfl)
    (case l18 => first | k_is | rfl)
    (case c18 => first | k_is | rfl)
    (case k18 => first | k_is | rfl)
    (case a19 => first | k_is | rfl)
    (case l19 => first | k_is | rfl)
    (case c19 => first | k_is | rfl)
    (case k19 => first | k_is | rfl)
    (case a20 => first | k_is | rfl)
    (case l20 => first | k_is | rfl)
    (case c20 => first | k_is | rfl)
    (case k20 => first | k_is | rfl)
    (case a21 => first | k_is | rfl)
    (case l21 => first | k_is | rfl)
    (case c21 => first | k_is | rfl)
    (case k21 => first | k_is | rfl)
    (case a22 => first | k_is | rfl)
    (case l22 => first | k_is | rfl)
    (case c22 => first | k_is | rfl)
    (case k22 => first | k_is | rfl)
    (case a23 => first | k_is | rfl)
    (case l23 => first | k_is | rfl)
    (case c23 => first | k_is | rfl)
    (case k23 => first | k_is | rfl)
    (case a24 => first | k_is | rfl)
    (case l24 => first | k_is | rfl)
    (case c24 => first | k_is | rfl)
    (case k24 => first | k_is | rfl)
    (case a25 => first | k_is | rfl)
    (case l25 => first | k_is | rfl)
    (case c25 => first | k_is | rfl)
    (case k25 => first | k_is | rfl)
    (case a26 => first | k_is | rfl)
    (case l26 => first | k_is | rfl)
    (case c26 => first | k_is | rfl)
    (case k26 => first | k_is | rfl)
    (case a27 => first | k_is | rfl)
    (case l27 => first | k_is | rfl)
    (case c27 => first | k_is | rfl)
    (case k27 => first | k_is | rfl)
    (case a28 => first | k_is | rfl)
    (case l28 => first | k_is | rfl)
    (case c28 => first | k_is | rfl)
    (case k28 => first | k_is | rfl)
    (case a29 => first | k_is | rfl)
    (case l29 => first | k_is | rfl)
    (case c29 => first | k_is | rfl)
    (case k29 => first | k_is | rfl)
    (case a30 => first | k_is | rfl)
    (case l30 => first | k_is | rfl)
    (case c30 => first | k_is | rfl)
    (case k30 => first | k_is | rfl)
    (case a31 => first | k_is | rfl)
    (case l31 => first | k_is | rfl)
    (case c31 => first | k_is | rfl)
    (case k31 => first | k_is | rfl)
    (case a32 => first | k_is | rfl)
    (case l32 => first | k_is | rfl)
    (case c32 => first | k_is | rfl)
    (case k32 => first | k_is | rfl)
    (case a33 => first | k_is | rfl)
    (case l33 => first | k_is | rfl)
    (case c33 => first | k_is | rfl)
    (case k33 => first | k_is | rfl)
    (case a34 => first | k_is | rfl)
    (case l34 => first | k_is | rfl)
    (case c34 => first | k_is | rfl)
    (case k34 => first | k_is | rfl)
    (case a35 => first | k_is | rfl)
    (case l35 => first | k_is | rfl)
    (case c35 => first | k_is | rfl)
    (case k35 => first | k_is | rfl)
    (case a36 => first | k_is | rfl)
    (case l36 => first | k_is | rfl)
    (case c36 => first | k_is | rfl)
    (case k36 => first | k_is | rfl)
    (case a37 => first | k_is | rfl)
    (case l37 => first | k_is | rfl)
    (case c37 => first | k_is | rfl)
    (case k37 => first | k_is | rfl)
