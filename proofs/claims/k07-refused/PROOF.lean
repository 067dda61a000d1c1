import PyProof.Rows.All
import Wide.All
import OpenK.AllK
import Wide.FinOn
import HandS.ForMost
import HandS.ForExc
import HandS.IsInst
import HandS.Evl
import HandS.Steps
import HandS.TupSets
import HandS.SortRule
import HandS.SortInts
import HandS.Flow
import HandS.Style
import HandS.Deep
import HandS.ExcIs
import HandS.CallLocal
import HandS.CallSlots
import HandS.Conv
import HandS.SetFor
import HandS.HotCalls
import PySem.Challenge.RW_treeword_k07_refused
set_option Elab.async false
set_option linter.all false
set_option maxRecDepth 100000
set_option maxHeartbeats 1000000
namespace TW
/-! trees as lists of pairs -/
abbrev Ed := Nat × Nat
def hasv (v : Nat) (e : Ed) : Bool := e.1 == v || e.2 == v
def deg (es : List Ed) (v : Nat) : Nat := es.countP (hasv v)
def oth (v : Nat) (e : Ed) : Nat := if e.1 = v then e.2 else e.1
def cut (v : Nat) (es : List Ed) : List Ed := es.filter fun e => !hasv v e
def Jn (e : Ed) (l h : Nat) : Prop := e = (l, h) ∨ e = (h, l)

inductive IsT : List Nat → List Ed → Prop
  | one (v : Nat) : IsT [v] []
  | att {A : List Nat} {es : List Ed} {l h : Nat} {e : Ed} : IsT A es → l ∉ A → h ∈ A → Jn e l h → IsT (l :: A) (e :: es)
  | perm {A A' : List Nat} {es es' : List Ed} : IsT A es → A.Perm A' → es.Perm es' → IsT A' es'

theorem Jn.hasv {e : Ed} {l h v : Nat} (j : Jn e l h) : hasv v e = (l == v || h == v) := by
  rcases j with rfl | rfl <;> simp [TW.hasv, Bool.or_comm]
theorem deg_perm {es es' : List Ed} (p : es.Perm es') (v : Nat) : deg es v = deg es' v := p.countP_eq _
theorem deg_cons (e : Ed) (es : List Ed) (v : Nat) : deg (e :: es) v = deg es v + if hasv v e then 1 else 0 := by
  unfold deg; rw [List.countP_cons]
theorem IsT.nodup {A : List Nat} {es : List Ed} (t : IsT A es) : A.Nodup := by
  induction t with
  | one v => simp
  | att t hl hh j ih => exact List.nodup_cons.mpr ⟨hl, ih⟩
  | perm t p q ih => exact p.nodup ih
theorem IsT.len {A : List Nat} {es : List Ed} (t : IsT A es) : es.length + 1 = A.length := by
  induction t with
  | one v => simp
  | att t hl hh j ih => simp [ih]
  | perm t p q ih => rw [← p.length_eq, ← q.length_eq]; exact ih
theorem IsT.mem {A : List Nat} {es : List Ed} (t : IsT A es) : ∀ e ∈ es, e.1 ∈ A ∧ e.2 ∈ A ∧ e.1 ≠ e.2 := by
  induction t with
  | one v => simp
  | @att A es l h e t hl hh j ih =>
    intro f hf
    rcases List.mem_cons.mp hf with rfl | hf
    · rcases j with rfl | rfl
      · exact ⟨by simp, by simp [hh], fun q => hl (by simp at q; rw [q]; exact hh)⟩
      · exact ⟨by simp [hh], by simp, fun q => hl (by simp at q; rw [← q]; exact hh)⟩
    · have := ih f hf
      exact ⟨List.mem_cons_of_mem _ this.1, List.mem_cons_of_mem _ this.2.1, this.2.2⟩
  | perm t p q ih =>
    intro f hf
    have := ih f (q.mem_iff.mpr hf)
    exact ⟨p.mem_iff.mp this.1, p.mem_iff.mp this.2.1, this.2.2⟩
theorem deg_zero {es : List Ed} {v : Nat} (h : ∀ e ∈ es, e.1 ≠ v ∧ e.2 ≠ v) : deg es v = 0 := by
  unfold deg
  rw [List.countP_eq_zero]
  intro e he
  have := h e he
  simp [hasv, this.1, this.2]
theorem IsT.deg_out {A : List Nat} {es : List Ed} (t : IsT A es) {v : Nat} (hv : v ∉ A) : deg es v = 0 :=
  deg_zero fun e he => ⟨fun q => hv (q ▸ (t.mem e he).1), fun q => hv (q ▸ (t.mem e he).2.1)⟩
theorem IsT.ne {A : List Nat} {es : List Ed} (t : IsT A es) : A ≠ [] := by
  have := t.len
  intro e; subst e; simp at this
theorem IsT.deg_pos {A : List Nat} {es : List Ed} (t : IsT A es) : 2 ≤ A.length → ∀ v ∈ A, 1 ≤ deg es v := by
  induction t with
  | one v => simp
  | @att A es l h e t hl hh j ih =>
    intro _ v hv
    rw [deg_cons, j.hasv]
    rcases List.mem_cons.mp hv with rfl | hv
    · simp
    · by_cases h2 : 2 ≤ A.length
      · have := ih h2 v hv; omega
      · have h1 : A.length = 1 := by
          have := t.len; omega
        obtain ⟨x, rfl⟩ := List.length_eq_one_iff.mp h1
        simp at hv hh
        subst hv; subst hh
        simp
  | perm t p q ih =>
    intro h2 v hv
    rw [← deg_perm q]
    exact ih (by rw [p.length_eq]; exact h2) v (p.mem_iff.mpr hv)
theorem IsT.leaf {A : List Nat} {es : List Ed} (t : IsT A es) : 2 ≤ A.length → ∃ v ∈ A, deg es v = 1 := by
  induction t with
  | one v => simp
  | @att A es l h e t hl hh j ih =>
    intro _
    refine ⟨l, by simp, ?_⟩
    rw [deg_cons, j.hasv, t.deg_out hl]
    simp
  | perm t p q ih =>
    intro h2
    obtain ⟨v, hv, d⟩ := ih (by rw [p.length_eq]; exact h2)
    exact ⟨v, p.mem_iff.mp hv, by rw [← deg_perm q]; exact d⟩
theorem cut_perm {es es' : List Ed} (p : es.Perm es') (v : Nat) : (cut v es).Perm (cut v es') := p.filter _
theorem cut_self {es : List Ed} {v : Nat} (h : deg es v = 0) : cut v es = es := by
  unfold cut
  unfold deg at h
  rw [List.countP_eq_zero] at h
  rw [List.filter_eq_self]
  intro e he
  have := h e he
  simpa using this
/-- any house with one road alone may be taken off -/
theorem IsT.cut {A : List Nat} {es : List Ed} (t : IsT A es) : ∀ v ∈ A, deg es v = 1 → IsT (A.erase v) (cut v es) := by
  induction t with
  | one v => intro u hu d; simp [deg] at d
  | @att A es l h e t hl hh j ih =>
    intro v hv d
    rw [deg_cons, j.hasv] at d
    by_cases e1 : v = l
    · subst e1
      rw [List.erase_cons_head]
      have e2 : TW.cut v (e :: es) = es := by
        have : hasv v e = true := by rw [j.hasv]; simp
        show List.filter _ (e :: es) = es
        rw [List.filter_cons, if_neg (by rw [this]; simp)]
        exact cut_self (t.deg_out hl)
      rw [e2]; exact t
    · have hv' : v ∈ A := by
        rcases List.mem_cons.mp hv with q | q
        · exact absurd q e1
        · exact q
      by_cases e3 : h = v
      · subst e3
        have d0 : deg es h = 0 := by simp at d; omega
        have hA : A.length = 1 := by
          have := t.len
          by_cases h2 : 2 ≤ A.length
          · have := t.deg_pos h2 h hh; omega
          · omega
        obtain ⟨x, rfl⟩ := List.length_eq_one_iff.mp hA
        simp at hh
        subst hh
        have hes : es = [] := by
          have := t.len
          simp at this
          exact this
        subst hes
        have e2 : TW.cut h [e] = [] := by
          have : hasv h e = true := by rw [j.hasv]; simp
          show List.filter _ [e] = []
          rw [List.filter_cons, if_neg (by rw [this]; simp)]; rfl
        rw [e2]
        have : ([l, h] : List Nat).erase h = [l] := by
          rw [List.erase_cons_tail (by simp; exact fun q => e1 q.symm), List.erase_cons_head]
        rw [this]
        exact .one l
      · have hn : hasv v e = false := by rw [j.hasv]; simp [Ne.symm e1, e3]
        have d1 : deg es v = 1 := by simp [Ne.symm e1, e3] at d; exact d
        have e2 : TW.cut v (e :: es) = e :: TW.cut v es := by
          show List.filter _ (e :: es) = _
          rw [List.filter_cons, if_pos (by rw [hn]; rfl)]; rfl
        rw [e2, List.erase_cons_tail (by simp; exact fun q => e1 q.symm)]
        refine .att (ih v hv' d1) (fun q => hl (List.mem_of_mem_erase q)) ?_ j
        rw [List.mem_erase_of_ne e3]; exact hh
  | perm t p q ih =>
    intro v hv d
    exact .perm (ih v (p.mem_iff.mpr hv) (by rw [deg_perm q]; exact d)) (p.erase v) (cut_perm q v)
/-- a set that no road leaves holds all or none -/
theorem IsT.closed {A : List Nat} {es : List Ed} (t : IsT A es) (S : Nat → Prop) : (∀ e ∈ es, S e.1 ↔ S e.2) → ∀ v ∈ A, S v → ∀ u ∈ A, S u := by
  induction t with
  | one v => intro _ x hx s u hu; simp at hx hu; rw [hu, ← hx]; exact s
  | @att A es l h e t hl hh j ih =>
    intro c
    have c0 := ih fun f hf => c f (List.mem_cons_of_mem _ hf)
    have ce : S l ↔ S h := by
      have := c e (by simp)
      rcases j with rfl | rfl
      · exact this
      · exact this.symm
    intro v hv s u hu
    have sh : S h := by
      rcases List.mem_cons.mp hv with q | q
      · rw [q] at s; exact ce.mp s
      · exact c0 v q s h hh
    rcases List.mem_cons.mp hu with q | q
    · rw [q]; exact ce.mpr sh
    · exact c0 h hh sh u q
  | perm t p q ih =>
    intro c v hv s u hu
    exact ih (fun e he => c e (q.mem_iff.mp he)) v (p.mem_iff.mpr hv) s u (p.mem_iff.mpr hu)
theorem IsT.nodupE {A : List Nat} {es : List Ed} (t : IsT A es) : es.Nodup := by
  induction t with
  | one v => simp
  | @att A es l h e t hl hh j ih =>
    refine List.nodup_cons.mpr ⟨fun q => ?_, ih⟩
    have := t.mem e q
    rcases j with rfl | rfl
    · exact hl this.1
    · exact hl this.2.1
  | perm t p q ih => exact q.nodup ih
/-! the word of a tree -/
def leafOf (n : Nat) (es : List Ed) : Nat := ((List.range n).find? fun v => deg es v == 1).getD n
def nb (es : List Ed) (v : Nat) : Nat := match es.find? (hasv v) with
  | some e => oth v e
  | none => v
def code (n : Nat) : Nat → List Ed → List Nat
  | 0, _ => []
  | k + 1, es => nb es (leafOf n es) :: code n k (cut (leafOf n es) es)
theorem leafOf_perm (n : Nat) {es es' : List Ed} (p : es.Perm es') : leafOf n es = leafOf n es' := by
  unfold leafOf
  have : (fun v => deg es v == 1) = fun v => deg es' v == 1 := by
    funext v; rw [deg_perm p]
  rw [this]
theorem find_least {n : Nat} {p : Nat → Bool} {v : Nat} (hv : v < n) (h : p v = true) (hm : ∀ u, u < v → p u = false) : (List.range n).find? p = some v := by
  rw [List.find?_eq_some_iff_append]
  refine ⟨h, List.range v, List.range' (v + 1) (n - (v + 1)), ?_, ?_⟩
  · have e1 : List.range n = List.range' 0 n := List.range_eq_range'
    have e2 : List.range v = List.range' 0 v := List.range_eq_range'
    rw [e1, e2]
    have := List.range'_append (s := 0) (m := v) (n := n - v) (step := 1)
    have e3 : v + (n - v) = n := by omega
    rw [e3] at this
    rw [← this]
    congr 1
    have e4 : n - v = (n - (v + 1)) + 1 := by omega
    rw [e4, List.range'_succ]
    simp
  · intro a ha
    rw [hm a (List.mem_range.mp ha)]; rfl
theorem leafOf_spec {n : Nat} {A : List Nat} {es : List Ed} (t : IsT A es) (hA : ∀ v ∈ A, v < n) (h2 : 2 ≤ A.length) :
    leafOf n es ∈ A ∧ deg es (leafOf n es) = 1 ∧ leafOf n es < n ∧ ∀ u, u < leafOf n es → deg es u ≠ 1 := by
  obtain ⟨v, hv, d⟩ := t.leaf h2
  cases q : (List.range n).find? fun v => deg es v == 1 with
  | none =>
    rw [List.find?_eq_none] at q
    exact absurd (by simp [d]) (q v (List.mem_range.mpr (hA v hv)))
  | some l =>
    have e : leafOf n es = l := by unfold leafOf; rw [q]; rfl
    rw [List.find?_eq_some_iff_append] at q
    obtain ⟨h1, as, bs, h3, h4⟩ := q
    have d1 : deg es l = 1 := by simpa using h1
    have hl : l ∈ List.range n := by rw [h3]; simp
    have hln : l < n := List.mem_range.mp hl
    rw [e]
    refine ⟨?_, d1, hln, fun u hu du => ?_⟩
    · refine Classical.byContradiction fun q => ?_
      rw [t.deg_out q] at d1; cases d1
    · have hs : as.length = l := by
        have : (List.range n)[as.length]? = some l := by rw [h3]; simp
        rw [List.getElem?_range] at this
        · exact Option.some.inj this
        · rw [← List.length_range (n := n), h3]; simp
      have hu' : (List.range n)[u]? = some u := List.getElem?_range (by omega)
      rw [h3, List.getElem?_append_left (by omega)] at hu'
      have := h4 u (List.mem_of_getElem? hu')
      simp [du] at this
/-- of a house with one road: that road -/
theorem deg_one {es : List Ed} {v : Nat} (d : deg es v = 1) : ∃ as e bs, es = as ++ e :: bs ∧ hasv v e = true ∧ deg as v = 0 ∧ deg bs v = 0 := by
  unfold deg at d
  induction es with
  | nil => simp at d
  | cons e es ih =>
    rw [List.countP_cons] at d
    by_cases h : hasv v e = true
    · refine ⟨[], e, es, rfl, h, by simp [deg], ?_⟩
      rw [if_pos h] at d
      unfold deg; omega
    · rw [if_neg h] at d
      obtain ⟨as, f, bs, e1, e2, e3, e4⟩ := ih (by omega)
      refine ⟨e :: as, f, bs, by rw [e1]; rfl, e2, ?_, e4⟩
      rw [deg_cons, e3, if_neg h]
theorem find_split {es as bs : List Ed} {e : Ed} {v : Nat} (h : es = as ++ e :: bs) (he : hasv v e = true) (ha : deg as v = 0) : es.find? (hasv v) = some e := by
  rw [List.find?_eq_some_iff_append]
  refine ⟨he, as, bs, h, fun a ha' => ?_⟩
  unfold deg at ha
  rw [List.countP_eq_zero] at ha
  have := ha a ha'
  simpa using this
theorem nb_of {es : List Ed} {e : Ed} {l h : Nat} (hm : e ∈ es) (j : Jn e l h) (hlh : l ≠ h) (d : deg es l = 1) : nb es l = h := by
  obtain ⟨as, f, bs, e1, e2, e3, e4⟩ := deg_one d
  have he : hasv l e = true := by rw [j.hasv]; simp
  have : e = f := by
    rw [e1] at hm
    rcases List.mem_append.mp hm with q | q
    · unfold deg at e3; rw [List.countP_eq_zero] at e3; exact absurd he (e3 e q)
    · rcases List.mem_cons.mp q with q | q
      · exact q
      · unfold deg at e4; rw [List.countP_eq_zero] at e4; exact absurd he (e4 e q)
  subst this
  unfold nb
  rw [find_split e1 e2 e3]
  show oth l e = h
  unfold oth
  rcases j with rfl | rfl
  · simp
  · simp [Ne.symm hlh]
theorem nb_perm {es es' : List Ed} (p : es.Perm es') {l : Nat} (hne : ∀ e ∈ es, e.1 ≠ e.2) (d : deg es l = 1) : nb es l = nb es' l := by
  obtain ⟨as, e, bs, e1, e2, e3, e4⟩ := deg_one d
  have hm : e ∈ es := by rw [e1]; simp
  have j : Jn e l (oth l e) := by
    unfold oth Jn
    unfold hasv at e2
    by_cases q : e.1 = l
    · rw [if_pos q]; left; rw [← q]
    · rw [if_neg q]; right
      have : e.2 = l := by simpa [q] using e2
      rw [← this]
  have hlh : l ≠ oth l e := by
    have := hne e hm
    unfold oth
    by_cases q : e.1 = l
    · rw [if_pos q]; exact fun z => this (q.trans z)
    · rw [if_neg q]; exact fun z => q z.symm
  rw [nb_of hm j hlh d, nb_of (p.mem_iff.mp hm) j hlh (by rw [← deg_perm p]; exact d)]
theorem code_perm (n : Nat) : ∀ (k : Nat) {A : List Nat} {es es' : List Ed}, IsT A es → (∀ v ∈ A, v < n) → k + 2 ≤ A.length → es.Perm es' → code n k es = code n k es'
  | 0, _, _, _, _, _, _, _ => rfl
  | k + 1, A, es, es', t, hA, hk, p => by
    obtain ⟨h1, h2, h3, h4⟩ := leafOf_spec t hA (by omega)
    show nb es (leafOf n es) :: code n k (cut (leafOf n es) es) = nb es' (leafOf n es') :: code n k (cut (leafOf n es') es')
    rw [← leafOf_perm n p, nb_perm p (fun e he => (t.mem e he).2.2) h2]
    congr 1
    refine code_perm n k (t.cut _ h1 h2) (fun v hv => hA v (List.mem_of_mem_erase hv)) ?_ (cut_perm p _)
    rw [List.length_erase_of_mem h1]; omega
theorem code_len (n : Nat) : ∀ (k : Nat) (es : List Ed), (code n k es).length = k
  | 0, _ => rfl
  | k + 1, es => by simp [code, code_len n k]
/-! the tree of a word -/
def mk (a b : Nat) : Ed := (min a b, max a b)
theorem mk_jn (a b : Nat) : Jn (mk a b) a b := by
  unfold mk Jn
  by_cases h : a ≤ b
  · left; rw [Nat.min_eq_left h, Nat.max_eq_right h]
  · right; rw [Nat.min_eq_right (by omega), Nat.max_eq_left (by omega)]
/-- the least of the houses A that does not stand in w -/
def dleaf (n : Nat) (A w : List Nat) : Nat := ((List.range n).find? fun v => decide (v ∈ A) && decide (v ∉ w)).getD n
def dec (n : Nat) : List Nat → List Nat → List Ed
  | A, [] => match (List.range n).filter fun v => decide (v ∈ A) with
    | x :: y :: _ => [(x, y)]
    | _ => []
  | A, h :: w => mk (dleaf n A (h :: w)) h :: dec n (A.erase (dleaf n A (h :: w))) w
theorem pigeon : ∀ {A w : List Nat}, A.Nodup → w.length < A.length → ∃ v ∈ A, v ∉ w := by
  intro A
  induction A with
  | nil => intro w _ h; simp at h
  | cons a A ih =>
    intro w hn h
    by_cases ha : a ∈ w
    · obtain ⟨v, h1, h2⟩ := ih (w := w.erase a) (List.nodup_cons.mp hn).2 (by rw [List.length_erase_of_mem ha]; simp at h; have := List.length_pos_of_mem ha; omega)
      refine ⟨v, List.mem_cons_of_mem _ h1, fun q => h2 ?_⟩
      have : v ≠ a := fun z => (List.nodup_cons.mp hn).1 (z ▸ h1)
      exact (List.mem_erase_of_ne this).mpr q
    · exact ⟨a, by simp, ha⟩
theorem find_spec {n : Nat} {p : Nat → Bool} {v : Nat} (hv : v < n) (h : p v = true) : ∃ l, (List.range n).find? p = some l ∧ l < n ∧ p l = true ∧ ∀ u, u < l → p u = false := by
  cases q : (List.range n).find? p with
  | none =>
    rw [List.find?_eq_none] at q
    exact absurd h (q v (List.mem_range.mpr hv))
  | some l =>
    rw [List.find?_eq_some_iff_append] at q
    obtain ⟨h1, as, bs, h3, h4⟩ := q
    have hl : l ∈ List.range n := by rw [h3]; simp
    refine ⟨l, rfl, List.mem_range.mp hl, h1, fun u hu => ?_⟩
    have hln : l < n := List.mem_range.mp hl
    have hs : as.length = l := by
      have : (List.range n)[as.length]? = some l := by rw [h3]; simp
      rw [List.getElem?_range] at this
      · exact Option.some.inj this
      · rw [← List.length_range (n := n), h3]; simp
    have hu' : (List.range n)[u]? = some u := List.getElem?_range (by omega)
    rw [h3, List.getElem?_append_left (by omega)] at hu'
    have := h4 u (List.mem_of_getElem? hu')
    simpa using this
theorem dleaf_spec {n : Nat} {A w : List Nat} (hn : A.Nodup) (hA : ∀ v ∈ A, v < n) (hw : w.length < A.length) :
    dleaf n A w ∈ A ∧ dleaf n A w ∉ w ∧ dleaf n A w < n ∧ ∀ u, u < dleaf n A w → u ∈ A → u ∈ w := by
  obtain ⟨v, h1, h2⟩ := pigeon hn hw
  obtain ⟨l, e, h3, h4, h5⟩ := find_spec (p := fun v => decide (v ∈ A) && decide (v ∉ w)) (hA v h1) (by simp [h1, h2])
  have e' : dleaf n A w = l := by unfold dleaf; rw [e]; rfl
  rw [e']
  simp at h4
  refine ⟨h4.1, h4.2, h3, fun u hu hm => ?_⟩
  have := h5 u hu
  simp [hm] at this
  exact this
structure Good (n : Nat) (A w : List Nat) : Prop where
  nd : A.Nodup
  lt : ∀ v ∈ A, v < n
  len : A.length = w.length + 2
  mem : ∀ v ∈ w, v ∈ A
theorem Good.next {n : Nat} {A w : List Nat} {h : Nat} (g : Good n A (h :: w)) : Good n (A.erase (dleaf n A (h :: w))) w := by
  obtain ⟨h1, h2, h3, h4⟩ := dleaf_spec g.nd g.lt (w := h :: w) (by rw [g.len]; omega)
  refine ⟨g.nd.erase _, fun v hv => g.lt v (List.mem_of_mem_erase hv), ?_, fun v hv => ?_⟩
  · have := g.len
    rw [List.length_erase_of_mem h1, this]; simp
  · rw [List.mem_erase_of_ne (fun z => h2 (by rw [← z]; exact List.mem_cons_of_mem _ hv))]
    exact g.mem v (List.mem_cons_of_mem _ hv)
theorem two_of {A : List Nat} {n : Nat} (hn : A.Nodup) (hA : ∀ v ∈ A, v < n) (h : A.length = 2) : ∃ x y, x < y ∧ (List.range n).filter (fun v => decide (v ∈ A)) = [x, y] ∧ A.Perm [x, y] := by
  have p : ((List.range n).filter fun v => decide (v ∈ A)).Perm A := by
    rw [List.perm_ext_iff_of_nodup (List.nodup_range.filter _) hn]
    intro a
    simp
    exact fun q => hA a q
  have hl := p.length_eq
  rw [h] at hl
  have hs : ((List.range n).filter fun v => decide (v ∈ A)).Pairwise (· < ·) := List.Pairwise.filter _ List.pairwise_lt_range
  match hm : (List.range n).filter fun v => decide (v ∈ A), hl with
  | [x, y], _ =>
    rw [hm] at p hs
    exact ⟨x, y, by simpa using hs, rfl, p.symm⟩
theorem dec_nil {n : Nat} {A : List Nat} (g : Good n A []) : ∃ x y, x < y ∧ dec n A [] = [(x, y)] ∧ A.Perm [x, y] ∧ (List.range n).filter (fun v => decide (v ∈ A)) = [x, y] := by
  obtain ⟨x, y, h1, h2, h3⟩ := two_of g.nd g.lt g.len
  exact ⟨x, y, h1, by unfold dec; rw [h2], h3, h2⟩
theorem dec_isT (n : Nat) : ∀ (w A : List Nat), Good n A w → IsT A (dec n A w)
  | [], A, g => by
    obtain ⟨x, y, h1, h2, h3, _⟩ := dec_nil g
    rw [h2]
    refine .perm (A := [x, y]) (es := [(x, y)]) (.att (.one y) ?_ (by simp) (.inl rfl)) h3.symm (.refl _)
    simp; omega
  | h :: w, A, g => by
    obtain ⟨h1, h2, h3, h4⟩ := dleaf_spec g.nd g.lt (w := h :: w) (by rw [g.len]; omega)
    have ih := dec_isT n w _ g.next
    show IsT A (mk (dleaf n A (h :: w)) h :: dec n (A.erase (dleaf n A (h :: w))) w)
    refine .perm (.att (l := dleaf n A (h :: w)) ih ?_ ?_ (mk_jn _ h)) (List.perm_cons_erase h1).symm (.refl _)
    · exact g.nd.not_mem_erase
    · rw [List.mem_erase_of_ne (fun z => h2 (List.mem_cons.mpr (.inl z.symm)))]
      exact g.mem h (by simp)
theorem dec_deg (n : Nat) : ∀ (w A : List Nat), Good n A w → ∀ v ∈ A, deg (dec n A w) v = 1 + w.count v
  | [], A, g, v, hv => by
    obtain ⟨x, y, h1, h2, h3, _⟩ := dec_nil g
    rw [h2]
    have : v ∈ [x, y] := h3.mem_iff.mp hv
    simp at this
    rcases this with rfl | rfl
    · simp [deg, hasv]
    · simp [deg, hasv]
  | h :: w, A, g, v, hv => by
    obtain ⟨h1, h2, h3, h4⟩ := dleaf_spec g.nd g.lt (w := h :: w) (by rw [g.len]; omega)
    have ih := dec_deg n w _ g.next
    have t := dec_isT n w _ g.next
    show deg (mk (dleaf n A (h :: w)) h :: dec n (A.erase (dleaf n A (h :: w))) w) v = _
    rw [deg_cons, (mk_jn _ h).hasv]
    by_cases e : v = dleaf n A (h :: w)
    · have e0 : deg (dec n (A.erase (dleaf n A (h :: w))) w) v = 0 := t.deg_out (by rw [e]; exact g.nd.not_mem_erase)
      have e1 : (h :: w).count v = 0 := by rw [List.count_eq_zero, e]; exact h2
      rw [e0, e1, ← e]
      simp
    · rw [ih v ((List.mem_erase_of_ne e).mpr hv), List.count_cons]
      have : (dleaf n A (h :: w) == v) = false := by simp; exact fun q => e q.symm
      rw [this]
      simp
      omega
theorem dec_len (n : Nat) (w A : List Nat) (g : Good n A w) : (dec n A w).length = w.length + 1 := by
  have := (dec_isT n w A g).len
  have := g.len
  omega
theorem dec_lt (n : Nat) : ∀ (w A : List Nat), Good n A w → ∀ e ∈ dec n A w, e.1 < e.2 ∧ e.2 < n
  | [], A, g, e, he => by
    obtain ⟨x, y, h1, h2, h3, _⟩ := dec_nil g
    rw [h2] at he
    simp at he
    subst he
    exact ⟨h1, g.lt y (h3.mem_iff.mpr (by simp))⟩
  | h :: w, A, g, e, he => by
    obtain ⟨h1, h2, h3, h4⟩ := dleaf_spec g.nd g.lt (w := h :: w) (by rw [g.len]; omega)
    rcases List.mem_cons.mp (show e ∈ mk (dleaf n A (h :: w)) h :: dec n (A.erase (dleaf n A (h :: w))) w from he) with q | q
    · subst q
      have ne : dleaf n A (h :: w) ≠ h := fun z => h2 (List.mem_cons.mpr (.inl z))
      have := g.lt h (g.mem h (by simp))
      unfold mk
      simp
      omega
    · exact dec_lt n w _ g.next e q
/-- the word of the tree of a word -/
theorem code_dec (n : Nat) : ∀ (w A : List Nat), Good n A w → ∀ es, (dec n A w).Perm es → code n w.length es = w
  | [], A, g, es, p => rfl
  | h :: w, A, g, es, p => by
    obtain ⟨h1, h2, h3, h4⟩ := dleaf_spec g.nd g.lt (w := h :: w) (by rw [g.len]; omega)
    have t := dec_isT n (h :: w) A g
    have d := dec_deg n (h :: w) A g
    have el : leafOf n es = dleaf n A (h :: w) := by
      unfold leafOf
      rw [find_least h3]
      · rfl
      · rw [← deg_perm p, d _ h1, List.count_eq_zero.mpr h2]; rfl
      · intro u hu
        by_cases hu2 : u ∈ A
        · have := List.count_pos_iff.mpr (h4 u hu hu2)
          rw [← deg_perm p, d u hu2]
          simp; omega
        · rw [← deg_perm p, t.deg_out hu2]; rfl
    have dl : deg es (dleaf n A (h :: w)) = 1 := by rw [← deg_perm p, d _ h1, List.count_eq_zero.mpr h2]
    have ne : dleaf n A (h :: w) ≠ h := fun z => h2 (List.mem_cons.mpr (.inl z))
    have hm : mk (dleaf n A (h :: w)) h ∈ es := p.mem_iff.mp (by show _ ∈ _ :: _; exact List.mem_cons_self)
    show nb es (leafOf n es) :: code n w.length (cut (leafOf n es) es) = h :: w
    rw [el, nb_of hm (mk_jn _ h) ne dl]
    congr 1
    refine code_dec n w _ g.next _ ?_
    have t2 := dec_isT n w _ g.next
    have ec : cut (dleaf n A (h :: w)) (dec n A (h :: w)) = dec n (A.erase (dleaf n A (h :: w))) w := by
      have : hasv (dleaf n A (h :: w)) (mk (dleaf n A (h :: w)) h) = true := by rw [(mk_jn _ h).hasv]; simp
      show List.filter _ (mk (dleaf n A (h :: w)) h :: dec n (A.erase (dleaf n A (h :: w))) w) = _
      rw [List.filter_cons, if_neg (by rw [this]; simp)]
      exact cut_self (t2.deg_out g.nd.not_mem_erase)
    rw [← ec]
    exact cut_perm p _
/-! what the program reckons -/
def nb1 (v : Nat) (e : Ed) : List Nat := if e.1 = v then [e.2] else if e.2 = v then [e.1] else []
def nbrs (rs : List Ed) (v : Nat) : List Nat := rs.flatMap (nb1 v)
theorem nbrs_snoc (rs : List Ed) (e : Ed) (v : Nat) : nbrs (rs ++ [e]) v = nbrs rs v ++ nb1 v e := by
  unfold nbrs
  simp
structure Roads (n : Nat) (rs : List Ed) : Prop where
  nd : rs.Nodup
  lt : ∀ e ∈ rs, e.1 < e.2 ∧ e.2 < n
theorem mem_nbrs {rs : List Ed} {v u : Nat} (hr : ∀ e ∈ rs, e.1 ≠ e.2) : u ∈ nbrs rs v ↔ (v, u) ∈ rs ∨ (u, v) ∈ rs := by
  unfold nbrs
  rw [List.mem_flatMap]
  constructor
  · rintro ⟨e, he, hu⟩
    unfold nb1 at hu
    split at hu
    · rename_i h
      simp at hu
      left
      rw [hu, ← h]
      exact he
    · split at hu
      · rename_i h
        simp at hu
        right
        rw [hu, ← h]
        exact he
      · simp at hu
  · rintro (h | h)
    · exact ⟨(v, u), h, by simp [nb1]⟩
    · refine ⟨(u, v), h, ?_⟩
      have := hr _ h
      simp at this
      simp [nb1, this]
theorem nbrs_lt {n : Nat} {rs : List Ed} (h : Roads n rs) {v u : Nat} (hu : u ∈ nbrs rs v) : u < n := by
  rcases (mem_nbrs (fun e he => Nat.ne_of_lt (h.lt e he).1)).mp hu with q | q
  · exact (h.lt _ q).2
  · have := h.lt _ q
    simp at this
    omega
/-- for other in ..: if ahead[other] < 0: .. -/
def pushN (here : Nat) : List Nat → List Int × List Nat → List Int × List Nat
  | [], s => s
  | o :: r, s => if s.1.getD o 0 < 0 then pushN here r (s.1.set o here, s.2 ++ [o]) else pushN here r s
/-- the search, turn by turn -/
def runC (rs : List Ed) : Nat → List Int × List Nat → List Int
  | 0, s => s.1
  | f + 1, s => match s.2.getLast? with
    | none => s.1
    | some here => runC rs f (pushN here (nbrs rs here) (s.1, s.2.dropLast))
def cameFrom (n : Nat) (rs : List Ed) (b : Nat) : List Int := runC rs (n + 1) ((List.replicate n (-1)).set b b, [b])
def unseen (ah : List Int) : Nat := ah.countP (fun x => decide (x < 0))
theorem runC_done (rs : List Ed) (f : Nat) (ah : List Int) : runC rs f (ah, []) = ah := by
  cases f <;> rfl
theorem unseen_set {ah : List Int} {o : Nat} {v : Int} (ho : ah.getD o 0 < 0) (hv : 0 ≤ v) : unseen (ah.set o v) + 1 = unseen ah := by
  unfold unseen
  induction ah generalizing o with
  | nil => simp at ho
  | cons x ah ih =>
    cases o with
    | zero =>
      simp at ho
      rw [List.set_cons_zero, List.countP_cons, List.countP_cons]
      have h1 : decide (v < 0) = false := by simp; omega
      simp [h1, ho]
    | succ o =>
      have ho' : ah.getD o 0 < 0 := by simpa using ho
      have := ih ho'
      rw [List.set_cons_succ, List.countP_cons, List.countP_cons]
      omega
/-- what a turn keeps -/
structure CInv (n : Nat) (s : List Int × List Nat) : Prop where
  len : s.1.length = n
  lt : ∀ v ∈ s.2, v < n
theorem pushN_inv {n here : Nat} : ∀ (l : List Nat) (s : List Int × List Nat), CInv n s → (∀ v ∈ l, v < n) → CInv n (pushN here l s) ∧ unseen (pushN here l s).1 + (pushN here l s).2.length = unseen s.1 + s.2.length
  | [], s, i, _ => ⟨i, rfl⟩
  | o :: r, s, i, hl => by
    unfold pushN
    have hr : ∀ v ∈ r, v < n := fun v hv => hl v (List.mem_cons_of_mem _ hv)
    split
    · rename_i h
      have i2 : CInv n (s.1.set o here, s.2 ++ [o]) := ⟨by simp [i.len], fun v hv => by
        simp at hv
        rcases hv with hv | rfl
        · exact i.lt v hv
        · exact hl v (by simp)⟩
      obtain ⟨h1, h2⟩ := pushN_inv r _ i2 hr
      refine ⟨h1, h2.trans ?_⟩
      have := unseen_set h (v := (here : Int)) (by omega)
      simp
      omega
    · exact pushN_inv r s i hr
/-! what the search finds -/
structure DI (n : Nat) (rs : List Ed) (b : Nat) (op : Nat → Prop) (s : List Int × List Nat) (dl : List Nat) (F : List Ed) (rk : Nat → Nat) : Prop where
  len : s.1.length = n
  tree : IsT dl F
  sub : ∀ e ∈ F, e ∈ rs
  seen : ∀ v, v < n → (0 ≤ s.1.getD v 0 ↔ v ∈ dl)
  lt : ∀ v ∈ dl, v < n
  root : b ∈ dl ∧ s.1.getD b 0 = b
  par : ∀ v ∈ dl, v ≠ b → ∃ u ∈ dl, s.1.getD v 0 = u ∧ v ∈ nbrs rs u ∧ rk u < rk v
  rkl : ∀ v ∈ dl, rk v < dl.length
  wt : ∀ v ∈ s.2, v ∈ dl
  cl : ∀ v ∈ dl, v ∈ s.2 ∨ op v ∨ ∀ u ∈ nbrs rs v, u ∈ dl
theorem getD_set {l : List Int} {i j : Nat} {x d : Int} (hi : i < l.length) : (l.set i x).getD j d = if j = i then x else l.getD j d := by
  rw [List.getD_eq_getElem?_getD, List.getD_eq_getElem?_getD, List.getElem?_set]
  by_cases h : j = i
  · subst h; simp [hi]
  · rw [if_neg h, if_neg (fun e => h e.symm)]
theorem nbrs_mem {rs : List Ed} {u v : Nat} (h : v ∈ nbrs rs u) : ∃ e ∈ rs, Jn e v u := by
  unfold nbrs at h
  obtain ⟨e, he, hv⟩ := List.mem_flatMap.mp h
  refine ⟨e, he, ?_⟩
  unfold nb1 at hv
  split at hv
  · rename_i q
    simp at hv
    right
    rw [hv, ← q]
  · split at hv
    · rename_i q
      simp at hv
      left
      rw [hv, ← q]
    · simp at hv
theorem DI.push {n : Nat} {rs : List Ed} {b here o : Nat} {op : Nat → Prop} {s : List Int × List Nat} {dl : List Nat} {F : List Ed} {rk : Nat → Nat} (i : DI n rs b op s dl F rk) (hh : here ∈ dl) (ho : o ∈ nbrs rs here) (hon : o < n) :
    ∃ dl' F' rk', DI n rs b op (pushN here [o] s) dl' F' rk' ∧ (∀ v ∈ dl, v ∈ dl') ∧ o ∈ dl' := by
  by_cases hneg : s.1.getD o 0 < 0
  · have hnd : o ∉ dl := fun q => by
      have := (i.seen o hon).mpr q
      omega
    obtain ⟨e, he, hj⟩ := nbrs_mem ho
    have e1 : pushN here [o] s = (s.1.set o here, s.2 ++ [o]) := by
      unfold pushN
      rw [if_pos hneg]
      rfl
    have hlen : o < s.1.length := by rw [i.len]; exact hon
    rw [e1]
    refine ⟨o :: dl, e :: F, fun v => if v = o then dl.length else rk v, ⟨?_, ?_, ?_, ?_, ?_, ?_, ?_, ?_, ?_, ?_⟩, fun v hv => List.mem_cons_of_mem _ hv, by simp⟩
    · simp [i.len]
    · exact .att i.tree hnd hh hj
    · intro f hf
      rcases List.mem_cons.mp hf with rfl | hf
      · exact he
      · exact i.sub f hf
    · intro v hv
      show 0 ≤ (s.1.set o (here : Int)).getD v 0 ↔ _
      rw [getD_set hlen]
      by_cases hvo : v = o
      · subst hvo; simp
      · rw [if_neg hvo, i.seen v hv]
        simp [hvo]
    · intro v hv
      rcases List.mem_cons.mp hv with rfl | hv
      · exact hon
      · exact i.lt v hv
    · refine ⟨List.mem_cons_of_mem _ i.root.1, ?_⟩
      show (s.1.set o (here : Int)).getD b 0 = _
      rw [getD_set hlen, if_neg (fun z : b = o => hnd (z ▸ i.root.1))]
      exact i.root.2
    · intro v hv hb
      by_cases hvo : v = o
      · subst hvo
        refine ⟨here, List.mem_cons_of_mem _ hh, ?_, ho, ?_⟩
        · show (s.1.set v (here : Int)).getD v 0 = _
          rw [getD_set hlen, if_pos rfl]
        · rw [if_pos rfl, if_neg (fun z : here = v => hnd (z ▸ hh))]
          exact i.rkl here hh
      · have hv' : v ∈ dl := by
          rcases List.mem_cons.mp hv with q | q
          · exact absurd q hvo
          · exact q
        obtain ⟨u, hu, h1, h2, h3⟩ := i.par v hv' hb
        refine ⟨u, List.mem_cons_of_mem _ hu, ?_, h2, ?_⟩
        · show (s.1.set o (here : Int)).getD v 0 = _
          rw [getD_set hlen, if_neg hvo]
          exact h1
        · rw [if_neg hvo, if_neg (fun z : u = o => hnd (z ▸ hu))]
          exact h3
    · intro v hv
      by_cases hvo : v = o
      · rw [if_pos hvo]; simp
      · have hv' : v ∈ dl := by
          rcases List.mem_cons.mp hv with q | q
          · exact absurd q hvo
          · exact q
        rw [if_neg hvo]
        have := i.rkl v hv'
        simp
        omega
    · intro v hv
      rcases List.mem_append.mp hv with q | q
      · exact List.mem_cons_of_mem _ (i.wt v q)
      · simp at q
        rw [q]
        simp
    · intro v hv
      rcases List.mem_cons.mp hv with rfl | hv
      · left; simp
      · rcases i.cl v hv with q | q | q
        · left; simp [q]
        · right; left; exact q
        · right; right; exact fun u hu => List.mem_cons_of_mem _ (q u hu)
  · have e1 : pushN here [o] s = s := by
      unfold pushN
      rw [if_neg hneg]
      rfl
    rw [e1]
    exact ⟨dl, F, rk, i, fun _ h => h, (i.seen o hon).mp (by omega)⟩
theorem pushN_cons2 (here o : Nat) (r : List Nat) (s : List Int × List Nat) : pushN here (o :: r) s = pushN here r (pushN here [o] s) := by
  show (if _ then _ else _) = pushN here r (if _ then _ else _)
  split <;> rfl
theorem DI.pushAll {n : Nat} {rs : List Ed} {b here : Nat} {op : Nat → Prop} (hr : Roads n rs) : ∀ (l : List Nat) {s : List Int × List Nat} {dl : List Nat} {F : List Ed} {rk : Nat → Nat}, DI n rs b op s dl F rk → here ∈ dl → (∀ o ∈ l, o ∈ nbrs rs here) →
    ∃ dl' F' rk', DI n rs b op (pushN here l s) dl' F' rk' ∧ (∀ v ∈ dl, v ∈ dl') ∧ ∀ o ∈ l, o ∈ dl'
  | [], s, dl, F, rk, i, _, _ => ⟨dl, F, rk, i, fun _ h => h, by simp⟩
  | o :: r, s, dl, F, rk, i, hh, hl => by
    have ho := hl o (by simp)
    obtain ⟨d1, F1, r1, i1, s1, m1⟩ := i.push hh ho (nbrs_lt hr ho)
    obtain ⟨d2, F2, r2, i2, s2, m2⟩ := DI.pushAll hr r i1 (s1 _ hh) fun x hx => hl x (List.mem_cons_of_mem _ hx)
    rw [pushN_cons2]
    refine ⟨d2, F2, r2, i2, fun v hv => s2 v (s1 v hv), fun x hx => ?_⟩
    rcases List.mem_cons.mp hx with rfl | hx
    · exact s2 _ m1
    · exact m2 x hx
theorem runC_spec {n : Nat} {rs : List Ed} {b : Nat} (hr : Roads n rs) : ∀ (f : Nat) (s : List Int × List Nat) {dl : List Nat} {F : List Ed} {rk : Nat → Nat}, DI n rs b (fun _ => False) s dl F rk → unseen s.1 + s.2.length ≤ f →
    ∃ dl' F' rk', DI n rs b (fun _ => False) (runC rs f s, []) dl' F' rk'
  | 0, s, dl, F, rk, i, hf => by
    have h0 : s.2 = [] := List.eq_nil_of_length_eq_zero (by omega)
    refine ⟨dl, F, rk, ?_⟩
    have e : (runC rs 0 s, ([] : List Nat)) = s := by
      show (s.1, []) = s
      rw [← h0]
    rw [e]
    exact i
  | f + 1, s, dl, F, rk, i, hf => by
    cases hl : s.2.getLast? with
    | none =>
      have h0 : s.2 = [] := List.getLast?_eq_none_iff.mp hl
      refine ⟨dl, F, rk, ?_⟩
      have e : (runC rs (f + 1) s, ([] : List Nat)) = s := by
        unfold runC
        rw [hl]
        show (s.1, []) = s
        rw [← h0]
      rw [e]
      exact i
    | some here =>
      have e : runC rs (f + 1) s = runC rs f (pushN here (nbrs rs here) (s.1, s.2.dropLast)) := by
        conv => lhs; unfold runC
        rw [hl]
      rw [e]
      have hs2 : s.2 = s.2.dropLast ++ [here] := by
        obtain ⟨ys, h⟩ := List.getLast?_eq_some_iff.mp hl
        rw [h]
        simp
      have hh : here ∈ dl := i.wt here (by rw [hs2]; simp)
      have i1 : DI n rs b (fun v => v = here) (s.1, s.2.dropLast) dl F rk := by
        refine ⟨i.len, i.tree, i.sub, i.seen, i.lt, i.root, i.par, i.rkl, fun v hv => i.wt v (by rw [hs2]; simp; exact .inl hv), fun v hv => ?_⟩
        rcases i.cl v hv with q | q | q
        · rw [hs2] at q
          rcases List.mem_append.mp q with q | q
          · exact .inl q
          · simp at q
            exact .inr (.inl q)
        · exact q.elim
        · exact .inr (.inr q)
      obtain ⟨d2, F2, r2, i2, s2, m2⟩ := i1.pushAll hr (nbrs rs here) hh fun _ h => h
      have i3 : DI n rs b (fun _ => False) (pushN here (nbrs rs here) (s.1, s.2.dropLast)) d2 F2 r2 := by
        refine ⟨i2.len, i2.tree, i2.sub, i2.seen, i2.lt, i2.root, i2.par, i2.rkl, i2.wt, fun v hv => ?_⟩
        rcases i2.cl v hv with q | q | q
        · exact .inl q
        · right; right
          rw [q]
          exact fun u hu => m2 u hu
        · exact .inr (.inr q)
      refine runC_spec hr f _ i3 ?_
      have hc : CInv n (s.1, s.2.dropLast) := ⟨i.len, fun v hv => i.lt v (i.wt v (by rw [hs2]; simp; exact .inl hv))⟩
      have := (pushN_inv (here := here) (nbrs rs here) _ hc (fun v hv => nbrs_lt hr hv)).2
      rw [this]
      show unseen s.1 + s.2.dropLast.length ≤ f
      have hl2 : s.2.length = s.2.dropLast.length + 1 := by
        conv => lhs; rw [hs2]
        simp
      omega
/-- THE SEARCH: what came_from tells -/
theorem came_spec {n : Nat} {rs : List Ed} {b : Nat} (hr : Roads n rs) (hb : b < n) : ∃ dl F rk, DI n rs b (fun _ => False) (cameFrom n rs b, []) dl F rk := by
  refine runC_spec hr (n + 1) _ (dl := [b]) (F := []) (rk := fun _ => 0) ⟨by simp, .one b, by simp, ?_, by simp; exact hb, ?_, ?_, by simp, by simp, by simp⟩ ?_
  · intro v hv
    show 0 ≤ ((List.replicate n (-1)).set b (b : Int)).getD v 0 ↔ _
    rw [getD_set (by simp; exact hb)]
    by_cases h : v = b
    · subst h; simp
    · rw [if_neg h]
      simp [h, List.getD_eq_getElem?_getD, List.getElem?_replicate, hv]
  · refine ⟨by simp, ?_⟩
    show ((List.replicate n (-1)).set b (b : Int)).getD b 0 = _
    rw [getD_set (by simp; exact hb), if_pos rfl]
  · intro v hv h
    simp at hv
    exact absurd hv h
  · have : unseen ((List.replicate n (-1)).set b (b : Int)) ≤ ((List.replicate n (-1)).set b (b : Int)).length := List.countP_le_length
    simp at this
    simp
    exact this
theorem came_len {n : Nat} {rs : List Ed} {b : Nat} (hr : Roads n rs) (hb : b < n) : (cameFrom n rs b).length = n := by
  obtain ⟨_, _, _, i⟩ := came_spec hr hb
  exact i.len
def isTreeB (n : Nat) (rs : List Ed) : Bool := decide (rs.length + 1 = n) && (cameFrom n rs 0).all fun x => decide (0 ≤ x)
theorem perm_of_sub {α : Type} [DecidableEq α] : ∀ (b a : List α), b.Nodup → (∀ x ∈ b, x ∈ a) → a.length ≤ b.length → a.Perm b
  | [], a, _, _, h => by
    have : a = [] := List.eq_nil_of_length_eq_zero (by simpa using h)
    rw [this]
  | x :: b, a, nb, sb, h => by
    have hx : x ∈ a := sb x (by simp)
    obtain ⟨n1, n2⟩ := List.nodup_cons.mp nb
    refine (List.perm_cons_erase hx).trans (.cons x (perm_of_sub b (a.erase x) n2 (fun y hy => ?_) ?_))
    · exact (List.mem_erase_of_ne (fun e => n1 (by rw [← e]; exact hy))).mpr (sb y (List.mem_cons_of_mem _ hy))
    · rw [List.length_erase_of_mem hx]
      simp at h
      omega
theorem all_seen {ah : List Int} {n : Nat} (h : ah.length = n) : (ah.all fun x => decide (0 ≤ x)) = true ↔ ∀ v, v < n → 0 ≤ ah.getD v 0 := by
  rw [List.all_eq_true]
  constructor
  · intro q v hv
    have := q ah[v] (List.getElem_mem (by omega))
    simp [List.getD_eq_getElem?_getD, h, hv]
    simpa using this
  · intro q x hx
    obtain ⟨i, hi, rfl⟩ := List.getElem_of_mem hx
    have := q i (by omega)
    simp [List.getD_eq_getElem?_getD, hi] at this
    simpa using this
/-- is_tree tells trees -/
theorem isTree_iff {n : Nat} {rs : List Ed} (hr : Roads n rs) (hn : 1 ≤ n) : isTreeB n rs = true ↔ IsT (List.range n) rs := by
  obtain ⟨dl, F, rk, i⟩ := came_spec hr (b := 0) (by omega)
  unfold isTreeB
  rw [Bool.and_eq_true, decide_eq_true_eq, all_seen i.len]
  constructor
  · rintro ⟨h1, h2⟩
    have hdl : dl.Perm (List.range n) := by
      rw [List.perm_ext_iff_of_nodup i.tree.nodup List.nodup_range]
      intro v
      rw [List.mem_range]
      exact ⟨i.lt v, fun hv => (i.seen v hv).mp (h2 v hv)⟩
    have hF : rs.Perm F := by
      refine perm_of_sub F rs i.tree.nodupE i.sub ?_
      have := i.tree.len
      have := hdl.length_eq
      rw [List.length_range] at this
      omega
    exact .perm i.tree hdl hF.symm
  · intro t
    refine ⟨by have := t.len; rw [List.length_range] at this; exact this, fun v hv => ?_⟩
    rw [i.seen v hv]
    refine t.closed (fun v => v ∈ dl) (fun e he => ?_) 0 (List.mem_range.mpr (by omega)) i.root.1 v (List.mem_range.mpr hv)
    have ne : ∀ e ∈ rs, e.1 ≠ e.2 := fun e he => Nat.ne_of_lt (hr.lt e he).1
    constructor
    · intro h
      rcases i.cl e.1 h with q | q | q
      · simp at q
      · exact q.elim
      · exact q e.2 ((mem_nbrs ne).mpr (.inl he))
    · intro h
      rcases i.cl e.2 h with q | q | q
      · simp at q
      · exact q.elim
      · exact q e.1 ((mem_nbrs ne).mpr (.inr he))
/-! rising roads -/
def leE (a b : Ed) : Bool := decide (a.1 < b.1) || (decide (a.1 = b.1) && decide (a.2 ≤ b.2))
theorem leE_iff {a b : Ed} : leE a b = true ↔ a.1 < b.1 ∨ (a.1 = b.1 ∧ a.2 ≤ b.2) := by
  simp [leE]
theorem leE_total (a b : Ed) : leE a b = true ∨ leE b a = true := by
  rw [leE_iff, leE_iff]; omega
theorem leE_anti {a b : Ed} (h1 : leE a b = true) (h2 : leE b a = true) : a = b := by
  rw [leE_iff] at h1 h2
  exact Prod.ext (by omega) (by omega)
theorem leE_trans {a b c : Ed} (h1 : leE a b = true) (h2 : leE b c = true) : leE a c = true := by
  rw [leE_iff] at *
  omega
def insE (e : Ed) : List Ed → List Ed
  | [] => [e]
  | f :: l => if leE e f then e :: f :: l else f :: insE e l
def sortE : List Ed → List Ed
  | [] => []
  | e :: l => insE e (sortE l)
theorem insE_perm (e : Ed) : ∀ l : List Ed, (insE e l).Perm (e :: l)
  | [] => .refl _
  | f :: l => by
    unfold insE
    split
    · exact .refl _
    · exact ((insE_perm e l).cons f).trans (.swap ..)
theorem sortE_perm : ∀ l : List Ed, (sortE l).Perm l
  | [] => .refl _
  | e :: l => (insE_perm e _).trans ((sortE_perm l).cons e)
def Rising (l : List Ed) : Prop := l.Pairwise fun a b => leE a b = true
theorem insE_rising (e : Ed) : ∀ {l : List Ed}, Rising l → Rising (insE e l)
  | [], _ => by simp [insE, Rising]
  | f :: l, h => by
    unfold insE
    have h' := List.pairwise_cons.mp h
    split
    · rename_i q
      refine List.pairwise_cons.mpr ⟨fun x hx => ?_, h⟩
      rcases List.mem_cons.mp hx with rfl | hx
      · exact q
      · exact leE_trans q (h'.1 x hx)
    · rename_i q
      refine List.pairwise_cons.mpr ⟨fun x hx => ?_, insE_rising e h'.2⟩
      rcases List.mem_cons.mp ((insE_perm e l).mem_iff.mp hx) with rfl | hx
      · rcases leE_total x f with z | z
        · exact absurd z q
        · exact z
      · exact h'.1 x hx
theorem sortE_rising : ∀ l : List Ed, Rising (sortE l)
  | [] => by simp [sortE, Rising]
  | e :: l => insE_rising e (sortE_rising l)
theorem rising_uniq : ∀ {l m : List Ed}, Rising l → Rising m → l.Perm m → l = m
  | [], m, _, _, p => (List.Perm.eq_nil p.symm).symm
  | e :: l, [], _, _, p => absurd p.length_eq (by simp)
  | e :: l, f :: m, h1, h2, p => by
    have a := List.pairwise_cons.mp h1
    have b := List.pairwise_cons.mp h2
    have e1 : leE e f = true := by
      rcases List.mem_cons.mp (p.symm.mem_iff.mp (List.mem_cons_self (a := f) (l := m))) with q | q
      · rw [q]
        rcases leE_total e e with z | z <;> exact z
      · exact a.1 f q
    have e2 : leE f e = true := by
      rcases List.mem_cons.mp (p.mem_iff.mp (List.mem_cons_self (a := e) (l := l))) with q | q
      · rw [q]
        rcases leE_total f f with z | z <;> exact z
      · exact b.1 e q
    have := leE_anti e1 e2
    subst this
    rw [rising_uniq a.2 b.2 p.cons_inv]
theorem sortE_eq {l m : List Ed} (h : Rising l) (p : l.Perm m) : l = sortE m := rising_uniq h (sortE_rising m) (p.trans (sortE_perm m).symm)
theorem sortE_self {l : List Ed} (h : Rising l) : sortE l = l := (sortE_eq h (.refl l)).symm
theorem sortE_congr {l m : List Ed} (p : l.Perm m) : sortE l = sortE m := sortE_eq (sortE_rising l) ((sortE_perm l).trans p)
/-! the word, as the program reckons it -/
def inA (A : List Nat) (e : Ed) : Bool := decide (e.1 ∈ A) && decide (e.2 ∈ A)
theorem nbrs_cons (e : Ed) (rs : List Ed) (v : Nat) : nbrs (e :: rs) v = nb1 v e ++ nbrs rs v := by simp [nbrs]
theorem nbrs_filter {A : List Nat} {l : Nat} (hl : l ∈ A) : ∀ (rs : List Ed), nbrs (rs.filter (inA A)) l = (nbrs rs l).filter (fun o => decide (o ∈ A))
  | [] => rfl
  | e :: rs => by
    have ih := nbrs_filter hl rs
    rw [nbrs_cons, List.filter_append, ← ih, List.filter_cons]
    by_cases h1 : e.1 = l
    · have e1 : nb1 l e = [e.2] := by simp [nb1, h1]
      by_cases h2 : e.2 ∈ A
      · have : inA A e = true := by simp [inA, h1, hl, h2]
        rw [this, if_pos rfl, nbrs_cons, e1]
        simp [h2]
      · have : inA A e = false := by simp [inA, h2]
        rw [this, if_neg (by simp), e1]
        simp [h2]
    · by_cases h2 : e.2 = l
      · have e1 : nb1 l e = [e.1] := by simp [nb1, h1, h2]
        by_cases h3 : e.1 ∈ A
        · have : inA A e = true := by simp [inA, h2, hl, h3]
          rw [this, if_pos rfl, nbrs_cons, e1]
          simp [h3]
        · have : inA A e = false := by simp [inA, h3]
          rw [this, if_neg (by simp), e1]
          simp [h3]
      · have e1 : nb1 l e = [] := by simp [nb1, h1, h2]
        rw [e1]
        split
        · rw [nbrs_cons, e1]; rfl
        · rfl
theorem nbrs_zero {es : List Ed} {v : Nat} (h : deg es v = 0) : nbrs es v = [] := by
  unfold nbrs
  rw [List.flatMap_eq_nil_iff]
  intro e he
  unfold deg at h
  rw [List.countP_eq_zero] at h
  have := h e he
  simp [hasv] at this
  simp [nb1, this.1, this.2]
theorem nbrs_app (a b : List Ed) (v : Nat) : nbrs (a ++ b) v = nbrs a v ++ nbrs b v := by simp [nbrs]
theorem nbrs_leaf {es : List Ed} {l : Nat} (d : deg es l = 1) : nbrs es l = [nb es l] := by
  obtain ⟨as, e, bs, e1, e2, e3, e4⟩ := deg_one d
  unfold nb
  rw [find_split e1 e2 e3]
  rw [e1, nbrs_app, nbrs_cons, nbrs_zero e3, nbrs_zero e4]
  simp [hasv] at e2
  by_cases h : e.1 = l
  · simp [nb1, oth, h]
  · have : e.2 = l := by
      rcases e2 with q | q
      · exact absurd q h
      · exact q
    simp [nb1, oth, h, this]
theorem cut_filter {A : List Nat} (nd : A.Nodup) (l : Nat) (rs : List Ed) : cut l (rs.filter (inA A)) = rs.filter (inA (A.erase l)) := by
  unfold cut
  rw [List.filter_filter]
  congr 1
  funext e
  simp only [inA, hasv, nd.mem_erase_iff]
  by_cases h1 : e.1 = l <;> by_cases h2 : e.2 = l <;> simp [h1, h2]
theorem deg_cut {es : List Ed} {l : Nat} (hne : ∀ e ∈ es, e.1 ≠ e.2) (d : deg es l = 1) (v : Nat) : deg (cut l es) v = if v = l then 0 else if v = nb es l then deg es v - 1 else deg es v := by
  obtain ⟨as, e, bs, e1, e2, e3, e4⟩ := deg_one d
  have hm : e ∈ es := by rw [e1]; simp
  have hc : cut l es = as ++ bs := by
    rw [e1]
    show List.filter _ (as ++ e :: bs) = _
    rw [List.filter_append, List.filter_cons, if_neg (by rw [e2]; simp)]
    exact congr (congrArg _ (cut_self e3)) (cut_self e4)
  have hnb : nb es l = oth l e := by unfold nb; rw [find_split e1 e2 e3]
  have hj : Jn e l (oth l e) := by
    unfold oth Jn
    simp [hasv] at e2
    by_cases q : e.1 = l
    · rw [if_pos q]; left; rw [← q]
    · rw [if_neg q]; right
      have : e.2 = l := by
        rcases e2 with z | z
        · exact absurd z q
        · exact z
      rw [← this]
  rw [hc, hnb]
  have hd : ∀ u, deg (as ++ bs) u + (if hasv u e then 1 else 0) = deg es u := by
    intro u
    rw [e1]
    unfold deg
    rw [List.countP_append, List.countP_append, List.countP_cons]
    omega
  have h1 := hd v
  rw [hj.hasv] at h1
  by_cases hv : v = l
  · subst hv
    rw [if_pos rfl]
    rw [d] at h1
    simp at h1
    exact h1
  · rw [if_neg hv]
    by_cases hw : v = oth l e
    · rw [if_pos hw]
      rw [← hw] at h1
      simp at h1
      omega
    · rw [if_neg hw]
      have a1 : (l == v) = false := by simp; exact fun z => hv z.symm
      have a2 : (oth l e == v) = false := by simp; exact fun z => hw z.symm
      rw [a1, a2] at h1
      simpa using h1
theorem nb_in {A : List Nat} {es : List Ed} (t : IsT A es) {l : Nat} (d : deg es l = 1) : nb es l ∈ A ∧ nb es l ≠ l := by
  obtain ⟨as, e, bs, e1, e2, e3, e4⟩ := deg_one d
  have hm : e ∈ es := by rw [e1]; simp
  have hnb : nb es l = oth l e := by unfold nb; rw [find_split e1 e2 e3]
  obtain ⟨m1, m2, m3⟩ := t.mem e hm
  rw [hnb]
  unfold oth
  simp [hasv] at e2
  by_cases q : e.1 = l
  · rw [if_pos q]
    exact ⟨m2, fun z => m3 (q.trans z.symm)⟩
  · rw [if_neg q]
    exact ⟨m1, q⟩
/-! in how many ways -/
def ch : Nat → Nat → Nat
  | _, 0 => 1
  | 0, _ + 1 => 0
  | n + 1, k + 1 => ch n k + ch n (k + 1)
theorem ch_zero (n : Nat) : ch n 0 = 1 := by cases n <;> rfl
theorem ch_gt : ∀ (n k : Nat), n < k → ch n k = 0
  | 0, k + 1, _ => rfl
  | n + 1, k + 1, h => by
    show ch n k + ch n (k + 1) = 0
    rw [ch_gt n k (by omega), ch_gt n (k + 1) (by omega)]
theorem ch_step : ∀ (n k : Nat), ch (n + 1) (k + 1) * (k + 1) = ch n k * (n + 1)
  | 0, 0 => rfl
  | 0, k + 1 => by
    rw [ch_gt 1 (k + 2) (by omega), ch_gt 0 (k + 1) (by omega)]
    simp
  | n + 1, 0 => by
    have ih := ch_step n 0
    show (ch (n + 1) 0 + ch (n + 1) 1) * 1 = ch (n + 1) 0 * (n + 1 + 1)
    rw [ch_zero] at *
    simp at ih ⊢
    omega
  | n + 1, k + 1 => by
    have h1 := ch_step n k
    have h2 := ch_step n (k + 1)
    have e1 : ch (n + 1 + 1) (k + 1 + 1) = ch (n + 1) (k + 1) + ch (n + 1) (k + 2) := rfl
    have e2 : ch (n + 1) (k + 1) = ch n k + ch n (k + 1) := rfl
    rw [e1]
    have h3 : ch (n + 1) (k + 1) * (k + 1 + 1) = ch (n + 1) (k + 1) * (k + 1) + ch (n + 1) (k + 1) := by rw [Nat.mul_succ]
    have h4 : ch (n + 1) (k + 1) * (n + 1 + 1) = ch (n + 1) (k + 1) * (n + 1) + ch (n + 1) (k + 1) := by rw [Nat.mul_succ]
    rw [Nat.add_mul, h3, h4, h1]
    have h5 : ch (n + 1) (k + 2) * (k + 1 + 1) = ch n (k + 1) * (n + 1) := h2
    rw [h5, e2, Nat.add_mul]
    omega
def wst (s : Nat × Nat) (t : Nat) : Nat × Nat := (s.1 * (s.2 + 1) / (t + 1), s.2 + 1)
def wmany (s : Nat × Nat) (m : Nat) : Nat × Nat := (List.range m).foldl wst s
def waysOf (cs : List Nat) : Nat := (cs.foldl wmany (1, 0)).1
theorem wst_range (P b : Nat) : ∀ m, (List.range m).foldl wst (P, b) = (P * ch (b + m) m, b + m)
  | 0 => by simp [ch_zero]
  | m + 1 => by
    rw [List.range_succ, List.foldl_append, wst_range P b m]
    show wst (P * ch (b + m) m, b + m) m = _
    unfold wst
    congr 1
    show P * ch (b + m) m * (b + m + 1) / (m + 1) = P * ch (b + (m + 1)) (m + 1)
    have h := ch_step (b + m) m
    have : P * ch (b + m) m * (b + m + 1) = P * ch (b + (m + 1)) (m + 1) * (m + 1) := by
      rw [Nat.mul_assoc, ← h, Nat.mul_assoc]
      rfl
    rw [this, Nat.mul_div_cancel _ (by omega)]
def multi (b : Nat) : List Nat → Nat
  | [] => 1
  | m :: cs => ch (b + m) m * multi (b + m) cs
theorem wmany_fold : ∀ (cs : List Nat) (P b : Nat), cs.foldl wmany (P, b) = (P * multi b cs, b + cs.sum)
  | [], P, b => by simp [multi]
  | m :: cs, P, b => by
    rw [List.foldl_cons]
    have : wmany (P, b) m = (P * ch (b + m) m, b + m) := wst_range P b m
    rw [this, wmany_fold cs]
    simp only [multi, List.sum_cons]
    rw [Nat.mul_assoc, Nat.add_assoc]
theorem waysOf_eq (cs : List Nat) : waysOf cs = multi 0 cs := by
  unfold waysOf
  rw [wmany_fold]
  simp
def fact : Nat → Nat
  | 0 => 1
  | n + 1 => (n + 1) * fact n
theorem fact_pos : ∀ n, 0 < fact n
  | 0 => by decide
  | n + 1 => Nat.mul_pos (by omega) (fact_pos n)
def facts : List Nat → Nat
  | [] => 1
  | m :: cs => fact m * facts cs
theorem facts_pos : ∀ cs, 0 < facts cs
  | [] => by decide
  | m :: cs => Nat.mul_pos (fact_pos m) (facts_pos cs)
theorem ch_fact (b : Nat) : ∀ m, ch (b + m) m * fact m * fact b = fact (b + m)
  | 0 => by simp [ch_zero, fact]
  | m + 1 => by
    have ih := ch_fact b m
    have h := ch_step (b + m) m
    show ch (b + m + 1) (m + 1) * ((m + 1) * fact m) * fact b = (b + m + 1) * fact (b + m)
    rw [← Nat.mul_assoc, h, ← ih, Nat.mul_comm (ch (b + m) m) (b + m + 1)]
    simp only [Nat.mul_assoc]
theorem multi_fact : ∀ (cs : List Nat) (b : Nat), multi b cs * facts cs * fact b = fact (b + cs.sum)
  | [], b => by simp [multi, facts]
  | m :: cs, b => by
    have ih := multi_fact cs (b + m)
    have h := ch_fact b m
    simp only [multi, facts, List.sum_cons]
    rw [← Nat.add_assoc, ← ih, ← h]
    have : ch (b + m) m * multi (b + m) cs * (fact m * facts cs) * fact b = multi (b + m) cs * facts cs * (ch (b + m) m * fact m * fact b) := by
      generalize ch (b + m) m = x
      generalize multi (b + m) cs = y
      generalize fact m = z
      generalize facts cs = u
      generalize fact b = v
      have h1 : x * y * (z * u) = y * u * (x * z) := by
        rw [Nat.mul_comm x y, Nat.mul_assoc, Nat.mul_assoc, Nat.mul_comm z u, ← Nat.mul_assoc x u z, Nat.mul_comm x u, Nat.mul_assoc u x z]
      rw [h1, Nat.mul_assoc]
    exact this
theorem ways_fact (cs : List Nat) : waysOf cs * facts cs = fact cs.sum := by
  have := multi_fact cs 0
  rw [waysOf_eq]
  simpa [fact] using this
theorem ways_pos (cs : List Nat) : 0 < waysOf cs := by
  have h := ways_fact cs
  have h2 := fact_pos cs.sum
  rcases Nat.eq_zero_or_pos (waysOf cs) with z | z
  · rw [z] at h; simp at h; omega
  · exact z
/-- one fewer at a place -/
def less (cs : List Nat) (h : Nat) : List Nat := cs.set h (cs.getD h 0 - 1)
theorem facts_set : ∀ (cs : List Nat) (h : Nat), 0 < cs.getD h 0 → facts cs = cs.getD h 0 * facts (less cs h) ∧ (less cs h).sum + 1 = cs.sum
  | [], h, hp => by simp at hp
  | m :: cs, 0, hp => by
    simp at hp
    obtain ⟨k, rfl⟩ : ∃ k, m = k + 1 := ⟨m - 1, by omega⟩
    refine ⟨?_, ?_⟩
    · simp [less, facts, fact, Nat.mul_assoc]
    · simp [less]
      omega
  | m :: cs, h + 1, hp => by
    have hp' : 0 < cs.getD h 0 := by simpa using hp
    obtain ⟨i1, i2⟩ := facts_set cs h hp'
    have e : less (m :: cs) (h + 1) = m :: less cs h := by simp [less]
    have g : (m :: cs).getD (h + 1) 0 = cs.getD h 0 := by simp
    rw [e, g]
    refine ⟨?_, by simp; omega⟩
    simp only [facts]
    rw [i1]
    generalize cs.getD h 0 = x
    generalize facts (less cs h) = y
    generalize fact m = z
    rw [← Nat.mul_assoc, ← Nat.mul_assoc, Nat.mul_comm z x]
/-- the rows that begin with h -/
theorem part_eq {cs : List Nat} {h : Nat} (hp : 0 < cs.getD h 0) : waysOf cs * cs.getD h 0 / cs.sum = waysOf (less cs h) ∧ waysOf cs * cs.getD h 0 = waysOf (less cs h) * cs.sum := by
  obtain ⟨h1, h2⟩ := facts_set cs h hp
  have a := ways_fact cs
  have b := ways_fact (less cs h)
  have hs : 0 < cs.sum := by omega
  have key : waysOf cs * cs.getD h 0 = waysOf (less cs h) * cs.sum := by
    have hf := facts_pos (less cs h)
    have e1 : waysOf cs * cs.getD h 0 * facts (less cs h) = fact cs.sum := by
      rw [Nat.mul_assoc, ← h1, a]
    have e2 : waysOf (less cs h) * cs.sum * facts (less cs h) = fact cs.sum := by
      rw [Nat.mul_right_comm, b]
      obtain ⟨k, hk⟩ : ∃ k, cs.sum = k + 1 := ⟨cs.sum - 1, by omega⟩
      rw [hk] at h2 ⊢
      have : (less cs h).sum = k := by omega
      rw [this]
      show fact k * (k + 1) = (k + 1) * fact k
      rw [Nat.mul_comm]
    exact Nat.eq_of_mul_eq_mul_right hf (e1.trans e2.symm)
  exact ⟨by rw [key, Nat.mul_div_cancel _ hs], key⟩
/-- how many begin with an earlier one -/
theorem prefix_div {cs : List Nat} (hs : 0 < cs.sum) : ∀ h, h ≤ cs.length → waysOf cs * (cs.take h).sum / cs.sum * cs.sum = waysOf cs * (cs.take h).sum
  | 0, _ => by simp
  | h + 1, hl => by
    have hlt : h < cs.length := hl
    have ih := prefix_div hs h (Nat.le_of_lt hlt)
    have e : (cs.take (h + 1)).sum = (cs.take h).sum + cs.getD h 0 := by
      rw [List.take_succ_eq_append_getElem hlt, List.sum_append]
      simp [List.getD_eq_getElem?_getD, hlt]
    refine Nat.div_mul_cancel ?_
    rw [e, Nat.mul_add]
    refine Nat.dvd_add (⟨waysOf cs * (cs.take h).sum / cs.sum, by rw [Nat.mul_comm cs.sum]; exact ih.symm⟩) ?_
    by_cases hz : 0 < cs.getD h 0
    · rw [(part_eq hz).2]
      exact ⟨_, by rw [Nat.mul_comm]⟩
    · have : cs.getD h 0 = 0 := by omega
      rw [this]
      simp
/-- part of a place -/
def part (cs : List Nat) (h : Nat) : Nat := waysOf cs * cs.getD h 0 / cs.sum
def before (cs : List Nat) (h : Nat) : Nat := waysOf cs * (cs.take h).sum / cs.sum
theorem before_succ {cs : List Nat} (hs : 0 < cs.sum) {h : Nat} (hl : h < cs.length) : before cs (h + 1) = before cs h + part cs h := by
  have e : (cs.take (h + 1)).sum = (cs.take h).sum + cs.getD h 0 := by
    rw [List.take_succ_eq_append_getElem hl, List.sum_append]
    simp [List.getD_eq_getElem?_getD, hl]
  have d1 := prefix_div hs h (Nat.le_of_lt hl)
  have d3 : part cs h * cs.sum = waysOf cs * cs.getD h 0 := by
    unfold part
    by_cases hz : 0 < cs.getD h 0
    · rw [(part_eq hz).1, (part_eq hz).2]
    · have : cs.getD h 0 = 0 := by omega
      rw [this]
      simp
  refine Nat.eq_of_mul_eq_mul_right hs ?_
  rw [Nat.add_mul, d3]
  show waysOf cs * (cs.take (h + 1)).sum / cs.sum * cs.sum = waysOf cs * (cs.take h).sum / cs.sum * cs.sum + _
  rw [prefix_div hs (h + 1) hl, d1, e, Nat.mul_add]
theorem before_all {cs : List Nat} (hs : 0 < cs.sum) : before cs cs.length = waysOf cs := by
  unfold before
  rw [List.take_length, Nat.mul_div_cancel _ hs]
theorem part_pos {cs : List Nat} {h : Nat} (hp : 0 < part cs h) : 0 < cs.getD h 0 := by
  rcases Nat.eq_zero_or_pos (cs.getD h 0) with z | z
  · unfold part at hp
    rw [z] at hp
    simp at hp
  · exact z
theorem part_less {cs : List Nat} {h : Nat} (hp : 0 < cs.getD h 0) : part cs h = waysOf (less cs h) := (part_eq hp).1
/-- first_of -/
def foGo (cs : List Nat) : Nat → Nat → Nat → Nat × Nat
  | 0, _, _ => (0, 0)
  | f + 1, i, k => if k < part cs i then (i, k) else foGo cs f (i + 1) (k - part cs i)
def firstOf (cs : List Nat) (k : Nat) : Nat × Nat := foGo cs cs.length 0 k
theorem foGo_spec {cs : List Nat} (hs : 0 < cs.sum) : ∀ (f i k : Nat), i + f = cs.length → before cs i + k < waysOf cs → (foGo cs f i k).1 < cs.length ∧ 0 < cs.getD (foGo cs f i k).1 0 ∧ (foGo cs f i k).2 < waysOf (less cs (foGo cs f i k).1) ∧ before cs (foGo cs f i k).1 + (foGo cs f i k).2 = before cs i + k
  | 0, i, k, hi, hk => by
    exfalso
    have : i = cs.length := by omega
    rw [this, before_all hs] at hk
    omega
  | f + 1, i, k, hi, hk => by
    unfold foGo
    split
    · rename_i h
      have hp := part_pos (cs := cs) (h := i) (by omega)
      refine ⟨by omega, hp, ?_, rfl⟩
      rw [← part_less hp]
      exact h
    · rename_i h
      have hb := before_succ hs (h := i) (by omega)
      obtain ⟨a, b, c, d⟩ := foGo_spec hs f (i + 1) (k - part cs i) (by omega) (by omega)
      exact ⟨a, b, c, by rw [d]; omega⟩
theorem firstOf_spec {cs : List Nat} (hs : 0 < cs.sum) {k : Nat} (hk : k < waysOf cs) : (firstOf cs k).1 < cs.length ∧ 0 < cs.getD (firstOf cs k).1 0 ∧ (firstOf cs k).2 < waysOf (less cs (firstOf cs k).1) ∧ before cs (firstOf cs k).1 + (firstOf cs k).2 = k := by
  have := foGo_spec hs cs.length 0 k (by omega) (by simp [before]; exact hk)
  refine ⟨this.1, this.2.1, this.2.2.1, ?_⟩
  have h := this.2.2.2
  simp [before] at h ⊢
  exact h
/-- the row of a number -/
def wordWith : Nat → List Nat → Nat → List Nat
  | 0, _, _ => []
  | f + 1, cs, k => (firstOf cs k).1 :: wordWith f (less cs (firstOf cs k).1) (firstOf cs k).2
/-- the number of a row -/
def numWith : List Nat → List Nat → Nat
  | [], _ => 0
  | h :: w, cs => before cs h + numWith w (less cs h)
theorem less_len (cs : List Nat) (h : Nat) : (less cs h).length = cs.length := by simp [less]
theorem less_sum {cs : List Nat} {h : Nat} (hp : 0 < cs.getD h 0) : (less cs h).sum + 1 = cs.sum := (facts_set cs h hp).2
theorem numWith_wordWith : ∀ (f : Nat) (cs : List Nat) (k : Nat), cs.sum = f → k < waysOf cs → numWith (wordWith f cs k) cs = k
  | 0, cs, k, hs, hk => by
    have h := ways_fact cs
    rw [hs] at h
    have := facts_pos cs
    have h1 : waysOf cs ≤ 1 := by
      have h2 : waysOf cs * 1 ≤ waysOf cs * facts cs := Nat.mul_le_mul_left _ this
      simp [fact] at h
      omega
    simp [wordWith, numWith]
    omega
  | f + 1, cs, k, hs, hk => by
    obtain ⟨a, b, c, d⟩ := firstOf_spec (cs := cs) (by omega) hk
    have e := less_sum b
    have ih := numWith_wordWith f (less cs (firstOf cs k).1) (firstOf cs k).2 (by omega) c
    show before cs (firstOf cs k).1 + numWith (wordWith f (less cs (firstOf cs k).1) (firstOf cs k).2) (less cs (firstOf cs k).1) = k
    rw [ih]
    exact d
theorem wordWith_len : ∀ (f : Nat) (cs : List Nat) (k : Nat), (wordWith f cs k).length = f
  | 0, _, _ => rfl
  | f + 1, cs, k => by simp [wordWith, wordWith_len f]
/-- a row with just these -/
def Fits (w cs : List Nat) : Prop := (∀ h ∈ w, h < cs.length) ∧ ∀ h, h < cs.length → w.count h = cs.getD h 0
theorem less_get (cs : List Nat) (h i : Nat) (hl : h < cs.length) : (less cs h).getD i 0 = if i = h then cs.getD h 0 - 1 else cs.getD i 0 := by
  unfold less
  rw [List.getD_eq_getElem?_getD, List.getElem?_set]
  by_cases e : h = i
  · subst e
    simp [hl]
  · rw [if_neg e, if_neg (fun z => e z.symm), List.getD_eq_getElem?_getD]
theorem mem_le_sum : ∀ {l : List Nat} {x : Nat}, x ∈ l → x ≤ l.sum
  | y :: l, x, h => by
    rcases List.mem_cons.mp h with e | h
    · rw [e]; simp
    · have := mem_le_sum h
      simp
      omega
theorem wordWith_fits : ∀ (f : Nat) (cs : List Nat) (k : Nat), cs.sum = f → k < waysOf cs → Fits (wordWith f cs k) cs
  | 0, cs, k, hs, hk => by
    refine ⟨by simp [wordWith], fun h hl => ?_⟩
    have : cs.getD h 0 ∈ cs := by
      rw [List.getD_eq_getElem?_getD]
      simp [hl]
    have := mem_le_sum this
    simp only [wordWith, List.count_nil]
    omega
  | f + 1, cs, k, hs, hk => by
    obtain ⟨a, b, c, d⟩ := firstOf_spec (cs := cs) (by omega) hk
    have e := less_sum b
    obtain ⟨i1, i2⟩ := wordWith_fits f (less cs (firstOf cs k).1) (firstOf cs k).2 (by omega) c
    rw [less_len] at i1 i2
    refine ⟨fun h hh => ?_, fun h hl => ?_⟩
    · rcases List.mem_cons.mp (show h ∈ (firstOf cs k).1 :: wordWith f _ _ from hh) with q | q
      · rw [q]; exact a
      · exact i1 h q
    · show ((firstOf cs k).1 :: wordWith f _ _).count h = _
      rw [List.count_cons, i2 h hl, less_get _ _ _ a]
      by_cases z : h = (firstOf cs k).1
      · rw [if_pos z, if_pos (by simp [z])]
        subst z
        omega
      · rw [if_neg z, if_neg (by simp; exact fun w => z w.symm)]; rfl
/-- and back -/
theorem fits_next {h : Nat} {w cs : List Nat} (hf : Fits (h :: w) cs) : 0 < cs.getD h 0 ∧ Fits w (less cs h) := by
  have hl := hf.1 h (by simp)
  have h1 := hf.2 h hl
  rw [List.count_cons_self] at h1
  refine ⟨by omega, fun x hx => by rw [less_len]; exact hf.1 x (List.mem_cons_of_mem _ hx), fun x hx => ?_⟩
  rw [less_len] at hx
  have h2 := hf.2 x hx
  rw [less_get _ _ _ hl]
  by_cases z : x = h
  · rw [if_pos z, z]; omega
  · rw [if_neg z, ← h2, List.count_cons_of_ne (fun q => z q.symm)]
theorem before_mono {cs : List Nat} (hs : 0 < cs.sum) : ∀ (j i : Nat), i ≤ j → j ≤ cs.length → before cs i ≤ before cs j
  | 0, i, h, _ => by
    have : i = 0 := by omega
    rw [this]; exact Nat.le_refl _
  | j + 1, i, h, hl => by
    rcases Nat.lt_or_ge j i with z | z
    · have : i = j + 1 := by omega
      rw [this]; exact Nat.le_refl _
    · have := before_mono hs j i z (by omega)
      rw [before_succ hs hl]
      omega
theorem numWith_lt : ∀ (w cs : List Nat), Fits w cs → cs.sum = w.length → numWith w cs < waysOf cs
  | [], cs, _, _ => ways_pos cs
  | h :: w, cs, hf, hs => by
    obtain ⟨hp, hn⟩ := fits_next hf
    have hl := hf.1 h (by simp)
    have e := less_sum hp
    have ih := numWith_lt w (less cs h) hn (by simp at hs; omega)
    have hs0 : 0 < cs.sum := by omega
    show before cs h + numWith w (less cs h) < waysOf cs
    have h1 := before_mono hs0 cs.length (h + 1) hl (Nat.le_refl _)
    rw [before_all hs0, before_succ hs0 hl, part_less hp] at h1
    omega
theorem foGo_find {cs : List Nat} (hs : 0 < cs.sum) {h r : Nat} (hl : h < cs.length) (hr : r < part cs h) : ∀ (f i k : Nat), i + f = cs.length → i ≤ h → before cs i + k = before cs h + r → foGo cs f i k = (h, r)
  | 0, i, k, hi, hih, hk => by omega
  | f + 1, i, k, hi, hih, hk => by
    unfold foGo
    rcases Nat.lt_or_ge i h with z | z
    · have hb := before_succ hs (h := i) (by omega)
      have hm := before_mono hs h (i + 1) z (by omega)
      rw [if_neg (by omega)]
      exact foGo_find hs hl hr f (i + 1) (k - part cs i) (by omega) z (by omega)
    · have : i = h := by omega
      subst this
      have : k = r := by omega
      subst this
      rw [if_pos hr]
theorem wordWith_numWith : ∀ (w cs : List Nat), Fits w cs → cs.sum = w.length → wordWith w.length cs (numWith w cs) = w
  | [], cs, _, _ => rfl
  | h :: w, cs, hf, hs => by
    obtain ⟨hp, hn⟩ := fits_next hf
    have hl := hf.1 h (by simp)
    have e := less_sum hp
    have hlt := numWith_lt w (less cs h) hn (by simp at hs; omega)
    have hs0 : 0 < cs.sum := by omega
    have ih := wordWith_numWith w (less cs h) hn (by simp at hs; omega)
    have hfo : firstOf cs (numWith (h :: w) cs) = (h, numWith w (less cs h)) := by
      unfold firstOf
      refine foGo_find hs0 hl (by rw [part_less hp]; exact hlt) cs.length 0 _ (by omega) (Nat.zero_le _) ?_
      show before cs 0 + (before cs h + numWith w (less cs h)) = _
      simp [before]
    show (firstOf cs (numWith (h :: w) cs)).1 :: wordWith w.length (less cs (firstOf cs (numWith (h :: w) cs)).1) (firstOf cs (numWith (h :: w) cs)).2 = h :: w
    rw [hfo, ih]
/-! how often a house stands in the word -/
theorem code_count (n : Nat) : ∀ (k : Nat) {A : List Nat} {es : List Ed}, IsT A es → (∀ v ∈ A, v < n) → A.length = k + 2 → (∀ h ∈ code n k es, h ∈ A) ∧ ∀ v ∈ A, (code n k es).count v + 1 = deg es v
  | 0, A, es, t, hA, hk => by
    refine ⟨by simp [code], fun v hv => ?_⟩
    have h1 := t.deg_pos (by omega) v hv
    have h2 := t.len
    have h3 : deg es v ≤ es.length := List.countP_le_length
    simp [code]
    omega
  | k + 1, A, es, t, hA, hk => by
    obtain ⟨l1, l2, l3, l4⟩ := leafOf_spec t hA (by omega)
    obtain ⟨b1, b2⟩ := nb_in t l2
    have t2 := t.cut _ l1 l2
    obtain ⟨i1, i2⟩ := code_count n k t2 (fun v hv => hA v (List.mem_of_mem_erase hv)) (by rw [List.length_erase_of_mem l1]; omega)
    have hne : ∀ e ∈ es, e.1 ≠ e.2 := fun e he => (t.mem e he).2.2
    show (∀ h ∈ nb es (leafOf n es) :: code n k (cut (leafOf n es) es), h ∈ A) ∧ ∀ v ∈ A, (nb es (leafOf n es) :: code n k (cut (leafOf n es) es)).count v + 1 = deg es v
    refine ⟨fun h hh => ?_, fun v hv => ?_⟩
    · rcases List.mem_cons.mp hh with q | q
      · rw [q]; exact b1
      · exact List.mem_of_mem_erase (i1 h q)
    · rw [List.count_cons]
      by_cases hvl : v = leafOf n es
      · have h0 : (code n k (cut (leafOf n es) es)).count v = 0 := by
          rw [List.count_eq_zero]
          intro q
          have := i1 v q
          rw [hvl] at this
          exact t.nodup.not_mem_erase this
        rw [h0, if_neg (by simp; rw [hvl]; exact b2), hvl, l2]
      · have h1 := i2 v ((List.mem_erase_of_ne hvl).mpr hv)
        have h2 := deg_cut hne l2 v
        rw [if_neg hvl] at h2
        by_cases hvb : v = nb es (leafOf n es)
        · rw [if_pos hvb] at h2
          rw [if_pos (by simp [hvb])]
          have := t.deg_pos (by omega) v hv
          omega
        · rw [if_neg hvb] at h2
          rw [if_neg (by simp; exact fun z => hvb z.symm)]
          omega
theorem fits_sum : ∀ (w cs : List Nat), Fits w cs → cs.sum = w.length
  | [], cs, hf => by
    have : ∀ (l : List Nat), (∀ h, h < l.length → l.getD h 0 = 0) → l.sum = 0 := by
      intro l
      induction l with
      | nil => intro _; rfl
      | cons x l ih =>
        intro h
        have h0 := h 0 (by simp)
        simp at h0
        have := ih fun i hi => by
          have := h (i + 1) (by simp; omega)
          simpa using this
        simp [h0, this]
    rw [this cs fun h hl => by have := hf.2 h hl; simpa using this.symm]
    rfl
  | h :: w, cs, hf => by
    obtain ⟨hp, hn⟩ := fits_next hf
    have e := less_sum hp
    have ih := fits_sum w (less cs h) hn
    simp
    omega
/-- one fewer than each has -/
def degs (n : Nat) (rs : List Ed) : List Nat := if n ≤ 1 then [0] else (List.range n).map fun v => deg rs v - 1
theorem degs_fits {n : Nat} {rs : List Ed} (h1 : 1 ≤ n) (t : IsT (List.range n) rs) : Fits (code n (n - 2) rs) (degs n rs) := by
  by_cases h2 : n ≤ 1
  · have hn : n = 1 := by omega
    subst hn
    refine ⟨by simp [code], fun h hl => ?_⟩
    simp [degs] at hl
    subst hl
    simp [code, degs]
  · obtain ⟨i1, i2⟩ := code_count n (n - 2) t (fun v hv => List.mem_range.mp hv) (by rw [List.length_range]; omega)
    have hd : degs n rs = (List.range n).map fun v => deg rs v - 1 := by unfold degs; rw [if_neg h2]
    rw [hd]
    refine ⟨fun h hh => by rw [List.length_map, List.length_range]; exact List.mem_range.mp (i1 h hh), fun h hl => ?_⟩
    rw [List.length_map, List.length_range] at hl
    have := i2 h (List.mem_range.mpr hl)
    rw [List.getD_eq_getElem?_getD, List.getElem?_map, List.getElem?_range hl]
    simp
    omega
end TW
namespace TW
open PySem PySem.Spec PyProof.Rows L2 Evl
/-! ### readings by name -/
abbrev rAdd : R2 := rI0 fun i j => .int (i + j)
abbrev rSub : R2 := rI0 fun i j => .int (i - j)
abbrev rMul : R2 := rI CMul fun i j => .int (i * j)
abbrev rMod : R2 := rI (fun _ j => 0 < j) fun i j => .int (i % j)
abbrev rDiv : R2 := rI CDiv fun i j => .int (i / j)
abbrev rPow : R2 := rI CPow fun i j => .int (i ^ j.toNat)
abbrev rLt : R2 := rI0 fun i j => .bl (decide (i < j))
abbrev rLe : R2 := rI0 fun i j => .bl (decide (i ≤ j))
abbrev rGt : R2 := rI0 fun i j => .bl (decide (j < i))
abbrev rGe : R2 := rI0 fun i j => .bl (decide (j ≤ i))
abbrev rNeg : V → Hp → VK → Prop := rU fun i => .int (-i)
abbrev rMin2 : List V → Hp → VK → Prop := fun xs H Q => ∃ i j, xs = [.int i, .int j] ∧ Q (.int (if j < i then j else i)) H
abbrev rAbs : List V → Hp → VK → Prop := fun xs H Q => ∃ i, xs = [.int i] ∧ Q (.int (if i < 0 then -i else i)) H
section
variable {X : Cx}
/-- a stronger reading serves -/
theorem pe_by {e : Expr} {t u : TE} (h : PE X e t) (hu : ∀ σ H Q, u σ H Q → t σ H Q) : PE X e u := ⟨fun pins s σ H Q I q => h.run pins s σ H Q I (hu σ H Q q)⟩
theorem get_list : PGet X (rIxL X.K) := by
  intro pins s σ H o i ov iv Q I ro ri h
  obtain ⟨p, xs, k, z, rfl, rfl, hq, he, q⟩ := h
  cases ro
  obtain ⟨t, rfl⟩ := ri
  obtain ⟨its, r, pl, hz⟩ := I.list hq
  obtain ⟨j, h1, h2, h3, h4, h5⟩ := atI_get he
  obtain ⟨w, ew, rw'⟩ := r.get h2
  have hl := r.length
  have hn := line63
  have fin : EP X pins σ Q w s := ⟨z, H, I, rw', q⟩
  by_cases h0 : 0 ≤ k
  · have hj : k.toNat = j := by
      rw [seqIndex_of h0 h5] at h1
      exact Option.some.inj h1
    exact wpAny_getItem_list pl.isList h0 (by omega) (by rw [hj]; simpa using ew) fin
  · have hj : (k + (its.toArray.size : Int)).toNat = j := by
      rw [seqIndex_neg (by omega) h4] at h1
      rw [List.size_toArray, ← hl]
      exact Option.some.inj h1
    exact wpAny_getItem_list_neg pl.isList (by omega) (by rw [List.size_toArray] <;> omega) (by omega) (by rw [hj]; simpa using ew) fin
end
/-! ### things -/
inductive Th (K : PySem.W.Frag) (H : Hp) : V → Option PyData → Prop
  | dp {v : V} {d : PyData} : Dp K H v d → Th K H v (some d)
  | dict {a : Addr} : H a = some (.dK []) → Th K H (.ref a) none
def tyN : Option PyData → String
  | none => "dict"
  | some .none => "NoneType"
  | some (.bool _) => "bool"
  | some (.int _) => "int"
  | some (.str _) => "str"
  | some (.list _) => "list"
  | some (.tuple _) => "tuple"
  | some (.dict _) => "dict"
def isTy (d : Option PyData) (T : String) : Bool := (tyN d == T) || (tyN d == "bool" && T == "int")
def kitAll (T : String) : Bool := ["dict", "NoneType", "bool", "int", "str", "list", "tuple"].all fun a => kitB a T == some ((a == T) || (a == "bool" && T == "int"))
section
variable {K : PySem.W.Frag} {H H' : Hp}
theorem sql_tyx {a : Addr} {xs : List V} (h : SqL K H a xs) : TyX K H (.ref a) (.type "list") := by
  rcases h with (h | ⟨o, h⟩) | ⟨o, its, n, h1, h2, _⟩
  · exact .base (.lst h)
  · exact .base (.frz h)
  · exact .kList h1 h2
theorem sqt_tyx {a : Addr} {xs : List V} (h : SqT K H a xs) : TyX K H (.ref a) (.type "tuple") := by
  rcases h with (h | ⟨o, h⟩) | ⟨o, its, n, h1, h2, _⟩
  · exact .base (.tup h)
  · exact .fTuple h
  · exact .kTuple h1 h2
theorem Th.tyx {v : V} {d : Option PyData} (h : Th K H v d) : TyX K H v (.type (tyN d)) := by
  cases h with
  | dict h => exact .base (.dK h)
  | dp h =>
    cases h with
    | non => exact .base .non
    | bl b => exact .base (.bl b)
    | int i => exact .base (.int i)
    | str x => exact .base (.str x)
    | lst h _ => exact sql_tyx h
    | tup h _ => exact sqt_tyx h
theorem kit_all {T : String} (hk : kitAll T = true) (d : Option PyData) : PySem.W.kitOne K (.type (tyN d)) (.type T) = some (isTy d T) := by
  refine kit_ty ?_
  have key : ∀ a ∈ ["dict", "NoneType", "bool", "int", "str", "list", "tuple"], kitB a T = some ((a == T) || (a == "bool" && T == "int")) := fun a ha => by
    have := List.all_eq_true.mp hk a ha
    simpa using this
  unfold isTy
  refine key (tyN d) ?_
  rcases d with _ | d
  · simp [tyN]
  · cases d <;> simp [tyN]
theorem kit_int : kitAll "int" = true := by decide +kernel
theorem kit_bool : kitAll "bool" = true := by decide +kernel
theorem kit_list : kitAll "list" = true := by decide +kernel
theorem kit_tuple : kitAll "tuple" = true := by decide +kernel
theorem kit_str : kitAll "str" = true := by decide +kernel
/-! ### data in a larger heap -/
mutual
theorem dp_ex {v : V} {d : PyData} (e : Ex H H') : Dp K H v d → Dp K H' v d
  | .non => .non
  | .bl b => .bl b
  | .int i => .int i
  | .str x => .str x
  | .lst h hs => .lst (ex_l e h) (dpa_ex e hs)
  | .tup h hs => .tup (ex_t e h) (dpa_ex e hs)
theorem dpa_ex {vs : List V} {ds : List PyData} (e : Ex H H') : DpAll K H vs ds → DpAll K H' vs ds
  | .nil => .nil
  | .cons h hs => .cons (dp_ex e h) (dpa_ex e hs)
end
theorem Th.ex {v : V} {d : Option PyData} (e : Ex H H') (h : Th K H v d) : Th K H' v d := by
  cases h with
  | dp h => exact .dp (dp_ex e h)
  | dict h => exact .dict (e _ _ h)
theorem dpa_len : ∀ {vs : List V} {ds : List PyData}, DpAll K H vs ds → vs.length = ds.length
  | _, _, .nil => rfl
  | _, _, .cons _ hs => by rw [List.length_cons, List.length_cons, dpa_len hs]
theorem dpa_get : ∀ {vs : List V} {ds : List PyData} {i : Nat} {v : V}, DpAll K H vs ds → vs[i]? = some v → ∃ d, ds[i]? = some d ∧ Dp K H v d
  | _, _, i, v, .nil, h => by simp at h
  | _, _, 0, v, .cons h _, e => by
    simp at e
    subst e
    exact ⟨_, rfl, h⟩
  | _, _, i + 1, v, .cons _ hs, e => by
    obtain ⟨d, h1, h2⟩ := dpa_get (i := i) (v := v) hs (by simpa using e)
    exact ⟨d, by simpa using h1, h2⟩
theorem dpa_get2 : ∀ {vs : List V} {ds : List PyData} {i : Nat} {d : PyData}, DpAll K H vs ds → ds[i]? = some d → ∃ v, vs[i]? = some v ∧ Dp K H v d
  | _, _, i, d, .nil, h => by simp at h
  | _, _, 0, d, .cons h _, e => by
    simp at e
    subst e
    exact ⟨_, rfl, h⟩
  | _, _, i + 1, d, .cons _ hs, e => by
    obtain ⟨v, h1, h2⟩ := dpa_get2 (i := i) (d := d) hs (by simpa using e)
    exact ⟨v, by simpa using h1, h2⟩
theorem dpa_app : ∀ {vs ws : List V} {ds es : List PyData}, DpAll K H vs ds → DpAll K H ws es → DpAll K H (vs ++ ws) (ds ++ es)
  | _, _, _, _, .nil, h => h
  | _, _, _, _, .cons h hs, h2 => .cons h (dpa_app hs h2)
theorem dpa_one {v : V} {d : PyData} (h : Dp K H v d) : DpAll K H [v] [d] := .cons h .nil
theorem dp_list {v : V} {ds : List PyData} (h : Dp K H v (.list ds)) : ∃ a xs, v = .ref a ∧ SqL K H a xs ∧ DpAll K H xs ds := by
  cases h with
  | lst h hs => exact ⟨_, _, rfl, h, hs⟩
theorem dp_tup {v : V} {ds : List PyData} (h : Dp K H v (.tuple ds)) : ∃ a xs, v = .ref a ∧ SqT K H a xs ∧ DpAll K H xs ds := by
  cases h with
  | tup h hs => exact ⟨_, _, rfl, h, hs⟩
theorem dp_int {v : V} {i : Int} (h : Dp K H v (.int i)) : v = .int i := by cases h; rfl
theorem dpa_ints : ∀ {vs : List V} {ns : List Int}, DpAll K H vs (ns.map PyData.int) → vs = ns.map V.int
  | _, [], .nil => rfl
  | _, n :: ns, .cons h hs => by rw [dp_int h, dpa_ints hs]; rfl
theorem ints_dpa : ∀ (ns : List Int), DpAll K H (ns.map V.int) (ns.map PyData.int)
  | [] => .nil
  | n :: ns => .cons (.int n) (ints_dpa ns)
end
/-! ### isinstance of things -/
def rIsTh (K : PySem.W.Frag) : List V → Hp → VK → Prop := fun xs H Q => ∃ (x : V) (d : Option PyData) (T : String), xs = [x, .ty T] ∧ kitAll T = true ∧ Th K H x d ∧ Q (.bl (isTy d T)) H
def tIsTh (K : PySem.W.Frag) (te : TE) (T : String) : TE := tCB (rIsTh K) (tCons te (tCons (tC (.ty T)) tNil))
theorem call_isTh {X : Cx} : CallR X (.builtin "isinstance") (rIsTh X.K) := by
  intro pins s σ H xs us Q I r h
  obtain ⟨x, d, T, rfl, hk, t, q⟩ := h
  exact call_isi pins s σ H _ us Q I r ⟨x, .ty T, _, _, _, rfl, .ty T, t.tyx, kit_all hk d, q⟩
/-! ### a < b < c < d -/
def tChain3 (r r' r'' : R2) (ta tb tc td : TE) : TE := fun σ H Q => ta σ H fun x H1 => tb σ H1 fun y H2 => r x y H2 fun z H3 => ∃ k, z = .bl k ∧
  (if k = true then tc σ H3 fun w H4 => r' y w H4 fun z' H5 => ∃ k', z' = .bl k' ∧ (if k' = true then td σ H5 fun u H6 => r'' w u H6 Q else Q (.bl false) H5) else Q (.bl false) H3)
/-! ### lists of things that hold pairwise -/
inductive All2 {α β : Type} (R : α → β → Prop) : List α → List β → Prop
  | nil : All2 R [] []
  | cons {a : α} {b : β} {as : List α} {bs : List β} : R a b → All2 R as bs → All2 R (a :: as) (b :: bs)
theorem All2.len {α β : Type} {R : α → β → Prop} {as : List α} {bs : List β} (h : All2 R as bs) : as.length = bs.length := by
  induction h with
  | nil => rfl
  | cons _ _ ih => rw [List.length_cons, List.length_cons, ih]
theorem All2.app {α β : Type} {R : α → β → Prop} {as as' : List α} {bs bs' : List β} (h : All2 R as bs) (h' : All2 R as' bs') : All2 R (as ++ as') (bs ++ bs') := by
  induction h with
  | nil => exact h'
  | cons r _ ih => exact .cons r ih
theorem All2.imp {α β : Type} {R S : α → β → Prop} {as : List α} {bs : List β} (h : All2 R as bs) (f : ∀ a b, R a b → S a b) : All2 S as bs := by
  induction h with
  | nil => exact .nil
  | cons r _ ih => exact .cons (f _ _ r) ih
theorem All2.get {α β : Type} {R : α → β → Prop} {as : List α} {bs : List β} (h : All2 R as bs) : ∀ {i : Nat} {a : α}, as[i]? = some a → ∃ b, bs[i]? = some b ∧ R a b := by
  induction h with
  | nil => intro i a e; simp at e
  | cons r _ ih =>
    intro i a e
    cases i with
    | zero => simp at e; subst e; exact ⟨_, rfl, r⟩
    | succ i =>
      obtain ⟨b, h1, h2⟩ := ih (i := i) (a := a) (by simpa using e)
      exact ⟨b, by simpa using h1, h2⟩
theorem All2.dpa {α : Type} {K : PySem.W.Frag} {H : Hp} {d : α → PyData} {as : List α} {vs : List V} (h : All2 (fun a v => Dp K H v (d a)) as vs) : DpAll K H vs (as.map d) := by
  induction h with
  | nil => exact .nil
  | cons r _ ih => exact .cons r ih
theorem All2.eq {α : Type} {f : α → V} {as : List α} {vs : List V} (h : All2 (fun a v => v = f a) as vs) : vs = as.map f := by
  induction h with
  | nil => rfl
  | cons r _ ih => rw [r, ih]; rfl
/-- of the first n the ones picked -/
def picks (f : Nat → Bool) (n : Nat) : List Nat := (List.range n).filter f
theorem picks_yes {f : Nat → Bool} {n : Nat} (h : f n = true) : picks f (n + 1) = picks f n ++ [n] := by
  unfold picks
  rw [List.range_succ, List.filter_append]
  simp [h]
theorem picks_no {f : Nat → Bool} {n : Nat} (h : f n = false) : picks f (n + 1) = picks f n := by
  unfold picks
  rw [List.range_succ, List.filter_append]
  simp [h]
theorem picks_len (f : Nat → Bool) (n : Nat) : (picks f n).length ≤ n := by
  unfold picks
  have := List.length_filter_le f (List.range n)
  rw [List.length_range] at this
  exact this
theorem picks_all (n : Nat) : picks (fun _ => true) n = List.range n := by
  unfold picks
  simp
/-! ### comprehensions -/
section
variable {K : PySem.W.Frag} {σ : L2.St} {H : Hp} {tt : TT} {te : TE} {vs : List Nat} {Q : VK}
/-- what stands behind i turns -/
def CI (H : Hp) (D : Addr) (f : Nat → Bool) (R : Addr → Nat → V → Hp → Prop) (i : Nat) (H' : Hp) : Prop :=
  Ex H H' ∧ ∃ ys, H' D = some (.lst ys) ∧ All2 (fun k v => R D k v H') (picks f i) ys
structure CR (R : Addr → Nat → V → Hp → Prop) : Prop where
  ex : ∀ {D i v H H'}, R D i v H → Ex H H' → R D i v H'
  st : ∀ {D i v H xs zs}, R D i v H → H D = some (.lst xs) → R D i v (upd H D (.lst zs))
theorem ci_turn {D : Addr} {f : Nat → Bool} {R : Addr → Nat → V → Hp → Prop} (c : CR R) (hD : H D = none) {i : Nat} {H' : Hp} {σ2 : L2.St} (p : CI H D f R i H') (hi : i < 100000)
    (ht : ∀ Q' : Bool → Hp → Prop, (∀ H2, Ex H' H2 → Q' (f i) H2) → tt σ2 H' Q')
    (he : f i = true → ∀ H2, Ex H' H2 → ∀ Q' : VK, (∀ v H3, Ex H2 H3 → (∀ xs, H2 D = some (.lst xs) → R D i v H3) → Q' v H3) → te σ2 H2 Q') :
    tt σ2 H' fun b H3 => if b = true then te σ2 H3 fun y H4 => ∃ acc, H4 D = some (.lst acc) ∧ acc.length < sizeLine ∧ CI H D f R (i + 1) (upd H4 D (.lst (acc ++ [y]))) else CI H D f R (i + 1) H3 := by
  obtain ⟨p1, ys, p2, p3⟩ := p
  refine ht _ fun H2 e2 => ?_
  cases hf : f i with
  | true =>
    refine iteT (he hf H2 e2 _ fun v H3 e3 r => ?_)
    refine ⟨ys, e3 _ _ (e2 _ _ p2), sz_lt ?_, (Ex.mut ((p1.trans e2).trans e3) hD), ys ++ [v], upd_same, ?_⟩
    · have := picks_len f i
      rw [← p3.len]
      omega
    · rw [picks_yes hf]
      have h3 := e3 _ _ (e2 _ _ p2)
      exact (p3.imp fun k u q => c.st (c.ex q (e2.trans e3)) h3).app (.cons (c.st (r _ (e2 _ _ p2)) h3) .nil)
  | false =>
    refine iteF ⟨p1.trans e2, ys, e2 _ _ p2, ?_⟩
    rw [picks_no hf]
    exact p3.imp fun k u q => c.ex q e2
/-- over a list -/
theorem lcL {tl : TE} {a : Addr} {xs : List V} {g : TG} (R : Addr → Nat → V → Hp → Prop) (c : CR R) (f : Nat → Bool) (hl : ∀ Q' : VK, (∀ H1, Ex H H1 → SqL K H1 a xs → Q' (.ref a) H1) → tl σ H Q') (hz : xs.length < 100000)
    (hs : ∀ i x D H' (Q' : L2.St → Hp → Prop), xs[i]? = some x → Ex H H' → (∀ σ2 H2, Ex H' H2 → wipe σ2 vs = wipe σ vs → (∀ Q'' : Bool → Hp → Prop, (∀ H3, Ex H2 H3 → Q'' (f i) H3) → tt σ2 H2 Q'') →
      (f i = true → ∀ H3, Ex H2 H3 → ∀ Q'' : VK, (∀ v H4, Ex H3 H4 → (∀ zs, H3 D = some (.lst zs) → R D i v H4) → Q'' v H4) → te σ2 H3 Q'') → Q' σ2 H2) → g x (wipe σ vs) H' Q')
    (k : ∀ D ys H', H D = none → Ex H H' → H' D = some (.lst ys) → All2 (fun k v => R D k v H') (picks f xs.length) ys → Q (.ref D) H') : tLc (iList K tl) g tt te vs σ H Q := by
  refine hl _ fun H1 e1 hS => ⟨a, rfl, ⟨xs, hS⟩, fun D hD => ?_⟩
  refine lc_list (K := K) (a := a) (xs := xs) (fun i H' => CI H1 D f R i H') ⟨Ex.new hD, [], upd_same, .nil⟩ (fun i H' _ p => ex_l p.1 hS) (fun i x H' hi p => ?_) (fun H' p => ?_)
  · refine hs i x D H' _ hi (e1.trans p.1) fun σ2 H2 e2 hw ht he => ⟨hw, ?_⟩
    have p2 : CI H1 D f R i H2 := ⟨p.1.trans e2, by
      obtain ⟨_, ys, h1, h2⟩ := p
      exact ⟨ys, e2 _ _ h1, h2.imp fun k v q => c.ex q e2⟩⟩
    exact ci_turn c hD p2 (by have := (List.getElem?_eq_some_iff.mp hi).1; omega) ht he
  · obtain ⟨h1, ys, h2, h3⟩ := p
    exact k D ys H' (fresh_back e1 hD) (e1.trans h1) h2 h3
/-- over a tuple -/
theorem lcT {tl : TE} {a : Addr} {xs : List V} {g : TG} (R : Addr → Nat → V → Hp → Prop) (c : CR R) (f : Nat → Bool) (hl : ∀ Q' : VK, (∀ H1, Ex H H1 → SqT K H1 a xs → Q' (.ref a) H1) → tl σ H Q') (hz : xs.length < 100000)
    (hs : ∀ i x D H' (Q' : L2.St → Hp → Prop), xs[i]? = some x → Ex H H' → (∀ σ2 H2, Ex H' H2 → wipe σ2 vs = wipe σ vs → (∀ Q'' : Bool → Hp → Prop, (∀ H3, Ex H2 H3 → Q'' (f i) H3) → tt σ2 H2 Q'') →
      (f i = true → ∀ H3, Ex H2 H3 → ∀ Q'' : VK, (∀ v H4, Ex H3 H4 → (∀ zs, H3 D = some (.lst zs) → R D i v H4) → Q'' v H4) → te σ2 H3 Q'') → Q' σ2 H2) → g x (wipe σ vs) H' Q')
    (k : ∀ D ys H', H D = none → Ex H H' → H' D = some (.lst ys) → All2 (fun k v => R D k v H') (picks f xs.length) ys → Q (.ref D) H') : tLc (iTup K tl) g tt te vs σ H Q := by
  refine hl _ fun H1 e1 hS => ⟨a, rfl, ⟨xs, hS⟩, fun D hD => ?_⟩
  refine lc_tup (K := K) (a := a) (xs := xs) (fun i H' => CI H1 D f R i H') ⟨Ex.new hD, [], upd_same, .nil⟩ (fun i H' _ p => ex_t p.1 hS) (fun i x H' hi p => ?_) (fun H' p => ?_)
  · refine hs i x D H' _ hi (e1.trans p.1) fun σ2 H2 e2 hw ht he => ⟨hw, ?_⟩
    have p2 : CI H1 D f R i H2 := ⟨p.1.trans e2, by
      obtain ⟨_, ys, h1, h2⟩ := p
      exact ⟨ys, e2 _ _ h1, h2.imp fun k v q => c.ex q e2⟩⟩
    exact ci_turn c hD p2 (by have := (List.getElem?_eq_some_iff.mp hi).1; omega) ht he
  · obtain ⟨h1, ys, h2, h3⟩ := p
    exact k D ys H' (fresh_back e1 hD) (e1.trans h1) h2 h3
/-- over range(n) -/
theorem lcR {ta : TA} {n : Int} {j : Nat} (R : Addr → Nat → V → Hp → Prop) (c : CR R) (f : Nat → Bool) (hl : ∀ Q' : List V → Hp → Prop, (∀ H1, Ex H H1 → Q' [.int n] H1) → ta σ H Q') (hz : n < 100000) (hz0 : -100000 < n)
    (hw : ∀ x, wipe ((wipe σ vs).set j (some x)) vs = wipe σ vs)
    (ht : ∀ (i : Nat) H', (i : Int) < n → Ex H H' → ∀ Q'' : Bool → Hp → Prop, (∀ H3, Ex H' H3 → Q'' (f i) H3) → tt ((wipe σ vs).set j (some (.int i))) H' Q'')
    (he : ∀ (i : Nat) D H', (i : Int) < n → Ex H H' → f i = true → ∀ Q'' : VK, (∀ v H4, Ex H' H4 → (∀ zs, H' D = some (.lst zs) → R D i v H4) → Q'' v H4) → te ((wipe σ vs).set j (some (.int i))) H' Q'')
    (k : ∀ D ys H', H D = none → Ex H H' → H' D = some (.lst ys) → All2 (fun k v => R D k v H') (picks f n.toNat) ys → Q (.ref D) H') : tLc (iRng1 ta) (gName j) tt te vs σ H Q := by
  refine hl _ fun H1 e1 => ⟨n, rfl, by omega, by omega, fun D hD => ?_⟩
  refine lc_range (lo := 0) (n := n.toNat) (fun i H' => CI H1 D f R i H') ⟨Ex.new hD, [], upd_same, .nil⟩ (fun i H' hi p => ?_) (fun H' p => ?_)
  · have e0 : (0 : Int) + (i : Int) = (i : Int) := Int.zero_add _
    rw [e0]
    refine ⟨hw _, ?_⟩
    exact ci_turn c hD p (by omega) (ht i H' (by omega) (e1.trans p.1)) (fun hf H2 e2 => he i D H2 (by omega) ((e1.trans p.1).trans e2) hf)
  · obtain ⟨h1, ys, h2, h3⟩ := p
    exact k D ys H' (fresh_back e1 hD) (e1.trans h1) h2 h3
theorem cr_flat (v : Nat → V) : CR (fun _ i x _ => x = v i) := ⟨fun r _ => r, fun r _ => r⟩
end
/-! ### statements one by one, what follows kept shut -/
section
variable {K : PySem.W.Frag} {σ : L2.St} {H : Hp} {D : Ends}
theorem seqC {t u : TS} (h : ∀ R : L2.St → Hp → Prop, (∀ σ' H', u D σ' H' → R σ' H') → t { D with nx := R } σ H) : tSeq t u D σ H := h (u D) fun _ _ q => q
/-- for .. in a list -/
theorem forL {tl : TE} {a : Addr} {xs : List V} {g : TG} {tb : TS} (Pv : Nat → L2.St → Hp → Prop) (hl : ∀ Q' : VK, (∀ H1, Ex H H1 → SqL K H1 a xs → Pv 0 σ H1 → Q' (.ref a) H1) → tl σ H Q')
    (hk : ∀ i σ' H', i ≤ xs.length → Pv i σ' H' → SqL K H' a xs)
    (hs : ∀ i x σ' H' (Nx : L2.St → Hp → Prop), xs[i]? = some x → Pv i σ' H' → (∀ σ2 H2, Pv (i + 1) σ2 H2 → Nx σ2 H2) → g x σ' H' fun σ2 H2 => tb { D with nx := Nx, ct := Nx, bk := D.nx } σ2 H2)
    (hd : ∀ σ' H', Pv xs.length σ' H' → D.nx σ' H') : tFor (iList K tl) g tb D σ H :=
  hl _ fun H1 e1 hS p0 => ⟨a, rfl, ⟨xs, hS⟩, for_list (K := K) (a := a) (xs := xs) Pv p0 hk (fun i x σ' H' hi p => hs i x σ' H' _ hi p fun _ _ q => q) hd⟩
theorem forT {tl : TE} {a : Addr} {xs : List V} {g : TG} {tb : TS} (Pv : Nat → L2.St → Hp → Prop) (hl : ∀ Q' : VK, (∀ H1, Ex H H1 → SqT K H1 a xs → Pv 0 σ H1 → Q' (.ref a) H1) → tl σ H Q')
    (hk : ∀ i σ' H', i ≤ xs.length → Pv i σ' H' → SqT K H' a xs)
    (hs : ∀ i x σ' H' (Nx : L2.St → Hp → Prop), xs[i]? = some x → Pv i σ' H' → (∀ σ2 H2, Pv (i + 1) σ2 H2 → Nx σ2 H2) → g x σ' H' fun σ2 H2 => tb { D with nx := Nx, ct := Nx, bk := D.nx } σ2 H2)
    (hd : ∀ σ' H', Pv xs.length σ' H' → D.nx σ' H') : tFor (iTup K tl) g tb D σ H :=
  hl _ fun H1 e1 hS p0 => ⟨a, rfl, ⟨xs, hS⟩, for_tup (K := K) (a := a) (xs := xs) Pv p0 hk (fun i x σ' H' hi p => hs i x σ' H' _ hi p fun _ _ q => q) hd⟩
theorem forR {ta : TA} {n : Int} {g : TG} {tb : TS} (Pv : Nat → L2.St → Hp → Prop) (hl : ∀ Q' : List V → Hp → Prop, (∀ H1, Ex H H1 → Pv 0 σ H1 → Q' [.int n] H1) → ta σ H Q') (hz : n < 1000000) (hz0 : -1000000 < n)
    (hs : ∀ (i : Nat) σ' H' (Nx : L2.St → Hp → Prop), (i : Int) < n → Pv i σ' H' → (∀ σ2 H2, Pv (i + 1) σ2 H2 → Nx σ2 H2) → g (.int (i : Int)) σ' H' fun σ2 H2 => tb { D with nx := Nx, ct := Nx, bk := D.nx } σ2 H2)
    (hd : ∀ σ' H', Pv n.toNat σ' H' → D.nx σ' H') : tFor (iRng1 ta) g tb D σ H :=
  hl _ fun H1 e1 p0 => ⟨n, rfl, by omega, by omega, for_range (lo := 0) (n := n.toNat) Pv p0 (fun i σ' H' hi p => by
    have q := hs i σ' H' _ (by omega) p fun _ _ q => q
    have e0 : (0 : Int) + (i : Int) = (i : Int) := Int.zero_add _
    rw [e0]
    exact q) hd⟩
/-- while -/
theorem whL {c : TT} {tb : TS} (W : Nat → L2.St → Hp → Prop) (m0 : Nat) (h0 : W m0 σ H)
    (hs : ∀ (W' : Nat → L2.St → Hp → Prop), (∀ m σ H, W m σ H → W' m σ H) → ∀ m σ H, W m σ H → c σ H fun b H1 => if b = true then ∃ N : L2.St → Hp → Prop, (∀ σ' H', N σ' H' → ∃ m', m' < m ∧ W' m' σ' H') ∧ tb { D with nx := N, ct := N, bk := D.nx } σ H1 else D.nx σ H1) :
    tWhile c tb D σ H := ⟨W, ⟨m0, h0⟩, hs W fun _ _ _ h => h⟩
theorem pickN {W : Nat → L2.St → Hp → Prop} {m : Nat} {P : (L2.St → Hp → Prop) → Prop} (h : ∀ N : L2.St → Hp → Prop, (∀ m' σ' H', m' < m → W m' σ' H' → N σ' H') → P N) : ∃ N : L2.St → Hp → Prop, (∀ σ' H', N σ' H' → ∃ m', m' < m ∧ W m' σ' H') ∧ P N :=
  ⟨_, fun _ _ h => h, h _ fun m' _ _ l w => ⟨m', l, w⟩⟩
end
end TW
namespace TW
open PySem PySem.Spec PyProof.Rows L2 Evl
/-! ### len(set(xs)), xs a list of tuples of ints -/
abbrev AK := Addr × List Int
/-- of how many it is known -/
def SetOk (ks : List (List Int)) : Prop := ks.length < 64
def tLenSetR (K : PySem.W.Frag) (te : TE) : TE := fun σ H Q => te σ H fun x H1 => ∃ (l : Addr) (ks : List AK), x = .ref l ∧ SqL K H1 l (ks.map fun p => V.ref p.1) ∧ (∀ p ∈ ks, SqT K H1 p.1 (p.2.map V.int)) ∧
  SetOk (ks.map (·.2)) ∧ ((ks.map (·.2)).Nodup → Q (.int ks.length) H1) ∧ (¬ (ks.map (·.2)).Nodup → ∀ m : Nat, m < ks.length → Q (.int m) H1)
theorem count_keys {ks L : List AK} (h1 : ∀ p ∈ L, p ∈ ks) (h2 : ∀ p ∈ ks, p.2 ∈ L.map (·.2)) (nd : (L.map (·.2)).Nodup) : ((ks.map (·.2)).Nodup → L.length = ks.length) ∧ (¬ (ks.map (·.2)).Nodup → L.length < ks.length) := by
  have sub1 : ∀ x ∈ L.map (·.2), x ∈ ks.map (·.2) := fun x hx => by
    obtain ⟨p, hp, rfl⟩ := List.mem_map.mp hx
    exact List.mem_map.mpr ⟨p, h1 p hp, rfl⟩
  have sub2 : ∀ x ∈ ks.map (·.2), x ∈ L.map (·.2) := fun x hx => by
    obtain ⟨p, hp, rfl⟩ := List.mem_map.mp hx
    exact h2 p hp
  have le1 := List.Nodup.length_le_of_subset nd sub1
  rw [List.length_map, List.length_map] at le1
  refine ⟨fun hn => ?_, fun hn => ?_⟩
  · have le2 := List.Nodup.length_le_of_subset hn sub2
    rw [List.length_map, List.length_map] at le2
    omega
  · refine Nat.lt_of_le_of_ne le1 fun e => hn ?_
    have p := perm_of_sub _ _ nd sub1 (by rw [List.length_map, List.length_map]; omega)
    exact p.symm.nodup nd
theorem pe_lenSetR {X : Cx} {a : Expr} {ta : TE} {p p2 q pos : Pos} (hc : X.calm = true) (hu : X.A.units + 64 < cLine) (hg : Gl X "len") (hm : X.mg "len" = none) (hg2 : Gl X "set") (hm2 : X.mg "set" = none) (ha : PE X a ta)
    (na : starEach [a] X.env = (false, eval a X.env) :: starEach [] X.env := by rfl) : PE X (.Call (.Name "len" p) [.Call (.Name "set" p2) [a] [] q] [] pos) (tLenSetR X.K ta) := by
  refine ⟨fun pins s σ H Q I h => Call_ (ld_blt I hg hm PySem.boot_len ?_)⟩
  refine callWith_builtin1 (args_cons (Call_ (ld_blt I hg2 hm2 boot_set ?_)) rfl) rfl rfl
  refine callWith_type1 (args_cons (thn (ha.run pins s σ H _ I h) fun v s1 ⟨x, H1, I1, r1, l, ks, ex, hS, hT, hf, k1, k2⟩ => args_nil ?_) na) na rfl
  subst ex
  cases r1
  obtain ⟨its, rv, pl, hz⟩ := I1.list hS
  refine call_set_tups (P := X.prog) (w := X.w) ks (I1.ok.hd hc) pl.isList (by simpa using refs_of_vals rv) (fun p hp => I1.isT (hT p hp)) (by unfold SetOk at hf; rw [List.length_map] at hf; exact hf) (by omega) fun h' tk L es ep t R g k => args_nil ?_
  have I2 : Inv X pins σ H1 { s1 with heap := h', toks := tk } := I1.kept fun b o e => k b o e
  obtain ⟨o, ho, hex, hd⟩ := R.ob
  have hn := SetTR.size (s := { s1 with heap := h', toks := tk }) R
  have hlen : (es.size : Int) < 2 ^ 63 := by
    have := R.few
    omega
  obtain ⟨c1, c2⟩ := count_keys (ks := ks) (L := L) (fun p hp => List.mem_of_mem_take (g.sub p hp)) (fun p hp => g.all p (by rw [List.take_length]; exact hp)) R.nd
  refine call_len_set ho hex hd (SetTR.fits (s := { s1 with heap := h', toks := tk }) R) hlen ⟨.int L.length, H1, I2.tok _, ⟨_, by rw [hn]⟩, ?_⟩
  by_cases nd : (ks.map (·.2)).Nodup
  · rw [c1 nd]
    exact k1 nd
  · exact k2 nd _ (c2 nd)
end TW
namespace TW
open PySem PySem.Spec PyProof.Rows L2 Evl
local macro_rules | `(tactic| walk_at "ev") => `(tactic| try simp only [tSeq, tNext, tRet, tRetN, tDrop, tAsg, gName, gSub, gTup, gCons, gNil, tIfS, tAndV, tOrV, tNotV, tAnd, tOr, tNot, tCB, tCons, tNil, tC, tTest, tB, tOp, tUn, tCall, tIf, tTup, tLst, tIsTh, tChain, tBM, tBM0, tAug, tAugS, tYes, tRaise, tPar, tSl, tPart, tNoPart, tRevL, rI0, rI, rU, ipI, tVar, E0,
  List.getElem?_cons_zero, List.getElem?_cons_succ, List.set_cons_zero, List.set_cons_succ, Option.some.injEq, exists_eq_left', exists_eq_left, V.int.injEq, V.bl.injEq, V.ref.injEq, List.cons.injEq, and_true, true_and, exists_and_left, List.cons_append, List.nil_append, List.append_nil, exists_eq, exists_const, and_assoc, exists_eq_right, if_true, if_false, Bool.not_true, Bool.not_false, Bool.false_eq_true, if_pos])
/-- where the classes of the errors stand -/
structure Cs where
  TreeError : Addr
  BadHouses : Addr
  BadRoads : Addr
  BadHouse : Addr
  BadWord : Addr
  BadNumber : Addr
  BadCounts : Addr
  NoTree : Addr
section
variable {K : PySem.W.Frag} {c : Cs} {vs : List V} {H : Hp} {Q : VK} {E : XK}
theorem len_two {α : Type} {l : List α} (h : l.length = 2) : ∃ x y, l = [x, y] := by
  cases l with
  | nil => simp at h
  | cons x l =>
    cases l with
    | nil => simp at h
    | cons y l =>
      cases l with
      | nil => exact ⟨x, y, rfl⟩
      | cons z l => simp at h
/-! ### is_number -/
def isNum (d : Option PyData) (a b : Int) : Bool := match d with
  | some (.int i) => decide (a ≤ i) && decide (i ≤ b)
  | _ => false
def sp_is_number (K : PySem.W.Frag) : Sp := fun vs H Q _ => ∃ (v : V) (d : Option PyData) (a b : Int), vs = [v, .int a, .int b] ∧ Th K H v d ∧ Q (.bl (isNum d a b)) H
abbrev N_is_number : List Str := ["thing", "least", "most"]
def t_is_number (K : PySem.W.Frag) : TS := tRet (tAndV (tIsTh K (tVar 0) "int") (tAndV (tNotV (tIsTh K (tVar 0) "bool")) (tChain rLe rLe (tVar 1) (tVar 0) (tVar 2))))
theorem len_is_number (h : sp_is_number K vs H Q E) : vs.length = 3 := by
  obtain ⟨_, _, _, _, rfl, _⟩ := h
  rfl
theorem pure_is_number (h : sp_is_number K vs H Q E) : t_is_number K { nx := fun _ H' => Q .non H', rt := Q } (start N_is_number vs) H := by
  obtain ⟨v, d, a, b, rfl, t, q⟩ := h
  show t_is_number K _ [some v, some (.int a), some (.int b)] H
  unfold t_is_number
  walk_at "ev"
  refine ⟨v, d, "int", rfl, kit_int, t, _, rfl, ?_⟩
  by_cases h1 : isTy d "int" = true
  · rw [if_pos h1]
    refine ⟨v, d, "bool", rfl, kit_bool, t, _, rfl, ?_⟩
    by_cases h2 : isTy d "bool" = true
    · rw [h2]
      walk_at "ev"
      have : isNum d a b = false := by
        cases t with
        | dict => rfl
        | dp h => cases h <;> first | rfl | (simp [isTy, tyN] at h2)
      rw [← this]; exact q
    · have h2' : isTy d "bool" = false := by simpa using h2
      rw [h2']
      walk_at "ev"
      have e : ∃ i, d = some (.int i) ∧ v = .int i := by
        cases t with
        | dict => simp [isTy, tyN] at h1
        | dp h => cases h <;> simp [isTy, tyN] at h1 h2 ⊢
      obtain ⟨i, rfl, rfl⟩ := e
      walk_at "ev"
      by_cases h3 : a ≤ i
      · rw [if_pos (decide_eq_true h3)]
        have : isNum (some (.int i)) a b = decide (i ≤ b) := by simp [isNum, h3]
        rw [← this]; exact q
      · rw [if_neg (by simp [h3])]
        have : isNum (some (.int i)) a b = false := by simp [isNum, h3]
        rw [← this]; exact q
  · rw [if_neg h1]
    have : isNum d a b = false := by
      cases t with
      | dict => rfl
      | dp h => cases h <;> first | rfl | (simp [isTy, tyN] at h1)
    rw [← this]; exact q
/-! ### check_houses -/
def okH (d : Option PyData) : Bool := isNum d 1 200
def sp_check_houses (K : PySem.W.Frag) (c : Cs) : Sp := fun vs H Q E => ∃ (v : V) (d : Option PyData), vs = [v] ∧ Th K H v d ∧ (okH d = true → Q .non H) ∧ (okH d = false → E (.ref c.BadHouses) none H)
abbrev N_check_houses : List Str := ["houses"]
def t_check_houses (K : PySem.W.Frag) (c : Cs) (E : XK) : TS := tIfS (tNot (tB (tCall (sp_is_number K) [] E0 (tCons (tVar 0) (tCons (tC (.int 1)) (tCons (tC (.int 200)) tNil)))))) (tRaise E (.ref c.BadHouses)) tNext
theorem len_check_houses (h : sp_check_houses K c vs H Q E) : vs.length = 1 := by
  obtain ⟨_, _, rfl, _⟩ := h
  rfl
theorem pure_check_houses (h : sp_check_houses K c vs H Q E) : t_check_houses K c E { nx := fun _ H' => Q .non H', rt := Q } (start N_check_houses vs) H := by
  obtain ⟨v, d, rfl, t, q1, q2⟩ := h
  show t_check_houses K c E _ [some v] H
  unfold t_check_houses
  walk_at "ev"
  refine ⟨v, d, 1, 200, rfl, t, _, rfl, ?_⟩
  cases e : isNum d 1 200 with
  | true => exact iteF (q1 e)
  | false => exact iteT (q2 e)
/-! ### is_road -/
def isRoad (d : PyData) (n : Int) : Bool := match d with
  | .tuple [.int a, .int b] => decide (0 ≤ a) && decide (a < b) && decide (b < n)
  | _ => false
def sp_is_road (K : PySem.W.Frag) : Sp := fun vs H Q _ => ∃ (v : V) (d : PyData) (n : Int), vs = [v, .int n] ∧ Dp K H v d ∧ ∀ H', Ex H H' → Q (.bl (isRoad d n)) H'
abbrev N_is_road : List Str := ["thing", "houses", "house"]
def t_is_road (K : PySem.W.Frag) : TS := tSeq (tIfS (tOr (tNot (tB (tIsTh K (tVar 0) "tuple"))) (tTest (tOp rNe (tCB (Evl.rLenS K) (tCons (tVar 0) tNil)) (tC (.int 2))))) (tRet (tC (.bl false))) tNext) (tRet (tAndV (tCB (rAll K) (tCons (tLc (iTup K (tVar 0)) (gName 2) tYes (tCall (sp_is_number K) [] E0 (tCons (tVar 2) (tCons (tC (.int 0)) (tCons (tOp rSub (tVar 1) (tC (.int 1))) tNil)))) [2]) tNil)) (tOp rLt (tOp (rIxT K) (tVar 0) (tC (.int 0))) (tOp (rIxT K) (tVar 0) (tC (.int 1))))))
theorem len_is_road (h : sp_is_road K vs H Q E) : vs.length = 2 := by
  obtain ⟨_, _, _, rfl, _⟩ := h
  rfl
theorem pure_is_road (h : sp_is_road K vs H Q E) : t_is_road K { nx := fun _ H' => Q .non H', rt := Q } (start N_is_road vs) H := by
  obtain ⟨v, d, n, rfl, t, q⟩ := h
  show t_is_road K _ [some v, some (.int n), none] H
  unfold t_is_road
  walk_at "ev"
  refine ⟨v, some d, "tuple", rfl, kit_tuple, .dp t, ?_⟩
  by_cases hd : ∃ ds, d = .tuple ds
  · obtain ⟨ds, rfl⟩ := hd
    obtain ⟨a, xs, rfl, hS, hA⟩ := dp_tup t
    have hl := dpa_len hA
    refine ⟨_, rfl, iteF ⟨a, xs, rfl, .inr hS, rfl, _, rfl, ?_⟩⟩
    by_cases h2 : xs.length = 2
    · rw [if_neg (by rw [h2]; simp)]
      obtain ⟨x, y, rfl⟩ := len_two h2
      obtain ⟨dx, dy, rfl⟩ := len_two (hl.symm.trans h2)
      have hx : Dp K H x dx := by cases hA with | cons h _ => exact h
      have hy : Dp K H y dy := by cases hA with | cons _ h => cases h with | cons h _ => exact h
      · 
        refine lcT (K := K) (a := a) (xs := [x, y]) (fun _ i u _ => u = .bl (isNum (some ([dx, dy].getD i .none)) 0 (n - 1))) (cr_flat fun i => .bl (isNum (some ([dx, dy].getD i .none)) 0 (n - 1))) (fun _ => true)
          (fun Q' k => ⟨_, rfl, k H (Ex.refl H) hS⟩) (by simp) (fun i z D H' Q' hi e k => ?_) (fun D ys H' hD e hy2 hall => ?_)
        · refine k _ H' (Ex.refl H') rfl (fun Q'' q'' => q'' H' (Ex.refl H')) (fun _ H3 e3 Q'' k2 => ?_)
          have hz : Dp K H3 z ([dx, dy].getD i .none) := by
            have hi2 : i < 2 := (List.getElem?_eq_some_iff.mp hi).1
            rcases (by omega : i = 0 ∨ i = 1) with rfl | rfl
            · simp at hi; subst hi; exact dp_ex (e.trans e3) hx
            · simp at hi; subst hi; exact dp_ex (e.trans e3) hy
          show tCall _ _ _ _ [some (V.ref a), some (V.int n), some z] H3 Q''
          walk_at "ev"
          exact ⟨z, _, 0, n - 1, rfl, .dp hz, k2 _ H3 (Ex.refl H3) fun _ _ => rfl⟩
        · have e2 := hall.eq
          rw [picks_all] at e2
          refine ⟨D, [isNum (some dx) 0 (n - 1), isNum (some dy) 0 (n - 1)], rfl, .inl (.inl (by rw [hy2, e2]; rfl)), _, rfl, ?_⟩
          by_cases hb : (isNum (some dx) 0 (n - 1) && isNum (some dy) 0 (n - 1)) = true
          · rw [Bool.and_eq_true] at hb
            rw [if_pos (by simp [hb.1, hb.2])]
            have ix : ∃ i, dx = .int i := by
              cases dx <;> simp [isNum] at hb ⊢
            have iy : ∃ i, dy = .int i := by
              cases dy <;> simp [isNum] at hb ⊢
            obtain ⟨i, rfl⟩ := ix
            obtain ⟨j, rfl⟩ := iy
            cases dp_int hx
            cases dp_int hy
            refine ⟨a, _, 0, _, rfl, rfl, ex_t e hS, rfl, a, _, 1, _, rfl, rfl, ex_t e hS, rfl, i, rfl, j, rfl, ?_⟩
            have : isRoad (.tuple [.int i, .int j]) n = decide (i < j) := by
              simp [isNum] at hb
              simp only [isRoad]
              by_cases hij : i < j
              · simp [hij]; omega
              · simp [hij]
            rw [← this]
            exact q H' e
          · rw [if_neg (by rw [Bool.and_eq_true] at hb; simp at hb ⊢; exact hb)]
            have : isRoad (.tuple [dx, dy]) n = false := by
              cases dx <;> cases dy <;> simp only [isRoad] <;> simp [isNum] at hb ⊢
              intro a1 a2
              omega
            rw [← this]
            exact q H' e
    · rw [if_pos (by simp; omega)]
      have : isRoad (.tuple ds) n = false := by
        unfold isRoad
        split
        · rename_i heq
          cases heq
          simp at hl
          exact absurd hl h2
        · rfl
      rw [← this]
      exact q H (Ex.refl H)
  · have e : isTy (some d) "tuple" = false := by
      cases d <;> first | rfl | (exact absurd ⟨_, rfl⟩ hd)
    rw [e]
    refine ⟨_, rfl, iteT ?_⟩
    have : isRoad d n = false := by
      cases d <;> first | rfl | (exact absurd ⟨_, rfl⟩ hd)
    rw [← this]
    exact q H (Ex.refl H)
end
end TW
namespace TW
open PySem PySem.Spec PyProof.Rows L2 Evl
local macro_rules | `(tactic| walk_at "ev") => `(tactic| try simp only [tSeq, tNext, tRet, tRetN, tDrop, tAsg, gName, gSub, gTup, gCons, gNil, tIfS, tAndV, tOrV, tNotV, tAnd, tOr, tNot, tCB, tCons, tNil, tC, tTest, tB, tOp, tUn, tCall, tIf, tTup, tLst, tIsTh, tChain, tBM, tBM0, tAug, tAugS, tYes, tRaise, tPar, tSl, tPart, tNoPart, tRevL, rI0, rI, rU, ipI, tVar, E0,
  List.getElem?_cons_zero, List.getElem?_cons_succ, List.set_cons_zero, List.set_cons_succ, Option.some.injEq, exists_eq_left', exists_eq_left, V.int.injEq, V.bl.injEq, V.ref.injEq, List.cons.injEq, and_true, true_and, exists_and_left, List.cons_append, List.nil_append, List.append_nil, exists_eq, exists_const, and_assoc, exists_eq_right, if_true, if_false, Bool.not_true, Bool.not_false, Bool.false_eq_true, if_pos])
section
variable {K : PySem.W.Frag} {c : Cs} {vs : List V} {H H' : Hp} {Q : VK} {E : XK}
/-! ### roads as data -/
def encE (e : Ed) : PyData := .tuple [.int e.1, .int e.2]
def encR (rs : List Ed) : PyData := .list (rs.map encE)
def asRoad (d : PyData) : Ed := match d with
  | .tuple [.int a, .int b] => (a.toNat, b.toNat)
  | _ => (0, 0)
def okR (d : Option PyData) (n : Int) : Bool := match d with
  | some (.list ds) => ds.all (fun d => isRoad d n) && decide ((ds.map asRoad).Nodup)
  | _ => false
theorem okR_list (ds : List PyData) (n : Int) : okR (some (.list ds)) n = (ds.all (fun d => isRoad d n) && decide ((ds.map asRoad).Nodup)) := rfl
theorem isRoad_enc {d : PyData} {n : Int} (h : isRoad d n = true) : d = encE (asRoad d) ∧ (asRoad d).1 < (asRoad d).2 ∧ ((asRoad d).2 : Int) < n := by
  unfold isRoad at h
  split at h
  · rename_i a b
    simp at h
    obtain ⟨⟨h1, h2⟩, h3⟩ := h
    refine ⟨?_, ?_, ?_⟩
    · simp only [asRoad, encE]
      rw [Int.toNat_of_nonneg h1, Int.toNat_of_nonneg (by omega)]
    · simp only [asRoad]; omega
    · simp only [asRoad]; omega
  · cases h
theorem asRoad_enc (e : Ed) : asRoad (encE e) = e := by
  simp [asRoad, encE]
theorem enc_isRoad {e : Ed} {n : Nat} (h : e.1 < e.2 ∧ e.2 < n) : isRoad (encE e) n = true := by
  simp [isRoad, encE]
  omega
theorem roads_enc : ∀ {ds : List PyData} {n : Int}, ds.all (fun d => isRoad d n) = true → ds = (ds.map asRoad).map encE
  | [], _, _ => rfl
  | d :: ds, n, h => by
    simp only [List.all_cons, Bool.and_eq_true] at h
    rw [List.map_cons, List.map_cons, ← (isRoad_enc h.1).1, ← roads_enc h.2]
theorem okR_some {d : Option PyData} {n : Nat} (h : okR d n = true) : ∃ rs, d = some (encR rs) ∧ Roads n rs := by
  unfold okR at h
  split at h
  · rename_i ds
    simp only [Bool.and_eq_true, decide_eq_true_eq] at h
    refine ⟨ds.map asRoad, by unfold encR; rw [← roads_enc h.1], h.2, fun e he => ?_⟩
    obtain ⟨d, hd, rfl⟩ := List.mem_map.mp he
    have := isRoad_enc (List.all_eq_true.mp h.1 d hd)
    exact ⟨this.2.1, by have := this.2.2; omega⟩
  · cases h
theorem map_as (rs : List Ed) : (rs.map encE).map asRoad = rs := by
  induction rs with
  | nil => rfl
  | cons e rs ih => rw [List.map_cons, List.map_cons, asRoad_enc, ih]
theorem okR_enc {rs : List Ed} {n : Nat} (h : Roads n rs) : okR (some (encR rs)) n = true := by
  unfold okR encR
  simp only [Bool.and_eq_true, decide_eq_true_eq, map_as]
  refine ⟨List.all_eq_true.mpr fun d hd => ?_, h.nd⟩
  obtain ⟨e, he, rfl⟩ := List.mem_map.mp hd
  exact enc_isRoad (h.lt e he)
theorem dp_road {v : V} {e : Ed} (h : Dp K H v (encE e)) : ∃ t, v = .ref t ∧ SqT K H t [.int e.1, .int e.2] := by
  obtain ⟨t, xs, rfl, hS, hA⟩ := dp_tup h
  cases hA with
  | cons h1 h2 =>
    cases h2 with
    | cons h2 h3 =>
      cases h3
      rw [dp_int h1, dp_int h2] at hS
      exact ⟨t, rfl, hS⟩
theorem road_dp {t : Addr} {e : Ed} (h : SqT K H t [.int e.1, .int e.2]) : Dp K H (.ref t) (encE e) := .tup h (.cons (.int _) (.cons (.int _) .nil))
def keyE (e : Ed) : List Int := [(e.1 : Int), (e.2 : Int)]
theorem keyE_inj {e f : Ed} (h : keyE e = keyE f) : e = f := by
  unfold keyE at h
  simp at h
  exact Prod.ext (by omega) (by omega)
theorem keys_nodup {rs : List Ed} : (rs.map keyE).Nodup ↔ rs.Nodup := by
  constructor
  · intro h
    exact nodup_of_map h
  · intro h
    exact List.pairwise_map.mpr (h.imp fun hne e => hne (keyE_inj e))
/-- the addresses of roads -/
theorem roads_ks : ∀ {xs : List V} {rs : List Ed}, DpAll K H xs (rs.map encE) → ∃ ks : List AK, xs = ks.map (fun p => V.ref p.1) ∧ (∀ p ∈ ks, SqT K H p.1 (p.2.map V.int)) ∧ ks.map (·.2) = rs.map keyE
  | _, [], .nil => ⟨[], rfl, by simp, rfl⟩
  | _, e :: rs, .cons h hs => by
    obtain ⟨t, rfl, hT⟩ := dp_road h
    obtain ⟨ks, h1, h2, h3⟩ := roads_ks hs
    refine ⟨(t, keyE e) :: ks, by rw [h1]; rfl, fun p hp => ?_, by rw [List.map_cons, h3]; rfl⟩
    rcases List.mem_cons.mp hp with rfl | hp
    · exact hT
    · exact h2 p hp
/-- roads that lie in a list's cells stay where the list changes -/
theorem road_stay {v : V} {e : Ed} {D : Addr} {xs zs : List V} (h : Dp K H v (encE e)) (hD : H D = some (.lst xs)) : Dp K (upd H D (.lst zs)) v (encE e) := by
  obtain ⟨t, rfl, hT⟩ := dp_road h
  refine road_dp ?_
  rcases hT with (hT | ⟨o, hT⟩) | hT
  · exact .inl (.inl (by rw [upd_ne (ne_of hT hD (by intro z; cases z))]; exact hT))
  · exact .inl (.inr ⟨o, by rw [upd_ne (ne_of hT hD (by intro z; cases z))]; exact hT⟩)
  · exact .inr hT
theorem roads_stay {ys : List V} {rs : List Ed} {D : Addr} {xs zs : List V} (hD : H D = some (.lst xs)) : DpAll K H ys (rs.map encE) → DpAll K (upd H D (.lst zs)) ys (rs.map encE) := by
  induction rs generalizing ys with
  | nil => intro h; cases h; exact .nil
  | cons e rs ih => intro h; cases h with | cons h hs => exact .cons (road_stay h hD) (ih hs)
/-! ### check_roads -/
def SzOk (d : Option PyData) : Prop := ∀ ds, d = some (.list ds) → ds.length ≤ 10000 ∧ SetOk (ds.map fun d => keyE (asRoad d))
def sp_check_roads (K : PySem.W.Frag) (c : Cs) : Sp := fun vs H Q E => ∃ (v : V) (d : Option PyData) (n : Int), vs = [.int n, v] ∧ Th K H v d ∧ SzOk d ∧
  (okR d n = true → ∀ H', Ex H H' → Q .non H') ∧ (okR d n = false → ∀ H', Ex H H' → E (.ref c.BadRoads) none H')
abbrev N_check_roads : List Str := ["houses", "roads", "road"]
def t_check_roads (K : PySem.W.Frag) (c : Cs) (E : XK) : TS := tSeq (tIfS (tOr (tNot (tB (tIsTh K (tVar 1) "list"))) (tNot (tB (tCB (rAll K) (tCons (tLc (iList K (tVar 1)) (gName 2) tYes (tCall (sp_is_road K) [] E0 (tCons (tVar 2) (tCons (tVar 0) tNil))) [2]) tNil))))) (tRaise E (.ref c.BadRoads)) tNext) (tIfS (tTest (tOp rNe (tLenSetR K (tVar 1)) (tCB (Evl.rLenS K) (tCons (tVar 1) tNil)))) (tRaise E (.ref c.BadRoads)) tNext)
theorem len_check_roads (h : sp_check_roads K c vs H Q E) : vs.length = 2 := by
  obtain ⟨_, _, _, rfl, _⟩ := h
  rfl
theorem pure_check_roads (h : sp_check_roads K c vs H Q E) : t_check_roads K c E { nx := fun _ H' => Q .non H', rt := Q } (start N_check_roads vs) H := by
  obtain ⟨v, d, n, rfl, t, hz, q1, q2⟩ := h
  show t_check_roads K c E _ [some (.int n), some v, none] H
  unfold t_check_roads
  walk_at "ev"
  refine ⟨v, d, "list", rfl, kit_list, t, ?_⟩
  by_cases hd : ∃ ds, d = some (.list ds)
  · obtain ⟨ds, rfl⟩ := hd
    obtain ⟨hz1, hz2⟩ := hz ds rfl
    cases t with
    | dp t =>
    obtain ⟨a, xs, rfl, hS, hA⟩ := dp_list t
    have hl := dpa_len hA
    refine ⟨_, rfl, iteF ?_⟩
    refine lcL (K := K) (a := a) (xs := xs) (fun _ i u _ => u = .bl (isRoad (ds.getD i .none) n)) (cr_flat fun i => .bl (isRoad (ds.getD i .none) n)) (fun _ => true)
      (fun Q' k => ⟨_, rfl, k H (Ex.refl H) hS⟩) (by omega) (fun i z D H' Q' hi e k => ?_) (fun D ys H' hD e hy2 hall => ?_)
    · refine k _ H' (Ex.refl H') rfl (fun Q'' q'' => q'' H' (Ex.refl H')) (fun _ H3 e3 Q'' k2 => ?_)
      obtain ⟨d, h1, h2⟩ := dpa_get hA hi
      show tCall _ _ _ _ [some (V.int n), some (V.ref a), some z] H3 Q''
      walk_at "ev"
      refine ⟨z, d, n, rfl, dp_ex (e.trans e3) h2, fun H4 e4 => k2 _ H4 e4 fun _ _ => ?_⟩
      rw [List.getD_eq_getElem?_getD, h1]
      rfl
    · have e2 := hall.eq
      rw [picks_all, hl] at e2
      have e3 : (List.range ds.length).map (fun i => V.bl (isRoad (ds.getD i .none) n)) = (ds.map fun d => isRoad d n).map V.bl := by
        apply List.ext_getElem?
        intro i
        rw [List.getElem?_map, List.getElem?_map, List.getElem?_map]
        by_cases hi : i < ds.length
        · rw [List.getElem?_range hi, List.getElem?_eq_getElem hi]
          simp [List.getD_eq_getElem?_getD, hi]
        · rw [List.getElem?_eq_none (by simp; omega), List.getElem?_eq_none (by omega)]
          rfl
      rw [e3] at e2
      refine ⟨D, ds.map fun d => isRoad d n, rfl, .inl (.inl (by rw [hy2, e2])), _, rfl, ?_⟩
      have e4 : (ds.map fun d => isRoad d n).all id = ds.all fun d => isRoad d n := by
        rw [List.all_map]; rfl
      rw [e4]
      cases hb : ds.all fun d => isRoad d n with
      | false =>
        walk_at "ev"
        exact q2 (by rw [okR_list, hb]; rfl) H' e
      | true =>
        walk_at "ev"
        have e5 := roads_enc hb
        obtain ⟨ks, k1, k2, k3⟩ := roads_ks (rs := ds.map asRoad) (by rw [← e5]; exact hA)
        have hlen : ks.length = ds.length := by
          have := congrArg List.length k3
          simpa using this
        have hsz : ∀ p ∈ ks, SqT K H' p.1 (p.2.map V.int) := fun p hp => ex_t e (k2 p hp)
        refine ⟨_, rfl, a, ks, rfl, by rw [← k1]; exact ex_l e hS, hsz, by rw [k3, List.map_map]; exact hz2, fun hn => ?_, fun hn m hm => ?_⟩
        · refine ⟨a, xs, rfl, .inl (ex_l e hS), rfl, _, rfl, ?_⟩
          rw [if_neg (by simp; omega)]
          refine q1 ?_ H' e
          rw [k3] at hn
          simp only [okR_list, hb, Bool.true_and, decide_eq_true_eq]
          exact keys_nodup.mp hn
        · refine ⟨a, xs, rfl, .inl (ex_l e hS), rfl, _, rfl, ?_⟩
          rw [if_pos (by simp; omega)]
          refine q2 ?_ H' e
          rw [k3] at hn
          simp only [okR_list, hb, Bool.true_and, decide_eq_false_iff_not]
          exact fun z => hn (keys_nodup.mpr z)
  · have e : isTy d "list" = false := by
      cases t with
      | dict => rfl
      | dp t => cases t <;> first | rfl | (exact absurd ⟨_, rfl⟩ hd)
    rw [e]
    refine ⟨_, rfl, iteT ?_⟩
    refine q2 ?_ H (Ex.refl H)
    unfold okR
    split
    · exact absurd ⟨_, rfl⟩ hd
    · rfl
end
end TW
namespace TW
open PySem PySem.Spec PyProof.Rows L2 Evl
local macro_rules | `(tactic| walk_at "ev") => `(tactic| try simp only [tSeq, tNext, tRet, tRetN, tDrop, tAsg, gName, gSub, gTup, gCons, gNil, tIfS, tAndV, tOrV, tNotV, tAnd, tOr, tNot, tCB, tCons, tNil, tC, tTest, tB, tOp, tUn, tCall, tIf, tTup, tLst, tIsTh, tChain, tBM, tBM0, tAug, tAugS, tYes, tRaise, tPar, tSl, tPart, tNoPart, tRevL, rI0, rI, rU, ipI, tVar, E0,
  List.getElem?_cons_zero, List.getElem?_cons_succ, List.set_cons_zero, List.set_cons_succ, Option.some.injEq, exists_eq_left', exists_eq_left, V.int.injEq, V.bl.injEq, V.ref.injEq, List.cons.injEq, and_true, true_and, exists_and_left, List.cons_append, List.nil_append, List.append_nil, exists_eq, exists_const, and_assoc, exists_eq_right, if_true, if_false, Bool.not_true, Bool.not_false, Bool.false_eq_true, if_pos])
section
variable {K : PySem.W.Frag} {c : Cs} {vs : List V} {H H' : Hp} {Q : VK} {E : XK}
abbrev nV (k : Nat) : V := .int (k : Int)
def encL (l : List Nat) : PyData := .list (l.map fun (k : Nat) => .int (k : Int))
theorem dpa_nats : ∀ {vs : List V} {ns : List Nat}, DpAll K H vs (ns.map fun (k : Nat) => .int (k : Int)) → vs = ns.map nV
  | _, [], .nil => rfl
  | _, n :: ns, .cons h hs => by rw [dp_int h, dpa_nats hs]; rfl
theorem nats_dpa : ∀ (ns : List Nat), DpAll K H (ns.map nV) (ns.map fun (k : Nat) => .int (k : Int))
  | [] => .nil
  | n :: ns => .cons (.int n) (nats_dpa ns)
theorem nodup_inj {α : Type} {l : List α} (nd : l.Nodup) {i j : Nat} {a : α} (hi : l[i]? = some a) (hj : l[j]? = some a) : i = j := by
  obtain ⟨h1, e1⟩ := List.getElem?_eq_some_iff.mp hi
  obtain ⟨h2, e2⟩ := List.getElem?_eq_some_iff.mp hj
  have p := List.pairwise_iff_getElem.mp nd
  rcases Nat.lt_trichotomy i j with q | q | q
  · exact absurd (e1.trans e2.symm) (p i j h1 h2 q)
  · exact q
  · exact absurd (e2.trans e1.symm) (p j i h2 h1 q)
/-! ### rows of lists, each at its own place -/
structure Rows (H0 H : Hp) (D : Addr) (as : List Addr) (f : Nat → List V) : Prop where
  ex : Ex H0 H
  top : H D = some (.lst (as.map V.ref))
  nd : as.Nodup
  fresh : ∀ a ∈ as, H0 a = none ∧ a ≠ D
  at_ : ∀ (j : Nat) (a : Addr), as[j]? = some a → H a = some (.lst (f j))
  new : H0 D = none
theorem Rows.ext {H0 H H' : Hp} {D : Addr} {as : List Addr} {f : Nat → List V} (r : Rows H0 H D as f) (e : Ex H H') : Rows H0 H' D as f :=
  ⟨r.ex.trans e, e _ _ r.top, r.nd, r.fresh, fun j a h => e _ _ (r.at_ j a h), r.new⟩
/-- one row changed -/
theorem Rows.put {H0 H : Hp} {D : Addr} {as : List Addr} {f : Nat → List V} (r : Rows H0 H D as f) {j : Nat} {a : Addr} (h : as[j]? = some a) (xs : List V) : Rows H0 (upd H a (.lst xs)) D as (fun k => if k = j then xs else f k) := by
  have ha := List.mem_of_getElem? h
  have hf := r.fresh a ha
  refine ⟨Ex.mut r.ex hf.1, by rw [upd_ne (Ne.symm hf.2)]; exact r.top, r.nd, r.fresh, fun k b hk => ?_, r.new⟩
  by_cases e : k = j
  · subst e
    rw [h] at hk
    cases hk
    simp [upd_same]
  · have : b ≠ a := fun z => by
      subst z
      exact e (nodup_inj r.nd hk h)
    rw [upd_ne this, if_neg e]
    exact r.at_ k b hk
theorem Rows.dp {H0 H : Hp} {D : Addr} {as : List Addr} {f : Nat → List Nat} (r : Rows H0 H D as (fun k => (f k).map nV)) : Dp K H (.ref D) (.list ((List.range as.length).map fun k => encL (f k))) := by
  refine .lst (.inl (.inl r.top)) ?_
  have key : ∀ (as' : List Addr) (g : Nat → List Nat), (∀ (j : Nat) (a : Addr), as'[j]? = some a → H a = some (.lst ((g j).map nV))) → DpAll K H (as'.map V.ref) ((List.range as'.length).map fun k => encL (g k)) := by
    intro as'
    induction as' with
    | nil => intro g _; exact .nil
    | cons a as' ih =>
      intro g h
      rw [List.length_cons, List.range_succ_eq_map, List.map_cons, List.map_cons, List.map_map]
      refine .cons (.lst (.inl (.inl (h 0 a rfl))) (nats_dpa _)) ?_
      exact ih (fun k => g (k + 1)) fun j b hb => h (j + 1) b (by simpa using hb)
  exact key as f fun j a h => r.at_ j a h
/-- [[] for .. in range(n)] -/
theorem lc_rows {σ : L2.St} {n : Nat} {j : Nat} {ta : TA} {vs : List Nat} (hl : ∀ Q' : List V → Hp → Prop, (∀ H1, Ex H H1 → Q' [.int n] H1) → ta σ H Q') (hz : n < 100000)
    (hw : ∀ x, wipe ((wipe σ vs).set j (some x)) vs = wipe σ vs) (k : ∀ D as H', as.length = n → Rows H H' D as (fun _ => []) → Q (.ref D) H') : tLc (iRng1 ta) (gName j) tYes (tLst tNil) vs σ H Q := by
  refine hl _ fun H1 e1 => ⟨n, rfl, by omega, by omega, fun D hD => ?_⟩
  refine lc_range (lo := 0) (n := n) (fun i H' => ∃ as, as.length = i ∧ Rows H1 H' D as (fun _ => [])) ⟨[], rfl, ⟨Ex.new hD, upd_same, by simp, by simp, by simp, hD⟩⟩ (fun i H' hi p => ?_) (fun H' p => ?_)
  · obtain ⟨as, h1, r⟩ := p
    refine ⟨hw _, ?_⟩
    walk_at "ev"
    refine ⟨Nat.zero_le _, fun p hp => ⟨as.map V.ref, ?_, sz_lt (by simp; omega), as ++ [p], by simp [h1], ?_⟩⟩
    · rw [upd_ne (ne_of_none r.top hp)]; exact r.top
    · have hpD : D ≠ p := ne_of_none r.top hp
      refine ⟨Ex.mut (r.ex.trans (Ex.new hp)) r.new, by rw [upd_same]; simp, ?_, fun a ha => ?_, fun j a hj => ?_, r.new⟩
      · refine List.nodup_append.mpr ⟨r.nd, by simp, fun a ha b hb => ?_⟩
        simp at hb
        subst hb
        obtain ⟨j, hj⟩ := List.getElem?_of_mem ha
        exact ne_of_none (r.at_ j a hj) hp
      · rcases List.mem_append.mp ha with h | h
        · exact r.fresh a h
        · simp at h
          subst h
          exact ⟨fresh_back r.ex hp, Ne.symm hpD⟩
      · by_cases hj2 : j < as.length
        · rw [List.getElem?_append_left hj2] at hj
          have h3 := r.at_ j a hj
          rw [upd_ne (r.fresh a (List.mem_of_getElem? hj)).2, upd_ne (ne_of_none h3 hp)]
          exact h3
        · rw [List.getElem?_append_right (by omega)] at hj
          have : a = p := by
            cases hk : j - as.length with
            | zero => rw [hk] at hj; simp at hj; exact hj.symm
            | succ m => rw [hk] at hj; simp at hj
          subst this
          rw [upd_ne (Ne.symm hpD), upd_same]
  · obtain ⟨as, h1, r⟩ := p
    exact k D as H' h1 ⟨e1.trans r.ex, r.top, r.nd, fun a ha => ⟨fresh_back e1 (r.fresh a ha).1, (r.fresh a ha).2⟩, r.at_, fresh_back e1 r.new⟩
/-! ### neighbours_of -/
def encT (n : Nat) (rs : List Ed) : PyData := .list ((List.range n).map fun k => encL (nbrs rs k))
def sp_neighbours_of (K : PySem.W.Frag) : Sp := fun vs H Q _ => ∃ (v : V) (n : Nat) (rs : List Ed), vs = [.int n, v] ∧ Dp K H v (encR rs) ∧ Roads n rs ∧ n ≤ 1000 ∧ rs.length ≤ 10000 ∧
  ∀ p H', H p = none → Ex H H' → Dp K H' (.ref p) (encT n rs) → Q (.ref p) H'
abbrev N_neighbours_of : List Str := ["houses", "roads", "found", "house", "one", "other"]
def t_neighbours_of (K : PySem.W.Frag) : TS := tSeq (tAsg (tLc (iRng1 (tCons (tVar 0) tNil)) (gName 3) tYes (tLst tNil) [3]) (gName 2)) (tSeq (tFor (iList K (tVar 1)) (gTup K 2 (gCons (gName 4) (gCons (gName 5) gNil))) (tSeq (tDrop (tBM K "list" rAppend (tOp (rIxL K) (tVar 2) (tVar 4)) (tCons (tVar 5) tNil))) (tDrop (tBM K "list" rAppend (tOp (rIxL K) (tVar 2) (tVar 5)) (tCons (tVar 4) tNil))))) (tRet (tVar 2)))
theorem len_neighbours_of (h : sp_neighbours_of K vs H Q E) : vs.length = 2 := by
  obtain ⟨_, _, _, rfl, _⟩ := h
  rfl
theorem nbrs_len_le (rs : List Ed) (v : Nat) : (nbrs rs v).length ≤ rs.length := by
  induction rs with
  | nil => simp [nbrs]
  | cons e rs ih =>
    have : nbrs (e :: rs) v = nb1 v e ++ nbrs rs v := by simp [nbrs]
    rw [this, List.length_append]
    have : (nb1 v e).length ≤ 1 := by
      unfold nb1
      split
      · simp
      · split <;> simp
    simp
    omega
theorem pure_neighbours_of (h : sp_neighbours_of K vs H Q E) : t_neighbours_of K { nx := fun _ H' => Q .non H', rt := Q } (start N_neighbours_of vs) H := by
  obtain ⟨v, n, rs, rfl, hR, hr, hn, hlen, q⟩ := h
  obtain ⟨a, xs, rfl, hS, hA⟩ := dp_list hR
  have hl : xs.length = rs.length := by rw [dpa_len hA, List.length_map]
  show t_neighbours_of K _ [some (.int n), some (.ref a), none, none, none, none] H
  unfold t_neighbours_of
  walk_at "ev"
  refine lc_rows (n := n) (fun Q' k => ⟨_, rfl, k H (Ex.refl H)⟩) (by omega) (fun x => rfl) (fun D as H' has r => ?_)
  walk_at "ev"
  refine ⟨_, rfl, a, rfl, ⟨xs, ex_l r.ex hS⟩, for_list (K := K) (a := a) (xs := xs) (fun i σ H2 => ∃ y4 y5, σ = [some (.int n), some (.ref a), some (.ref D), none, y4, y5] ∧ Rows H H2 D as (fun k => (nbrs (rs.take i) k).map nV))
    ⟨none, none, rfl, r⟩ (fun i σ H2 _ ⟨_, _, _, r2⟩ => ex_l r2.ex hS) ?_ ?_⟩
  · rintro i x σ H2 hi ⟨y4, y5, rfl, r2⟩
    obtain ⟨d, hd1, hd2⟩ := dpa_get hA hi
    have hi2 : i < rs.length := by rw [← hl]; exact (List.getElem?_eq_some_iff.mp hi).1
    rw [List.getElem?_map, List.getElem?_eq_getElem hi2] at hd1
    cases hd1
    obtain ⟨t, rfl, hT⟩ := dp_road hd2
    generalize he : rs[i] = e at hT
    have hm : e ∈ rs := by rw [← he]; exact List.getElem_mem hi2
    obtain ⟨l1, l2⟩ := hr.lt e hm
    have ha1 : ∃ b, as[e.1]? = some b := ⟨as[e.1]'(by omega), List.getElem?_eq_getElem _⟩
    have ha2 : ∃ b, as[e.2]? = some b := ⟨as[e.2]'(by omega), List.getElem?_eq_getElem _⟩
    obtain ⟨b1, hb1⟩ := ha1
    obtain ⟨b2, hb2⟩ := ha2
    have at1 : atI (as.map V.ref) (e.1 : Int) = some (.ref b1) := atI_nat (by rw [List.getElem?_map, hb1]; rfl)
    have at2 : atI (as.map V.ref) (e.2 : Int) = some (.ref b2) := atI_nat (by rw [List.getElem?_map, hb2]; rfl)
    have r3 := r2.put hb1 ((nbrs (rs.take i) e.1).map nV ++ [nV e.2])
    have r4 := r3.put hb2 ((nbrs (rs.take i) e.2).map nV ++ [nV e.1])
    have sz : ∀ k, ((nbrs (rs.take i) k).map nV).length < sizeLine := fun k => sz_lt (by
      rw [List.length_map]
      have := nbrs_len_le (rs.take i) k
      rw [List.length_take] at this
      omega)
    refine ⟨t, _, rfl, ex_t r2.ex hT, rfl, ?_⟩
    walk_at "ev"
    refine ⟨D, _, _, _, rfl, rfl, SqL.of r2.top, at1, .inl ⟨rfl, _, SqL.of (r2.at_ _ _ hb1)⟩, b1, _, _, rfl, rfl, r2.at_ _ _ hb1, sz _, ?_⟩
    have h3 := r3.at_ _ _ hb2
    rw [if_neg (by omega)] at h3
    refine ⟨D, _, _, _, rfl, rfl, SqL.of r3.top, at2, .inl ⟨rfl, _, SqL.of h3⟩, b2, _, _, rfl, rfl, h3, sz _, ?_⟩
    have ef : (fun k => (nbrs (rs.take (i + 1)) k).map nV) = fun k => if k = e.2 then (nbrs (rs.take i) e.2).map nV ++ [nV e.1] else if k = e.1 then (nbrs (rs.take i) e.1).map nV ++ [nV e.2] else (nbrs (rs.take i) k).map nV := by
      funext k
      have : rs.take (i + 1) = rs.take i ++ [e] := by rw [List.take_succ_eq_append_getElem hi2, he]
      rw [this, nbrs_snoc, List.map_append]
      unfold nb1
      by_cases k1 : k = e.1
      · subst k1
        rw [if_pos rfl, if_neg (by omega), if_pos rfl]
        rfl
      · by_cases k2 : k = e.2
        · subst k2
          rw [if_neg (by omega), if_pos rfl, if_pos rfl]
          rfl
        · rw [if_neg (fun z => k1 z.symm), if_neg (fun z => k2 z.symm), if_neg k2, if_neg k1]
          simp
    rw [ef]
    exact r4
  · rintro σ H2 ⟨y4, y5, rfl, r2⟩
    rw [hl, List.take_length] at r2
    walk_at "ev"
    refine q D H2 r2.new r2.ex ?_
    have := Rows.dp (K := K) r2
    rw [has] at this
    exact this
end
end TW
namespace TW
open PySem PySem.Spec PyProof.Rows L2 Evl
local macro_rules | `(tactic| walk_at "ev") => `(tactic| try simp only [tSeq, tNext, tRet, tRetN, tDrop, tAsg, gName, gSub, gTup, gCons, gNil, tIfS, tAndV, tOrV, tNotV, tAnd, tOr, tNot, tCB, tCons, tNil, tC, tTest, tB, tOp, tUn, tCall, tIf, tTup, tLst, tIsTh, tChain, tBM, tBM0, tAug, tAugS, tYes, tRaise, tPar, tSl, tPart, tNoPart, tRevL, rI0, rI, rU, ipI, tVar, E0,
  List.getElem?_cons_zero, List.getElem?_cons_succ, List.set_cons_zero, List.set_cons_succ, Option.some.injEq, exists_eq_left', exists_eq_left, V.int.injEq, V.bl.injEq, V.ref.injEq, List.cons.injEq, and_true, true_and, exists_and_left, List.cons_append, List.nil_append, List.append_nil, exists_eq, exists_const, and_assoc, exists_eq_right, if_true, if_false, Bool.not_true, Bool.not_false, Bool.false_eq_true, if_pos])
section
variable {K : PySem.W.Frag} {c : Cs} {vs : List V} {H H' : Hp} {Q : VK} {E : XK}
theorem ixN_nat {n j : Nat} (h : j < n) : ixN n (j : Int) = some j := by
  unfold ixN
  rw [if_pos (by omega), if_pos (by omega)]
  simp
theorem rep_flat {α : Type} (n : Nat) (x : α) : (List.replicate n [x]).flatten = List.replicate n x := by
  induction n with
  | zero => rfl
  | succ n ih => rw [List.replicate_succ, List.flatten_cons, ih, List.replicate_succ]; rfl
theorem one_le : (1 : Nat) ≤ sizeLine := by decide
theorem two_le : (2 : Nat) ≤ sizeLine := by decide
theorem getD_of {α : Type} {l : List α} {i : Nat} {x d : α} (h : l[i]? = some x) : l.getD i d = x := by
  rw [List.getD_eq_getElem?_getD, h]; rfl
theorem item_nat {ns : List Nat} {i : Nat} {x : V} (h : (ns.map nV)[i]? = some x) : ∃ k, ns[i]? = some k ∧ x = nV k := by
  rw [List.getElem?_map] at h
  cases e : ns[i]? with
  | none => rw [e] at h; cases h
  | some k => rw [e] at h; exact ⟨k, rfl, (Option.some.inj h).symm⟩
theorem item_int {ns : List Int} {i : Nat} {x : V} (h : (ns.map V.int)[i]? = some x) : ∃ k, ns[i]? = some k ∧ x = V.int k := by
  rw [List.getElem?_map] at h
  cases e : ns[i]? with
  | none => rw [e] at h; cases h
  | some k => rw [e] at h; exact ⟨k, rfl, (Option.some.inj h).symm⟩
theorem map_set {α β : Type} (f : α → β) (l : List α) (i : Nat) (x : α) : (l.map f).set i (f x) = (l.set i x).map f := by
  rw [List.map_set]
/-- a row of the table -/
theorem row_of {p : Addr} {n : Nat} {rs : List Ed} (h : Dp K H (.ref p) (encT n rs)) : ∃ xs, SqL K H p xs ∧ xs.length = n ∧ ∀ j, j < n → ∃ a, atI xs (j : Int) = some (.ref a) ∧ SqL K H a ((nbrs rs j).map nV) := by
  obtain ⟨p', xs, e, hS, hA⟩ := dp_list h
  cases e
  refine ⟨xs, hS, by rw [dpa_len hA]; simp, fun j hj => ?_⟩
  obtain ⟨v, h1, h2⟩ := dpa_get2 (i := j) (d := encL (nbrs rs j)) hA (by rw [List.getElem?_map, List.getElem?_range hj]; rfl)
  obtain ⟨a, ys, rfl, h3, h4⟩ := dp_list h2
  rw [dpa_nats h4] at h3
  exact ⟨a, atI_nat h1, h3⟩
/-! ### came_from -/
def sp_came_from (K : PySem.W.Frag) : Sp := fun vs H Q _ => ∃ (v : V) (n b : Nat) (rs : List Ed), vs = [.int n, v, .int b] ∧ Dp K H v (encR rs) ∧ Roads n rs ∧ n ≤ 1000 ∧ rs.length ≤ 10000 ∧ b < n ∧
  ∀ p H', H p = none → Ex H H' → H' p = some (.lst ((cameFrom n rs b).map V.int)) → Q (.ref p) H'
abbrev N_came_from : List Str := ["houses", "roads", "begin", "neighbours", "ahead", "waiting", "here", "other"]
def t_came_from (K : PySem.W.Frag) : TS := tSeq (tAsg (tCall (sp_neighbours_of K) [] E0 (tCons (tVar 0) (tCons (tVar 1) tNil))) (gName 3)) (tSeq (tAsg (tOp rRep (tLst (tCons (tUn rNeg (tC (.int 1))) tNil)) (tVar 0)) (gName 4)) (tSeq (tAsg (tVar 2) (gSub (tVar 4) (tVar 2) rSetL)) (tSeq (tAsg (tLst (tCons (tVar 2) tNil)) (gName 5)) (tSeq (tWhile (tTest (tOp rGt (tCB (Evl.rLenS K) (tCons (tVar 5) tNil)) (tC (.int 0)))) (tSeq (tAsg (tBM0 K "list" rPop (tVar 5)) (gName 6)) (tFor (iList K (tOp (rIxL K) (tVar 3) (tVar 6))) (gName 7) (tIfS (tTest (tOp rLt (tOp (rIxL K) (tVar 4) (tVar 7)) (tC (.int 0)))) (tSeq (tAsg (tVar 6) (gSub (tVar 4) (tVar 7) rSetL)) (tDrop (tBM K "list" rAppend (tVar 5) (tCons (tVar 7) tNil)))) tNext)))) (tRet (tVar 4))))))
theorem len_came_from (h : sp_came_from K vs H Q E) : vs.length = 3 := by
  obtain ⟨_, _, _, _, rfl, _⟩ := h
  rfl
theorem pushN_cons (here o : Nat) (r : List Nat) (ah : List Int) (wt : List Nat) : pushN here (o :: r) (ah, wt) = if ah.getD o 0 < 0 then pushN here r (ah.set o here, wt ++ [o]) else pushN here r (ah, wt) := rfl
theorem unseen_le (ah : List Int) : unseen ah ≤ ah.length := List.countP_le_length
theorem pure_came_from (h : sp_came_from K vs H Q E) : t_came_from K { nx := fun _ H' => Q .non H', rt := Q } (start N_came_from vs) H := by
  obtain ⟨v, n, b, rs, rfl, hR, hr, hn, hlen, hb, q⟩ := h
  show t_came_from K _ [some (.int n), some v, some (.int b), none, none, none, none, none] H
  unfold t_came_from
  refine seqC fun R kR => ?_
  walk_at "ev"
  refine ⟨v, n, rs, rfl, hR, hr, hn, hlen, fun p H1 hp e1 hD => kR _ _ ?_⟩
  refine seqC fun R kR => ?_
  walk_at "ev"
  refine ⟨one_le, fun l hl => ⟨l, n, [.int (-1)], rfl, rfl, upd_same, by omega, by omega, by simp; exact Nat.le_of_lt (sz_lt (by omega)), fun a ha => kR _ _ ?_⟩⟩
  rw [Int.toNat_natCast, rep_flat]
  have hla : l ≠ a := ne_of_none upd_same ha
  have ha1 : H1 a = none := by rw [upd_ne (Ne.symm hla)] at ha; exact ha
  refine seqC fun R kR => ?_
  walk_at "ev"
  refine ⟨a, _, _, b, rfl, rfl, upd_same, ixN_nat (by simpa using hb), kR _ _ ?_⟩
  refine seqC fun R kR => ?_
  walk_at "ev"
  refine ⟨one_le, fun w hw => kR _ _ ?_⟩
  have hw1 : H1 w = none := fresh_back (Ex.mut (Ex.mut (Ex.new hl) ha1) ha1) hw
  have haw : a ≠ w := ne_of_none upd_same hw
  obtain ⟨xs, hX, _, hrow⟩ := row_of hD
  refine seqC fun R kR => ?_
  refine whL (fun m σ H' => ∃ (ah : List Int) (wt : List Nat) (y6 y7 : Option V), σ = [some (.int n), some v, some (.int b), some (.ref p), some (.ref a), some (.ref w), y6, y7] ∧ Ex H1 H' ∧
      H' a = some (.lst (ah.map V.int)) ∧ H' w = some (.lst (wt.map nV)) ∧ CInv n (ah, wt) ∧ runC rs m (ah, wt) = cameFrom n rs b ∧ unseen ah + wt.length ≤ m ∧ m ≤ n + 1) (n + 1)
    ⟨(List.replicate n (-1)).set b b, [b], none, none, rfl, ?_, ?_, upd_same, ⟨by simp, by simp; exact hb⟩, rfl, ?_, Nat.le_refl _⟩ ?_
  · exact Ex.mut (Ex.mut (Ex.mut (Ex.new hl) ha1) ha1) hw1
  · rw [upd_ne haw, upd_same, ← map_set, List.map_replicate]
  · have := unseen_le ((List.replicate n (-1)).set b (b : Int))
    simp at this
    simp
    exact this
  · rintro W' kW m σ H' ⟨ah, wt, y6, y7, rfl, e, ea, ew, ci, hrun, hm, hmn⟩
    walk_at "ev"
    refine ⟨w, _, rfl, .inl (SqL.of ew), ?_⟩
    walk_at "ev"
    by_cases hw0 : wt = []
    · subst hw0
      rw [if_neg (by simp)]
      rw [runC_done] at hrun
      rw [hrun] at ea
      exact kR _ _ ⟨_, rfl, q a H' (fresh_back e1 ha1) (e1.trans e) ea⟩
    · have hpos : 0 < wt.length := List.length_pos_iff.mpr hw0
      rw [if_pos (by simp; omega)]
      obtain ⟨f, rfl⟩ : ∃ f, m = f + 1 := ⟨m - 1, by omega⟩
      obtain ⟨here, ws, hws⟩ : ∃ x ws, wt = ws ++ [x] := ⟨wt.getLast hw0, wt.dropLast, (List.dropLast_concat_getLast hw0).symm⟩
      subst hws
      have hhere : here < n := ci.lt here (by simp)
      have hrun2 : runC rs f (pushN here (nbrs rs here) (ah, ws)) = cameFrom n rs b := by
        rw [← hrun]
        simp [runC]
      obtain ⟨ra, hat, hrow2⟩ := hrow here hhere
      refine pickN fun N kN => ?_
      refine ⟨.inl ⟨rfl, _, SqL.of ew⟩, w, _, nV here, rfl, rfl, ew, by simp, ?_⟩
      have ew2 : (upd H' w (.lst ((ws ++ [here]).map nV).dropLast)) w = some (.lst (ws.map nV)) := by
        rw [upd_same]
        simp
      generalize hH2 : upd H' w (.lst ((ws ++ [here]).map nV).dropLast) = H2 at ew2
      have e2' : Ex H1 H2 := by rw [← hH2]; exact Ex.mut e hw1
      have ea2 : H2 a = some (.lst (ah.map V.int)) := by rw [← hH2, upd_ne haw]; exact ea
      have ci2 : CInv n (ah, ws) := ⟨ci.len, fun v hv => ci.lt v (by simp [hv])⟩
      refine forL (K := K) (a := ra) (xs := (nbrs rs here).map nV)
        (fun i σ H3 => ∃ (ah' : List Int) (wt' : List Nat) (y7 : Option V), σ = [some (.int n), some v, some (.int b), some (.ref p), some (.ref a), some (.ref w), some (nV here), y7] ∧ Ex H1 H3 ∧
          H3 a = some (.lst (ah'.map V.int)) ∧ H3 w = some (.lst (wt'.map nV)) ∧ CInv n (ah', wt') ∧ pushN here ((nbrs rs here).drop i) (ah', wt') = pushN here (nbrs rs here) (ah, ws) ∧ unseen ah' + wt'.length = unseen ah + ws.length)
        (fun Q' k => ⟨_, rfl, _, rfl, p, xs, _, _, rfl, rfl, ex_l e2' hX, hat, k _ (Ex.refl _) (ex_l e2' hrow2) ⟨ah, ws, y7, rfl, e2', ea2, ew2, ci2, rfl, rfl⟩⟩) (fun i σ H3 _ ⟨_, _, _, _, e3, _⟩ => ex_l e3 hrow2) ?_ ?_
      · rintro i x σ H3 Nx hi ⟨ah', wt', y7', rfl, e3, ea3, ew3, ci3, hp3, hu3⟩ kx
        obtain ⟨o, ho, rfl⟩ := item_nat hi
        have hon : o < n := nbrs_lt hr (List.mem_of_getElem? ho)
        obtain ⟨hi2, hi3⟩ := List.getElem?_eq_some_iff.mp ho
        have hdrop : (nbrs rs here).drop i = o :: (nbrs rs here).drop (i + 1) := by
          rw [List.drop_eq_getElem_cons hi2, hi3]
        rw [hdrop] at hp3
        have hlo : o < ah'.length := by have := ci3.len; simp at this; omega
        have hao : ah'[o]? = some (ah'[o]) := List.getElem?_eq_getElem hlo
        have hgd : ah'.getD o 0 = ah'[o] := getD_of hao
        have huu := unseen_le ah'
        walk_at "ev"
        refine ⟨a, _, _, _, rfl, rfl, SqL.of ea3, atI_nat (by rw [List.getElem?_map, hao]; rfl), ?_⟩
        walk_at "ev"
        rw [pushN_cons] at hp3
        by_cases hneg : ah'[o] < 0
        · rw [if_pos (decide_eq_true hneg)]
          rw [if_pos (by rw [hgd]; exact hneg)] at hp3
          refine ⟨a, _, _, o, rfl, rfl, ea3, ixN_nat (by simpa using hlo), .inl ⟨rfl, _, SqL.of (by rw [upd_ne (Ne.symm haw)]; exact ew3)⟩, w, _, _, rfl, rfl, by rw [upd_ne (Ne.symm haw)]; exact ew3, sz_lt ?_, kx _ _ ?_⟩
          · rw [List.length_map]
            simp at hm
            omega
          · have hset := unseen_set (ah := ah') (o := o) (v := (here : Int)) (by rw [hgd]; exact hneg) (by omega)
            refine ⟨ah'.set o here, wt' ++ [o], _, rfl, Ex.mut (Ex.mut e3 ha1) hw1, ?_, ?_, ?_, hp3, ?_⟩
            · rw [upd_ne haw, upd_same, ← map_set]
            · rw [upd_same, List.map_append]; rfl
            · refine ⟨by simp; exact ci3.len, fun v hv => ?_⟩
              simp at hv
              rcases hv with hv | rfl
              · exact ci3.lt v hv
              · exact hon
            · simp
              omega
        · rw [if_neg (by simpa using hneg)]
          rw [if_neg (by rw [hgd]; exact hneg)] at hp3
          exact kx _ _ ⟨ah', wt', _, rfl, e3, ea3, ew3, ci3, hp3, hu3⟩
      · rintro σ H3 ⟨ah', wt', y7', rfl, e3, ea3, ew3, ci3, hp3, hu3⟩
        rw [List.length_map, List.drop_length] at hp3
        have hp4 : (ah', wt') = pushN here (nbrs rs here) (ah, ws) := hp3
        refine kN f _ _ (by omega) (kW _ _ _ ⟨ah', wt', some (nV here), y7', rfl, e3, ea3, ew3, ci3, by rw [hp4]; exact hrun2, ?_, by omega⟩)
        simp at hm
        omega
end
end TW
namespace TW
open PySem PySem.Spec PyProof.Rows L2 Evl
local macro_rules | `(tactic| walk_at "ev") => `(tactic| try simp only [tSeq, tNext, tRet, tRetN, tDrop, tAsg, gName, gSub, gTup, gCons, gNil, tIfS, tAndV, tOrV, tNotV, tAnd, tOr, tNot, tCB, tCons, tNil, tC, tTest, tB, tOp, tUn, tCall, tIf, tTup, tLst, tIsTh, tChain, tBM, tBM0, tAug, tAugS, tYes, tRaise, tPar, tSl, tPart, tNoPart, tRevL, rI0, rI, rU, ipI, tVar, E0,
  List.getElem?_cons_zero, List.getElem?_cons_succ, List.set_cons_zero, List.set_cons_succ, Option.some.injEq, exists_eq_left', exists_eq_left, V.int.injEq, V.bl.injEq, V.ref.injEq, List.cons.injEq, and_true, true_and, exists_and_left, List.cons_append, List.nil_append, List.append_nil, exists_eq, exists_const, and_assoc, exists_eq_right, if_true, if_false, Bool.not_true, Bool.not_false, Bool.false_eq_true, if_pos])
section
variable {K : PySem.W.Frag} {c : Cs} {vs : List V} {H H' : Hp} {Q : VK} {E : XK}
/-! ### is_tree -/
def sp_is_tree (K : PySem.W.Frag) : Sp := fun vs H Q _ => ∃ (v : V) (n : Nat) (rs : List Ed), vs = [.int n, v] ∧ Dp K H v (encR rs) ∧ Roads n rs ∧ 1 ≤ n ∧ n ≤ 1000 ∧ rs.length ≤ 10000 ∧
  ∀ H', Ex H H' → Q (.bl (isTreeB n rs)) H'
abbrev N_is_tree : List Str := ["houses", "roads"]
def t_is_tree (K : PySem.W.Frag) : TS := tRet (tAndV (tOp rEq (tCB (Evl.rLenS K) (tCons (tVar 1) tNil)) (tOp rSub (tVar 0) (tC (.int 1)))) (tOp rGe (tCB (rMin K) (tCons (tCall (sp_came_from K) [] E0 (tCons (tVar 0) (tCons (tVar 1) (tCons (tC (.int 0)) tNil)))) tNil)) (tC (.int 0))))
theorem len_is_tree (h : sp_is_tree K vs H Q E) : vs.length = 2 := by
  obtain ⟨_, _, _, rfl, _⟩ := h
  rfl
theorem min_all {ns : List Int} {m : Int} (h1 : m ∈ ns) (h2 : ∀ y ∈ ns, m ≤ y) : decide (0 ≤ m) = ns.all fun x => decide (0 ≤ x) := by
  rw [Bool.eq_iff_iff, decide_eq_true_eq, List.all_eq_true]
  constructor
  · intro h y hy
    have := h2 y hy
    simp
    omega
  · intro h
    simpa using h m h1
theorem pure_is_tree (h : sp_is_tree K vs H Q E) : t_is_tree K { nx := fun _ H' => Q .non H', rt := Q } (start N_is_tree vs) H := by
  obtain ⟨v, n, rs, rfl, hR, hr, h1, hn, hlen, q⟩ := h
  obtain ⟨a, xs, rfl, hS, hA⟩ := dp_list hR
  have hl : xs.length = rs.length := by rw [dpa_len hA, List.length_map]
  show t_is_tree K _ [some (.int n), some (.ref a)] H
  unfold t_is_tree
  walk_at "ev"
  refine ⟨a, xs, rfl, .inl hS, rfl, _, rfl, ?_⟩
  by_cases he : rs.length + 1 = n
  · rw [if_pos (by simp; omega)]
    refine ⟨_, n, 0, rs, rfl, hR, hr, hn, hlen, by omega, fun p H' hp e hp2 => ?_⟩
    walk_at "ev"
    refine ⟨p, cameFrom n rs 0, rfl, SqL.of hp2, by rw [came_len hr (by omega)]; omega, fun m m1 m2 => ?_⟩
    walk_at "ev"
    rw [min_all m1 m2]
    have : isTreeB n rs = (cameFrom n rs 0).all fun x => decide (0 ≤ x) := by
      unfold isTreeB
      rw [decide_eq_true he, Bool.true_and]
    rw [← this]
    exact q H' e
  · rw [if_neg (by simp; omega)]
    have : isTreeB n rs = false := by
      unfold isTreeB
      rw [decide_eq_false he, Bool.false_and]
    rw [← this]
    exact q H (Ex.refl H)
/-! ### check_tree -/
def sp_check_tree (K : PySem.W.Frag) (c : Cs) : Sp := fun vs H Q E => ∃ (v : V) (n : Nat) (rs : List Ed), vs = [.int n, v] ∧ Dp K H v (encR rs) ∧ Roads n rs ∧ 1 ≤ n ∧ n ≤ 1000 ∧ rs.length ≤ 10000 ∧
  (isTreeB n rs = true → ∀ H', Ex H H' → Q .non H') ∧ (isTreeB n rs = false → ∀ H', Ex H H' → E (.ref c.NoTree) none H')
abbrev N_check_tree : List Str := ["houses", "roads"]
def t_check_tree (K : PySem.W.Frag) (c : Cs) (E : XK) : TS := tIfS (tNot (tB (tCall (sp_is_tree K) [] E0 (tCons (tVar 0) (tCons (tVar 1) tNil))))) (tRaise E (.ref c.NoTree)) tNext
theorem len_check_tree (h : sp_check_tree K c vs H Q E) : vs.length = 2 := by
  obtain ⟨_, _, _, rfl, _⟩ := h
  rfl
theorem pure_check_tree (h : sp_check_tree K c vs H Q E) : t_check_tree K c E { nx := fun _ H' => Q .non H', rt := Q } (start N_check_tree vs) H := by
  obtain ⟨v, n, rs, rfl, hR, hr, h1, hn, hlen, q1, q2⟩ := h
  show t_check_tree K c E _ [some (.int n), some v] H
  unfold t_check_tree
  walk_at "ev"
  refine ⟨v, n, rs, rfl, hR, hr, h1, hn, hlen, fun H' e => ?_⟩
  walk_at "ev"
  cases hb : isTreeB n rs with
  | true => exact iteF (q1 hb H' e)
  | false => exact iteT (q2 hb H' e)
/-! ### road_of -/
def sp_road_of (K : PySem.W.Frag) : Sp := fun vs H Q _ => ∃ (a b : Int), vs = [.int a, .int b] ∧ ∀ p, H p = none → Q (.ref p) (upd H p (.tup [.int (min a b), .int (max a b)]))
abbrev N_road_of : List Str := ["one", "other"]
def t_road_of (K : PySem.W.Frag) : TS := tRet (tTup (tCons (tCB rMin2 (tCons (tVar 0) (tCons (tVar 1) tNil))) (tCons (tCB Evl.rMax2 (tCons (tVar 0) (tCons (tVar 1) tNil))) tNil)))
theorem len_road_of (h : sp_road_of K vs H Q E) : vs.length = 2 := by
  obtain ⟨_, _, rfl, _⟩ := h
  rfl
theorem min_if (a b : Int) : (if b < a then b else a) = min a b := by
  split <;> omega
theorem max_if (a b : Int) : (if b > a then b else a) = max a b := by
  split <;> omega
theorem pure_road_of (h : sp_road_of K vs H Q E) : t_road_of K { nx := fun _ H' => Q .non H', rt := Q } (start N_road_of vs) H := by
  obtain ⟨a, b, rfl, q⟩ := h
  show t_road_of K _ [some (.int a), some (.int b)] H
  unfold t_road_of
  walk_at "ev"
  refine ⟨a, b, rfl, a, b, rfl, two_le, fun p hp => ?_⟩
  rw [min_if, max_if]
  exact q p hp
/-! ### way_by -/
def upW (ah : List Int) : Nat → Nat → List Nat
  | 0, v => [v]
  | f + 1, v => if ah.getD v 0 = v then [v] else v :: upW ah f (ah.getD v 0).toNat
/-- each leads to one of less rank, at last to itself -/
structure Leads (ah : List Int) (ok : Nat → Prop) (rk : Nat → Nat) (n : Nat) : Prop where
  len : ah.length = n
  lt : ∀ v, ok v → v < n
  rl : ∀ v, ok v → rk v < n
  to : ∀ v, ok v → ah.getD v 0 ≠ v → ∃ u, ah.getD v 0 = (u : Nat) ∧ ok u ∧ rk u < rk v
def sp_way_by (K : PySem.W.Frag) : Sp := fun vs H Q _ => ∃ (a : Addr) (ah : List Int) (v n : Nat) (ok : Nat → Prop) (rk : Nat → Nat), vs = [.ref a, .int v] ∧ SqL K H a (ah.map V.int) ∧ Leads ah ok rk n ∧ ok v ∧ n ≤ 1000 ∧
  ∀ p H', H p = none → Ex H H' → H' p = some (.lst ((upW ah n v).reverse.map nV)) → Q (.ref p) H'
abbrev N_way_by : List Str := ["ahead", "house", "found"]
def t_way_by (K : PySem.W.Frag) : TS := tSeq (tAsg (tLst (tCons (tVar 1) tNil)) (gName 2)) (tSeq (tWhile (tTest (tOp rNe (tOp (rIxL K) (tVar 0) (tOp (rIxL K) (tVar 2) (tUn rNeg (tC (.int 1))))) (tOp (rIxL K) (tVar 2) (tUn rNeg (tC (.int 1)))))) (tDrop (tBM K "list" rAppend (tVar 2) (tCons (tOp (rIxL K) (tVar 0) (tOp (rIxL K) (tVar 2) (tUn rNeg (tC (.int 1))))) tNil)))) (tRet (tRevL K (tVar 2))))
theorem len_way_by (h : sp_way_by K vs H Q E) : vs.length = 2 := by
  obtain ⟨_, _, _, _, _, _, rfl, _⟩ := h
  rfl
theorem pure_way_by (h : sp_way_by K vs H Q E) : t_way_by K { nx := fun _ H' => Q .non H', rt := Q } (start N_way_by vs) H := by
  obtain ⟨a, ah, v, n, ok, rk, rfl, hS, hL, hv, hn, q⟩ := h
  show t_way_by K _ [some (.ref a), some (.int v), none] H
  unfold t_way_by
  refine seqC fun R kR => ?_
  walk_at "ev"
  refine ⟨one_le, fun l hl => kR _ _ ?_⟩
  refine seqC fun R kR => ?_
  refine whL (fun m σ H' => ∃ (pre : List Nat) (u : Nat), σ = [some (.ref a), some (.int v), some (.ref l)] ∧ Ex H H' ∧ H' l = some (.lst ((pre ++ [u]).map nV)) ∧ ok u ∧ rk u ≤ m ∧ pre ++ upW ah m u = upW ah n v ∧ pre.length + m ≤ n) n
    ⟨[], v, rfl, Ex.new hl, upd_same, hv, Nat.le_of_lt (hL.rl v hv), rfl, by simp⟩ ?_
  rintro W' kW m σ H' ⟨pre, u, rfl, e, el, hu, hm, hw, hpl⟩
  have hat : atI ((pre ++ [u]).map nV) (-1) = some (nV u) := by
    rw [List.map_append]
    exact atI_last _ _
  have hun := hL.lt u hu
  have hau : atI (ah.map V.int) (u : Int) = some (V.int (ah.getD u 0)) := atI_nat (by
    rw [List.getElem?_map, List.getElem?_eq_getElem (by rw [hL.len]; exact hun)]
    simp [List.getD_eq_getElem?_getD, hL.len, hun])
  walk_at "ev"
  refine ⟨l, _, _, _, rfl, rfl, SqL.of el, hat, a, _, _, _, rfl, rfl, ex_l e hS, hau, l, _, _, _, rfl, rfl, SqL.of el, hat, rfl, _, rfl, ?_⟩
  by_cases hself : ah.getD u 0 = u
  · rw [if_neg (by rw [hself]; simp)]
    have hend : upW ah m u = [u] := by
      cases m with
      | zero => rfl
      | succ f => unfold upW; rw [if_pos hself]
    rw [hend] at hw
    refine kR _ _ ⟨_, rfl, l, _, rfl, SqL.of el, fun p hp => ?_⟩
    refine q p _ (fresh_back e hp) (e.trans (Ex.new hp)) ?_
    rw [upd_same, hw, List.map_reverse]
  · rw [if_pos (by simp; exact fun z => hself (by exact_mod_cast z))]
    obtain ⟨w, hw1, hw2, hw3⟩ := hL.to u hu hself
    obtain ⟨f, rfl⟩ : ∃ f, m = f + 1 := ⟨m - 1, by omega⟩
    refine pickN fun N kN => ?_
    refine ⟨.inl ⟨rfl, _, SqL.of el⟩, l, _, _, _, rfl, rfl, SqL.of el, hat, a, _, _, _, rfl, rfl, ex_l e hS, hau, l, _, _, rfl, rfl, el, sz_lt (by simp; omega), ?_⟩
    refine kN f _ _ (by omega) (kW _ _ _ ⟨pre ++ [u], w, rfl, Ex.mut e hl, ?_, hw2, by omega, ?_, by simp; omega⟩)
    · rw [upd_same, hw1]
      simp
    · rw [← hw]
      conv => rhs; unfold upW
      rw [if_neg hself, hw1, Int.toNat_natCast]
      simp
end
end TW
namespace TW
open PySem PySem.Spec PyProof.Rows L2 Evl
local macro_rules | `(tactic| walk_at "ev") => `(tactic| try simp only [tSeq, tNext, tRet, tRetN, tDrop, tAsg, gName, gSub, gTup, gCons, gNil, tIfS, tAndV, tOrV, tNotV, tAnd, tOr, tNot, tCB, tCons, tNil, tC, tTest, tB, tOp, tUn, tCall, tIf, tTup, tLst, tIsTh, tChain, tBM, tBM0, tAug, tAugS, tYes, tRaise, tPar, tSl, tPart, tNoPart, tRevL, rI0, rI, rU, ipI, tVar, E0,
  List.getElem?_cons_zero, List.getElem?_cons_succ, List.set_cons_zero, List.set_cons_succ, Option.some.injEq, exists_eq_left', exists_eq_left, V.int.injEq, V.bl.injEq, V.ref.injEq, List.cons.injEq, and_true, true_and, exists_and_left, List.cons_append, List.nil_append, List.append_nil, exists_eq, exists_const, and_assoc, exists_eq_right, if_true, if_false, Bool.not_true, Bool.not_false, Bool.false_eq_true, if_pos])
section
variable {K : PySem.W.Frag} {c : Cs} {vs : List V} {H H' : Hp} {Q : VK} {E : XK}
/-! ### lists by place -/
def tab (f : Nat → V) (n : Nat) : List V := (List.range n).map f
theorem tab_len (f : Nat → V) (n : Nat) : (tab f n).length = n := by simp [tab]
theorem tab_get {f : Nat → V} {n i : Nat} (h : i < n) : (tab f n)[i]? = some (f i) := by
  unfold tab
  rw [List.getElem?_map, List.getElem?_range h]; rfl
theorem tab_at {f : Nat → V} {n i : Nat} (h : i < n) : atI (tab f n) (i : Int) = some (f i) := atI_nat (tab_get h)
theorem tab_set (f : Nat → V) (n i : Nat) (x : V) : (tab f n).set i x = tab (fun k => if k = i then x else f k) n := by
  apply List.ext_getElem?
  intro k
  rw [List.getElem?_set]
  by_cases hk : k < n
  · by_cases e : i = k
    · subst e
      rw [if_pos rfl, if_pos (by rw [tab_len]; exact hk), tab_get hk, if_pos rfl]
    · rw [if_neg e, tab_get hk, tab_get hk, if_neg (fun z => e z.symm)]
  · have h1 : (tab f n)[k]? = none := List.getElem?_eq_none (by rw [tab_len]; omega)
    have h2 : (tab (fun k => if k = i then x else f k) n)[k]? = none := List.getElem?_eq_none (by rw [tab_len]; omega)
    rw [h1, h2, tab_len]
    by_cases e : i = k
    · rw [if_pos e, if_neg (by omega)]
    · rw [if_neg e]
theorem tab_congr {f g : Nat → V} {n : Nat} (h : ∀ k, k < n → f k = g k) : tab f n = tab g n := by
  unfold tab
  exact List.map_congr_left fun k hk => h k (List.mem_range.mp hk)
theorem tab_rep (x : V) (n : Nat) : List.replicate n x = tab (fun _ => x) n := by
  unfold tab
  rw [List.map_const']
  simp
theorem tab_flat {f : Nat → Int} {n : Nat} : (tab (fun k => V.int (f k)) n).all flatV = true := by
  unfold tab
  rw [List.all_map]
  simp [flatV]
/-- list.index(1) of ints -/
theorem index1 {a : Addr} {f : Nat → Int} {n j : Nat} {H : Hp} {Q : VK} (hS : SqL K H a (tab (fun k => V.int (f k)) n)) (hj : j < n) (h1 : f j = 1) (h2 : ∀ m, m < j → f m ≠ 1) (q : Q (.int j) H) : rIndex K (.ref a) [.int 1] H Q := by
  refine ⟨a, _, .int 1, j, .int (f j), rfl, rfl, hS, rfl, tab_flat, tab_get hj, by simp [eqV, h1], fun m z hm hz => ?_, q⟩
  rw [tab_get (by omega)] at hz
  cases hz
  simp [eqV]
  exact h2 m hm
theorem nbrs_length {rs : List Ed} (h : ∀ e ∈ rs, e.1 ≠ e.2) (v : Nat) : (nbrs rs v).length = deg rs v := by
  induction rs with
  | nil => rfl
  | cons e rs ih =>
    rw [nbrs_cons, List.length_append, ih fun f hf => h f (List.mem_cons_of_mem _ hf), deg_cons]
    have := h e (by simp)
    unfold nb1 hasv
    by_cases h1 : e.1 = v
    · simp [h1]; omega
    · by_cases h2 : e.2 = v
      · simp [h1, h2]; omega
      · simp [h1, h2]
/-! ### letters_of -/
def sp_letters_of (K : PySem.W.Frag) : Sp := fun vs H Q _ => ∃ (v : V) (n : Nat) (rs : List Ed), vs = [.int n, v] ∧ Dp K H v (encR rs) ∧ Roads n rs ∧ IsT (List.range n) rs ∧ n ≤ 1000 ∧ rs.length ≤ 10000 ∧
  ∀ p H', H p = none → Ex H H' → H' p = some (.lst ((code n (n - 2) rs).map nV)) → Q (.ref p) H'
abbrev N_letters_of : List Str := ["houses", "roads", "neighbours", "counts", "others", "gone", "found", "turn", "leaf", "other"]
def t_letters_of (K : PySem.W.Frag) : TS := tSeq (tAsg (tCall (sp_neighbours_of K) [] E0 (tCons (tVar 0) (tCons (tVar 1) tNil))) (gName 2)) (tSeq (tAsg (tLc (iList K (tVar 2)) (gName 4) tYes (tCB (Evl.rLenS K) (tCons (tVar 4) tNil)) [4]) (gName 3)) (tSeq (tAsg (tOp rRep (tLst (tCons (tC (.bl false)) tNil)) (tVar 0)) (gName 5)) (tSeq (tAsg (tLst tNil) (gName 6)) (tSeq (tFor (iRng1 (tCons (tOp rSub (tVar 0) (tC (.int 2))) tNil)) (gName 7) (tSeq (tAsg (tBM K "list" (rIndex K) (tVar 3) (tCons (tC (.int 1)) tNil)) (gName 8)) (tSeq (tAsg (tC (.bl true)) (gSub (tVar 5) (tVar 8) rSetL)) (tSeq (tAsg (tC (.int 0)) (gSub (tVar 3) (tVar 8) rSetL)) (tFor (iList K (tOp (rIxL K) (tVar 2) (tVar 8))) (gName 9) (tIfS (tNot (tB (tOp (rIxL K) (tVar 5) (tVar 9)))) (tSeq (tDrop (tBM K "list" rAppend (tVar 6) (tCons (tVar 9) tNil))) (tAugS (tVar 3) (tVar 9) (tC (.int 1)) (rIxL K) (ipI fun i j => i - j) rSetL)) tNext)))))) (tRet (tVar 6))))))
theorem len_letters_of (h : sp_letters_of K vs H Q E) : vs.length = 2 := by
  obtain ⟨_, _, _, rfl, _⟩ := h
  rfl
/-- the houses that are left -/
structure LInv (n : Nat) (rs : List Ed) (A : List Nat) (k : Nat) : Prop where
  tree : IsT A (rs.filter (inA A))
  lt : ∀ v ∈ A, v < n
  len : A.length + k = n
theorem pure_letters_of (h : sp_letters_of K vs H Q E) : t_letters_of K { nx := fun _ H' => Q .non H', rt := Q } (start N_letters_of vs) H := by
  obtain ⟨v, n, rs, rfl, hR, hr, ht, hn, hlen, q⟩ := h
  have hne : ∀ e ∈ rs, e.1 ≠ e.2 := fun e he => Nat.ne_of_lt (hr.lt e he).1
  show t_letters_of K _ [some (.int n), some v, none, none, none, none, none, none, none, none] H
  unfold t_letters_of
  refine seqC fun R kR => ?_
  walk_at "ev"
  refine ⟨v, n, rs, rfl, hR, hr, hn, hlen, fun p H1 hp e1 hD => kR _ _ ?_⟩
  obtain ⟨xs, hX, hxl, hrow⟩ := row_of hD
  refine seqC fun R kR => ?_
  walk_at "ev"
  refine lcL (K := K) (a := p) (xs := xs) (fun _ i u _ => u = .int (deg rs i)) (cr_flat fun i => .int (deg rs i)) (fun _ => true) (fun Q' k => ⟨_, rfl, k H1 (Ex.refl H1) hX⟩) (by omega) (fun i z D H' Q' hi e k => ?_) (fun ca ys H2 hca e2 hca2 hall => kR _ _ ?_)
  · refine k _ H' (Ex.refl H') rfl (fun Q'' q'' => q'' H' (Ex.refl H')) (fun _ H3 e3 Q'' k2 => ?_)
    have hi2 : i < n := by rw [← hxl]; exact (List.getElem?_eq_some_iff.mp hi).1
    obtain ⟨ra, h1, h2⟩ := hrow i hi2
    obtain ⟨j, h3, h4, _⟩ := atI_get h1
    have h5 : z = .ref ra := by
      have := atI_nat hi
      rw [h1] at this
      exact (Option.some.inj this).symm
    subst h5
    show tCB _ _ [some (V.int n), some v, some (V.ref p), none, some (V.ref ra), none, none, none, none, none] H3 Q''
    walk_at "ev"
    refine ⟨ra, _, rfl, .inl (ex_l (e.trans e3) h2), k2 _ H3 (Ex.refl H3) fun _ _ => ?_⟩
    rw [List.length_map, nbrs_length hne]
  have e3 := hall.eq
  rw [picks_all, hxl] at e3
  have hc0 : H2 ca = some (.lst (tab (fun k => V.int (deg rs k : Int)) n)) := by rw [hca2, e3]; rfl
  refine seqC fun R kR => ?_
  walk_at "ev"
  refine ⟨one_le, fun l hl => ⟨l, n, [.bl false], rfl, rfl, upd_same, by omega, by omega, by simp; exact Nat.le_of_lt (sz_lt (by omega)), fun ga hga => kR _ _ ?_⟩⟩
  rw [Int.toNat_natCast, rep_flat, tab_rep]
  refine seqC fun R kR => ?_
  walk_at "ev"
  refine ⟨Nat.zero_le _, fun fa hfa => kR _ _ ?_⟩
  have hga2 : H2 ga = none := by
    have : ga ≠ l := Ne.symm (ne_of_none upd_same hga)
    rw [upd_ne this] at hga
    exact hga
  have e23 : Ex H2 (upd (upd H2 l (.lst [.bl false])) ga (.lst (tab (fun _ => .bl false) n))) := Ex.mut (Ex.new hl) hga2
  have hfa2 : H2 fa = none := fresh_back e23 hfa
  have n1 : ca ≠ ga := ne_of_none hc0 hga2
  have n2 : ca ≠ fa := ne_of_none hc0 hfa2
  have n3 : ga ≠ fa := ne_of_none upd_same hfa
  have hall0 : rs.filter (inA (List.range n)) = rs := by
    rw [List.filter_eq_self]
    intro e he
    have := hr.lt e he
    simp [inA]
    omega
  have hca1 : H1 ca = none := hca
  have hga1 : H1 ga = none := fresh_back e2 hga2
  have hfa1 : H1 fa = none := fresh_back e2 hfa2
  refine seqC fun R kR => ?_
  refine forR (n := (n : Int) - 2) (fun k σ H' => ∃ (A : List Nat) (fd : List Nat) (y7 y8 y9 : Option V), σ = [some (.int n), some v, some (.ref p), some (.ref ca), none, some (.ref ga), some (.ref fa), y7, y8, y9] ∧ Ex H1 H' ∧
      LInv n rs A k ∧ H' ca = some (.lst (tab (fun u => V.int (deg (rs.filter (inA A)) u : Int)) n)) ∧ H' ga = some (.lst (tab (fun u => V.bl (decide (u ∉ A))) n)) ∧ H' fa = some (.lst (fd.map nV)) ∧
      fd ++ code n (n - 2 - k) (rs.filter (inA A)) = code n (n - 2) rs ∧ fd.length = k)
    (fun Q' k => ⟨_, rfl, _, _, rfl, rfl, k _ (Ex.refl _) ⟨List.range n, [], none, none, none, rfl, ?_, ⟨?_, fun v hv => List.mem_range.mp hv, by simp⟩, ?_, ?_, upd_same, ?_, rfl⟩⟩) (by omega) (by omega) ?_ ?_
  · exact Ex.mut (Ex.mut (Ex.mut e2 (fresh_back e2 hl)) hga1) hfa1
  · rw [hall0]; exact ht
  · rw [upd_ne n2, upd_ne n1, upd_ne (ne_of_none hc0 hl), hall0]
    exact hc0
  · rw [upd_ne n3, upd_same]
    congr 2
    exact tab_congr fun k hk => by simp [hk]
  · rw [hall0]; simp
  · rintro k σ H' Nx hk ⟨A, fd, y7, y8, y9, rfl, e, li, hc, hg, hf, hcode, hfl⟩ kx
    have hA2 : 2 ≤ A.length := by have := li.len; omega
    obtain ⟨l1, l2, l3, l4⟩ := leafOf_spec li.tree li.lt hA2
    obtain ⟨b1, b2⟩ := nb_in li.tree l2
    generalize hles : leafOf n (rs.filter (inA A)) = lf at l1 l2 l3 l4 b1 b2
    generalize hhs : nb (rs.filter (inA A)) lf = hd at b1 b2
    walk_at "ev"
    refine ⟨.inl ⟨rfl, _, SqL.of hc⟩, index1 (SqL.of hc) l3 (by rw [l2]; rfl) (fun m hm z => l4 m hm (by exact_mod_cast z)) ?_⟩
    walk_at "ev"
    refine ⟨ga, _, _, lf, rfl, rfl, hg, ixN_nat (by rw [tab_len]; exact l3), ca, _, _, lf, rfl, rfl, (upd_ne n1).trans hc, ixN_nat (by rw [tab_len]; exact l3), ?_⟩
    obtain ⟨ra, hat, hrow2⟩ := hrow lf l3
    rw [tab_set, tab_set]
    have hA' : ∀ u, (u ∉ A.erase lf) ↔ (u = lf ∨ u ∉ A) := fun u => by
      rw [li.tree.nodup.mem_erase_iff]
      by_cases hu : u = lf <;> simp [hu]
    have hnf : (nbrs rs lf).filter (fun o => decide (o ∈ A.erase lf)) = [hd] := by
      have h1 := nbrs_filter l1 rs
      rw [nbrs_leaf l2, hhs] at h1
      rw [h1]
      apply List.filter_congr
      intro o ho
      have : o ≠ lf := by
        rcases (mem_nbrs hne).mp ho with z | z
        · exact fun w => hne _ z w.symm
        · exact fun w => hne _ z w
      simp [li.tree.nodup.mem_erase_iff, this]
    generalize hH3 : upd (upd H' ga (.lst (tab (fun k => if k = lf then V.bl true else V.bl (decide (k ∉ A))) n))) ca (.lst (tab (fun k => if k = lf then V.int 0 else V.int (deg (rs.filter (inA A)) k : Int)) n)) = H3
    have e3' : Ex H1 H3 := by rw [← hH3]; exact Ex.mut (Ex.mut e hga1) hca1
    have hc3 : H3 ca = some (.lst (tab (fun u => V.int ((if u = lf then 0 else (deg (rs.filter (inA A)) u : Int)) - ((([] : List Nat).count u : Nat) : Int))) n)) := by
      rw [← hH3, upd_same]
      congr 2
      exact tab_congr fun k hk => by by_cases z : k = lf <;> simp [z]
    have hg3 : H3 ga = some (.lst (tab (fun u => V.bl (decide (u ∉ A.erase lf))) n)) := by
      rw [← hH3, upd_ne (Ne.symm n1), upd_same]
      congr 2
      refine tab_congr fun k hk => ?_
      by_cases z : k = lf
      · simp [z, hA']
      · simp [z, hA']
    have hf3 : H3 fa = some (.lst ((fd ++ []).map nV)) := by
      rw [← hH3, upd_ne (Ne.symm n2), upd_ne (Ne.symm n3), List.append_nil]; exact hf
    refine forL (K := K) (a := ra) (xs := (nbrs rs lf).map nV)
      (fun i σ H4 => ∃ (y9 : Option V), σ = [some (.int n), some v, some (.ref p), some (.ref ca), none, some (.ref ga), some (.ref fa), some (.int k), some (.int lf), y9] ∧ Ex H1 H4 ∧
        H4 ca = some (.lst (tab (fun u => V.int ((if u = lf then 0 else (deg (rs.filter (inA A)) u : Int)) - (((((nbrs rs lf).take i).filter (fun o => decide (o ∈ A.erase lf))).count u : Nat) : Int))) n)) ∧
        H4 ga = some (.lst (tab (fun u => V.bl (decide (u ∉ A.erase lf))) n)) ∧ H4 fa = some (.lst ((fd ++ ((nbrs rs lf).take i).filter (fun o => decide (o ∈ A.erase lf))).map nV)))
      (fun Q' k => ⟨_, rfl, _, rfl, p, xs, _, _, rfl, rfl, ex_l e3' hX, hat, k _ (Ex.refl _) (ex_l e3' hrow2) ⟨y9, rfl, e3', hc3, hg3, hf3⟩⟩) (fun i σ H4 _ ⟨_, _, e4, _⟩ => ex_l e4 hrow2) ?_ ?_
    · rintro i x σ H4 Ny hi ⟨y9', rfl, e4, hc4, hg4, hf4⟩ ky
      obtain ⟨o, ho, rfl⟩ := item_nat hi
      have hon : o < n := nbrs_lt hr (List.mem_of_getElem? ho)
      obtain ⟨hi2, hi3⟩ := List.getElem?_eq_some_iff.mp ho
      have htk : (nbrs rs lf).take (i + 1) = (nbrs rs lf).take i ++ [o] := by rw [List.take_succ_eq_append_getElem hi2, hi3]
      walk_at "ev"
      refine ⟨ga, _, _, _, rfl, rfl, SqL.of hg4, tab_at hon, _, rfl, ?_⟩
      by_cases hoA : o ∈ A.erase lf
      · rw [if_pos (by simp [hoA])]
        refine ⟨.inl ⟨rfl, _, SqL.of hf4⟩, fa, _, _, rfl, rfl, hf4, sz_lt ?_, ca, _, _, _, rfl, rfl, SqL.of (by rw [upd_ne n2]; exact hc4), tab_at hon, _, rfl, ca, _, _, o, rfl, rfl, by rw [upd_ne n2]; exact hc4, ixN_nat (by rw [tab_len]; exact hon), ky _ _ ?_⟩
        · rw [List.length_map, List.length_append]
          have h1 := List.length_filter_le (fun o => decide (o ∈ A.erase lf)) ((nbrs rs lf).take i)
          have h2 := nbrs_len_le rs lf
          rw [List.length_take] at h1
          omega
        · refine ⟨_, rfl, Ex.mut (Ex.mut e4 hfa1) hca1, ?_, ?_, ?_⟩
          · rw [upd_same, tab_set, htk, List.filter_append]
            congr 2
            refine tab_congr fun u hu => ?_
            simp only [List.count_append]
            by_cases z : u = o
            · subst z
              simp [hoA]
              omega
            · have : ([o].filter (fun o => decide (o ∈ A.erase lf))).count u = 0 := by
                rw [List.count_eq_zero]
                simp
                exact fun w => absurd w z
              simp [z, this]
          · rw [upd_ne (Ne.symm n1), upd_ne n3]; exact hg4
          · rw [upd_ne (Ne.symm n2), upd_same, htk, List.filter_append]
            simp [hoA]
      · rw [if_neg (by simp [hoA])]
        refine ky _ _ ⟨_, rfl, e4, ?_, hg4, ?_⟩
        · rw [hc4, htk, List.filter_append]
          simp [hoA]
        · rw [hf4, htk, List.filter_append]
          simp [hoA]
    · rintro σ H4 ⟨y9', rfl, e4, hc4, hg4, hf4⟩
      rw [List.length_map, List.take_length, hnf] at hc4 hf4
      refine kx _ _ ⟨A.erase lf, fd ++ [hd], _, _, y9', rfl, e4, ⟨?_, fun v hv => li.lt v (List.mem_of_mem_erase hv), ?_⟩, ?_, hg4, hf4, ?_, by simp [hfl]⟩
      · rw [← cut_filter li.tree.nodup]
        exact li.tree.cut lf l1 l2
      · rw [List.length_erase_of_mem l1]
        have := li.len
        omega
      · rw [hc4, ← cut_filter li.tree.nodup]
        congr 2
        refine tab_congr fun u hu => ?_
        have h1 := deg_cut (fun e he => hne e ((List.mem_filter.mp he).1)) l2 u
        rw [hhs] at h1
        rw [h1]
        by_cases z : u = lf
        · subst z
          have : (([hd] : List Nat).count u) = 0 := by rw [List.count_eq_zero]; simp; exact fun w => b2 w.symm
          simp [this]
        · by_cases w : u = hd
          · have hp := li.tree.deg_pos hA2 hd b1
            subst w
            simp [z]
            omega
          · have : (([hd] : List Nat).count u) = 0 := by rw [List.count_eq_zero]; simp; exact w
            simp [z, w, this]
      · have hk2 : n - 2 - k = (n - 2 - (k + 1)) + 1 := by omega
        rw [← hcode, hk2, ← cut_filter li.tree.nodup]
        conv => rhs; unfold code
        rw [hles, hhs]
        simp
  · rintro σ H' ⟨A, fd, y7, y8, y9, rfl, e, li, hc, hg, hf, hcode, hfl⟩
    have hz : n - 2 - ((n : Int) - 2).toNat = 0 := by omega
    rw [hz] at hcode
    have : fd = code n (n - 2) rs := by
      rw [← hcode]
      simp [code]
    rw [this] at hf
    exact kR _ _ ⟨_, rfl, q fa H' (fresh_back e1 hfa1) (e1.trans e) hf⟩
end
end TW
namespace TW
open PySem PySem.Spec PyProof.Rows L2 Evl
local macro_rules | `(tactic| walk_at "ev") => `(tactic| try simp only [tSeq, tNext, tRet, tRetN, tDrop, tAsg, gName, gSub, gTup, gCons, gNil, tIfS, tAndV, tOrV, tNotV, tAnd, tOr, tNot, tCB, tCons, tNil, tC, tTest, tB, tOp, tUn, tCall, tIf, tTup, tLst, tIsTh, tChain, tBM, tBM0, tAug, tAugS, tYes, tRaise, tPar, tSl, tPart, tNoPart, tRevL, rI0, rI, rU, ipI, tVar, E0,
  List.getElem?_cons_zero, List.getElem?_cons_succ, List.set_cons_zero, List.set_cons_succ, Option.some.injEq, exists_eq_left', exists_eq_left, V.int.injEq, V.bl.injEq, V.ref.injEq, List.cons.injEq, and_true, true_and, exists_and_left, List.cons_append, List.nil_append, List.append_nil, exists_eq, exists_const, and_assoc, exists_eq_right, if_true, if_false, Bool.not_true, Bool.not_false, Bool.false_eq_true, if_pos])
section
variable {K : PySem.W.Frag} {c : Cs} {vs : List V} {H H' : Hp} {Q : VK} {E : XK}
/-! ### sorted of roads -/
/-- the pair at a cell -/
def pairAt (H : Hp) (x : V) : Int × Int := match x with
  | .ref t => match H t with
    | some (.tup [.int a, .int b]) => (a, b)
    | _ => (0, 0)
  | _ => (0, 0)
/-- a list of roads that are the call's own tuples -/
def Own (H : Hp) (xs : List V) (rs : List Ed) : Prop := All2 (fun e x => ∃ t, x = V.ref t ∧ H t = some (.tup [.int e.1, .int e.2])) rs xs
theorem Own.dpa {xs : List V} {rs : List Ed} (h : Own H xs rs) : DpAll K H xs (rs.map encE) := by
  refine All2.dpa (h.imp fun e x ⟨t, e1, e2⟩ => ?_)
  rw [e1]
  exact road_dp (SqT.of e2)
theorem Own.ex {xs : List V} {rs : List Ed} (h : Own H xs rs) (e : Ex H H') : Own H' xs rs := h.imp fun _ _ ⟨t, e1, e2⟩ => ⟨t, e1, e _ _ e2⟩
theorem Own.stay {xs ys zs : List V} {rs : List Ed} {D : Addr} (h : Own H xs rs) (hD : H D = some (.lst ys)) : Own (upd H D (.lst zs)) xs rs :=
  h.imp fun _ _ ⟨t, e1, e2⟩ => ⟨t, e1, by rw [upd_ne (ne_of e2 hD (by intro z; cases z))]; exact e2⟩
theorem All2.perm {α β : Type} {R : α → β → Prop} {f : β → α} (hf : ∀ a b, R a b → f b = a) {as : List α} {bs cs : List β} (h : All2 R as bs) (p : cs.Perm bs) : (cs.map f).Perm as ∧ All2 R (cs.map f) cs := by
  have h1 : ∀ {as : List α} {bs : List β}, All2 R as bs → bs.map f = as ∧ ∀ b ∈ bs, R (f b) b := by
    intro as bs h
    induction h with
    | nil => simp
    | cons r _ ih =>
      refine ⟨by rw [List.map_cons, hf _ _ r, ih.1], fun b hb => ?_⟩
      rcases List.mem_cons.mp hb with e | hb
      · rw [e, hf _ _ r]; exact r
      · exact ih.2 b hb
  obtain ⟨e1, e2⟩ := h1 h
  refine ⟨by rw [← e1]; exact p.map f, ?_⟩
  have e3 : ∀ b ∈ cs, R (f b) b := fun b hb => e2 b (p.mem_iff.mp hb)
  clear p
  induction cs with
  | nil => exact .nil
  | cons b cs ih => exact .cons (e3 b (by simp)) (ih fun x hx => e3 x (List.mem_cons_of_mem _ hx))
theorem own_pair {x : V} {e : Ed} (h : ∃ t, x = V.ref t ∧ H t = some (.tup [.int e.1, .int e.2])) : pairAt H x = ((e.1 : Int), (e.2 : Int)) := by
  obtain ⟨t, rfl, h⟩ := h
  simp [pairAt, h]
/-- sorted(roads) -/
theorem sorted_own {a : Addr} {xs : List V} {rs : List Ed} (hS : SqL K H a xs) (ho : Own H xs rs) (q : ∀ ys p, H p = none → Own H ys (sortE rs) → Q (.ref p) (upd H p (.lst ys))) : rSortedPO K [.ref a] H Q := by
  refine ⟨a, xs, pairAt H, rfl, hS, fun x hx => ?_, fun ys p hs hst hp => q ys p hp ?_⟩
  · have : ∀ {rs : List Ed} {xs : List V}, Own H xs rs → ∀ x ∈ xs, ∃ e : Ed, ∃ t, x = V.ref t ∧ H t = some (.tup [.int e.1, .int e.2]) := by
      intro rs xs h
      induction h with
      | nil => simp
      | cons r _ ih =>
        intro x hx
        rcases List.mem_cons.mp hx with z | hx
        · rw [z]; exact ⟨_, r⟩
        · exact ih x hx
    obtain ⟨e, h⟩ := this ho x hx
    have h2 := own_pair h
    obtain ⟨t, h3, h4⟩ := h
    exact ⟨t, h3, by rw [h2]; exact h4⟩
  · let f : V → Ed := fun x => ((pairAt H x).1.toNat, (pairAt H x).2.toNat)
    have hf : ∀ (e : Ed) (x : V), (∃ t, x = V.ref t ∧ H t = some (.tup [.int e.1, .int e.2])) → f x = e := fun e x h => by
      show ((pairAt H x).1.toNat, (pairAt H x).2.toNat) = e
      rw [own_pair h]
      simp
    obtain ⟨p1, p2⟩ := All2.perm hf ho hst.perm
    have : ys.map f = sortE rs := by
      refine sortE_eq ?_ p1
      refine List.pairwise_map.mpr ?_
      refine List.Pairwise.imp_of_mem (fun {x y} hx hy h => ?_) hs
      have gx : ∀ x ∈ ys, ∃ t, x = V.ref t ∧ H t = some (.tup [.int (f x).1, .int (f x).2]) := by
        intro x hx
        have : ∀ {es : List Ed} {zs : List V}, All2 (fun (e : Ed) x => ∃ t, x = V.ref t ∧ H t = some (.tup [.int e.1, .int e.2])) es zs → ∀ x ∈ zs, ∃ t, x = V.ref t ∧ H t = some (.tup [.int (f x).1, .int (f x).2]) := by
          intro es zs h
          induction h with
          | nil => simp
          | cons r _ ih =>
            intro x hx
            rcases List.mem_cons.mp hx with z | hx
            · rw [z, hf _ _ r]; exact r
            · exact ih x hx
        exact this p2 x hx
      have a1 := own_pair (gx x hx)
      have a2 := own_pair (gx y hy)
      have h' : SrtO.lexB (pairAt H y) (pairAt H x) = false := h
      have h2 := SrtO.lexB_no.mp h'
      rw [a1, a2] at h2
      rw [leE_iff]
      simp only at h2
      omega
    rw [← this]
    exact p2
/-! ### roads_of -/
def treeOfW (n : Nat) (w : List Nat) : List Ed := if n ≤ 1 then [] else sortE (dec n (List.range n) w)
def sp_roads_of (K : PySem.W.Frag) : Sp := fun vs H Q _ => ∃ (v : V) (n : Nat) (w : List Nat), vs = [.int n, v] ∧ Dp K H v (encL w) ∧ 1 ≤ n ∧ n ≤ 1000 ∧ w.length = n - 2 ∧ (∀ x ∈ w, x < n) ∧
  ∀ p xs H', H p = none → Ex H H' → H' p = some (.lst xs) → Own H' xs (treeOfW n w) → Q (.ref p) H'
abbrev N_roads_of : List Str := ["houses", "word", "counts", "house", "found", "leaf", "last"]
def t_roads_of (K : PySem.W.Frag) : TS := tSeq (tAsg (tOp rRep (tLst (tCons (tC (.int 1)) tNil)) (tVar 0)) (gName 2)) (tSeq (tFor (iList K (tVar 1)) (gName 3) (tAugS (tVar 2) (tVar 3) (tC (.int 1)) (rIxL K) (ipI fun i j => i + j) rSetL)) (tSeq (tAsg (tLst tNil) (gName 4)) (tSeq (tFor (iList K (tVar 1)) (gName 3) (tSeq (tAsg (tBM K "list" (rIndex K) (tVar 2) (tCons (tC (.int 1)) tNil)) (gName 5)) (tSeq (tDrop (tBM K "list" rAppend (tVar 4) (tCons (tCall (sp_road_of K) [] E0 (tCons (tVar 5) (tCons (tVar 3) tNil))) tNil))) (tSeq (tAsg (tC (.int 0)) (gSub (tVar 2) (tVar 5) rSetL)) (tAugS (tVar 2) (tVar 3) (tC (.int 1)) (rIxL K) (ipI fun i j => i - j) rSetL))))) (tSeq (tIfS (tTest (tOp rGt (tVar 0) (tC (.int 1)))) (tSeq (tAsg (tLc (iRng1 (tCons (tVar 0) tNil)) (gName 3) (tTest (tOp rEq (tOp (rIxL K) (tVar 2) (tVar 3)) (tC (.int 1)))) (tVar 3) [3]) (gName 6)) (tDrop (tBM K "list" rAppend (tVar 4) (tCons (tTup (tCons (tOp (rIxL K) (tVar 6) (tC (.int 0))) (tCons (tOp (rIxL K) (tVar 6) (tC (.int 1))) tNil))) tNil)))) tNext) (tRet (tCB (rSortedPO K) (tCons (tVar 4) tNil)))))))
theorem len_roads_of (h : sp_roads_of K vs H Q E) : vs.length = 2 := by
  obtain ⟨_, _, _, rfl, _⟩ := h
  rfl
theorem good0 {n : Nat} {w : List Nat} (h1 : 2 ≤ n) (h2 : w.length = n - 2) (h3 : ∀ x ∈ w, x < n) : Good n (List.range n) w :=
  ⟨List.nodup_range, fun v hv => List.mem_range.mp hv, by rw [List.length_range]; omega, fun v hv => List.mem_range.mpr (h3 v hv)⟩
theorem pure_roads_of (h : sp_roads_of K vs H Q E) : t_roads_of K { nx := fun _ H' => Q .non H', rt := Q } (start N_roads_of vs) H := by
  obtain ⟨v, n, w, rfl, hW, h1, hn, hwl, hw, q⟩ := h
  obtain ⟨wa, ws, rfl, hS, hA⟩ := dp_list hW
  have hws := dpa_nats hA
  subst hws
  show t_roads_of K _ [some (.int n), some (.ref wa), none, none, none, none, none] H
  unfold t_roads_of
  refine seqC fun R kR => ?_
  walk_at "ev"
  refine ⟨one_le, fun l hl => ⟨l, n, [.int 1], rfl, rfl, upd_same, by omega, by omega, by simp; exact Nat.le_of_lt (sz_lt (by omega)), fun ca hca => kR _ _ ?_⟩⟩
  rw [Int.toNat_natCast, rep_flat, tab_rep]
  have hca1 : H ca = none := by
    have : ca ≠ l := Ne.symm (ne_of_none upd_same hca)
    rw [upd_ne this] at hca
    exact hca
  refine seqC fun R kR => ?_
  refine forL (K := K) (a := wa) (xs := w.map nV) (fun i σ H' => ∃ y3 : Option V, σ = [some (.int n), some (.ref wa), some (.ref ca), y3, none, none, none] ∧ Ex H H' ∧ H' ca = some (.lst (tab (fun u => V.int (1 + ((w.take i).count u : Nat))) n)))
    (fun Q' k => ⟨_, rfl, k _ (Ex.refl _) (ex_l (Ex.mut (Ex.new hl) hca1) hS) ⟨none, rfl, Ex.mut (Ex.new hl) hca1, ?_⟩⟩) (fun i σ H' _ ⟨_, _, e, _⟩ => ex_l e hS) ?_ ?_
  · rw [upd_same]
    congr 2
  · rintro i x σ H' Nx hi ⟨y3, rfl, e, hc⟩ kx
    obtain ⟨o, ho, rfl⟩ := item_nat hi
    have hon : o < n := hw o (List.mem_of_getElem? ho)
    obtain ⟨hi2, hi3⟩ := List.getElem?_eq_some_iff.mp ho
    have htk : w.take (i + 1) = w.take i ++ [o] := by rw [List.take_succ_eq_append_getElem hi2, hi3]
    walk_at "ev"
    refine ⟨ca, _, _, _, rfl, rfl, SqL.of hc, tab_at hon, _, rfl, ca, _, _, o, rfl, rfl, hc, ixN_nat (by rw [tab_len]; exact hon), kx _ _ ⟨_, rfl, Ex.mut e hca1, ?_⟩⟩
    rw [upd_same, tab_set, htk]
    congr 2
    refine tab_congr fun u hu => ?_
    rw [List.count_append]
    by_cases z : u = o
    · subst z; simp; omega
    · have : ([o] : List Nat).count u = 0 := by rw [List.count_eq_zero]; simp; exact z
      simp [z, this]
  rintro σ H1 ⟨y3, rfl, e1, hc⟩
  rw [List.length_map, List.take_length] at hc
  refine kR _ _ ?_
  refine seqC fun R kR => ?_
  walk_at "ev"
  refine ⟨Nat.zero_le _, fun fa hfa => kR _ _ ?_⟩
  have n1 : ca ≠ fa := ne_of_none hc hfa
  have hfa1 : H fa = none := fresh_back e1 hfa
  by_cases hn1 : n = 1
  · -- one house
    subst hn1
    have hw0 : w = [] := List.eq_nil_of_length_eq_zero (by omega)
    subst hw0
    refine seqC fun R kR => ?_
    refine forL (K := K) (a := wa) (xs := ([] : List V)) (fun i σ H' => σ = [some (.int (1 : Nat)), some (.ref wa), some (.ref ca), y3, some (.ref fa), none, none] ∧ Ex H H' ∧ H' fa = some (.lst []))
      (fun Q' k => ⟨_, rfl, k _ (Ex.refl _) (ex_l (Ex.mut e1 hfa1) hS) ⟨rfl, Ex.mut e1 hfa1, upd_same⟩⟩) (fun i σ H' _ ⟨_, e, _⟩ => ex_l e hS) (fun i x σ H' Nx hi => by simp at hi) ?_
    rintro σ H2 ⟨rfl, e2, hf2⟩
    refine kR _ _ ?_
    refine seqC fun R kR => ?_
    walk_at "ev"
    rw [if_neg (by decide)]
    refine kR _ _ ?_
    walk_at "ev"
    refine sorted_own (rs := []) (SqL.of hf2) .nil fun ys p hp ho => ?_
    cases ho
    exact q p _ _ (fresh_back e2 hp) (e2.trans (Ex.new hp)) upd_same .nil
  · have g0 := good0 (n := n) (w := w) (by omega) hwl hw
    refine seqC fun R kR => ?_
    refine forL (K := K) (a := wa) (xs := w.map nV) (fun i σ H' => ∃ (y3 y5 : Option V) (A : List Nat) (xs : List V) (fd : List Ed), σ = [some (.int n), some (.ref wa), some (.ref ca), y3, some (.ref fa), y5, none] ∧ Ex H H' ∧
        H' ca = some (.lst (tab (fun u => V.int (if u ∈ A then 1 + ((w.drop i).count u : Int) else 0)) n)) ∧ H' fa = some (.lst xs) ∧ Own H' xs fd ∧ Good n A (w.drop i) ∧ fd ++ dec n A (w.drop i) = dec n (List.range n) w ∧ fd.length = i)
      (fun Q' k => ⟨_, rfl, k _ (Ex.refl _) (ex_l (Ex.mut e1 hfa1) hS) ⟨y3, none, List.range n, [], [], rfl, Ex.mut e1 hfa1, ?_, upd_same, .nil, by simpa using g0, by simp, rfl⟩⟩) (fun i σ H' _ ⟨_, _, _, _, _, _, e, _⟩ => ex_l e hS) ?_ ?_
    · rw [upd_ne n1, hc]
      congr 2
      refine tab_congr fun u hu => ?_
      simp [hu]
    · rintro i x σ H' Nx hi ⟨y3, y5, A, xs, fd, rfl, e, hc, hf, ho, g, hdec, hfl⟩ kx
      obtain ⟨o, ho', rfl⟩ := item_nat hi
      have hon : o < n := hw o (List.mem_of_getElem? ho')
      obtain ⟨hi2, hi3⟩ := List.getElem?_eq_some_iff.mp ho'
      have hdrop : w.drop i = o :: w.drop (i + 1) := by rw [List.drop_eq_getElem_cons hi2, hi3]
      rw [hdrop] at g hdec hc
      obtain ⟨d1, d2, d3, d4⟩ := dleaf_spec g.nd g.lt (w := o :: w.drop (i + 1)) (by rw [g.len]; omega)
      have gn := g.next
      have hdec2 : mk (dleaf n A (o :: w.drop (i + 1))) o :: dec n (A.erase (dleaf n A (o :: w.drop (i + 1)))) (w.drop (i + 1)) = dec n A (o :: w.drop (i + 1)) := rfl
      generalize hlf : dleaf n A (o :: w.drop (i + 1)) = lf at d1 d2 d3 d4 gn hdec2
      have hoA : o ∈ A := g.mem o (by simp)
      have hlo : lf ≠ o := fun z => d2 (by simp [z])
      walk_at "ev"
      refine ⟨.inl ⟨rfl, _, SqL.of hc⟩, index1 (SqL.of hc) d3 ?_ (fun m hm z => ?_) ?_⟩
      · rw [if_pos d1, List.count_eq_zero.mpr d2]; rfl
      · by_cases hmA : m ∈ A
        · rw [if_pos hmA] at z
          have := List.count_pos_iff.mpr (d4 m hm hmA)
          omega
        · rw [if_neg hmA] at z
          omega
      walk_at "ev"
      refine ⟨.inl ⟨rfl, _, SqL.of hf⟩, lf, o, rfl, fun t ht => ?_⟩
      have ntf : fa ≠ t := ne_of_none hf ht
      have ntc : ca ≠ t := ne_of_none hc ht
      walk_at "ev"
      refine ⟨fa, _, _, rfl, rfl, (upd_ne ntf).trans hf, sz_lt ?_, ca, _, _, lf, rfl, rfl, (upd_ne n1).trans ((upd_ne ntc).trans hc), ixN_nat (by rw [tab_len]; exact d3), ?_⟩
      · have := ho.len
        omega
      rw [tab_set]
      refine ⟨ca, _, _, _, rfl, rfl, SqL.of upd_same, (show atI _ (o : Int) = some (V.int (1 + ((o :: w.drop (i + 1)).count o : Int))) from by rw [tab_at hon, if_neg (Ne.symm hlo), if_pos hoA]), _, rfl, ?_⟩
      refine ⟨ca, _, _, o, rfl, rfl, upd_same, ixN_nat (by rw [tab_len]; exact hon), kx _ _ ⟨_, _, A.erase lf, xs ++ [.ref t], fd ++ [mk lf o], rfl, ?_, ?_, ?_, ?_, gn, ?_, by simp [hfl]⟩⟩
      · exact Ex.mut (Ex.mut (Ex.mut (e.trans (Ex.new ht)) hfa1) hca1) hca1
      · rw [upd_same, tab_set]
        congr 2
        refine tab_congr fun u hu => ?_
        have hm : (u ∈ A.erase lf) ↔ (u ≠ lf ∧ u ∈ A) := g.nd.mem_erase_iff
        by_cases z : u = o
        · subst z
          rw [if_pos rfl, if_pos (hm.mpr ⟨Ne.symm hlo, hoA⟩), List.count_cons_self]
          congr 1
          omega
        · rw [if_neg z]
          by_cases y : u = lf
          · rw [if_pos y, if_neg (fun q => (hm.mp q).1 y)]
          · rw [if_neg y, List.count_cons_of_ne (fun q => z q.symm)]
            by_cases x : u ∈ A
            · rw [if_pos x, if_pos (hm.mpr ⟨y, x⟩)]
            · rw [if_neg x, if_neg (fun q => x (hm.mp q).2)]
      · rw [upd_ne (Ne.symm n1), upd_ne (Ne.symm n1), upd_same]
      · have h2 : Own (upd H' t (.tup [.int (min (lf : Int) o), .int (max (lf : Int) o)])) (xs ++ [.ref t]) (fd ++ [mk lf o]) := by
          refine All2.app (ho.ex (Ex.new ht)) (.cons ⟨t, rfl, ?_⟩ .nil)
          rw [upd_same]
          simp [mk]
          constructor <;> omega
        have h3 := (h2.stay (zs := xs ++ [.ref t]) ((upd_ne ntf).trans hf))
        have h4 := h3.stay (D := ca) (zs := tab (fun k => if k = lf then V.int 0 else V.int (if k ∈ A then 1 + ((o :: w.drop (i + 1)).count k : Int) else 0)) n) ((upd_ne n1).trans ((upd_ne ntc).trans hc))
        exact h4.stay upd_same
      · rw [← hdec, ← hdec2]
        simp
    · rintro σ H2 ⟨y3, y5, A, xs, fd, rfl, e2, hc2, hf2, ho2, g, hdec, hfl⟩
      rw [List.length_map, List.drop_length] at g hdec hc2
      obtain ⟨x, y, hxy, hd, hp, hflt⟩ := dec_nil g
      refine kR _ _ ?_
      refine seqC fun R kR => ?_
      walk_at "ev"
      rw [if_pos (by simp; omega)]
      refine lcR (n := (n : Int)) (fun _ i u _ => u = .int i) (cr_flat fun i => .int i) (fun i => decide (i ∈ A)) (fun Q' k => ⟨_, rfl, k _ (Ex.refl _)⟩) (by omega) (by omega) (fun x => rfl) (fun i H' hi e Q'' k => ?_) (fun i D H' hi e hfi Q'' k => ?_) (fun la ys H3 hla e3 hla2 hall => ?_)
      · show tTest _ [some (V.int n), some (V.ref wa), some (V.ref ca), some (V.int i), some (V.ref fa), y5, none] H' Q''
        walk_at "ev"
        refine ⟨ca, _, _, _, rfl, rfl, ex_l e (SqL.of hc2), tab_at (by omega), rfl, _, rfl, ?_⟩
        have : decide (V.int (if i ∈ A then 1 + ((([] : List Nat).count i : Nat) : Int) else 0) = V.int 1) = decide (i ∈ A) := by
          by_cases z : i ∈ A <;> simp [z]
        rw [this]
        exact k H' (Ex.refl _)
      · show tVar 3 [some (V.int n), some (V.ref wa), some (V.ref ca), some (V.int i), some (V.ref fa), y5, none] H' Q''
        walk_at "ev"
        exact k _ H' (Ex.refl _) fun _ _ => rfl
      · have e4 := hall.eq
        have e5 : picks (fun i => decide (i ∈ A)) (n : Int).toNat = [x, y] := by
          rw [Int.toNat_natCast]
          exact hflt
        rw [e5] at e4
        subst e4
        walk_at "ev"
        have hf3 := e3 _ _ hf2
        refine ⟨.inl ⟨rfl, _, SqL.of hf3⟩, la, _, _, _, rfl, rfl, SqL.of hla2, rfl, la, _, _, _, rfl, rfl, SqL.of hla2, rfl, two_le, fun t ht => ?_⟩
        have ntf : fa ≠ t := ne_of_none hf3 ht
        refine ⟨fa, _, _, rfl, rfl, (upd_ne ntf).trans hf3, sz_lt (by have := ho2.len; have := hwl; simp at hfl; omega), kR _ _ ?_⟩
        walk_at "ev"
        have ho3 : Own (upd H3 t (.tup [.int x, .int y])) (xs ++ [.ref t]) (fd ++ [(x, y)]) := All2.app (ho2.ex (e3.trans (Ex.new ht))) (.cons ⟨t, rfl, upd_same⟩ .nil)
        have ho4 := ho3.stay (zs := xs ++ [.ref t]) ((upd_ne ntf).trans hf3)
        refine sorted_own (SqL.of upd_same) ho4 fun ys p hp ho => ?_
        have e6 : Ex H (upd (upd H3 t (.tup [.int x, .int y])) fa (.lst (xs ++ [.ref t]))) := Ex.mut ((e2.trans e3).trans (Ex.new ht)) hfa1
        refine q p ys _ (fresh_back e6 hp) (e6.trans (Ex.new hp)) upd_same ?_
        have : treeOfW n w = sortE (fd ++ [(x, y)]) := by
          unfold treeOfW
          rw [if_neg (by omega), ← hdec, hd]
        rw [this]
        exact ho.ex (Ex.new hp)
end
end TW
namespace TW
open PySem PySem.Spec PyProof.Rows L2 Evl
local macro_rules | `(tactic| walk_at "ev") => `(tactic| try simp only [tSeq, tNext, tRet, tRetN, tDrop, tAsg, gName, gSub, gTup, gCons, gNil, tIfS, tAndV, tOrV, tNotV, tAnd, tOr, tNot, tCB, tCons, tNil, tC, tTest, tB, tOp, tUn, tCall, tIf, tTup, tLst, tIsTh, tChain, tBM, tBM0, tAug, tAugS, tYes, tRaise, tPar, tSl, tPart, tNoPart, tRevL, rI0, rI, rU, ipI, tVar, E0,
  List.getElem?_cons_zero, List.getElem?_cons_succ, List.set_cons_zero, List.set_cons_succ, Option.some.injEq, exists_eq_left', exists_eq_left, V.int.injEq, V.bl.injEq, V.ref.injEq, List.cons.injEq, and_true, true_and, exists_and_left, List.cons_append, List.nil_append, List.append_nil, exists_eq, exists_const, and_assoc, exists_eq_right, if_true, if_false, Bool.not_true, Bool.not_false, Bool.false_eq_true, if_pos])
section
variable {K : PySem.W.Frag} {c : Cs} {vs : List V} {H H' : Hp} {Q : VK} {E : XK}
theorem okH_some {d : Option PyData} (h : okH d = true) : ∃ n : Nat, d = some (.int n) ∧ 1 ≤ n ∧ n ≤ 200 := by
  unfold okH isNum at h
  split at h
  · rename_i i
    simp at h
    refine ⟨i.toNat, ?_, by omega, by omega⟩
    rw [Int.toNat_of_nonneg (by omega)]
  · cases h
theorem okH_nat {n : Nat} (h1 : 1 ≤ n) (h2 : n ≤ 200) : okH (some (.int n)) = true := by
  simp [okH, isNum]
  omega
theorem th_int {v : V} {i : Int} (h : Th K H v (some (.int i))) : v = .int i := by
  cases h with
  | dp h => exact dp_int h
theorem th_dp {v : V} {d : PyData} (h : Th K H v (some d)) : Dp K H v d := by
  cases h with
  | dp h => exact h
/-! ### the checks in a row -/
structure Chk2 (c : Cs) (d1 d2 : Option PyData) (H : Hp) (E : XK) (good : Nat → List Ed → Prop) : Prop where
  bh : okH d1 = false → E (.ref c.BadHouses) none H
  br : ∀ n : Nat, d1 = some (.int n) → 1 ≤ n → n ≤ 200 → okR d2 n = false → ∀ H', Ex H H' → E (.ref c.BadRoads) none H'
  ok : ∀ (n : Nat) (rs : List Ed), d1 = some (.int n) → 1 ≤ n → n ≤ 200 → d2 = some (encR rs) → Roads n rs → good n rs
structure Chk3 (c : Cs) (d1 d2 : Option PyData) (H : Hp) (E : XK) (good : Nat → List Ed → Prop) : Prop where
  bh : okH d1 = false → E (.ref c.BadHouses) none H
  br : ∀ n : Nat, d1 = some (.int n) → 1 ≤ n → n ≤ 200 → okR d2 n = false → ∀ H', Ex H H' → E (.ref c.BadRoads) none H'
  nt : ∀ (n : Nat) (rs : List Ed), d1 = some (.int n) → 1 ≤ n → n ≤ 200 → d2 = some (encR rs) → Roads n rs → isTreeB n rs = false → ∀ H', Ex H H' → E (.ref c.NoTree) none H'
  ok : ∀ (n : Nat) (rs : List Ed), d1 = some (.int n) → 1 ≤ n → n ≤ 200 → d2 = some (encR rs) → Roads n rs → isTreeB n rs = true → good n rs
theorem chk2_walk {v1 v2 : V} {d1 d2 : Option PyData} {good : Nat → List Ed → Prop} {D : Ends} {σ : L2.St} {rest : TS} (h0 : σ[0]? = some (some v1)) (h1 : σ[1]? = some (some v2)) (t1 : Th K H v1 d1) (t2 : Th K H v2 d2) (hz : SzOk d2) (hc : Chk2 c d1 d2 H E good)
    (k : ∀ (n : Nat) (rs : List Ed) H', v1 = .int n → 1 ≤ n → n ≤ 200 → Dp K H' v2 (encR rs) → Roads n rs → rs.length ≤ 10000 → good n rs → Ex H H' → rest D σ H') :
    tSeq (tDrop (tCall (sp_check_houses K c) [] E (tCons (tVar 0) tNil))) (tSeq (tDrop (tCall (sp_check_roads K c) [] E (tCons (tVar 0) (tCons (tVar 1) tNil)))) rest) D σ H := by
  refine seqC fun R kR => ⟨v1, h0, v1, d1, rfl, t1, fun hb => kR _ _ ?_, hc.bh⟩
  obtain ⟨n, rfl, n1, n2⟩ := okH_some hb
  have hv := th_int t1
  subst hv
  refine seqC fun R kR => ⟨_, h0, v2, h1, v2, d2, n, rfl, t2, hz, fun hb2 H' e => kR _ _ ?_, hc.br n rfl n1 n2⟩
  obtain ⟨rs, rfl, hr⟩ := okR_some hb2
  refine k n rs H' rfl n1 n2 (dp_ex e (th_dp t2)) hr ?_ (hc.ok n rs rfl n1 n2 rfl hr) e
  have := (hz _ rfl).1
  simpa using this
theorem chk3_walk {v1 v2 : V} {d1 d2 : Option PyData} {good : Nat → List Ed → Prop} {D : Ends} {σ : L2.St} {rest : TS} (h0 : σ[0]? = some (some v1)) (h1 : σ[1]? = some (some v2)) (t1 : Th K H v1 d1) (t2 : Th K H v2 d2) (hz : SzOk d2) (hc : Chk3 c d1 d2 H E good)
    (k : ∀ (n : Nat) (rs : List Ed) H', v1 = .int n → 1 ≤ n → n ≤ 200 → Dp K H' v2 (encR rs) → Roads n rs → isTreeB n rs = true → rs.length ≤ 10000 → good n rs → Ex H H' → rest D σ H') :
    tSeq (tDrop (tCall (sp_check_houses K c) [] E (tCons (tVar 0) tNil))) (tSeq (tDrop (tCall (sp_check_roads K c) [] E (tCons (tVar 0) (tCons (tVar 1) tNil)))) (tSeq (tDrop (tCall (sp_check_tree K c) [] E (tCons (tVar 0) (tCons (tVar 1) tNil)))) rest)) D σ H := by
  refine chk2_walk h0 h1 t1 t2 hz (good := fun n rs => (isTreeB n rs = false → ∀ H', Ex H H' → E (.ref c.NoTree) none H') ∧ (isTreeB n rs = true → good n rs)) ⟨hc.bh, hc.br, fun n rs e1 n1 n2 e2 hr => ⟨hc.nt n rs e1 n1 n2 e2 hr, hc.ok n rs e1 n1 n2 e2 hr⟩⟩
    (fun n rs H' hv n1 n2 hd hr hl g e => ?_)
  subst hv
  refine seqC fun R kR => ⟨_, h0, v2, h1, v2, n, rs, rfl, hd, hr, n1, by omega, hl, fun hb H2 e2 => kR _ _ ?_, fun hb H2 e2 => g.1 hb H2 (e.trans e2)⟩
  exact k n rs H2 rfl n1 n2 (dp_ex e2 hd) hr hb hl (g.2 hb) (e.trans e2)
/-! ### word_of -/
def sp_word_of (K : PySem.W.Frag) (c : Cs) : Sp := fun vs H Q E => ∃ (v1 v2 : V) (d1 d2 : Option PyData), vs = [v1, v2] ∧ Th K H v1 d1 ∧ Th K H v2 d2 ∧ SzOk d2 ∧
  Chk3 c d1 d2 H E fun n rs => ∀ p H', H p = none → Ex H H' → H' p = some (.lst ((code n (n - 2) rs).map nV)) → Q (.ref p) H'
abbrev N_word_of : List Str := ["houses", "roads"]
def t_word_of (K : PySem.W.Frag) (c : Cs) (E : XK) : TS := tSeq (tDrop (tCall (sp_check_houses K c) [] E (tCons (tVar 0) tNil))) (tSeq (tDrop (tCall (sp_check_roads K c) [] E (tCons (tVar 0) (tCons (tVar 1) tNil)))) (tSeq (tDrop (tCall (sp_check_tree K c) [] E (tCons (tVar 0) (tCons (tVar 1) tNil)))) (tRet (tCall (sp_letters_of K) [] E0 (tCons (tVar 0) (tCons (tVar 1) tNil))))))
theorem len_word_of (h : sp_word_of K c vs H Q E) : vs.length = 2 := by
  obtain ⟨_, _, _, _, rfl, _⟩ := h
  rfl
theorem pure_word_of (h : sp_word_of K c vs H Q E) : t_word_of K c E { nx := fun _ H' => Q .non H', rt := Q } (start N_word_of vs) H := by
  obtain ⟨v1, v2, d1, d2, rfl, t1, t2, hz, hc⟩ := h
  show t_word_of K c E _ [some v1, some v2] H
  unfold t_word_of
  refine chk3_walk rfl rfl t1 t2 hz hc fun n rs H' hv n1 n2 hd hr ht hl g e => ?_
  subst hv
  walk_at "ev"
  exact ⟨v2, n, rs, rfl, hd, hr, (isTree_iff hr n1).mp ht, by omega, hl, fun p H2 hp e2 h2 => g p H2 (fresh_back e hp) (e.trans e2) h2⟩
/-! ### tree_of -/
def okW (d : Option PyData) (n : Nat) : Bool := match d with
  | some (.list ds) => decide (ds.length = n - 2) && ds.all fun d => isNum (some d) 0 ((n : Int) - 1)
  | _ => false
theorem nums_enc {ds : List PyData} {n : Nat} (h : ds.all (fun d => isNum (some d) 0 ((n : Int) - 1)) = true) : ∃ w : List Nat, ds = w.map (fun (k : Nat) => .int (k : Int)) ∧ ∀ x ∈ w, x < n := by
  induction ds with
  | nil => exact ⟨[], rfl, by simp⟩
  | cons d ds ih =>
    simp only [List.all_cons, Bool.and_eq_true] at h
    obtain ⟨w, e1, e2⟩ := ih h.2
    have h1 := h.1
    unfold isNum at h1
    split at h1
    · rename_i i heq
      cases heq
      simp at h1
      refine ⟨i.toNat :: w, ?_, fun x hx => ?_⟩
      · rw [List.map_cons, Int.toNat_of_nonneg h1.1, e1]
      · rcases List.mem_cons.mp hx with rfl | hx
        · omega
        · exact e2 x hx
    · cases h1
theorem okW_some {d : Option PyData} {n : Nat} (h : okW d n = true) : ∃ w, d = some (encL w) ∧ w.length = n - 2 ∧ ∀ x ∈ w, x < n := by
  unfold okW at h
  split at h
  · rename_i ds
    simp only [Bool.and_eq_true, decide_eq_true_eq] at h
    obtain ⟨w, e1, e2⟩ := nums_enc h.2
    subst e1
    exact ⟨w, rfl, by simpa using h.1, e2⟩
  · cases h
theorem okW_list (ds : List PyData) (n : Nat) : okW (some (.list ds)) n = (decide (ds.length = n - 2) && ds.all fun d => isNum (some d) 0 ((n : Int) - 1)) := rfl
theorem okW_enc {w : List Nat} {n : Nat} (h1 : w.length = n - 2) (h2 : ∀ x ∈ w, x < n) : okW (some (encL w)) n = true := by
  unfold encL
  rw [okW_list]
  simp [h1, isNum]
  intro x hx
  have := h2 x hx
  omega
def SzL (d : Option PyData) : Prop := ∀ ds, d = some (.list ds) → ds.length ≤ 10000
def sp_tree_of (K : PySem.W.Frag) (c : Cs) : Sp := fun vs H Q E => ∃ (v1 v2 : V) (d1 d2 : Option PyData), vs = [v1, v2] ∧ Th K H v1 d1 ∧ Th K H v2 d2 ∧ SzL d2 ∧
  (okH d1 = false → E (.ref c.BadHouses) none H) ∧
  (∀ n : Nat, d1 = some (.int n) → 1 ≤ n → n ≤ 200 → okW d2 n = false → ∀ H', Ex H H' → E (.ref c.BadWord) none H') ∧
  (∀ (n : Nat) (w : List Nat), d1 = some (.int n) → 1 ≤ n → n ≤ 200 → d2 = some (encL w) → w.length = n - 2 → (∀ x ∈ w, x < n) → ∀ p xs H', H p = none → Ex H H' → H' p = some (.lst xs) → Own H' xs (treeOfW n w) → Q (.ref p) H')
abbrev N_tree_of : List Str := ["houses", "word", "house"]
def t_tree_of (K : PySem.W.Frag) (c : Cs) (E : XK) : TS := tSeq (tDrop (tCall (sp_check_houses K c) [] E (tCons (tVar 0) tNil))) (tSeq (tIfS (tOr (tNot (tB (tIsTh K (tVar 1) "list"))) (tTest (tOp rNe (tCB (Evl.rLenS K) (tCons (tVar 1) tNil)) (tCB Evl.rMax2 (tCons (tC (.int 0)) (tCons (tOp rSub (tVar 0) (tC (.int 2))) tNil)))))) (tRaise E (.ref c.BadWord)) tNext) (tSeq (tIfS (tNot (tB (tCB (rAll K) (tCons (tLc (iList K (tVar 1)) (gName 2) tYes (tCall (sp_is_number K) [] E0 (tCons (tVar 2) (tCons (tC (.int 0)) (tCons (tOp rSub (tVar 0) (tC (.int 1))) tNil)))) [2]) tNil)))) (tRaise E (.ref c.BadWord)) tNext) (tRet (tCall (sp_roads_of K) [] E0 (tCons (tVar 0) (tCons (tVar 1) tNil))))))
theorem len_tree_of (h : sp_tree_of K c vs H Q E) : vs.length = 2 := by
  obtain ⟨_, _, _, _, rfl, _⟩ := h
  rfl
/-- [is_number(x, 0, n - 1) for x in xs] and all of it -/
theorem tab_bl (g : PyData → Bool) (ds : List PyData) : (List.range ds.length).map (fun i => V.bl (g (ds.getD i .none))) = (ds.map g).map V.bl := by
  apply List.ext_getElem?
  intro i
  rw [List.getElem?_map, List.getElem?_map, List.getElem?_map]
  by_cases hi : i < ds.length
  · rw [List.getElem?_range hi, List.getElem?_eq_getElem hi]
    simp [List.getD_eq_getElem?_getD, hi]
  · rw [List.getElem?_eq_none (by simp; omega), List.getElem?_eq_none (by omega)]
    rfl
theorem all_bl (g : PyData → Bool) (ds : List PyData) : (ds.map g).all id = ds.all g := by
  rw [List.all_map]; rfl
theorem pure_tree_of (h : sp_tree_of K c vs H Q E) : t_tree_of K c E { nx := fun _ H' => Q .non H', rt := Q } (start N_tree_of vs) H := by
  obtain ⟨v1, v2, d1, d2, rfl, t1, t2, hz, q1, q2, q3⟩ := h
  show t_tree_of K c E _ [some v1, some v2, none] H
  unfold t_tree_of
  refine seqC fun R kR => ⟨v1, rfl, v1, d1, rfl, t1, fun hb => kR _ _ ?_, q1⟩
  obtain ⟨n, rfl, n1, n2⟩ := okH_some hb
  have hv := th_int t1
  subst hv
  refine seqC fun R kR => ?_
  walk_at "ev"
  refine ⟨v2, d2, "list", rfl, kit_list, t2, ?_⟩
  by_cases hd : ∃ ds, d2 = some (.list ds)
  · obtain ⟨ds, rfl⟩ := hd
    have hz1 := hz ds rfl
    obtain ⟨a, xs, rfl, hS, hA⟩ := dp_list (th_dp t2)
    have hl := dpa_len hA
    have hm : (if (n : Int) - 2 > 0 then (n : Int) - 2 else 0) = ((n - 2 : Nat) : Int) := by
      split <;> omega
    refine ⟨_, rfl, iteF ⟨a, xs, rfl, .inl hS, _, _, rfl, ?_⟩⟩
    rw [hm]
    refine ⟨rfl, _, rfl, ?_⟩
    by_cases hlen : ds.length = n - 2
    · rw [if_neg (by simp; omega)]
      refine kR _ _ ?_
      refine seqC fun R kR => ?_
      walk_at "ev"
      refine lcL (K := K) (a := a) (xs := xs) (fun _ i u _ => u = .bl (isNum (some (ds.getD i .none)) 0 ((n : Int) - 1))) (cr_flat fun i => .bl (isNum (some (ds.getD i .none)) 0 ((n : Int) - 1))) (fun _ => true)
        (fun Q' k => ⟨_, rfl, k H (Ex.refl H) hS⟩) (by omega) (fun i z D H' Q' hi e k => ?_) (fun D ys H' hD e hy2 hall => ?_)
      · refine k _ H' (Ex.refl H') rfl (fun Q'' q'' => q'' H' (Ex.refl H')) (fun _ H3 e3 Q'' k2 => ?_)
        obtain ⟨d, h1, h2⟩ := dpa_get hA hi
        show tCall _ _ _ _ [some (V.int n), some (V.ref a), some z] H3 Q''
        walk_at "ev"
        refine ⟨z, some d, 0, (n : Int) - 1, rfl, .dp (dp_ex (e.trans e3) h2), k2 _ H3 (Ex.refl H3) fun _ _ => ?_⟩
        rw [List.getD_eq_getElem?_getD, h1]
        rfl
      · have e2 := hall.eq
        rw [picks_all, hl, tab_bl (fun d => isNum (some d) 0 ((n : Int) - 1))] at e2
        refine ⟨D, ds.map fun d => isNum (some d) 0 ((n : Int) - 1), rfl, .inl (.inl (by rw [hy2, e2])), _, rfl, ?_⟩
        rw [all_bl]
        cases hb : ds.all fun d => isNum (some d) 0 ((n : Int) - 1) with
        | false =>
          walk_at "ev"
          exact q2 n rfl n1 n2 (by rw [okW_list, hb, Bool.and_false]) H' e
        | true =>
          walk_at "ev"
          refine kR _ _ ?_
          obtain ⟨w, e5, e6⟩ := nums_enc hb
          subst e5
          have hwl : w.length = n - 2 := by simpa using hlen
          walk_at "ev"
          exact ⟨_, n, w, rfl, dp_ex e (th_dp t2), n1, by omega, hwl, e6, fun p xs H2 hp e2 h2 h3 => q3 n w rfl n1 n2 rfl hwl e6 p xs H2 (fresh_back e hp) (e.trans e2) h2 h3⟩
    · rw [if_pos (by simp; omega)]
      exact q2 n rfl n1 n2 (by rw [okW_list, decide_eq_false hlen, Bool.false_and]) H (Ex.refl H)
  · have e : isTy d2 "list" = false := by
      cases t2 with
      | dict => rfl
      | dp t => cases t <;> first | rfl | (exact absurd ⟨_, rfl⟩ hd)
    rw [e]
    refine ⟨_, rfl, iteT ?_⟩
    refine q2 n rfl n1 n2 ?_ H (Ex.refl H)
    unfold okW
    split
    · exact absurd ⟨_, rfl⟩ hd
    · rfl
end
end TW
namespace TW
open PySem PySem.Spec PyProof.Rows L2 Evl
local macro_rules | `(tactic| walk_at "ev") => `(tactic| try simp only [tSeq, tNext, tRet, tRetN, tDrop, tAsg, gName, gSub, gTup, gCons, gNil, tIfS, tAndV, tOrV, tNotV, tAnd, tOr, tNot, tCB, tCons, tNil, tC, tTest, tB, tOp, tUn, tCall, tIf, tTup, tLst, tIsTh, tChain, tBM, tBM0, tAug, tAugS, tYes, tRaise, tPar, tSl, tPart, tNoPart, tRevL, rI0, rI, rU, ipI, tVar, E0,
  List.getElem?_cons_zero, List.getElem?_cons_succ, List.set_cons_zero, List.set_cons_succ, Option.some.injEq, exists_eq_left', exists_eq_left, V.int.injEq, V.bl.injEq, V.ref.injEq, List.cons.injEq, and_true, true_and, exists_and_left, List.cons_append, List.nil_append, List.append_nil, exists_eq, exists_const, and_assoc, exists_eq_right, if_true, if_false, Bool.not_true, Bool.not_false, Bool.false_eq_true, if_pos])
section
variable {K : PySem.W.Frag} {c : Cs} {vs : List V} {H H' : Hp} {Q : VK} {E : XK}
/-! ### data that may be compared -/
def flat1 (d : PyData) : Bool := d.canLay0 && decide (d.depth ≤ 60)
theorem shaped_list {ds : List PyData} (h : ∀ d ∈ ds, flat1 d = true) : PyData.canLayAll0 ds = true ∧ PyData.depthAll ds ≤ 60 := by
  induction ds with
  | nil => simp [PyData.canLayAll0, PyData.depthAll]
  | cons d ds ih =>
    have h1 := h d (by simp)
    obtain ⟨i1, i2⟩ := ih fun x hx => h x (List.mem_cons_of_mem _ hx)
    simp [flat1] at h1
    simp [PyData.canLayAll0, PyData.depthAll, h1.1, i1]
    omega
theorem shapedL {ds : List PyData} (h : ∀ d ∈ ds, flat1 d = true) : SeqAt.shaped (.list ds) = true := by
  obtain ⟨h1, h2⟩ := shaped_list h
  simp [SeqAt.shaped, PyData.canLay0, PyData.depth, h1]
  omega
theorem flat_int (i : Int) : flat1 (.int i) = true := by simp [flat1, PyData.canLay0, PyData.depth]
theorem shaped_ints (l : List Int) : SeqAt.shaped (.list (l.map PyData.int)) = true := shapedL fun d hd => by
  obtain ⟨i, _, rfl⟩ := List.mem_map.mp hd
  exact flat_int i
theorem eqv_ints (a b : List Int) : PyData.eqv (.list (a.map PyData.int)) (.list (b.map PyData.int)) = decide (a = b) := by
  have key : ∀ a b : List Int, PyData.eqvAll (a.map PyData.int) (b.map PyData.int) = decide (a = b) := by
    intro a
    induction a with
    | nil => intro b; cases b <;> simp [PyData.eqvAll]
    | cons x a ih =>
      intro b
      cases b with
      | nil => simp [PyData.eqvAll]
      | cons y b =>
        simp [PyData.eqvAll, PyData.eqv, ih]
        rw [Bool.beq_eq_decide_eq]
  simp only [PyData.eqv]
  exact key a b
/-! ### for i, x in enumerate(xs) -/
theorem forE {σ : L2.St} {D : Ends} {ta : TA} {a : Addr} {xs : List V} {g : TG} {tb : TS} (Pv : Nat → L2.St → Hp → Prop) (hl : ∀ Q' : List V → Hp → Prop, (∀ H1, Ex H H1 → SqL K H1 a xs → Pv 0 σ H1 → Q' [.ref a] H1) → ta σ H Q')
    (hk : ∀ i σ' H', i ≤ xs.length → Pv i σ' H' → SqL K H' a xs)
    (hs : ∀ (i : Nat) x T σ' H' (Nx : L2.St → Hp → Prop), xs[i]? = some x → Pv i σ' H' → H' T = none → (∀ σ2 H2, Pv (i + 1) σ2 H2 → Nx σ2 H2) → g (.ref T) σ' (upd H' T (.tup [.int i, x])) fun σ2 H2 => tb { D with nx := Nx, ct := Nx, bk := D.nx } σ2 H2)
    (hd : ∀ σ' H', Pv xs.length σ' H' → D.nx σ' H') : tFor (iEnum K ta) g tb D σ H := by
  refine hl _ fun H1 e1 hS p0 => ⟨a, xs, rfl, hS, ?_⟩
  refine ⟨fun i m σ H => m = xs.length - i ∧ i ≤ xs.length ∧ Pv i σ H, ⟨xs.length, by simp, Nat.zero_le _, p0⟩, ?_⟩
  rintro i m σ' H' ⟨rfl, hi, p⟩
  have q := hk i σ' H' hi p
  by_cases hlt : i < xs.length
  · have hx : xs[i]? = some xs[i] := List.getElem?_eq_getElem hlt
    refine .inr ⟨⟨xs, _, q, hx⟩, Pv (i + 1), fun σ2 H2 p' => ⟨xs.length - (i + 1), by omega, rfl, hlt, p'⟩, fun x H2 y => ?_⟩
    obtain ⟨T, z, rfl, hT, rfl, hz⟩ := y
    have := hz xs q
    rw [hx] at this
    cases this
    exact hs i _ T σ' H' _ hx p hT fun _ _ h => h
  · have e : i = xs.length := by omega
    subst e
    exact .inl ⟨⟨xs, q, Nat.le_refl _⟩, hd σ' H' p⟩
/-! ### many_words, trees, check_number -/
def sp_many_words (K : PySem.W.Frag) : Sp := fun vs H Q _ => ∃ n : Nat, vs = [.int n] ∧ n ≤ 1000 ∧ ∀ H', Ex H H' → Q (.int ((n ^ (n - 2) : Nat) : Int)) H'
abbrev N_many_words : List Str := ["houses", "found", "turn"]
def t_many_words (K : PySem.W.Frag) : TS := tSeq (tAsg (tC (.int 1)) (gName 1)) (tSeq (tFor (iRng1 (tCons (tOp rSub (tVar 0) (tC (.int 2))) tNil)) (gName 2) (tAug 1 (tVar 0) rMul)) (tRet (tVar 1)))
theorem len_many_words (h : sp_many_words K vs H Q E) : vs.length = 1 := by
  obtain ⟨_, rfl, _⟩ := h
  rfl
theorem pure_many_words (h : sp_many_words K vs H Q E) : t_many_words K { nx := fun _ H' => Q .non H', rt := Q } (start N_many_words vs) H := by
  obtain ⟨n, rfl, hn, q⟩ := h
  show t_many_words K _ [some (.int n), none, none] H
  unfold t_many_words
  refine seqC fun R kR => ?_
  walk_at "ev"
  refine kR _ _ ?_
  refine seqC fun R kR => ?_
  refine forR (n := (n : Int) - 2) (fun k σ H' => ∃ y2 : Option V, σ = [some (.int n), some (.int ((n ^ k : Nat) : Int)), y2] ∧ Ex H H') (fun Q' k => ⟨_, rfl, _, _, rfl, rfl, k _ (Ex.refl _) ⟨none, rfl, Ex.refl _⟩⟩) (by omega) (by omega) ?_ ?_
  · rintro k σ H' Nx hk ⟨y2, rfl, e⟩ kx
    walk_at "ev"
    refine ⟨.inr ⟨by omega, by omega⟩, kx _ _ ⟨some (.int k), ?_, e⟩⟩
    rw [Nat.pow_succ, Int.natCast_mul]
  · rintro σ H' ⟨y2, rfl, e⟩
    have : ((n : Int) - 2).toNat = n - 2 := by omega
    rw [this]
    exact kR _ _ ⟨_, rfl, q H' e⟩
def sp_trees (K : PySem.W.Frag) (c : Cs) : Sp := fun vs H Q E => ∃ (v : V) (d : Option PyData), vs = [v] ∧ Th K H v d ∧ (okH d = false → E (.ref c.BadHouses) none H) ∧
  (∀ n : Nat, d = some (.int n) → 1 ≤ n → n ≤ 200 → ∀ H', Ex H H' → Q (.int ((n ^ (n - 2) : Nat) : Int)) H')
abbrev N_trees : List Str := ["houses"]
def t_trees (K : PySem.W.Frag) (c : Cs) (E : XK) : TS := tSeq (tDrop (tCall (sp_check_houses K c) [] E (tCons (tVar 0) tNil))) (tRet (tCall (sp_many_words K) [] E0 (tCons (tVar 0) tNil)))
theorem len_trees (h : sp_trees K c vs H Q E) : vs.length = 1 := by
  obtain ⟨_, _, rfl, _⟩ := h
  rfl
theorem pure_trees (h : sp_trees K c vs H Q E) : t_trees K c E { nx := fun _ H' => Q .non H', rt := Q } (start N_trees vs) H := by
  obtain ⟨v, d, rfl, t, q1, q2⟩ := h
  show t_trees K c E _ [some v] H
  unfold t_trees
  refine seqC fun R kR => ⟨v, rfl, v, d, rfl, t, fun hb => kR _ _ ?_, q1⟩
  obtain ⟨n, rfl, n1, n2⟩ := okH_some hb
  have hv := th_int t
  subst hv
  walk_at "ev"
  exact ⟨n, rfl, by omega, q2 n rfl n1 n2⟩
def sp_check_number (K : PySem.W.Frag) (c : Cs) : Sp := fun vs H Q E => ∃ (v : V) (d : Option PyData) (m : Int), vs = [v, .int m] ∧ Th K H v d ∧ (isNum d 0 (m - 1) = true → Q .non H) ∧ (isNum d 0 (m - 1) = false → E (.ref c.BadNumber) none H)
abbrev N_check_number : List Str := ["number", "many"]
def t_check_number (K : PySem.W.Frag) (c : Cs) (E : XK) : TS := tIfS (tNot (tB (tCall (sp_is_number K) [] E0 (tCons (tVar 0) (tCons (tC (.int 0)) (tCons (tOp rSub (tVar 1) (tC (.int 1))) tNil)))))) (tRaise E (.ref c.BadNumber)) tNext
theorem len_check_number (h : sp_check_number K c vs H Q E) : vs.length = 2 := by
  obtain ⟨_, _, _, rfl, _⟩ := h
  rfl
theorem pure_check_number (h : sp_check_number K c vs H Q E) : t_check_number K c E { nx := fun _ H' => Q .non H', rt := Q } (start N_check_number vs) H := by
  obtain ⟨v, d, m, rfl, t, q1, q2⟩ := h
  show t_check_number K c E _ [some v, some (.int m)] H
  unfold t_check_number
  walk_at "ev"
  refine ⟨v, d, 0, m - 1, rfl, t, _, rfl, ?_⟩
  cases e : isNum d 0 (m - 1) with
  | true => exact iteF (q1 e)
  | false => exact iteT (q2 e)
theorem isNum_nat {d : Option PyData} {m : Nat} (h : isNum d 0 ((m : Int) - 1) = true) : ∃ k : Nat, d = some (.int k) ∧ k < m := by
  unfold isNum at h
  split at h
  · rename_i i
    simp at h
    exact ⟨i.toNat, by rw [Int.toNat_of_nonneg h.1], by omega⟩
  · cases h
theorem nat_isNum {k m : Nat} (h : k < m) : isNum (some (.int k)) 0 ((m : Int) - 1) = true := by
  simp [isNum]
  omega
/-! ### tree_by -/
def digits (n : Nat) : Nat → Nat → List Nat
  | 0, _ => []
  | l + 1, k => k % n :: digits n l (k / n)
theorem digits_len (n : Nat) : ∀ l k, (digits n l k).length = l
  | 0, _ => rfl
  | l + 1, k => by simp [digits, digits_len n l]
theorem digits_lt {n : Nat} (hn : 0 < n) : ∀ l k, ∀ x ∈ digits n l k, x < n
  | 0, _, x, h => by simp [digits] at h
  | l + 1, k, x, h => by
    rcases List.mem_cons.mp (show x ∈ k % n :: digits n l (k / n) from h) with e | h
    · rw [e]; exact Nat.mod_lt _ hn
    · exact digits_lt hn l _ x h
def sp_tree_by (K : PySem.W.Frag) (c : Cs) : Sp := fun vs H Q E => ∃ (v1 v2 : V) (d1 d2 : Option PyData), vs = [v1, v2] ∧ Th K H v1 d1 ∧ Th K H v2 d2 ∧ (okH d1 = false → E (.ref c.BadHouses) none H) ∧
  (∀ n : Nat, d1 = some (.int n) → 1 ≤ n → n ≤ 200 → isNum d2 0 (((n ^ (n - 2) : Nat) : Int) - 1) = false → ∀ H', Ex H H' → E (.ref c.BadNumber) none H') ∧
  (∀ n k : Nat, d1 = some (.int n) → 1 ≤ n → n ≤ 200 → d2 = some (.int k) → k < n ^ (n - 2) → ∀ p xs H', H p = none → Ex H H' → H' p = some (.lst xs) → Own H' xs (treeOfW n (digits n (n - 2) k)) → Q (.ref p) H')
abbrev N_tree_by : List Str := ["houses", "number", "word", "turn"]
def t_tree_by (K : PySem.W.Frag) (c : Cs) (E : XK) : TS := tSeq (tDrop (tCall (sp_check_houses K c) [] E (tCons (tVar 0) tNil))) (tSeq (tDrop (tCall (sp_check_number K c) [] E (tCons (tVar 1) (tCons (tCall (sp_many_words K) [] E0 (tCons (tVar 0) tNil)) tNil)))) (tSeq (tAsg (tLst tNil) (gName 2)) (tSeq (tFor (iRng1 (tCons (tOp rSub (tVar 0) (tC (.int 2))) tNil)) (gName 3) (tSeq (tDrop (tBM K "list" rAppend (tVar 2) (tCons (tOp rMod (tVar 1) (tVar 0)) tNil))) (tAug 1 (tVar 0) rDiv))) (tRet (tCall (sp_roads_of K) [] E0 (tCons (tVar 0) (tCons (tVar 2) tNil)))))))
theorem len_tree_by (h : sp_tree_by K c vs H Q E) : vs.length = 2 := by
  obtain ⟨_, _, _, _, rfl, _⟩ := h
  rfl
theorem pure_tree_by (h : sp_tree_by K c vs H Q E) : t_tree_by K c E { nx := fun _ H' => Q .non H', rt := Q } (start N_tree_by vs) H := by
  obtain ⟨v1, v2, d1, d2, rfl, t1, t2, q1, q2, q3⟩ := h
  show t_tree_by K c E _ [some v1, some v2, none, none] H
  unfold t_tree_by
  refine seqC fun R kR => ⟨v1, rfl, v1, d1, rfl, t1, fun hb => kR _ _ ?_, q1⟩
  obtain ⟨n, rfl, n1, n2⟩ := okH_some hb
  have hv := th_int t1
  subst hv
  refine seqC fun R kR => ?_
  walk_at "ev"
  refine ⟨n, rfl, by omega, fun H1 e1 => ?_⟩
  walk_at "ev"
  refine ⟨v2, d2, _, rfl, t2.ex e1, fun hb2 => kR _ _ ?_, fun hb2 => q2 n rfl n1 n2 hb2 H1 e1⟩
  obtain ⟨k, rfl, hk⟩ := isNum_nat hb2
  have hv := th_int t2
  subst hv
  refine seqC fun R kR => ?_
  walk_at "ev"
  refine ⟨Nat.zero_le _, fun wa hwa => kR _ _ ?_⟩
  refine seqC fun R kR => ?_
  refine forR (n := (n : Int) - 2) (fun i σ H' => ∃ (w : List Nat) (k' : Nat) (y3 : Option V), σ = [some (.int n), some (.int k'), some (.ref wa), y3] ∧ Ex H1 H' ∧ H' wa = some (.lst (w.map nV)) ∧ w ++ digits n (n - 2 - i) k' = digits n (n - 2) k ∧ w.length = i)
    (fun Q' kk => ⟨_, rfl, _, _, rfl, rfl, kk _ (Ex.refl _) ⟨[], k, none, rfl, Ex.new hwa, upd_same, rfl, rfl⟩⟩) (by omega) (by omega) ?_ ?_
  · rintro i σ H' Nx hi ⟨w, k', y3, rfl, e, hw, hdig, hwl⟩ kx
    walk_at "ev"
    refine ⟨.inl ⟨rfl, _, SqL.of hw⟩, by omega, wa, _, _, rfl, rfl, hw, sz_lt (by simp; omega), ⟨by omega, by omega⟩, kx _ _ ⟨w ++ [k' % n], k' / n, some (.int i), ?_, Ex.mut e hwa, ?_, ?_, by simp [hwl]⟩⟩
    · rw [Int.natCast_ediv]
    · rw [upd_same, List.map_append]
      simp [nV]
    · have : n - 2 - i = (n - 2 - (i + 1)) + 1 := by omega
      rw [← hdig, this]
      simp [digits]
  · rintro σ H' ⟨w, k', y3, rfl, e, hw, hdig, hwl⟩
    have : n - 2 - ((n : Int) - 2).toNat = 0 := by omega
    rw [this] at hdig
    have hwd : w = digits n (n - 2) k := by
      rw [← hdig]; simp [digits]
    refine kR _ _ ?_
    walk_at "ev"
    refine ⟨_, n, w, rfl, .lst (SqL.of hw) (nats_dpa _), n1, by omega, by rw [hwd, digits_len], by rw [hwd]; exact digits_lt (by omega) _ _, fun p xs H2 hp e2 h2 h3 => ?_⟩
    rw [hwd] at h3
    exact q3 n k rfl n1 n2 rfl hk p xs H2 (fresh_back (e1.trans e) hp) ((e1.trans e).trans e2) h2 h3
/-! ### number_of -/
def valW (n : Nat) : List Nat → Nat
  | [] => 0
  | h :: w => h + n * valW n w
theorem valW_rev (n : Nat) (w : List Nat) : w.reverse.foldl (fun f h => f * n + h) 0 = valW n w := by
  induction w with
  | nil => rfl
  | cons h w ih => simp [valW, ih]; rw [Nat.mul_comm]; omega
def sp_number_of (K : PySem.W.Frag) (c : Cs) : Sp := fun vs H Q E => ∃ (v1 v2 : V) (d1 d2 : Option PyData), vs = [v1, v2] ∧ Th K H v1 d1 ∧ Th K H v2 d2 ∧ SzOk d2 ∧
  Chk3 c d1 d2 H E fun n rs => ∀ H', Ex H H' → Q (.int (valW n (code n (n - 2) rs) : Nat)) H'
abbrev N_number_of : List Str := ["houses", "roads", "found", "house"]
def t_number_of (K : PySem.W.Frag) (c : Cs) (E : XK) : TS := tSeq (tAsg (tC (.int 0)) (gName 2)) (tSeq (tFor (iList K (tRevL K (tCall (sp_word_of K c) [] E (tCons (tVar 0) (tCons (tVar 1) tNil))))) (gName 3) (tAsg (tOp rAdd (tOp rMul (tVar 2) (tVar 0)) (tVar 3)) (gName 2))) (tRet (tVar 2)))
theorem len_number_of (h : sp_number_of K c vs H Q E) : vs.length = 2 := by
  obtain ⟨_, _, _, _, rfl, _⟩ := h
  rfl
theorem foldl_take {α β : Type} (f : α → β → α) (s : α) {l : List β} {i : Nat} {x : β} (h : l[i]? = some x) : (l.take (i + 1)).foldl f s = f ((l.take i).foldl f s) x := by
  obtain ⟨hi, rfl⟩ := List.getElem?_eq_some_iff.mp h
  rw [List.take_succ_eq_append_getElem hi, List.foldl_append]
  rfl
theorem pure_number_of (h : sp_number_of K c vs H Q E) : t_number_of K c E { nx := fun _ H' => Q .non H', rt := Q } (start N_number_of vs) H := by
  obtain ⟨v1, v2, d1, d2, rfl, t1, t2, hz, hc⟩ := h
  show t_number_of K c E _ [some v1, some v2, none, none] H
  unfold t_number_of
  refine seqC fun R kR => ?_
  walk_at "ev"
  refine kR _ _ ?_
  refine seqC fun R kR => ?_
  refine ⟨v1, rfl, v2, rfl, v1, v2, d1, d2, rfl, t1, t2, hz, ⟨hc.bh, hc.br, hc.nt, fun n rs e1 n1 n2 e2 hr ht p H1 hp ex1 h1 => ?_⟩⟩
  subst e1
  have hv := th_int t1
  subst hv
  refine ⟨p, _, rfl, SqL.of h1, fun l hl => ?_⟩
  have h2 : ((code n (n - 2) rs).map nV).reverse = (code n (n - 2) rs).reverse.map nV := by rw [List.map_reverse]
  have e2' := ex1.trans (Ex.new (o := .lst ((code n (n - 2) rs).map nV).reverse) hl)
  refine ⟨l, rfl, ⟨_, SqL.of upd_same⟩, for_list (K := K) (a := l) (xs := (code n (n - 2) rs).reverse.map nV) (fun i σ H' => ∃ y3 : Option V, σ = [some (.int n), some v2, some (.int (((code n (n - 2) rs).reverse.take i).foldl (fun f h => f * n + h) 0 : Nat)), y3] ∧ Ex H H' ∧ SqL K H' l ((code n (n - 2) rs).reverse.map nV))
    ⟨none, rfl, e2', SqL.of (by rw [upd_same, h2])⟩ (fun i σ H' _ ⟨_, _, _, h⟩ => h) ?_ ?_⟩
  · rintro i x σ H' hi ⟨y3, rfl, e, hl'⟩
    obtain ⟨o, ho, rfl⟩ := item_nat hi
    have hf := foldl_take (fun f h => f * n + h) 0 ho
    show tAsg _ _ _ [some (.int n), some v2, _, some (nV o)] H'
    refine ⟨_, rfl, _, rfl, _, _, rfl, rfl, .inr ⟨by omega, by omega⟩, _, rfl, _, _, rfl, rfl, some (nV o), ?_, e, hl'⟩
    rw [hf]
    simp [nV]
  · rintro σ H' ⟨y3, rfl, e, _⟩
    rw [List.length_map, List.take_length, valW_rev]
    exact kR _ _ ⟨_, rfl, hc.ok n rs rfl n1 n2 e2 hr ht H' e⟩
end
end TW
namespace TW
open PySem PySem.Spec PyProof.Rows L2 Evl
local macro_rules | `(tactic| walk_at "ev") => `(tactic| try simp only [tSeq, tNext, tRet, tRetN, tDrop, tAsg, gName, gSub, gTup, gCons, gNil, tIfS, tAndV, tOrV, tNotV, tAnd, tOr, tNot, tCB, tCons, tNil, tC, tTest, tB, tOp, tUn, tCall, tIf, tTup, tLst, tIsTh, tChain, tBM, tBM0, tAug, tAugS, tYes, tRaise, tPar, tSl, tPart, tNoPart, tRevL, rI0, rI, rU, ipI, tVar, E0,
  List.getElem?_cons_zero, List.getElem?_cons_succ, List.set_cons_zero, List.set_cons_succ, Option.some.injEq, exists_eq_left', exists_eq_left, V.int.injEq, V.bl.injEq, V.ref.injEq, List.cons.injEq, and_true, true_and, exists_and_left, List.cons_append, List.nil_append, List.append_nil, exists_eq, exists_const, and_assoc, exists_eq_right, if_true, if_false, Bool.not_true, Bool.not_false, Bool.false_eq_true, if_pos])
section
variable {K : PySem.W.Frag} {c : Cs} {vs : List V} {H H' : Hp} {Q : VK} {E : XK}
/-! ### ways_of -/
def sp_ways_of (K : PySem.W.Frag) : Sp := fun vs H Q _ => ∃ (a : Addr) (cs : List Nat), vs = [.ref a] ∧ SqL K H a (cs.map nV) ∧ cs.sum ≤ 100000 ∧ ∀ H', Ex H H' → Q (.int (waysOf cs : Nat)) H'
abbrev N_ways_of : List Str := ["counts", "found", "before", "many", "turn"]
def t_ways_of (K : PySem.W.Frag) : TS := tSeq (tAsg (tC (.int 1)) (gName 1)) (tSeq (tAsg (tC (.int 0)) (gName 2)) (tSeq (tFor (iList K (tVar 0)) (gName 3) (tFor (iRng1 (tCons (tVar 3) tNil)) (gName 4) (tSeq (tAug 2 (tC (.int 1)) (ipI fun i j => i + j)) (tAsg (tOp rDiv (tOp rMul (tVar 1) (tVar 2)) (tOp rAdd (tVar 4) (tC (.int 1)))) (gName 1))))) (tRet (tVar 1))))
theorem len_ways_of (h : sp_ways_of K vs H Q E) : vs.length = 1 := by
  obtain ⟨_, _, rfl, _⟩ := h
  rfl
theorem wmany_snd (l : List Nat) : (l.foldl wmany (1, 0)).2 = l.sum := by rw [wmany_fold]; simp
theorem pure_ways_of (h : sp_ways_of K vs H Q E) : t_ways_of K { nx := fun _ H' => Q .non H', rt := Q } (start N_ways_of vs) H := by
  obtain ⟨a, cs, rfl, hS, hsum, q⟩ := h
  show t_ways_of K _ [some (.ref a), none, none, none, none] H
  unfold t_ways_of
  refine seqC fun R kR => ?_
  walk_at "ev"
  refine kR _ _ ?_
  refine seqC fun R kR => ?_
  walk_at "ev"
  refine kR _ _ ?_
  refine seqC fun R kR => ?_
  refine forL (K := K) (a := a) (xs := cs.map nV) (fun i σ H' => ∃ y3 y4 : Option V, σ = [some (.ref a), some (.int (((cs.take i).foldl wmany (1, 0)).1 : Nat)), some (.int (((cs.take i).foldl wmany (1, 0)).2 : Nat)), y3, y4] ∧ Ex H H')
    (fun Q' k => ⟨_, rfl, k _ (Ex.refl _) hS ⟨none, none, rfl, Ex.refl _⟩⟩) (fun i σ H' _ ⟨_, _, _, e⟩ => ex_l e hS) ?_ ?_
  · rintro i x σ H' Nx hi ⟨y3, y4, rfl, e⟩ kx
    obtain ⟨m, hm, rfl⟩ := item_nat hi
    have hfold := foldl_take wmany (1, 0) hm
    have hs2 := wmany_snd (cs.take i)
    have hmle : (cs.take i).sum + m ≤ cs.sum := by
      obtain ⟨hi2, hi3⟩ := List.getElem?_eq_some_iff.mp hm
      have e1 : cs.sum = (cs.take (i + 1)).sum + (cs.drop (i + 1)).sum := by rw [← List.sum_append, List.take_append_drop]
      rw [List.take_succ_eq_append_getElem hi2, List.sum_append, hi3] at e1
      simp at e1
      omega
    generalize (cs.take i).foldl wmany (1, 0) = s at *
    refine forR (n := (m : Int)) (fun t σ H2 => ∃ y4 : Option V, σ = [some (.ref a), some (.int (((List.range t).foldl wst s).1 : Nat)), some (.int (((List.range t).foldl wst s).2 : Nat)), some (nV m), y4] ∧ Ex H H2)
      (fun Q' k => ⟨_, rfl, k _ (Ex.refl _) ⟨y4, rfl, e⟩⟩) (by omega) (by omega) ?_ ?_
    · rintro t σ H2 Ny ht ⟨y4', rfl, e2⟩ ky
      have hw := wst_range s.1 s.2 t
      have hst : ((List.range t).foldl wst s).2 = s.2 + t := by rw [show s = (s.1, s.2) from rfl, hw]
      have hstep : (List.range (t + 1)).foldl wst s = wst ((List.range t).foldl wst s) t := by rw [List.range_succ, List.foldl_append]; rfl
      walk_at "ev"
      refine ⟨.inr ⟨by omega, by omega⟩, ⟨by omega, by omega⟩, ky _ _ ⟨some (.int t), ?_, e2⟩⟩
      rw [hstep]
      simp [wst]
    · rintro σ H2 ⟨y4', rfl, e2⟩
      refine kx _ _ ⟨some (nV m), y4', ?_, e2⟩
      rw [Int.toNat_natCast, hfold]
      rfl
  · rintro σ H' ⟨y3, y4, rfl, e⟩
    rw [List.length_map, List.take_length]
    exact kR _ _ ⟨_, rfl, q H' e⟩
/-! ### stands_of -/
def standsOf (cs : List Int) : List Int := if cs.length = 1 then (if cs = [0] then [0] else []) else if (cs.any fun x => decide (x < 1)) = true ∨ cs.sum ≠ 2 * ((cs.length : Int) - 1) then [] else cs.map (· - 1)
def sp_stands_of (K : PySem.W.Frag) : Sp := fun vs H Q _ => ∃ (a : Addr) (cs : List Int), vs = [.ref a] ∧ SqL K H a (cs.map V.int) ∧ 0 < cs.length ∧ cs.length ≤ 10000 ∧ ∀ p H', H p = none → Ex H H' → H' p = some (.lst ((standsOf cs).map V.int)) → Q (.ref p) H'
abbrev N_stands_of : List Str := ["counts", "many"]
def t_stands_of (K : PySem.W.Frag) : TS := tSeq (tIfS (tTest (tOp rEq (tCB (Evl.rLenS K) (tCons (tVar 0) tNil)) (tC (.int 1)))) (tRet (tIf (tTest (tOp (rEqD K) (tVar 0) (tLst (tCons (tC (.int 0)) tNil)))) (tLst (tCons (tC (.int 0)) tNil)) (tLst tNil))) tNext) (tSeq (tIfS (tOr (tTest (tOp rLt (tCB (rMin K) (tCons (tVar 0) tNil)) (tC (.int 1)))) (tTest (tOp rNe (tCB (rSum K) (tCons (tVar 0) tNil)) (tOp rMul (tC (.int 2)) (tOp rSub (tCB (Evl.rLenS K) (tCons (tVar 0) tNil)) (tC (.int 1))))))) (tRet (tLst tNil)) tNext) (tRet (tLc (iList K (tVar 0)) (gName 1) tYes (tOp rSub (tVar 1) (tC (.int 1))) [1])))
theorem len_stands_of (h : sp_stands_of K vs H Q E) : vs.length = 1 := by
  obtain ⟨_, _, rfl, _⟩ := h
  rfl
theorem min_any {ns : List Int} {m : Int} (h1 : m ∈ ns) (h2 : ∀ y ∈ ns, m ≤ y) : decide (m < 1) = ns.any fun x => decide (x < 1) := by
  rw [Bool.eq_iff_iff, decide_eq_true_eq, List.any_eq_true]
  constructor
  · intro h
    exact ⟨m, h1, by simpa using h⟩
  · rintro ⟨y, hy, h⟩
    have := h2 y hy
    simp at h
    omega
theorem tab_ints (g : Int → Int) (cs : List Int) : (List.range cs.length).map (fun i => V.int (g (cs.getD i 0))) = (cs.map g).map V.int := by
  apply List.ext_getElem?
  intro i
  rw [List.getElem?_map, List.getElem?_map, List.getElem?_map]
  by_cases hi : i < cs.length
  · rw [List.getElem?_range hi, List.getElem?_eq_getElem hi]
    simp [List.getD_eq_getElem?_getD, hi]
  · rw [List.getElem?_eq_none (by simp; omega), List.getElem?_eq_none (by omega)]
    rfl
theorem pure_stands_of (h : sp_stands_of K vs H Q E) : t_stands_of K { nx := fun _ H' => Q .non H', rt := Q } (start N_stands_of vs) H := by
  obtain ⟨a, cs, rfl, hS, h0, hl, q⟩ := h
  show t_stands_of K _ [some (.ref a), none] H
  unfold t_stands_of
  refine seqC fun R kR => ?_
  walk_at "ev"
  refine ⟨a, _, rfl, .inl hS, rfl, _, rfl, ?_⟩
  by_cases hl1 : cs.length = 1
  · rw [if_pos (by simp; omega)]
    refine ⟨one_le, fun t ht => ⟨.list (cs.map PyData.int), .list ([(0 : Int)].map PyData.int), .lst (ex_l (Ex.new ht) hS) (ints_dpa _), .lst (SqL.of upd_same) (ints_dpa [(0 : Int)]), shaped_ints _, shaped_ints _, ?_⟩⟩
    rw [eqv_ints]
    refine ⟨_, rfl, ?_⟩
    by_cases hc : cs = [0]
    · rw [if_pos (by simpa using hc)]
      refine ⟨one_le, fun p hp => q p _ (fresh_back (Ex.new ht) hp) ((Ex.new ht).trans (Ex.new hp)) ?_⟩
      rw [upd_same]
      simp [standsOf, hl1, hc]
    · rw [if_neg (by simpa using hc)]
      refine ⟨Nat.zero_le _, fun p hp => q p _ (fresh_back (Ex.new ht) hp) ((Ex.new ht).trans (Ex.new hp)) ?_⟩
      rw [upd_same]
      simp [standsOf, hl1, hc]
  · rw [if_neg (by simp; omega)]
    refine kR _ _ ?_
    refine seqC fun R kR => ?_
    walk_at "ev"
    refine ⟨a, cs, rfl, hS, h0, fun m m1 m2 => ?_⟩
    walk_at "ev"
    rw [min_any m1 m2]
    by_cases ha : (cs.any fun x => decide (x < 1)) = true
    · rw [if_pos ha]
      refine ⟨Nat.zero_le _, fun p hp => q p _ hp (Ex.new hp) ?_⟩
      rw [upd_same]
      simp only [standsOf]
      rw [if_neg hl1, if_pos (.inl ha)]
      rfl
    · rw [if_neg ha]
      refine ⟨a, cs, rfl, hS, a, _, rfl, .inl hS, _, rfl, .inl ⟨by omega, by omega⟩, rfl, _, rfl, ?_⟩
      by_cases hs : cs.sum = 2 * ((cs.length : Int) - 1)
      · rw [if_neg (by simp; omega)]
        refine kR _ _ ?_
        refine lcL (K := K) (a := a) (xs := cs.map V.int) (fun _ i u _ => u = .int ((cs.getD i 0) - 1)) (cr_flat fun i => .int ((cs.getD i 0) - 1)) (fun _ => true) (fun Q' k => ⟨_, rfl, k H (Ex.refl H) hS⟩) (by simp; omega) (fun i z D H' Q' hi e k => ?_) (fun D ys H' hD e hy2 hall => ?_)
        · refine k _ H' (Ex.refl H') rfl (fun Q'' q'' => q'' H' (Ex.refl H')) (fun _ H3 e3 Q'' k2 => ?_)
          obtain ⟨x, hx, rfl⟩ := item_int hi
          show tOp _ _ _ [some (V.ref a), some (V.int x)] H3 Q''
          walk_at "ev"
          refine k2 _ H3 (Ex.refl H3) fun _ _ => ?_
          rw [getD_of hx]
        · have e2 := hall.eq
          rw [picks_all, List.length_map, tab_ints (· - 1)] at e2
          refine q D H' hD e ?_
          rw [hy2, e2]
          have : standsOf cs = cs.map (· - 1) := by
            unfold standsOf
            rw [if_neg hl1, if_neg (fun z => z.elim ha (fun y => y hs))]
          rw [this]
      · rw [if_pos (by simp; omega)]
        refine ⟨Nat.zero_le _, fun p hp => q p _ hp (Ex.new hp) ?_⟩
        rw [upd_same]
        simp only [standsOf]
        rw [if_neg hl1, if_pos (.inr hs)]
        rfl
/-! ### trees_with -/
def isCnt (d : PyData) : Bool := match d with
  | .int i => decide (0 ≤ i)
  | _ => false
def okC (d : Option PyData) : Bool := match d with
  | some (.list ds) => decide (1 ≤ ds.length) && decide (ds.length ≤ 200) && ds.all isCnt
  | _ => false
theorem okC_list (ds : List PyData) : okC (some (.list ds)) = (decide (1 ≤ ds.length) && decide (ds.length ≤ 200) && ds.all isCnt) := rfl
def encI (cs : List Int) : PyData := .list (cs.map PyData.int)
theorem cnts_enc {ds : List PyData} (h : ds.all isCnt = true) : ∃ cs : List Int, ds = cs.map PyData.int ∧ ∀ x ∈ cs, 0 ≤ x := by
  induction ds with
  | nil => exact ⟨[], rfl, by simp⟩
  | cons d ds ih =>
    simp only [List.all_cons, Bool.and_eq_true] at h
    obtain ⟨w, e1, e2⟩ := ih h.2
    have h1 := h.1
    unfold isCnt at h1
    split at h1
    · rename_i i
      refine ⟨i :: w, by rw [List.map_cons, e1], fun x hx => ?_⟩
      rcases List.mem_cons.mp hx with rfl | hx
      · simpa using h1
      · exact e2 x hx
    · cases h1
theorem okC_some {d : Option PyData} (h : okC d = true) : ∃ cs : List Int, d = some (encI cs) ∧ 1 ≤ cs.length ∧ cs.length ≤ 200 ∧ ∀ x ∈ cs, 0 ≤ x := by
  unfold okC at h
  split at h
  · simp only [Bool.and_eq_true, decide_eq_true_eq] at h
    obtain ⟨cs, e1, e2⟩ := cnts_enc h.2
    subst e1
    exact ⟨cs, rfl, by simpa using h.1.1, by simpa using h.1.2, e2⟩
  · cases h
theorem okC_enc {cs : List Int} (h1 : 1 ≤ cs.length) (h2 : cs.length ≤ 200) (h3 : ∀ x ∈ cs, 0 ≤ x) : okC (some (encI cs)) = true := by
  unfold encI
  rw [okC_list]
  simp [isCnt]
  exact ⟨⟨h1, h2⟩, h3⟩
def standsN (cs : List Int) : List Nat := (standsOf cs).map Int.toNat
def treesWith (cs : List Int) : Nat := if standsOf cs = [] then 0 else waysOf (standsN cs)
/-- what stands_of hands on -/
theorem stands_spec {cs : List Int} (h3 : ∀ x ∈ cs, 0 ≤ x) : (standsOf cs).map V.int = (standsN cs).map nV ∧ (standsOf cs ≠ [] → (standsN cs).length = cs.length ∧ (standsN cs).sum = cs.length - 2) ∧ (standsN cs).sum ≤ cs.length := by
  have key : ∀ (l : List Int), (∀ x ∈ l, 1 ≤ x) → ((l.map (· - 1)).map V.int = ((l.map (· - 1)).map Int.toNat).map nV) ∧ ((((l.map (· - 1)).map Int.toNat).sum : Nat) : Int) + l.length = l.sum := by
    intro l
    induction l with
    | nil => intro _; simp
    | cons x l ih =>
      intro h
      obtain ⟨i1, i2⟩ := ih fun y hy => h y (List.mem_cons_of_mem _ hy)
      have hx := h x (by simp)
      refine ⟨?_, ?_⟩
      · rw [List.map_cons, List.map_cons, List.map_cons, List.map_cons, i1]
        congr 1
        show V.int (x - 1) = V.int ((x - 1).toNat : Int)
        rw [Int.toNat_of_nonneg (by omega)]
      · simp only [List.map_cons, List.sum_cons, List.length_cons]
        omega
  unfold standsN standsOf
  by_cases hl : cs.length = 1
  · rw [if_pos hl]
    split
    · simp [nV, hl]
    · simp
  · rw [if_neg hl]
    split
    · simp
    · rename_i h
      have ha : ∀ x ∈ cs, 1 ≤ x := fun x hx => by
        rcases Int.lt_or_le x 1 with z | z
        · exact absurd (.inl (List.any_eq_true.mpr ⟨x, hx, by simpa using z⟩)) h
        · exact z
      have hs : cs.sum = 2 * ((cs.length : Int) - 1) := Classical.byContradiction fun z => h (.inr z)
      obtain ⟨k1, k2⟩ := key cs ha
      refine ⟨k1, fun _ => ⟨by simp, by omega⟩, by omega⟩
def sp_trees_with (K : PySem.W.Frag) (c : Cs) : Sp := fun vs H Q E => ∃ (v : V) (d : Option PyData), vs = [v] ∧ Th K H v d ∧ SzL d ∧ (okC d = false → ∀ H', Ex H H' → E (.ref c.BadCounts) none H') ∧
  (∀ cs : List Int, d = some (encI cs) → 1 ≤ cs.length → cs.length ≤ 200 → (∀ x ∈ cs, 0 ≤ x) → ∀ H', Ex H H' → Q (.int (treesWith cs : Nat)) H')
abbrev N_trees_with : List Str := ["counts", "many", "stands"]
def t_trees_with (K : PySem.W.Frag) (c : Cs) (E : XK) : TS := tSeq (tIfS (tOr (tNot (tB (tIsTh K (tVar 0) "list"))) (tNot (tTest (tChain rLe rLe (tC (.int 1)) (tCB (Evl.rLenS K) (tCons (tVar 0) tNil)) (tC (.int 200)))))) (tRaise E (.ref c.BadCounts)) tNext) (tSeq (tIfS (tNot (tB (tCB (rAll K) (tCons (tLc (iList K (tVar 0)) (gName 1) tYes (tAndV (tIsTh K (tVar 1) "int") (tAndV (tNotV (tIsTh K (tVar 1) "bool")) (tOp rGe (tVar 1) (tC (.int 0))))) [1]) tNil)))) (tRaise E (.ref c.BadCounts)) tNext) (tSeq (tAsg (tCall (sp_stands_of K) [] E0 (tCons (tVar 0) tNil)) (gName 2)) (tRet (tIf (tTest (tOp (rNeD K) (tVar 2) (tLst tNil))) (tCall (sp_ways_of K) [] E0 (tCons (tVar 2) tNil)) (tC (.int 0))))))
theorem len_trees_with (h : sp_trees_with K c vs H Q E) : vs.length = 1 := by
  obtain ⟨_, _, rfl, _⟩ := h
  rfl
theorem cnt_elem {d : PyData} {v : V} {σ : L2.St} {j : Nat} (t : Dp K H v d) (hv : σ[j]? = some (some v)) (q : Q (.bl (isCnt d)) H) :
    tAndV (tIsTh K (tVar j) "int") (tAndV (tNotV (tIsTh K (tVar j) "bool")) (tOp rGe (tVar j) (tC (.int 0)))) σ H Q := by
  refine ⟨v, hv, v, some d, "int", rfl, kit_int, .dp t, _, rfl, ?_⟩
  cases t with
  | int i =>
    refine iteT ⟨_, hv, _, some (.int i), "bool", rfl, kit_bool, .dp (.int i), _, rfl, _, rfl, iteT ⟨_, hv, i, 0, rfl, rfl, ?_⟩⟩
    exact q
  | bl b =>
    refine iteT ⟨_, hv, _, some (.bool b), "bool", rfl, kit_bool, .dp (.bl b), _, rfl, _, rfl, iteF ?_⟩
    exact q
  | non => exact iteF q
  | str x => exact iteF q
  | lst h1 h2 => exact iteF q
  | tup h1 h2 => exact iteF q
theorem pure_trees_with (h : sp_trees_with K c vs H Q E) : t_trees_with K c E { nx := fun _ H' => Q .non H', rt := Q } (start N_trees_with vs) H := by
  obtain ⟨v, d, rfl, t, hz, q1, q2⟩ := h
  show t_trees_with K c E _ [some v, none, none] H
  unfold t_trees_with
  refine seqC fun R kR => ?_
  walk_at "ev"
  refine ⟨v, d, "list", rfl, kit_list, t, ?_⟩
  by_cases hd : ∃ ds, d = some (.list ds)
  · obtain ⟨ds, rfl⟩ := hd
    have hz1 := hz ds rfl
    obtain ⟨a, xs, rfl, hS, hA⟩ := dp_list (th_dp t)
    have hl := dpa_len hA
    refine ⟨_, rfl, iteF ⟨a, xs, rfl, .inl hS, _, rfl, ?_⟩⟩
    by_cases hl1 : 1 ≤ ds.length ∧ ds.length ≤ 200
    · rw [if_pos (by simp; omega)]
      refine ⟨_, rfl, ?_⟩
      rw [if_neg (by simp; omega)]
      refine kR _ _ ?_
      refine seqC fun R kR => ?_
      walk_at "ev"
      refine lcL (K := K) (a := a) (xs := xs) (fun _ i u _ => u = .bl (isCnt (ds.getD i .none))) (cr_flat fun i => .bl (isCnt (ds.getD i .none))) (fun _ => true)
        (fun Q' k => ⟨_, rfl, k H (Ex.refl H) hS⟩) (by omega) (fun i z D H' Q' hi e k => ?_) (fun D ys H' hD e hy2 hall => ?_)
      · refine k _ H' (Ex.refl H') rfl (fun Q'' q'' => q'' H' (Ex.refl H')) (fun _ H3 e3 Q'' k2 => ?_)
        obtain ⟨d, h1, h2⟩ := dpa_get hA hi
        refine cnt_elem (dp_ex (e.trans e3) h2) rfl (k2 _ H3 (Ex.refl H3) fun _ _ => ?_)
        rw [List.getD_eq_getElem?_getD, h1]
        rfl
      · have e2 := hall.eq
        rw [picks_all, hl, tab_bl isCnt] at e2
        refine ⟨D, ds.map isCnt, rfl, .inl (.inl (by rw [hy2, e2])), _, rfl, ?_⟩
        rw [all_bl]
        cases hb : ds.all isCnt with
        | false =>
          walk_at "ev"
          exact q1 (by rw [okC_list, hb, Bool.and_false]) H' e
        | true =>
          walk_at "ev"
          refine kR _ _ ?_
          obtain ⟨cs, e5, e6⟩ := cnts_enc hb
          subst e5
          have hx := dpa_ints hA
          subst hx
          have hcl : 1 ≤ cs.length ∧ cs.length ≤ 200 := by simpa using hl1
          refine seqC fun R kR => ?_
          walk_at "ev"
          refine ⟨a, cs, rfl, ex_l e hS, by omega, by omega, fun p H2 hp e2 h2 => kR _ _ ?_⟩
          walk_at "ev"
          refine ⟨Nat.zero_le _, fun t2 ht2 => ⟨.list ((standsOf cs).map PyData.int), .list (([] : List Int).map PyData.int), .lst (ex_l (Ex.new ht2) (SqL.of h2)) (ints_dpa _), .lst (SqL.of upd_same) .nil, shaped_ints _, shaped_ints _, ?_⟩⟩
          rw [eqv_ints]
          refine ⟨_, rfl, ?_⟩
          obtain ⟨s1, s2, s3⟩ := stands_spec e6
          by_cases hs0 : standsOf cs = []
          · rw [if_neg (by simp [hs0])]
            have : treesWith cs = 0 := by simp [treesWith, hs0]
            have h7 := q2 cs rfl hcl.1 hcl.2 e6
            rw [this] at h7
            exact h7 _ ((e.trans e2).trans (Ex.new ht2))
          · rw [if_pos (by simp [hs0])]
            refine ⟨p, standsN cs, rfl, ex_l (Ex.new ht2) (SqL.of (by rw [h2, s1])), by omega, fun H3 e3 => ?_⟩
            have : treesWith cs = waysOf (standsN cs) := by simp [treesWith, hs0]
            rw [← this]
            exact q2 cs rfl hcl.1 hcl.2 e6 _ (((e.trans e2).trans (Ex.new ht2)).trans e3)
    · have hc : okC (some (.list ds)) = false := by
        rw [okC_list]
        by_cases z : 1 ≤ ds.length
        · have : ¬ ds.length ≤ 200 := fun y => hl1 ⟨z, y⟩
          simp [this]
        · simp [z]
      by_cases z : 1 ≤ ds.length
      · have z2 : ¬ ds.length ≤ 200 := fun y => hl1 ⟨z, y⟩
        rw [if_pos (by simp; omega)]
        refine ⟨_, rfl, ?_⟩
        rw [if_pos (by simp; omega)]
        exact q1 hc H (Ex.refl H)
      · rw [if_neg (by simp; omega)]
        exact q1 hc H (Ex.refl H)
  · have e : isTy d "list" = false := by
      cases t with
      | dict => rfl
      | dp t => cases t <;> first | rfl | (exact absurd ⟨_, rfl⟩ hd)
    rw [e]
    refine ⟨_, rfl, iteT ?_⟩
    refine q1 ?_ H (Ex.refl H)
    unfold okC
    split
    · exact absurd ⟨_, rfl⟩ hd
    · rfl
end
end TW
namespace TW
open PySem PySem.Spec PyProof.Rows L2 Evl
local macro_rules | `(tactic| walk_at "ev") => `(tactic| try simp only [tSeq, tNext, tRet, tRetN, tDrop, tAsg, gName, gSub, gTup, gCons, gNil, tIfS, tAndV, tOrV, tNotV, tAnd, tOr, tNot, tCB, tCons, tNil, tC, tTest, tB, tOp, tUn, tCall, tIf, tTup, tLst, tIsTh, tChain, tBM, tBM0, tAug, tAugS, tYes, tRaise, tPar, tSl, tPart, tNoPart, tRevL, rI0, rI, rU, ipI, tVar, E0,
  List.getElem?_cons_zero, List.getElem?_cons_succ, List.set_cons_zero, List.set_cons_succ, Option.some.injEq, exists_eq_left', exists_eq_left, V.int.injEq, V.bl.injEq, V.ref.injEq, List.cons.injEq, and_true, true_and, exists_and_left, List.cons_append, List.nil_append, List.append_nil, exists_eq, exists_const, and_assoc, exists_eq_right, if_true, if_false, Bool.not_true, Bool.not_false, Bool.false_eq_true, if_pos])
section
variable {K : PySem.W.Frag} {c : Cs} {vs : List V} {H H' : Hp} {Q : VK} {E : XK}
theorem nat_ints (cs : List Nat) : cs.map nV = (cs.map fun (n : Nat) => (n : Int)).map V.int := by
  rw [List.map_map]; rfl
theorem sum_cast (cs : List Nat) : (cs.map fun (n : Nat) => (n : Int)).sum = (cs.sum : Nat) := by
  induction cs with
  | nil => rfl
  | cons x cs ih => rw [List.map_cons, List.sum_cons, List.sum_cons, ih, Int.natCast_add]
/-! ### first_of -/
def sp_first_of (K : PySem.W.Frag) : Sp := fun vs H Q _ => ∃ (a : Addr) (cs : List Nat) (k : Nat), vs = [.ref a, .int k] ∧ SqL K H a (cs.map nV) ∧ 0 < cs.sum ∧ cs.sum ≤ 100000 ∧
  ∀ p H', H p = none → Ex H H' → H' p = some (.tup [.int (firstOf cs k).1, .int (firstOf cs k).2]) → Q (.ref p) H'
abbrev N_first_of : List Str := ["left", "number", "whole", "house", "many", "part"]
def t_first_of (K : PySem.W.Frag) : TS := tSeq (tAsg (tCall (sp_ways_of K) [] E0 (tCons (tVar 0) tNil)) (gName 2)) (tSeq (tFor (iEnum K (tCons (tVar 0) tNil)) (gTup K 2 (gCons (gName 3) (gCons (gName 4) gNil))) (tSeq (tAsg (tOp rDiv (tOp rMul (tVar 2) (tVar 4)) (tCB (rSum K) (tCons (tVar 0) tNil))) (gName 5)) (tSeq (tIfS (tTest (tOp rLt (tVar 1) (tVar 5))) (tRet (tTup (tCons (tVar 3) (tCons (tVar 1) tNil)))) tNext) (tAug 1 (tVar 5) (ipI fun i j => i - j))))) (tRet (tTup (tCons (tC (.int 0)) (tCons (tC (.int 0)) tNil)))))
theorem len_first_of (h : sp_first_of K vs H Q E) : vs.length = 2 := by
  obtain ⟨_, _, _, rfl, _⟩ := h
  rfl
theorem pure_first_of (h : sp_first_of K vs H Q E) : t_first_of K { nx := fun _ H' => Q .non H', rt := Q } (start N_first_of vs) H := by
  obtain ⟨a, cs, k, rfl, hS, h0, hs, q⟩ := h
  show t_first_of K _ [some (.ref a), some (.int k), none, none, none, none] H
  unfold t_first_of
  refine seqC fun R kR => ?_
  walk_at "ev"
  refine ⟨a, cs, rfl, hS, hs, fun H1 e1 => kR _ _ ?_⟩
  refine seqC fun R kR => ?_
  refine forE (K := K) (a := a) (xs := cs.map nV) (fun i σ H' => ∃ (k' : Nat) (y3 y4 y5 : Option V), σ = [some (.ref a), some (.int k'), some (.int (waysOf cs : Nat)), y3, y4, y5] ∧ Ex H H' ∧ foGo cs (cs.length - i) i k' = firstOf cs k)
    (fun Q' kk => ⟨_, rfl, kk _ (Ex.refl _) (ex_l e1 hS) ⟨k, none, none, none, rfl, e1, rfl⟩⟩) (fun i σ H' _ ⟨_, _, _, _, _, e, _⟩ => ex_l e hS) ?_ ?_
  · rintro i x T σ H' Nx hi ⟨k', y3, y4, y5, rfl, e, hgo⟩ hT kx
    obtain ⟨m, hm, rfl⟩ := item_nat hi
    have hil := (List.getElem?_eq_some_iff.mp hm).1
    have hgd : cs.getD i 0 = m := getD_of hm
    have e' := e.trans (Ex.new (o := .tup [V.int i, nV m]) hT)
    have hS' := ex_l e' hS
    rw [nat_ints] at hS'
    walk_at "ev"
    have hml : m ≤ cs.sum := mem_le_sum (List.mem_of_getElem? hm)
    refine ⟨_, SqT.of upd_same, rfl, _, _, rfl, _, _, rfl, rfl, _, rfl, .inr ⟨by omega, by omega⟩, a, _, rfl, hS', ?_⟩
    rw [sum_cast]
    have hpart : ((waysOf cs : Nat) : Int) * (m : Int) / ((cs.sum : Nat) : Int) = (part cs i : Nat) := by
      unfold part
      rw [hgd, Int.natCast_ediv, Int.natCast_mul]
    have hf : cs.length - i = (cs.length - (i + 1)) + 1 := by omega
    rw [hf] at hgo
    refine ⟨_, rfl, ⟨by omega, by omega⟩, ?_⟩
    rw [hpart]
    by_cases hlt : k' < part cs i
    · have hres : firstOf cs k = (i, k') := by
        rw [← hgo]
        simp [foGo, hlt]
      rw [if_pos (by simp; omega)]
      refine ⟨two_le, fun p hp => q p _ (fresh_back e' hp) (e'.trans (Ex.new hp)) ?_⟩
      rw [hres, upd_same]
    · have hres : foGo cs (cs.length - (i + 1)) (i + 1) (k' - part cs i) = firstOf cs k := by
        rw [← hgo]
        simp [foGo, hlt]
      rw [if_neg (by simp; omega)]
      refine kx _ _ ⟨k' - part cs i, some (.int i), some (nV m), some (.int (part cs i : Nat)), ?_, e', hres⟩
      have : ((k' : Int) - (part cs i : Nat)) = ((k' - part cs i : Nat) : Int) := by omega
      rw [this]
  · rintro σ H' ⟨k', y3, y4, y5, rfl, e, hgo⟩
    refine kR _ _ ?_
    rw [List.length_map, Nat.sub_self] at hgo
    walk_at "ev"
    refine ⟨two_le, fun p hp => q p _ (fresh_back e hp) (e.trans (Ex.new hp)) ?_⟩
    rw [upd_same, ← hgo]
    rfl
/-! ### tree_with -/
def sp_tree_with (K : PySem.W.Frag) (c : Cs) : Sp := fun vs H Q E => ∃ (v1 v2 : V) (d1 d2 : Option PyData), vs = [v1, v2] ∧ Th K H v1 d1 ∧ Th K H v2 d2 ∧ SzL d1 ∧ (okC d1 = false → ∀ H', Ex H H' → E (.ref c.BadCounts) none H') ∧
  (∀ cs : List Int, d1 = some (encI cs) → 1 ≤ cs.length → cs.length ≤ 200 → (∀ x ∈ cs, 0 ≤ x) → isNum d2 0 (((treesWith cs : Nat) : Int) - 1) = false → ∀ H', Ex H H' → E (.ref c.BadNumber) none H') ∧
  (∀ (cs : List Int) (k : Nat), d1 = some (encI cs) → 1 ≤ cs.length → cs.length ≤ 200 → (∀ x ∈ cs, 0 ≤ x) → d2 = some (.int k) → k < treesWith cs → ∀ p xs H', H p = none → Ex H H' → H' p = some (.lst xs) → Own H' xs (treeOfW cs.length (wordWith (cs.length - 2) (standsN cs) k)) → Q (.ref p) H')
abbrev N_tree_with : List Str := ["counts", "number", "left", "word", "turn", "house"]
def t_tree_with (K : PySem.W.Frag) (c : Cs) (E : XK) : TS := tSeq (tDrop (tCall (sp_check_number K c) [] E (tCons (tVar 1) (tCons (tCall (sp_trees_with K c) [] E (tCons (tVar 0) tNil)) tNil)))) (tSeq (tAsg (tCall (sp_stands_of K) [] E0 (tCons (tVar 0) tNil)) (gName 2)) (tSeq (tAsg (tLst tNil) (gName 3)) (tSeq (tFor (iRng1 (tCons (tOp rSub (tCB (Evl.rLenS K) (tCons (tVar 0) tNil)) (tC (.int 2))) tNil)) (gName 4) (tSeq (tAsg (tCall (sp_first_of K) [] E0 (tCons (tVar 2) (tCons (tVar 1) tNil))) (gTup K 2 (gCons (gName 5) (gCons (gName 1) gNil)))) (tSeq (tDrop (tBM K "list" rAppend (tVar 3) (tCons (tVar 5) tNil))) (tAugS (tVar 2) (tVar 5) (tC (.int 1)) (rIxL K) (ipI fun i j => i - j) rSetL)))) (tRet (tCall (sp_roads_of K) [] E0 (tCons (tCB (Evl.rLenS K) (tCons (tVar 0) tNil)) (tCons (tVar 3) tNil)))))))
theorem len_tree_with (h : sp_tree_with K c vs H Q E) : vs.length = 2 := by
  obtain ⟨_, _, _, _, rfl, _⟩ := h
  rfl
theorem pure_tree_with (h : sp_tree_with K c vs H Q E) : t_tree_with K c E { nx := fun _ H' => Q .non H', rt := Q } (start N_tree_with vs) H := by
  obtain ⟨v1, v2, d1, d2, rfl, t1, t2, hz, q1, q2, q3⟩ := h
  show t_tree_with K c E _ [some v1, some v2, none, none, none, none] H
  unfold t_tree_with
  refine seqC fun R kR => ?_
  walk_at "ev"
  refine ⟨v1, d1, rfl, t1, hz, q1, fun cs e1 c1 c2 c3 H1 ex1 => ?_⟩
  subst e1
  obtain ⟨a, xs, rfl, hS, hA⟩ := dp_list (th_dp t1)
  have hx := dpa_ints hA
  subst hx
  walk_at "ev"
  refine ⟨v2, d2, _, rfl, t2.ex ex1, fun hb2 => kR _ _ ?_, fun hb2 => q2 cs rfl c1 c2 c3 hb2 H1 ex1⟩
  obtain ⟨k, rfl, hk⟩ := isNum_nat hb2
  have hv := th_int t2
  subst hv
  obtain ⟨s1, s2, s3⟩ := stands_spec c3
  have hne : standsOf cs ≠ [] := fun z => by simp [treesWith, z] at hk
  have hkw : k < waysOf (standsN cs) := by simpa [treesWith, hne] using hk
  obtain ⟨s4, s5⟩ := s2 hne
  refine seqC fun R kR => ?_
  walk_at "ev"
  refine ⟨a, cs, rfl, ex_l ex1 hS, by omega, by omega, fun l H2 hl ex2 h2 => kR _ _ ?_⟩
  rw [s1] at h2
  refine seqC fun R kR => ?_
  walk_at "ev"
  refine ⟨Nat.zero_le _, fun wa hwa => kR _ _ ?_⟩
  have hlw : l ≠ wa := ne_of_none h2 hwa
  have hlH : H l = none := fresh_back ex1 hl
  have hwH : H wa = none := fresh_back (ex1.trans ex2) hwa
  refine seqC fun R kR => ?_
  refine forR (n := (cs.length : Int) - 2) (fun i σ H' => ∃ (w ls : List Nat) (k' : Nat) (y4 y5 : Option V), σ = [some (.ref a), some (.int k'), some (.ref l), some (.ref wa), y4, y5] ∧ Ex H H' ∧ H' wa = some (.lst (w.map nV)) ∧ H' l = some (.lst (ls.map nV)) ∧
      w ++ wordWith (cs.length - 2 - i) ls k' = wordWith (cs.length - 2) (standsN cs) k ∧ w.length = i ∧ k' < waysOf ls ∧ ls.sum = cs.length - 2 - i ∧ ls.length = cs.length)
    (fun Q' kk => ?_) (by omega) (by omega) ?_ ?_
  · walk_at "ev"
    refine ⟨a, _, rfl, .inl (ex_l ((ex1.trans ex2).trans (Ex.new hwa)) hS), ?_⟩
    rw [List.length_map]
    exact ⟨_, rfl, kk _ (Ex.refl _) ⟨[], standsN cs, k, none, none, rfl, (ex1.trans ex2).trans (Ex.new hwa), upd_same, by rw [upd_ne hlw]; exact h2, rfl, rfl, hkw, by omega, s4⟩⟩
  · rintro i σ H' Nx hi ⟨w, ls, k', y4, y5, rfl, e, hw, hls, hdig, hwl, hk', hsum, hlen⟩ kx
    have hpos : 0 < ls.sum := by omega
    obtain ⟨f1, f2, f3, f4⟩ := firstOf_spec hpos hk'
    walk_at "ev"
    refine ⟨l, ls, k', rfl, SqL.of hls, hpos, by omega, fun p H3 hp e3 h3 => ?_⟩
    generalize hfo : firstOf ls k' = fo at *
    obtain ⟨h, k2⟩ := fo
    have f2' : 0 < ls.getD h 0 := f2
    have f1' : h < ls.length := f1
    have e3w : H3 wa = some (.lst (w.map nV)) := e3 _ _ hw
    have e3l : H3 l = some (.lst (ls.map nV)) := e3 _ _ hls
    have hat : atI (ls.map nV) (h : Int) = some (nV (ls.getD h 0)) := atI_nat (by
      rw [List.getElem?_map, List.getElem?_eq_getElem f1]
      simp [List.getD_eq_getElem?_getD, f1])
    walk_at "ev"
    refine ⟨_, SqT.of h3, rfl, _, _, rfl, _, _, rfl, rfl, .inl ⟨rfl, _, SqL.of e3w⟩, wa, _, _, rfl, rfl, e3w, sz_lt (by simp; omega), l, _, _, _, rfl, rfl, SqL.of (by rw [upd_ne hlw]; exact e3l), hat, ?_⟩
    refine ⟨_, rfl, l, _, _, h, rfl, rfl, by rw [upd_ne hlw]; exact e3l, ixN_nat (by simpa using f1), kx _ _ ⟨w ++ [h], less ls h, k2, some (.int i), some (.int h), rfl, Ex.mut (Ex.mut (e.trans e3) hwH) hlH, ?_, ?_, ?_, by simp [hwl], f3, ?_, by rw [less_len]; exact hlen⟩⟩
    · rw [upd_ne (Ne.symm hlw), upd_same, List.map_append]
      rfl
    · rw [upd_same]
      unfold less
      rw [← map_set]
      congr 3
      show V.int _ = V.int _
      congr 1
      omega
    · have : cs.length - 2 - i = (cs.length - 2 - (i + 1)) + 1 := by omega
      rw [← hdig, this]
      simp [wordWith, hfo]
    · have := less_sum f2'
      show (less ls h).sum = _
      omega
  · rintro σ H' ⟨w, ls, k', y4, y5, rfl, e, hw, hls, hdig, hwl, hk', hsum, hlen⟩
    have h0 : cs.length - 2 - ((cs.length : Int) - 2).toNat = 0 := by omega
    rw [h0] at hdig
    have hwd : w = wordWith (cs.length - 2) (standsN cs) k := by
      rw [← hdig]; simp [wordWith]
    have hfit := wordWith_fits (cs.length - 2) (standsN cs) k s5 hkw
    refine kR _ _ ?_
    walk_at "ev"
    refine ⟨a, _, rfl, .inl (ex_l e hS), ?_⟩
    rw [List.length_map]
    refine ⟨_, cs.length, w, rfl, .lst (SqL.of hw) (nats_dpa _), c1, by omega, by rw [hwd, wordWith_len], ?_, fun p xs H2 hp e2 h2 h3 => ?_⟩
    · intro x hx
      rw [hwd] at hx
      have := hfit.1 x hx
      omega
    · rw [hwd] at h3
      exact q3 cs k rfl c1 c2 c3 rfl hk p xs H2 (fresh_back e hp) (e.trans e2) h2 h3
end
end TW
namespace TW
open PySem PySem.Spec PyProof.Rows L2 Evl
local macro_rules | `(tactic| walk_at "ev") => `(tactic| try simp only [tSeq, tNext, tRet, tRetN, tDrop, tAsg, gName, gSub, gTup, gCons, gNil, tIfS, tAndV, tOrV, tNotV, tAnd, tOr, tNot, tCB, tCons, tNil, tC, tTest, tB, tOp, tUn, tCall, tIf, tTup, tLst, tIsTh, tChain, tBM, tBM0, tAug, tAugS, tYes, tRaise, tPar, tSl, tPart, tNoPart, tRevL, rI0, rI, rU, ipI, tVar, E0,
  List.getElem?_cons_zero, List.getElem?_cons_succ, List.set_cons_zero, List.set_cons_succ, Option.some.injEq, exists_eq_left', exists_eq_left, V.int.injEq, V.bl.injEq, V.ref.injEq, List.cons.injEq, and_true, true_and, exists_and_left, List.cons_append, List.nil_append, List.append_nil, exists_eq, exists_const, and_assoc, exists_eq_right, if_true, if_false, Bool.not_true, Bool.not_false, Bool.false_eq_true, if_pos])
section
variable {K : PySem.W.Frag} {c : Cs} {vs : List V} {H H' : Hp} {Q : VK} {E : XK}
theorem lc_ev {tl : TE} {g : TG} {tt : TT} {te : TE} {is : List Nat} {σ : L2.St} (h : tl σ H fun v H1 => tLc (iList K (tC v)) g tt te is σ H1 Q) : tLc (iList K tl) g tt te is σ H Q := h
theorem for_ev {tl : TE} {g : TG} {tb : TS} {D : Ends} {σ : L2.St} (h : tl σ H fun v H1 => tFor (iList K (tC v)) g tb D σ H1) : tFor (iList K tl) g tb D σ H := h
/-! ### number_with -/
def sp_number_with (K : PySem.W.Frag) (c : Cs) : Sp := fun vs H Q E => ∃ (v1 v2 : V) (d1 d2 : Option PyData), vs = [v1, v2] ∧ Th K H v1 d1 ∧ Th K H v2 d2 ∧ SzOk d2 ∧
  Chk3 c d1 d2 H E fun n rs => ∀ H', Ex H H' → Q (.int (numWith (code n (n - 2) rs) (degs n rs) : Nat)) H'
abbrev N_number_with : List Str := ["houses", "roads", "word", "left", "others", "found", "house"]
def t_number_with (K : PySem.W.Frag) (c : Cs) (E : XK) : TS := tSeq (tAsg (tCall (sp_word_of K c) [] E (tCons (tVar 0) (tCons (tVar 1) tNil))) (gName 2)) (tSeq (tAsg (tIf (tTest (tOp rGt (tVar 0) (tC (.int 1)))) (tLc (iList K (tCall (sp_neighbours_of K) [] E0 (tCons (tVar 0) (tCons (tVar 1) tNil)))) (gName 4) tYes (tOp rSub (tCB (Evl.rLenS K) (tCons (tVar 4) tNil)) (tC (.int 1))) [4]) (tLst (tCons (tC (.int 0)) tNil))) (gName 3)) (tSeq (tAsg (tC (.int 0)) (gName 5)) (tSeq (tFor (iList K (tVar 2)) (gName 6) (tSeq (tAug 5 (tOp rDiv (tOp rMul (tCall (sp_ways_of K) [] E0 (tCons (tVar 3) tNil)) (tCB (rSum K) (tCons (tSl (rSlL K) (tVar 3) tNoPart (tPart (tVar 6))) tNil))) (tCB (rSum K) (tCons (tVar 3) tNil))) (ipI fun i j => i + j)) (tAugS (tVar 3) (tVar 6) (tC (.int 1)) (rIxL K) (ipI fun i j => i - j) rSetL))) (tRet (tVar 5)))))
theorem len_number_with (h : sp_number_with K c vs H Q E) : vs.length = 2 := by
  obtain ⟨_, _, _, _, rfl, _⟩ := h
  rfl
theorem cut_take (xs : List V) (h : Nat) (hl : h ≤ xs.length) : cutV xs none (some (h : Int)) = xs.take h := by
  unfold cutV
  rw [HT.sIx_none, HT.sIx_nat, Nat.min_eq_left hl]
  rfl
theorem degs_len (n : Nat) (rs : List Ed) (h1 : 1 ≤ n) : (degs n rs).length = n := by
  unfold degs
  split
  · simp; omega
  · simp
theorem pure_number_with (h : sp_number_with K c vs H Q E) : t_number_with K c E { nx := fun _ H' => Q .non H', rt := Q } (start N_number_with vs) H := by
  obtain ⟨v1, v2, d1, d2, rfl, t1, t2, hz, hc⟩ := h
  show t_number_with K c E _ [some v1, some v2, none, none, none, none, none] H
  unfold t_number_with
  refine seqC fun R kR => ?_
  refine ⟨v1, rfl, v2, rfl, v1, v2, d1, d2, rfl, t1, t2, hz, ⟨hc.bh, hc.br, hc.nt, fun n rs e1 n1 n2 e2 hr ht p H1 hp ex1 h1 => kR _ _ ?_⟩⟩
  subst e1
  have hv := th_int t1
  subst hv
  subst e2
  have hq := hc.ok n rs rfl n1 n2 rfl hr ht
  have hT := (isTree_iff hr n1).mp ht
  have hR := th_dp t2
  have hzl : rs.length ≤ 10000 := by
    have := (hz _ rfl).1
    simpa using this
  have hne : ∀ e ∈ rs, e.1 ≠ e.2 := fun e he => Nat.ne_of_lt (hr.lt e he).1
  have hfits := degs_fits n1 hT
  have hdl := degs_len n rs n1
  refine seqC fun R2 kR2 => ?_
  -- left is laid
  have key : ∀ l H2, H1 l = none → Ex H1 H2 → H2 l = some (.lst ((degs n rs).map nV)) → R2 [some (.int n), some v2, some (.ref p), some (.ref l), none, none, none] H2 := by
    intro l H2 hl e2 h2
    refine kR2 _ _ ?_
    refine seqC fun R kR => ?_
    walk_at "ev"
    refine kR _ _ ?_
    refine seqC fun R kR => ?_
    have hpl : p ≠ l := ne_of_none h1 hl
    refine forL (K := K) (a := p) (xs := (code n (n - 2) rs).map nV) (fun i σ H' => ∃ (f : Nat) (ls : List Nat) (y6 : Option V), σ = [some (.int n), some v2, some (.ref p), some (.ref l), none, some (.int f), y6] ∧ Ex H1 H' ∧ H' l = some (.lst (ls.map nV)) ∧
        f + numWith ((code n (n - 2) rs).drop i) ls = numWith (code n (n - 2) rs) (degs n rs) ∧ Fits ((code n (n - 2) rs).drop i) ls ∧ ls.length = n)
      (fun Q' kk => ⟨_, rfl, kk _ (Ex.refl _) (ex_l e2 (SqL.of h1)) ⟨0, degs n rs, none, rfl, e2, h2, by simp, hfits, hdl⟩⟩) (fun i σ H' _ ⟨_, _, _, _, e, _⟩ => ex_l e (SqL.of h1)) ?_ ?_
    · rintro i x σ H' Nx hi ⟨f, ls, y6, rfl, e, hls, hnum, hfit, hlen⟩ kx
      obtain ⟨h, hh, rfl⟩ := item_nat hi
      obtain ⟨hil, hie⟩ := List.getElem?_eq_some_iff.mp hh
      have hcl : (code n (n - 2) rs).length = n - 2 := code_len _ _ _
      have hdr : (code n (n - 2) rs).drop i = h :: (code n (n - 2) rs).drop (i + 1) := by
        rw [← hie]; exact List.drop_eq_getElem_cons hil
      rw [hdr] at hnum hfit
      have hsum := fits_sum _ _ hfit
      simp at hsum
      obtain ⟨hp0, hnext⟩ := fits_next hfit
      have hhl := hfit.1 h (by simp)
      have hat : atI (ls.map nV) (h : Int) = some (nV (ls.getD h 0)) := atI_nat (by
        rw [List.getElem?_map, List.getElem?_eq_getElem hhl]
        simp [List.getD_eq_getElem?_getD, hhl])
      have htk : (ls.take h).sum ≤ ls.sum := by
        conv => rhs; rw [← List.take_append_drop h ls, List.sum_append]
        omega
      walk_at "ev"
      refine ⟨l, ls, rfl, SqL.of hls, by omega, fun H3 e3 => ?_⟩
      have hcut : cutV (ls.map nV) none (some (h : Int)) = ((ls.take h).map fun (n : Nat) => (n : Int)).map V.int := by
        rw [cut_take _ _ (by simp; omega), ← nat_ints, List.map_take]
      refine ⟨l, _, rfl, SqL.of (e3 _ _ hls), fun t ht => ⟨t, _, rfl, SqL.of (by rw [upd_same, hcut]), _, rfl, _, rfl, ?_⟩⟩
      rw [sum_cast]
      have hls2 : (upd H3 t (.lst (cutV (ls.map nV) none (some (h : Int))))) l = some (.lst (ls.map nV)) := by
        rw [upd_ne (ne_of_none (e3 _ _ hls) ht)]
        exact e3 _ _ hls
      refine ⟨.inr ⟨by omega, by omega⟩, l, _, rfl, SqL.of (by rw [hls2, nat_ints]), _, rfl, ?_⟩
      rw [sum_cast]
      have hbef : ((waysOf ls : Nat) : Int) * (((ls.take h).sum : Nat) : Int) / ((ls.sum : Nat) : Int) = (before ls h : Nat) := by
        unfold before
        rw [Int.natCast_ediv, Int.natCast_mul]
      rw [hbef]
      refine ⟨⟨by omega, by omega⟩, l, _, _, _, rfl, rfl, SqL.of hls2, hat, _, rfl, l, _, _, h, rfl, rfl, hls2, ixN_nat (by simpa using hhl), ?_⟩
      refine kx _ _ ⟨f + before ls h, less ls h, some (nV h), by rw [Int.natCast_add], Ex.mut ((e.trans e3).trans (Ex.new ht)) hl, ?_, ?_, hnext, by rw [less_len]; exact hlen⟩
      · rw [upd_same]
        unfold less
        rw [← map_set]
        congr 3
        show V.int _ = V.int _
        congr 1
        omega
      · rw [← hnum]
        simp [numWith]
        omega
    · rintro σ H' ⟨f, ls, y6, rfl, e, hls, hnum, hfit, hlen⟩
      rw [List.length_map, List.drop_length] at hnum
      simp [numWith] at hnum
      refine kR _ _ ⟨_, rfl, ?_⟩
      rw [hnum]
      exact hq H' (ex1.trans e)
  walk_at "ev"
  by_cases h2 : 1 < n
  · rw [if_pos (by simp; omega)]
    have hdp := dp_ex ex1 hR
    refine lc_ev ?_
    walk_at "ev"
    refine ⟨v2, n, rs, rfl, hdp, hr, by omega, hzl, fun a H2 ha e2 hD => ?_⟩
    obtain ⟨xs, hX, hxl, hrow⟩ := row_of hD
    refine lcL (K := K) (a := a) (xs := xs) (fun _ i u _ => u = .int ((deg rs i : Int) - 1)) (cr_flat fun i => .int ((deg rs i : Int) - 1)) (fun _ => true) (fun Q' k => k H2 (Ex.refl H2) hX) (by omega) (fun i z D H' Q' hi e k => ?_) (fun l ys H3 hl e3 hl3 hall => ?_)
    · refine k _ H' (Ex.refl H') rfl (fun Q'' q'' => q'' H' (Ex.refl H')) (fun _ H3 e3 Q'' k2 => ?_)
      have hi2 : i < n := by rw [← hxl]; exact (List.getElem?_eq_some_iff.mp hi).1
      obtain ⟨ra, h1, h2⟩ := hrow i hi2
      have h5 : z = .ref ra := by
        have := atI_nat hi
        rw [h1] at this
        exact (Option.some.inj this).symm
      subst h5
      show tOp _ _ _ [some (V.int n), some v2, some (V.ref p), none, some (V.ref ra), none, none] H3 Q''
      walk_at "ev"
      refine ⟨ra, _, rfl, .inl (ex_l (e.trans e3) h2), _, rfl, k2 _ H3 (Ex.refl H3) fun _ _ => ?_⟩
      rw [List.length_map, nbrs_length hne]
    · have e4 := hall.eq
      rw [picks_all, hxl] at e4
      refine key l H3 (fresh_back e2 hl) (e2.trans e3) ?_
      rw [hl3, e4]
      unfold degs
      rw [if_neg (by omega), List.map_map]
      congr 2
      apply List.map_congr_left
      intro v hv
      have := hT.deg_pos (by simp; omega) v hv
      show V.int ((deg rs v : Int) - 1) = V.int ((deg rs v - 1 : Nat) : Int)
      congr 1
      omega
  · rw [if_neg (by simp; omega)]
    refine ⟨one_le, fun l hl => key l _ hl (Ex.new hl) ?_⟩
    rw [upd_same]
    unfold degs
    rw [if_pos (by omega)]
    rfl
/-! ### way -/
theorem came_leads {n b : Nat} {rs dl F : List _} {rk : Nat → Nat} (i : DI n rs b (fun _ => False) (cameFrom n rs b, []) dl F rk) : Leads (cameFrom n rs b) (fun v => v ∈ dl) rk n := by
  have hle : dl.length ≤ n := by
    have h1 := i.tree.nodup.length_le_of_subset (l₂ := List.range n) (fun v hv => List.mem_range.mpr (i.lt v hv))
    simpa using h1
  refine ⟨i.len, i.lt, fun v hv => Nat.lt_of_lt_of_le (i.rkl v hv) hle, fun v hv hne => ?_⟩
  have hvb : v ≠ b := fun z => hne (by rw [z]; exact i.root.2)
  obtain ⟨u, hu, e, _, hr⟩ := i.par v hv hvb
  exact ⟨u, e, hu, hr⟩
theorem tree_all {n b : Nat} {rs dl F : List _} {rk : Nat → Nat} (hr : Roads n rs) (t : IsT (List.range n) rs) (i : DI n rs b (fun _ => False) (cameFrom n rs b, []) dl F rk) {v : Nat} (hv : v < n) : v ∈ dl := by
  have ne : ∀ e ∈ rs, e.1 ≠ e.2 := fun e he => Nat.ne_of_lt (hr.lt e he).1
  refine t.closed (fun v => v ∈ dl) (fun e he => ?_) b (List.mem_range.mpr (i.lt b i.root.1)) i.root.1 v (List.mem_range.mpr hv)
  constructor
  · intro h
    rcases i.cl e.1 h with q | q | q
    · simp at q
    · exact q.elim
    · exact q e.2 ((mem_nbrs ne).mpr (.inl he))
  · intro h
    rcases i.cl e.2 h with q | q | q
    · simp at q
    · exact q.elim
    · exact q e.1 ((mem_nbrs ne).mpr (.inr he))
/-- the way from a to b -/
def wayW (n : Nat) (rs : List Ed) (a b : Nat) : List Nat := (upW (cameFrom n rs a) n b).reverse
def sp_way (K : PySem.W.Frag) (c : Cs) : Sp := fun vs H Q E => ∃ (v1 v2 v3 v4 : V) (d1 d2 d3 d4 : Option PyData), vs = [v1, v2, v3, v4] ∧ Th K H v1 d1 ∧ Th K H v2 d2 ∧ Th K H v3 d3 ∧ Th K H v4 d4 ∧ SzOk d2 ∧
  Chk3 c d1 d2 H E fun n rs => ((isNum d3 0 ((n : Int) - 1) && isNum d4 0 ((n : Int) - 1)) = false → ∀ H', Ex H H' → E (.ref c.BadHouse) none H') ∧
    ∀ a b : Nat, d3 = some (.int a) → d4 = some (.int b) → a < n → b < n → ∀ p H', H p = none → Ex H H' → H' p = some (.lst ((wayW n rs a b).map nV)) → Q (.ref p) H'
abbrev N_way : List Str := ["houses", "roads", "one", "other"]
def t_way (K : PySem.W.Frag) (c : Cs) (E : XK) : TS := tSeq (tDrop (tCall (sp_check_houses K c) [] E (tCons (tVar 0) tNil))) (tSeq (tDrop (tCall (sp_check_roads K c) [] E (tCons (tVar 0) (tCons (tVar 1) tNil)))) (tSeq (tDrop (tCall (sp_check_tree K c) [] E (tCons (tVar 0) (tCons (tVar 1) tNil)))) (tSeq (tIfS (tOr (tNot (tB (tCall (sp_is_number K) [] E0 (tCons (tVar 2) (tCons (tC (.int 0)) (tCons (tOp rSub (tVar 0) (tC (.int 1))) tNil)))))) (tNot (tB (tCall (sp_is_number K) [] E0 (tCons (tVar 3) (tCons (tC (.int 0)) (tCons (tOp rSub (tVar 0) (tC (.int 1))) tNil))))))) (tRaise E (.ref c.BadHouse)) tNext) (tRet (tCall (sp_way_by K) [] E0 (tCons (tCall (sp_came_from K) [] E0 (tCons (tVar 0) (tCons (tVar 1) (tCons (tVar 2) tNil)))) (tCons (tVar 3) tNil)))))))
theorem len_way (h : sp_way K c vs H Q E) : vs.length = 4 := by
  obtain ⟨_, _, _, _, _, _, _, _, rfl, _⟩ := h
  rfl
theorem pure_way (h : sp_way K c vs H Q E) : t_way K c E { nx := fun _ H' => Q .non H', rt := Q } (start N_way vs) H := by
  obtain ⟨v1, v2, v3, v4, d1, d2, d3, d4, rfl, t1, t2, t3, t4, hz, hc⟩ := h
  show t_way K c E _ [some v1, some v2, some v3, some v4] H
  unfold t_way
  refine chk3_walk rfl rfl t1 t2 hz hc fun n rs H' hv n1 n2 hd hr ht hl g e => ?_
  subst hv
  refine seqC fun R kR => ?_
  walk_at "ev"
  refine ⟨v3, d3, 0, (n : Int) - 1, rfl, t3.ex e, _, rfl, ?_⟩
  cases h3 : isNum d3 0 ((n : Int) - 1) with
  | false => exact iteT (g.1 (by rw [h3]; rfl) H' e)
  | true =>
    refine iteF ⟨v4, d4, 0, (n : Int) - 1, rfl, t4.ex e, _, rfl, ?_⟩
    cases h4 : isNum d4 0 ((n : Int) - 1) with
    | false => exact iteT (g.1 (by rw [h4, Bool.and_false]) H' e)
    | true =>
      refine iteF (kR _ _ ?_)
      obtain ⟨a, rfl, ha⟩ := isNum_nat h3
      obtain ⟨b, rfl, hb⟩ := isNum_nat h4
      have hv := th_int t3
      subst hv
      have hv := th_int t4
      subst hv
      obtain ⟨dl, F, rk, i⟩ := came_spec hr ha
      walk_at "ev"
      refine ⟨v2, n, a, rs, rfl, hd, hr, by omega, hl, ha, fun p H2 hp e2 h2 => ?_⟩
      walk_at "ev"
      exact ⟨p, _, b, n, _, rk, rfl, SqL.of h2, came_leads i, tree_all hr ((isTree_iff hr n1).mp ht) i hb, by omega, fun p' H3 hp' e3 h3 => g.2 a b rfl rfl ha hb p' H3 (fresh_back (e.trans e2) hp') ((e.trans e2).trans e3) h3⟩
end
end TW
namespace TW
open PySem PySem.Spec PyProof.Rows L2 Evl
local macro_rules | `(tactic| walk_at "ev") => `(tactic| try simp only [tSeq, tNext, tRet, tRetN, tDrop, tAsg, gName, gSub, gTup, gCons, gNil, tIfS, tAndV, tOrV, tNotV, tAnd, tOr, tNot, tCB, tCons, tNil, tC, tTest, tB, tOp, tUn, tCall, tIf, tTup, tLst, tIsTh, tChain, tBM, tBM0, tAug, tAugS, tYes, tRaise, tPar, tSl, tPart, tNoPart, tRevL, rI0, rI, rU, ipI, tVar, E0,
  List.getElem?_cons_zero, List.getElem?_cons_succ, List.set_cons_zero, List.set_cons_succ, Option.some.injEq, exists_eq_left', exists_eq_left, V.int.injEq, V.bl.injEq, V.ref.injEq, List.cons.injEq, and_true, true_and, exists_and_left, List.cons_append, List.nil_append, List.append_nil, exists_eq, exists_const, and_assoc, exists_eq_right, if_true, if_false, Bool.not_true, Bool.not_false, Bool.false_eq_true, if_pos])
section
variable {K : PySem.W.Frag} {c : Cs} {vs : List V} {H H' : Hp} {Q : VK} {E : XK}
/-! ### told, where it refuses -/
def sp_told (K : PySem.W.Frag) (c : Cs) : Sp := fun vs H Q E => ∃ (v1 v2 : V) (d1 d2 : Option PyData), vs = [v1, v2] ∧ Th K H v1 d1 ∧ Th K H v2 d2 ∧ SzOk d2 ∧ Chk2 c d1 d2 H E fun _ _ => False
abbrev N_told : List Str := ["houses", "roads", "ahead", "house"]
def t_told (K : PySem.W.Frag) (c : Cs) (E : XK) : TS := tSeq (tDrop (tCall (sp_check_houses K c) [] E (tCons (tVar 0) tNil))) (tSeq (tDrop (tCall (sp_check_roads K c) [] E (tCons (tVar 0) (tCons (tVar 1) tNil)))) tNever)
theorem len_told (h : sp_told K c vs H Q E) : vs.length = 2 := by
  obtain ⟨_, _, _, _, rfl, _⟩ := h
  rfl
theorem pure_told (h : sp_told K c vs H Q E) : t_told K c E { nx := fun _ H' => Q .non H', rt := Q } (start N_told vs) H := by
  obtain ⟨v1, v2, d1, d2, rfl, t1, t2, hz, hc⟩ := h
  show t_told K c E _ [some v1, some v2, none, none] H
  unfold t_told
  exact chk2_walk rfl rfl t1 t2 hz hc fun n rs H' hv n1 n2 hd hr hl g e => g
/-! ### led, where it refuses, or there is nothing to lead -/
structure Chk5 (c : Cs) (d1 d2 d3 : Option PyData) (H : Hp) (E : XK) (good : Nat → List Ed → List Ed → Prop) : Prop where
  bh : okH d1 = false → E (.ref c.BadHouses) none H
  br : ∀ n : Nat, d1 = some (.int n) → 1 ≤ n → n ≤ 200 → okR d2 n = false → ∀ H', Ex H H' → E (.ref c.BadRoads) none H'
  br2 : ∀ (n : Nat) (rs : List Ed), d1 = some (.int n) → 1 ≤ n → n ≤ 200 → d2 = some (encR rs) → Roads n rs → okR d3 n = false → ∀ H', Ex H H' → E (.ref c.BadRoads) none H'
  nt : ∀ (n : Nat) (rs os : List Ed), d1 = some (.int n) → 1 ≤ n → n ≤ 200 → d2 = some (encR rs) → Roads n rs → d3 = some (encR os) → Roads n os → (isTreeB n rs && isTreeB n os) = false → ∀ H', Ex H H' → E (.ref c.NoTree) none H'
  ok : ∀ (n : Nat) (rs os : List Ed), d1 = some (.int n) → 1 ≤ n → n ≤ 200 → d2 = some (encR rs) → Roads n rs → d3 = some (encR os) → Roads n os → isTreeB n rs = true → isTreeB n os = true → good n rs os
def sp_led (K : PySem.W.Frag) (c : Cs) : Sp := fun vs H Q E => ∃ (v1 v2 v3 : V) (d1 d2 d3 : Option PyData), vs = [v1, v2, v3] ∧ Th K H v1 d1 ∧ Th K H v2 d2 ∧ Th K H v3 d3 ∧ SzOk d2 ∧ SzOk d3 ∧
  Chk5 c d1 d2 d3 H E fun n rs os => os = [] ∧ ∀ p H', H p = none → Ex H H' → H' p = some (.lst []) → Q (.ref p) H'
abbrev N_led : List Str := ["houses", "roads", "others", "now", "found", "road", "houses_on", "steps", "at", "out", "step"]
def t_led (K : PySem.W.Frag) (c : Cs) (E : XK) : TS := tSeq (tDrop (tCall (sp_check_houses K c) [] E (tCons (tVar 0) tNil))) (tSeq (tDrop (tCall (sp_check_roads K c) [] E (tCons (tVar 0) (tCons (tVar 1) tNil)))) (tSeq (tDrop (tCall (sp_check_roads K c) [] E (tCons (tVar 0) (tCons (tVar 2) tNil)))) (tSeq (tDrop (tCall (sp_check_tree K c) [] E (tCons (tVar 0) (tCons (tVar 1) tNil)))) (tSeq (tDrop (tCall (sp_check_tree K c) [] E (tCons (tVar 0) (tCons (tVar 2) tNil)))) (tSeq (tAsg (tCB (Evl.rListS K) (tCons (tVar 1) tNil)) (gName 3)) (tSeq (tAsg (tLst tNil) (gName 4)) (tSeq (tFor (iList K (tCB (rSortedPO K) (tCons (tVar 2) tNil))) (gName 5) tNever) (tRet (tVar 4)))))))))
theorem len_led (h : sp_led K c vs H Q E) : vs.length = 3 := by
  obtain ⟨_, _, _, _, _, _, rfl, _⟩ := h
  rfl
theorem pure_led (h : sp_led K c vs H Q E) : t_led K c E { nx := fun _ H' => Q .non H', rt := Q } (start N_led vs) H := by
  obtain ⟨v1, v2, v3, d1, d2, d3, rfl, t1, t2, t3, hz2, hz3, hc⟩ := h
  show t_led K c E _ [some v1, some v2, some v3, none, none, none, none, none, none, none, none] H
  unfold t_led
  refine chk2_walk (good := fun n rs => d1 = some (.int n) ∧ d2 = some (encR rs)) rfl rfl t1 t2 hz2 ⟨hc.bh, hc.br, fun _ _ h1 _ _ h2 _ => ⟨h1, h2⟩⟩ fun n rs H1 hv n1 n2 hd hr hl h12 e1 => ?_
  subst hv
  obtain ⟨hd1, hd2⟩ := h12
  refine seqC fun R kR => ⟨_, rfl, v3, rfl, v3, d3, n, rfl, t3.ex e1, hz3, fun hb2 H2 e2 => kR _ _ ?_, fun hb H2 e2 => hc.br2 n rs hd1 n1 n2 hd2 hr hb H2 (e1.trans e2)⟩
  obtain ⟨os, rfl, ho⟩ := okR_some hb2
  have hdo := dp_ex (e1.trans e2) (th_dp t3)
  have hol : os.length ≤ 10000 := by
    have := (hz3 _ rfl).1
    simpa using this
  refine seqC fun R kR => ⟨_, rfl, v2, rfl, v2, n, rs, rfl, dp_ex e2 hd, hr, n1, by omega, hl, fun hb H3 e3 => kR _ _ ?_, fun hb H3 e3 => hc.nt n rs os hd1 n1 n2 hd2 hr rfl ho (by rw [hb]; rfl) H3 ((e1.trans e2).trans e3)⟩
  refine seqC fun R kR => ⟨_, rfl, v3, rfl, v3, n, os, rfl, dp_ex e3 hdo, ho, n1, by omega, hol, fun hb' H4 e4 => kR _ _ ?_, fun hb' H4 e4 => hc.nt n rs os hd1 n1 n2 hd2 hr rfl ho (by rw [hb', Bool.and_false]) H4 (((e1.trans e2).trans e3).trans e4)⟩
  obtain ⟨rfl, g⟩ := hc.ok n rs os hd1 n1 n2 hd2 hr rfl ho hb hb'
  have e14 := ((e1.trans e2).trans e3).trans e4
  have hdr := dp_ex ((e2.trans e3).trans e4) hd
  have hdo' := dp_ex (e3.trans e4) hdo
  obtain ⟨a, xs, rfl, hS, hA⟩ := dp_list hdr
  refine seqC fun R kR => ?_
  walk_at "ev"
  refine ⟨a, xs, rfl, .inl hS, fun l hl => kR _ _ ?_⟩
  refine seqC fun R kR => ?_
  walk_at "ev"
  refine ⟨Nat.zero_le _, fun f hf => kR _ _ ?_⟩
  obtain ⟨b, ys, rfl, hS', hA'⟩ := dp_list hdo'
  cases hA'
  have e16 := (e14.trans (Ex.new (o := .lst xs) hl)).trans (Ex.new (o := .lst []) hf)
  refine seqC fun R kR => ?_
  refine for_ev ?_
  walk_at "ev"
  refine sorted_own (rs := []) (ex_l ((Ex.new hl).trans (Ex.new hf)) hS') .nil fun ys p hp ho => ?_
  cases ho
  refine forL (K := K) (a := p) (xs := []) (fun i σ H' => σ = [some (.int n), some (.ref a), some (.ref b), some (.ref l), some (.ref f), none, none, none, none, none, none] ∧ Ex H H' ∧ H' f = some (.lst []) ∧ SqL K H' p [])
    (fun Q' k => k _ (Ex.refl _) (SqL.of upd_same) ⟨rfl, e16.trans (Ex.new hp), by rw [upd_ne (ne_of_none upd_same hp), upd_same], SqL.of upd_same⟩) (fun i σ H' _ ⟨_, _, _, h⟩ => h) (fun i x σ H' Nx hi => by simp at hi) ?_
  rintro σ H' ⟨rfl, e, h, _⟩
  exact kR _ _ ⟨_, rfl, g f H' (fresh_back (e14.trans (Ex.new hl)) hf) e h⟩
end
end TW
namespace TW
open PySem PySem.Spec PyProof.Rows L2 Evl
section
variable {K : PySem.W.Frag} {σ : L2.St} {H H' : Hp} {te ta tb : TE} {ts us : TA}
abbrev ThA (K : PySem.W.Frag) (H : Hp) (ds : List (Option PyData)) (vs : List V) : Prop := All2 (fun d v => Th K H v d) ds vs
theorem ThA.ex {ds : List (Option PyData)} {vs : List V} (e : Ex H H') (h : ThA K H ds vs) : ThA K H' ds vs := All2.imp h fun _ _ t => t.ex e
theorem ThA.dpa {vs : List V} : ∀ {ds : List PyData}, ThA K H (ds.map some) vs → DpAll K H vs ds := by
  induction vs with
  | nil =>
    intro ds h
    cases ds with
    | nil => exact .nil
    | cons d ds => cases h
  | cons v vs ih =>
    intro ds h
    cases ds with
    | nil => cases h
    | cons d ds =>
      cases h with
      | cons h1 h2 => exact .cons (th_dp h1) (ih h2)
def EvT (K : PySem.W.Frag) (te : TE) (σ : L2.St) (H : Hp) (d : Option PyData) : Prop := ∀ H1, Ex H H1 → ∀ Q : VK, (∀ v H2, Ex H1 H2 → Th K H2 v d → Q v H2) → te σ H1 Q
def EvTs (K : PySem.W.Frag) (ta : TA) (σ : L2.St) (H : Hp) (ds : List (Option PyData)) : Prop := ∀ H1, Ex H H1 → ∀ Q : List V → Hp → Prop, (∀ vs H2, Ex H1 H2 → ThA K H2 ds vs → Q vs H2) → ta σ H1 Q
/-- a list of things, its own cell -/
def EvY (K : PySem.W.Frag) (te : TE) (σ : L2.St) (H : Hp) (ds : List (Option PyData)) : Prop := ∀ H1, Ex H H1 → ∀ Q : VK, (∀ p xs H2, H1 p = none → Ex H1 H2 → H2 p = some (.lst xs) → ThA K H2 ds xs → Q (.ref p) H2) → te σ H1 Q
theorem evt_nil : EvTs K tNil σ H [] := fun H1 e Q q => q [] H1 (Ex.refl H1) .nil
theorem evt_cons {d : Option PyData} {ds : List (Option PyData)} (h : EvT K te σ H d) (hs : EvTs K ts σ H ds) : EvTs K (tCons te ts) σ H (d :: ds) := fun H1 e Q q =>
  h H1 e _ fun v H2 e2 t => hs H2 (e.trans e2) _ fun vs H3 e3 t3 => q _ H3 (e2.trans e3) (.cons (t.ex e3) t3)
theorem evt_int {i : Int} : EvT K (tC (.int i)) σ H (some (.int i)) := fun H1 e Q q => q _ H1 (Ex.refl H1) (.dp (.int i))
theorem evt_bl {b : Bool} : EvT K (tC (.bl b)) σ H (some (.bool b)) := fun H1 e Q q => q _ H1 (Ex.refl H1) (.dp (.bl b))
theorem evt_str {s : Str} : EvT K (tC (.str s)) σ H (some (.str s)) := fun H1 e Q q => q _ H1 (Ex.refl H1) (.dp (.str s))
theorem evt_non : EvT K (tC .non) σ H (some .none) := fun H1 e Q q => q _ H1 (Ex.refl H1) (.dp .non)
theorem evt_dict : EvT K tDNewK σ H none := fun H1 e Q q p hp => q _ _ (Ex.new hp) (.dict upd_same)
theorem evt_var {i : Nat} {v : V} {d : Option PyData} (h : σ[i]? = some (some v)) (t : Th K H v d) : EvT K (tVar i) σ H d := fun H1 e Q q => ⟨v, h, q v H1 (Ex.refl H1) (t.ex e)⟩
theorem evt_neg {i : Int} (h : EvT K te σ H (some (.int i))) : EvT K (tUn rNeg te) σ H (some (.int (-i))) := fun H1 e Q q => h H1 e _ fun v H2 e2 t => ⟨i, th_int t, q _ H2 e2 (.dp (.int _))⟩
theorem evt_sub {i j : Int} (h : EvT K ta σ H (some (.int i))) (h' : EvT K tb σ H (some (.int j))) : EvT K (tOp rSub ta tb) σ H (some (.int (i - j))) := fun H1 e Q q =>
  h H1 e _ fun v H2 e2 t => h' H2 (e.trans e2) _ fun v' H3 e3 t' => ⟨i, j, th_int t, th_int t', q _ H3 (e2.trans e3) (.dp (.int _))⟩
theorem evt_add {i j : Int} (h : EvT K ta σ H (some (.int i))) (h' : EvT K tb σ H (some (.int j))) : EvT K (tOp rAdd ta tb) σ H (some (.int (i + j))) := fun H1 e Q q =>
  h H1 e _ fun v H2 e2 t => h' H2 (e.trans e2) _ fun v' H3 e3 t' => ⟨i, j, th_int t, th_int t', q _ H3 (e2.trans e3) (.dp (.int _))⟩
theorem evt_mod {i j : Int} (h : EvT K ta σ H (some (.int i))) (h' : EvT K tb σ H (some (.int j))) (hj : 0 < j) : EvT K (tOp rMod ta tb) σ H (some (.int (i % j))) := fun H1 e Q q =>
  h H1 e _ fun v H2 e2 t => h' H2 (e.trans e2) _ fun v' H3 e3 t' => ⟨i, j, th_int t, th_int t', hj, q _ H3 (e2.trans e3) (.dp (.int _))⟩
theorem evt_lst {ds : List PyData} (h : EvTs K ts σ H (ds.map some)) (hz : ds.length ≤ 10000) : EvT K (tLst ts) σ H (some (.list ds)) := fun H1 e Q q =>
  h H1 e _ fun vs H2 e2 t => ⟨by have := t.len; rw [List.length_map] at this; rw [← this]; exact Nat.le_of_lt (sz_lt (by omega)), fun p hp => q _ _ (e2.trans (Ex.new hp)) (.dp (.lst (SqL.of upd_same) (dpa_ex (Ex.new hp) t.dpa)))⟩
theorem evt_tup {ds : List PyData} (h : EvTs K ts σ H (ds.map some)) (hz : ds.length ≤ 10000) : EvT K (tTup ts) σ H (some (.tuple ds)) := fun H1 e Q q =>
  h H1 e _ fun vs H2 e2 t => ⟨by have := t.len; rw [List.length_map] at this; rw [← this]; exact Nat.le_of_lt (sz_lt (by omega)), fun p hp => q _ _ (e2.trans (Ex.new hp)) (.dp (.tup (SqT.of upd_same) (dpa_ex (Ex.new hp) t.dpa)))⟩
theorem evy_lst {ds : List (Option PyData)} (h : EvTs K ts σ H ds) (hz : ds.length ≤ 10000) : EvY K (tLst ts) σ H ds := fun H1 e Q q =>
  h H1 e _ fun vs H2 e2 t => ⟨by have := t.len; rw [← this]; exact Nat.le_of_lt (sz_lt (by omega)), fun p hp => q p vs _ (fresh_back e2 hp) (e2.trans (Ex.new hp)) upd_same (t.ex (Ex.new hp))⟩
theorem evy_cat {ds es : List (Option PyData)} (h : EvY K ta σ H ds) (h' : EvY K tb σ H es) (hz : ds.length + es.length ≤ 10000) : EvY K (tOp rCat ta tb) σ H (ds ++ es) := fun H1 e Q q =>
  h H1 e _ fun p xs H2 hp e2 h2 t2 => h' H2 (e.trans e2) _ fun p' ys H3 hp' e3 h3 t3 => ⟨p, p', xs, ys, rfl, rfl, e3 _ _ h2, h3, by have := t2.len; have := t3.len; exact Nat.le_of_lt (sz_lt (by omega)), fun r hr => q r _ _ (fresh_back (e2.trans e3) hr) ((e2.trans e3).trans (Ex.new hr)) upd_same ((t2.ex (e3.trans (Ex.new hr))).app (t3.ex (Ex.new hr)))⟩
theorem evy_var {i : Nat} {p : Addr} {xs : List V} {ds : List (Option PyData)} (h : σ[i]? = some (some (.ref p))) (hp : H p = some (.lst xs)) (t : ThA K H ds xs) (Q : VK) {H1 : Hp} (e : Ex H H1) (q : ∀ H2, Ex H1 H2 → H2 p = some (.lst xs) → ThA K H2 ds xs → Q (.ref p) H2) : tVar i σ H1 Q :=
  ⟨_, h, q H1 (Ex.refl H1) (e _ _ hp) (t.ex e)⟩
/-- what a list of things is made of, a first part held in a slot -/
theorem evy_catv {i : Nat} {p : Addr} {xs : List V} {ds es : List (Option PyData)} (h : σ[i]? = some (some (.ref p))) (hp : H p = some (.lst xs)) (t : ThA K H ds xs) (h' : EvY K tb σ H es) (hz : ds.length + es.length ≤ 10000) : EvY K (tOp rCat (tVar i) tb) σ H (ds ++ es) := fun H1 e Q q =>
  ⟨_, h, h' H1 e _ fun p' ys H3 hp' e3 h3 t3 => ⟨p, p', xs, ys, rfl, rfl, e3 _ _ (e _ _ hp), h3, by have := t.len; have := t3.len; exact Nat.le_of_lt (sz_lt (by omega)), fun r hr => q r _ _ (fresh_back e3 hr) (e3.trans (Ex.new hr)) upd_same ((t.ex ((e.trans e3).trans (Ex.new hr))).app (t3.ex (Ex.new hr)))⟩⟩
/-- [x] * k -/
theorem rep_map {α β : Type} (f : α → β) (n : Nat) (x : α) : (List.replicate n x).map f = List.replicate n (f x) := List.map_replicate
theorem thA_rep {d : Option PyData} {v : V} (t : Th K H v d) : ∀ n : Nat, ThA K H (List.replicate n d) (List.replicate n v)
  | 0 => .nil
  | n + 1 => .cons t (thA_rep t n)
theorem rep_dpa {d : PyData} {v : V} (t : Dp K H v d) : ∀ n : Nat, DpAll K H (List.replicate n [v]).flatten (List.replicate n d)
  | 0 => .nil
  | n + 1 => .cons t (rep_dpa t n)
theorem evt_rep {d : PyData} {k : Int} (h : EvT K ta σ H (some d)) (h' : EvT K tb σ H (some (.int k))) (h0 : 0 ≤ k) (hk : k ≤ 10000) : EvT K (tOp rRep (tLst (tCons ta tNil)) tb) σ H (some (.list (List.replicate k.toNat d))) := fun H1 e Q q =>
  h H1 e _ fun v H2 e2 t => ⟨one_le, fun p hp => h' _ ((e.trans e2).trans (Ex.new hp)) _ fun v' H3 e3 t' => ⟨p, k, [v], rfl, th_int t', e3 _ _ upd_same, by omega, by omega, by
    show 1 * k.toNat ≤ sizeLine
    have : k.toNat < 100000 := by omega
    rw [Nat.one_mul]
    exact Nat.le_of_lt (sz_lt this), fun r hr =>
    q _ _ (((e2.trans (Ex.new hp)).trans e3).trans (Ex.new hr)) (.dp (.lst (SqL.of upd_same) (rep_dpa (th_dp (t.ex (((Ex.new hp).trans e3).trans (Ex.new hr)))) k.toNat)))⟩⟩
end
end TW
namespace TW
open PySem PySem.Spec PyProof.Rows L2 Evl
/-! ### a call of a slot that holds one of several defs -/
def tCallH (i : Nat) (S : Addr → Sp → Prop) (E : L2.St → XK) (t : TA) : TE := fun σ H Q => ∃ f sp, σ[i]? = some (some (.ref f)) ∧ S f sp ∧ t σ H fun vs H1 => sp vs H1 Q (E σ)
def HeldBy (P : Program) (w : World) (K : PySem.W.Frag) (mg : Str → Option Value) (base : Heap) (CX : CXT) (k : Nat) (S : Addr → Sp → Prop) : Prop :=
  ∀ f sp, S f sp → ∃ (fd : FuncData) (ps : List Str), FnOk P w K mg base CX k f fd ps sp ∧ PySem.W.keepIn K (.ref f) = true ∧ Binds K fd ps []
section
variable {X : Cx} {CX : CXT} {k i : Nat} {S : Addr → Sp → Prop} {E : L2.St → XK} {x : Str} {p pos : Pos} {e : Expr} {es : List Expr} {t : TA}
theorem pe_callH (A : HeldBy X.prog X.w X.K X.mg X.base CX k S) (hr : Room k X.A) (hN : X.N[i]? = some x) (hv : Vis X.env.scope x) (hx : ∀ σ, PassesAt CX X σ (E σ)) (ha : PA X (e :: es) t)
    (hdb : (x == ("__debug__" : Str)) = false := by decide) (hcd : (x == ("__classdict__" : Str)) = false := by decide)
    (he : starEach (e :: es) X.env = (false, eval e X.env) :: starEach es X.env := by rfl) (hpl : (backTo pos (starEach es X.env)).any (·.1) = false := by rfl) : PE X (.Call (.Name x p) (e :: es) [] pos) (tCallH i S E t) := by
  constructor
  rintro pins s σ H Q I ⟨f, sp, hs, hS, ht⟩
  obtain ⟨fd, ps, F, hk, hb⟩ := A f sp hS
  have h0 := (pe_var (X := X) (pos := p) hN hv hdb hcd).run pins s σ H (fun v H1 => v = .ref f ∧ H1 = H) I ⟨.ref f, hs, rfl, rfl⟩
  refine wpAny_Call_Name_kw (thn h0 fun u s1 ⟨v, H1, I1, r1, q1⟩ => ?_)
  obtain ⟨rfl, rfl⟩ := q1
  cases r1
  have h1 := ha.run pos pins s1 σ _ _ I1 ht
  exact PySem.W.callWith_K (h₀ := X.base) I.ok.mod.kin hk (thn h1 fun us s2 ⟨vs, H2, I2, r, q⟩ => ⟨I2.kIn, run_fnS F hr hb (hx σ) I2 r q⟩) he hpl
theorem passH0 (σ : L2.St) : PassesAt CX0 X σ E0 := fun _ _ _ _ _ _ h => h.elim
/-- isinstance(e, C), e the caught error -/
def rIsX (K : PySem.W.Frag) (cls : Value) (d : Option Addr) (a : Addr) : List V → Hp → VK → Prop := fun xs H Q => ∃ D, cls = .ref D ∧ d = none ∧ ExcC K D ∧ rIsE K D a xs H Q
theorem call_isX {a : Addr} {oe : Obj} {cls : Value} {d : Option Addr} {pn : List (Addr × Obj)} (hz : Zc cls d oe) (hf : ∃ vs, oe.data = .fields vs) : CallR (X.suite a ((a, oe) :: pn)) (.builtin "isinstance") (rIsX X.K cls d a) := by
  intro pins s σ H xs us Q I r h
  obtain ⟨D, rfl, rfl, C, h⟩ := h
  exact call_isE C hz hf pins s σ H xs us Q I r h
def tTryAs (K : PySem.W.Frag) (c : Value) (i : Nat) (tb : WX → TS) (ts : Addr → Value → Option Addr → TS) : TS := fun D σ H => tb (wAs K c i ts (fun _ _ _ _ => False) D) D σ H
end
end TW
namespace TW
open PySem PySem.Spec PyProof.Rows L2 Evl
local macro_rules | `(tactic| walk_at "ev") => `(tactic| try simp only [tSeq, tNext, tRet, tRetN, tDrop, tAsg, gName, gSub, gTup, gCons, gNil, tIfS, tAndV, tOrV, tNotV, tAnd, tOr, tNot, tCB, tCons, tNil, tC, tTest, tB, tOp, tUn, tCall, tIf, tTup, tLst, tIsTh, tChain, tBM, tBM0, tAug, tAugS, tYes, tRaise, tPar, tSl, tPart, tNoPart, tRevL, rI0, rI, rU, ipI, tVar, E0,
  List.getElem?_cons_zero, List.getElem?_cons_succ, List.set_cons_zero, List.set_cons_succ, Option.some.injEq, exists_eq_left', exists_eq_left, V.int.injEq, V.bl.injEq, V.ref.injEq, List.cons.injEq, and_true, true_and, exists_and_left, List.cons_append, List.nil_append, List.append_nil, exists_eq, exists_const, and_assoc, exists_eq_right, if_true, if_false, Bool.not_true, Bool.not_false, Bool.false_eq_true, if_pos])
local macro_rules | `(tactic| walk_at "evt") => `(tactic| repeat (first | assumption | exact evt_nil | refine evt_cons ?_ ?_ | exact evt_int | exact evt_bl | exact evt_str | exact evt_non | exact evt_dict | with_reducible apply evt_neg | with_reducible apply evt_sub | with_reducible apply evt_add | refine evt_lst ?_ (by simp) | refine evt_tup ?_ (by simp)))
section
variable {K : PySem.W.Frag} {c : Cs} {vs : List V} {H H' : Hp} {Q : VK} {E : XK}
/-! ### the things -/
def badHouses (k : Int) : List (Option PyData) := [some .none, some (.int 0), some (.int (-1 - k)), some (.int 201), some (.int (201 + k)), some (.bool true), some (.bool false), some (.str "3"), some (.list [.int 3]), some (.tuple [.int 3]), none]
def sp_things (K : PySem.W.Frag) (f : Int → List (Option PyData)) : Sp := fun vs H Q _ => ∃ k : Int, vs = [.int k] ∧ 0 ≤ k ∧ ∀ p xs H', H p = none → Ex H H' → H' p = some (.lst xs) → ThA K H' (f k) xs → Q (.ref p) H'
abbrev sp__law_bad_houses (K : PySem.W.Frag) : Sp := sp_things K badHouses
abbrev N__law_bad_houses : List Str := ["_law_cell"]
def t__law_bad_houses (K : PySem.W.Frag) : TS := tRet (tLst (tCons (tC .non) (tCons (tC (.int 0)) (tCons (tOp rSub (tUn rNeg (tC (.int 1))) (tVar 0)) (tCons (tC (.int 201)) (tCons (tOp rAdd (tC (.int 201)) (tVar 0)) (tCons (tC (.bl true)) (tCons (tC (.bl false)) (tCons (tC (.str "3")) (tCons (tLst (tCons (tC (.int 3)) tNil)) (tCons (tTup (tCons (tC (.int 3)) tNil)) (tCons tDNewK tNil))))))))))))
theorem len_things {f : Int → List (Option PyData)} (h : sp_things K f vs H Q E) : vs.length = 1 := by
  obtain ⟨_, rfl, _⟩ := h
  rfl
theorem pure__law_bad_houses (h : sp__law_bad_houses K vs H Q E) : t__law_bad_houses K { nx := fun _ H' => Q .non H', rt := Q } (start N__law_bad_houses vs) H := by
  obtain ⟨k, rfl, hk, q⟩ := h
  show t__law_bad_houses K _ [some (.int k)] H
  unfold t__law_bad_houses
  have hv : EvT K (tVar 0) [some (.int k)] H (some (.int k)) := evt_var rfl (.dp (.int k))
  refine evy_lst (K := K) (ds := badHouses k) ?_ (by simp [badHouses]) H (Ex.refl H) _ fun p xs H2 hp e h2 t => q p xs H2 hp e h2 t
  unfold badHouses
  walk_at "evt"
/-! ### no roads -/
def badRoads1 : List (Option PyData) := [some .none, some (.tuple []), some (.tuple [.tuple [.int 0, .int 1]]), some (.str "01"), none, some (.int 5), some (.list [.none]), some (.list [.int 5]), some (.list [.list [.int 0, .int 1]]), some (.list [.tuple [.int 0]]), some (.list [.tuple [.int 0, .int 1, .int 2]]), some (.list [.tuple [.int 1, .int 0]]), some (.list [.tuple [.int 1, .int 1]]), some (.list [.tuple [.int 0, .int 3]])]
def badRoads2 (k : Int) : List (Option PyData) := [some (.list [.tuple [.int (-1), .int 0]]), some (.list [.tuple [.int (-1 - k), .int 1]]), some (.list [.tuple [.int 0, .int (3 + k)]]), some (.list [.tuple [.int 0, .bool true]]), some (.list [.tuple [.bool false, .int 1]]), some (.list [.tuple [.str "0", .int 1]]), some (.list [.tuple [.int 0, .none]])]
def badRoads3 : List (Option PyData) := [some (.list [.tuple [.int 0, .int 1], .tuple [.int 0, .int 1]]), some (.list [.tuple [.int 0, .int 1], .tuple [.int 1, .int 2], .tuple [.int 0, .int 1]]), some (.list [.tuple [.int 0, .int 1], .list [.int 1, .int 2]]), some (.list [.tuple [.int 0, .int 1], .tuple [.int 2, .int 1]])]
def badRoads (k : Int) : List (Option PyData) := (badRoads1 ++ badRoads2 k) ++ badRoads3
abbrev sp__law_bad_roads (K : PySem.W.Frag) : Sp := sp_things K badRoads
abbrev N__law_bad_roads : List Str := ["_law_cell", "_law_some"]
def t__law_bad_roads (K : PySem.W.Frag) : TS := tSeq (tAsg (tLst (tCons (tC .non) (tCons (tTup tNil) (tCons (tTup (tCons (tTup (tCons (tC (.int 0)) (tCons (tC (.int 1)) tNil))) tNil)) (tCons (tC (.str "01")) (tCons tDNewK (tCons (tC (.int 5)) (tCons (tLst (tCons (tC .non) tNil)) (tCons (tLst (tCons (tC (.int 5)) tNil)) (tCons (tLst (tCons (tLst (tCons (tC (.int 0)) (tCons (tC (.int 1)) tNil))) tNil)) (tCons (tLst (tCons (tTup (tCons (tC (.int 0)) tNil)) tNil)) (tCons (tLst (tCons (tTup (tCons (tC (.int 0)) (tCons (tC (.int 1)) (tCons (tC (.int 2)) tNil)))) tNil)) (tCons (tLst (tCons (tTup (tCons (tC (.int 1)) (tCons (tC (.int 0)) tNil))) tNil)) (tCons (tLst (tCons (tTup (tCons (tC (.int 1)) (tCons (tC (.int 1)) tNil))) tNil)) (tCons (tLst (tCons (tTup (tCons (tC (.int 0)) (tCons (tC (.int 3)) tNil))) tNil)) tNil))))))))))))))) (gName 1)) (tSeq (tAsg (tOp rCat (tVar 1) (tLst (tCons (tLst (tCons (tTup (tCons (tUn rNeg (tC (.int 1))) (tCons (tC (.int 0)) tNil))) tNil)) (tCons (tLst (tCons (tTup (tCons (tOp rSub (tUn rNeg (tC (.int 1))) (tVar 0)) (tCons (tC (.int 1)) tNil))) tNil)) (tCons (tLst (tCons (tTup (tCons (tC (.int 0)) (tCons (tOp rAdd (tC (.int 3)) (tVar 0)) tNil))) tNil)) (tCons (tLst (tCons (tTup (tCons (tC (.int 0)) (tCons (tC (.bl true)) tNil))) tNil)) (tCons (tLst (tCons (tTup (tCons (tC (.bl false)) (tCons (tC (.int 1)) tNil))) tNil)) (tCons (tLst (tCons (tTup (tCons (tC (.str "0")) (tCons (tC (.int 1)) tNil))) tNil)) (tCons (tLst (tCons (tTup (tCons (tC (.int 0)) (tCons (tC .non) tNil))) tNil)) tNil))))))))) (gName 1)) (tRet (tOp rCat (tVar 1) (tLst (tCons (tLst (tCons (tTup (tCons (tC (.int 0)) (tCons (tC (.int 1)) tNil))) (tCons (tTup (tCons (tC (.int 0)) (tCons (tC (.int 1)) tNil))) tNil))) (tCons (tLst (tCons (tTup (tCons (tC (.int 0)) (tCons (tC (.int 1)) tNil))) (tCons (tTup (tCons (tC (.int 1)) (tCons (tC (.int 2)) tNil))) (tCons (tTup (tCons (tC (.int 0)) (tCons (tC (.int 1)) tNil))) tNil)))) (tCons (tLst (tCons (tTup (tCons (tC (.int 0)) (tCons (tC (.int 1)) tNil))) (tCons (tLst (tCons (tC (.int 1)) (tCons (tC (.int 2)) tNil))) tNil))) (tCons (tLst (tCons (tTup (tCons (tC (.int 0)) (tCons (tC (.int 1)) tNil))) (tCons (tTup (tCons (tC (.int 2)) (tCons (tC (.int 1)) tNil))) tNil))) tNil))))))))
theorem pure__law_bad_roads (h : sp__law_bad_roads K vs H Q E) : t__law_bad_roads K { nx := fun _ H' => Q .non H', rt := Q } (start N__law_bad_roads vs) H := by
  obtain ⟨k, rfl, hk, q⟩ := h
  show t__law_bad_roads K _ [some (.int k), none] H
  unfold t__law_bad_roads
  refine seqC fun R kR => ?_
  refine evy_lst (K := K) (ds := badRoads1) ?_ (by simp [badRoads1]) H (Ex.refl H) _ fun p xs H2 hp e h2 t => kR _ _ ?_
  · unfold badRoads1
    walk_at "evt"
  refine seqC fun R kR => ?_
  have hv : EvT K (tVar 0) [some (.int k), some (.ref p)] H2 (some (.int k)) := evt_var rfl (.dp (.int k))
  refine evy_catv (K := K) (ds := badRoads1) (es := badRoads2 k) rfl h2 t (evy_lst ?_ (by simp [badRoads2])) (by simp [badRoads1, badRoads2]) H2 (Ex.refl H2) _ fun p' xs' H3 hp' e3 h3 t3 => kR _ _ ?_
  · unfold badRoads2
    walk_at "evt"
  refine evy_catv (K := K) (ds := badRoads1 ++ badRoads2 k) (es := badRoads3) rfl h3 t3 (evy_lst ?_ (by simp [badRoads3])) (by simp [badRoads1, badRoads2, badRoads3]) H3 (Ex.refl H3) _ fun p4 xs4 H4 hp4 e4 h4 t4 => q p4 xs4 H4 (fresh_back (e.trans e3) hp4) ((e.trans e3).trans e4) h4 t4
  unfold badRoads3
  walk_at "evt"
/-! ### no trees -/
def noTrees1 : List (Option PyData) := [some (encR []), some (encR [(0, 1)]), some (encR [(0, 1), (2, 3)]), some (encR [(0, 1), (1, 2), (0, 2)]), some (encR [(0, 1), (1, 2), (2, 3), (0, 3)])]
def noTrees2 (k : Int) : List (Option PyData) := [some (encR [(0, 1), (0, 2)]), some (.list [.tuple [.int 0, .int (k % 3 + 1)]]), some (.list [.tuple [.int 0, .int 1], .tuple [.int 0, .int 2], .tuple [.int 0, .int 3], .tuple [.int 1, .int (k % 2 + 2)]])]
def noTrees (k : Int) : List (Option PyData) := noTrees1 ++ noTrees2 k
abbrev sp__law_no_trees (K : PySem.W.Frag) : Sp := sp_things K noTrees
abbrev N__law_no_trees : List Str := ["_law_cell", "_law_some"]
def t__law_no_trees (K : PySem.W.Frag) : TS := tSeq (tAsg (tLst (tCons (tLst tNil) (tCons (tLst (tCons (tTup (tCons (tC (.int 0)) (tCons (tC (.int 1)) tNil))) tNil)) (tCons (tLst (tCons (tTup (tCons (tC (.int 0)) (tCons (tC (.int 1)) tNil))) (tCons (tTup (tCons (tC (.int 2)) (tCons (tC (.int 3)) tNil))) tNil))) (tCons (tLst (tCons (tTup (tCons (tC (.int 0)) (tCons (tC (.int 1)) tNil))) (tCons (tTup (tCons (tC (.int 1)) (tCons (tC (.int 2)) tNil))) (tCons (tTup (tCons (tC (.int 0)) (tCons (tC (.int 2)) tNil))) tNil)))) (tCons (tLst (tCons (tTup (tCons (tC (.int 0)) (tCons (tC (.int 1)) tNil))) (tCons (tTup (tCons (tC (.int 1)) (tCons (tC (.int 2)) tNil))) (tCons (tTup (tCons (tC (.int 2)) (tCons (tC (.int 3)) tNil))) (tCons (tTup (tCons (tC (.int 0)) (tCons (tC (.int 3)) tNil))) tNil))))) tNil)))))) (gName 1)) (tRet (tOp rCat (tVar 1) (tLst (tCons (tLst (tCons (tTup (tCons (tC (.int 0)) (tCons (tC (.int 1)) tNil))) (tCons (tTup (tCons (tC (.int 0)) (tCons (tC (.int 2)) tNil))) tNil))) (tCons (tLst (tCons (tTup (tCons (tC (.int 0)) (tCons (tOp rAdd (tOp rMod (tVar 0) (tC (.int 3))) (tC (.int 1))) tNil))) tNil)) (tCons (tLst (tCons (tTup (tCons (tC (.int 0)) (tCons (tC (.int 1)) tNil))) (tCons (tTup (tCons (tC (.int 0)) (tCons (tC (.int 2)) tNil))) (tCons (tTup (tCons (tC (.int 0)) (tCons (tC (.int 3)) tNil))) (tCons (tTup (tCons (tC (.int 1)) (tCons (tOp rAdd (tOp rMod (tVar 0) (tC (.int 2))) (tC (.int 2))) tNil))) tNil))))) tNil))))))
theorem pure__law_no_trees (h : sp__law_no_trees K vs H Q E) : t__law_no_trees K { nx := fun _ H' => Q .non H', rt := Q } (start N__law_no_trees vs) H := by
  obtain ⟨k, rfl, hk, q⟩ := h
  show t__law_no_trees K _ [some (.int k), none] H
  unfold t__law_no_trees
  refine seqC fun R kR => ?_
  refine evy_lst (K := K) (ds := noTrees1) ?_ (by simp [noTrees1]) H (Ex.refl H) _ fun p xs H2 hp e h2 t => kR _ _ ?_
  · unfold noTrees1 encR
    walk_at "evt"
  have hv : EvT K (tVar 0) [some (.int k), some (.ref p)] H2 (some (.int k)) := evt_var rfl (.dp (.int k))
  have hm3 : EvT K (tOp rMod (tVar 0) (tC (.int 3))) [some (.int k), some (.ref p)] H2 (some (.int (k % 3))) := evt_mod hv evt_int (by decide)
  have hm2 : EvT K (tOp rMod (tVar 0) (tC (.int 2))) [some (.int k), some (.ref p)] H2 (some (.int (k % 2))) := evt_mod hv evt_int (by decide)
  refine evy_catv (K := K) (ds := noTrees1) (es := noTrees2 k) rfl h2 t (evy_lst ?_ (by simp [noTrees2])) (by simp [noTrees1, noTrees2]) H2 (Ex.refl H2) _ fun p' xs' H3 hp' e3 h3 t3 => q p' xs' H3 (fresh_back e hp') (e.trans e3) h3 t3
  unfold noTrees2 encR
  walk_at "evt"
/-! ### no house, no word, no number, no counts -/
def badHouse (k : Int) : List (Option PyData) := [some .none, some (.int (-1)), some (.int (-1 - k)), some (.int 3), some (.int (3 + k)), some (.bool true), some (.bool false), some (.str "1"), some (.list [.int 1]), some (.tuple [.int 0]), none]
abbrev sp__law_bad_house (K : PySem.W.Frag) : Sp := sp_things K badHouse
abbrev N__law_bad_house : List Str := ["_law_cell"]
def t__law_bad_house (K : PySem.W.Frag) : TS := tRet (tLst (tCons (tC .non) (tCons (tUn rNeg (tC (.int 1))) (tCons (tOp rSub (tUn rNeg (tC (.int 1))) (tVar 0)) (tCons (tC (.int 3)) (tCons (tOp rAdd (tC (.int 3)) (tVar 0)) (tCons (tC (.bl true)) (tCons (tC (.bl false)) (tCons (tC (.str "1")) (tCons (tLst (tCons (tC (.int 1)) tNil)) (tCons (tTup (tCons (tC (.int 0)) tNil)) (tCons tDNewK tNil))))))))))))
theorem pure__law_bad_house (h : sp__law_bad_house K vs H Q E) : t__law_bad_house K { nx := fun _ H' => Q .non H', rt := Q } (start N__law_bad_house vs) H := by
  obtain ⟨k, rfl, hk, q⟩ := h
  show t__law_bad_house K _ [some (.int k)] H
  unfold t__law_bad_house
  have hv : EvT K (tVar 0) [some (.int k)] H (some (.int k)) := evt_var rfl (.dp (.int k))
  refine evy_lst (K := K) (ds := badHouse k) ?_ (by simp [badHouse]) H (Ex.refl H) _ fun p xs H2 hp e h2 t => q p xs H2 hp e h2 t
  unfold badHouse
  walk_at "evt"
abbrev sp__law_bad_numbers (K : PySem.W.Frag) : Sp := sp_things K badHouse
abbrev N__law_bad_numbers : List Str := ["_law_cell"]
def t__law_bad_numbers (K : PySem.W.Frag) : TS := tRet (tLst (tCons (tC .non) (tCons (tUn rNeg (tC (.int 1))) (tCons (tOp rSub (tUn rNeg (tC (.int 1))) (tVar 0)) (tCons (tC (.int 3)) (tCons (tOp rAdd (tC (.int 3)) (tVar 0)) (tCons (tC (.bl true)) (tCons (tC (.bl false)) (tCons (tC (.str "1")) (tCons (tLst (tCons (tC (.int 1)) tNil)) (tCons (tTup (tCons (tC (.int 0)) tNil)) (tCons tDNewK tNil))))))))))))
theorem pure__law_bad_numbers (h : sp__law_bad_numbers K vs H Q E) : t__law_bad_numbers K { nx := fun _ H' => Q .non H', rt := Q } (start N__law_bad_numbers vs) H := pure__law_bad_house (E := E) h
def badWords1 (k : Int) : List (Option PyData) := [some .none, some (.tuple [.int 0, .int 1]), some (.str "01"), none, some (.int 5), some (.list []), some (.list [.int 0]), some (.list [.int 0, .int 1, .int 2]), some (.list [.int 0, .int 4]), some (.list [.int (-1), .int 0]), some (.list [.int 0, .int (4 + k)]), some (.list [.int (-1 - k), .int 0]), some (.list [.int 0, .bool true])]
def badWords2 : List (Option PyData) := [some (.list [.bool false, .int 0]), some (.list [.str "0", .int 1]), some (.list [.int 0, .none]), some (.list [.list [.int 0], .int 1]), some (.list [.int 0, .int 1, .int 4])]
def badWords (k : Int) : List (Option PyData) := badWords1 k ++ badWords2
abbrev sp__law_bad_words (K : PySem.W.Frag) : Sp := sp_things K badWords
abbrev N__law_bad_words : List Str := ["_law_cell", "_law_some"]
def t__law_bad_words (K : PySem.W.Frag) : TS := tSeq (tAsg (tLst (tCons (tC .non) (tCons (tTup (tCons (tC (.int 0)) (tCons (tC (.int 1)) tNil))) (tCons (tC (.str "01")) (tCons tDNewK (tCons (tC (.int 5)) (tCons (tLst tNil) (tCons (tLst (tCons (tC (.int 0)) tNil)) (tCons (tLst (tCons (tC (.int 0)) (tCons (tC (.int 1)) (tCons (tC (.int 2)) tNil)))) (tCons (tLst (tCons (tC (.int 0)) (tCons (tC (.int 4)) tNil))) (tCons (tLst (tCons (tUn rNeg (tC (.int 1))) (tCons (tC (.int 0)) tNil))) (tCons (tLst (tCons (tC (.int 0)) (tCons (tOp rAdd (tC (.int 4)) (tVar 0)) tNil))) (tCons (tLst (tCons (tOp rSub (tUn rNeg (tC (.int 1))) (tVar 0)) (tCons (tC (.int 0)) tNil))) (tCons (tLst (tCons (tC (.int 0)) (tCons (tC (.bl true)) tNil))) tNil)))))))))))))) (gName 1)) (tRet (tOp rCat (tVar 1) (tLst (tCons (tLst (tCons (tC (.bl false)) (tCons (tC (.int 0)) tNil))) (tCons (tLst (tCons (tC (.str "0")) (tCons (tC (.int 1)) tNil))) (tCons (tLst (tCons (tC (.int 0)) (tCons (tC .non) tNil))) (tCons (tLst (tCons (tLst (tCons (tC (.int 0)) tNil)) (tCons (tC (.int 1)) tNil))) (tCons (tLst (tCons (tC (.int 0)) (tCons (tC (.int 1)) (tCons (tC (.int 4)) tNil)))) tNil))))))))
theorem pure__law_bad_words (h : sp__law_bad_words K vs H Q E) : t__law_bad_words K { nx := fun _ H' => Q .non H', rt := Q } (start N__law_bad_words vs) H := by
  obtain ⟨k, rfl, hk, q⟩ := h
  show t__law_bad_words K _ [some (.int k), none] H
  unfold t__law_bad_words
  have hv : EvT K (tVar 0) [some (.int k), none] H (some (.int k)) := evt_var rfl (.dp (.int k))
  refine seqC fun R kR => ?_
  refine evy_lst (K := K) (ds := badWords1 k) ?_ (by simp [badWords1]) H (Ex.refl H) _ fun p xs H2 hp e h2 t => kR _ _ ?_
  · unfold badWords1
    walk_at "evt"
  refine evy_catv (K := K) (ds := badWords1 k) (es := badWords2) rfl h2 t (evy_lst ?_ (by simp [badWords2])) (by simp [badWords1, badWords2]) H2 (Ex.refl H2) _ fun p' xs' H3 hp' e3 h3 t3 => q p' xs' H3 (fresh_back e hp') (e.trans e3) h3 t3
  unfold badWords2
  walk_at "evt"
def badCounts1 (k : Int) : List (Option PyData) := [some .none, some (.tuple []), some (.tuple [.int 1, .int 1]), some (.str "11"), none, some (.int 5), some (.list []), some (.list [.none, .int 1]), some (.list [.int 1, .bool true]), some (.list [.int (-1), .int 3]), some (.list [.int 1, .int (-1 - k)]), some (.list [.str "1", .int 1]), some (.list [.list [.int 1], .int 1])]
def badCounts2 (k : Int) : List (Option PyData) := [some (.list (List.replicate (201 : Int).toNat (.int 1))), some (.list [.int 1, .int 2, .tuple [.int 1]]), some (.list (List.replicate (201 + k % 90).toNat (.int 0))), some (.list [.bool false]), some (.list [.int 1, .int 1, .none])]
def badCounts (k : Int) : List (Option PyData) := badCounts1 k ++ badCounts2 k
abbrev sp__law_bad_counts (K : PySem.W.Frag) : Sp := sp_things K badCounts
abbrev N__law_bad_counts : List Str := ["_law_cell", "_law_some"]
def t__law_bad_counts (K : PySem.W.Frag) : TS := tSeq (tAsg (tLst (tCons (tC .non) (tCons (tTup tNil) (tCons (tTup (tCons (tC (.int 1)) (tCons (tC (.int 1)) tNil))) (tCons (tC (.str "11")) (tCons tDNewK (tCons (tC (.int 5)) (tCons (tLst tNil) (tCons (tLst (tCons (tC .non) (tCons (tC (.int 1)) tNil))) (tCons (tLst (tCons (tC (.int 1)) (tCons (tC (.bl true)) tNil))) (tCons (tLst (tCons (tUn rNeg (tC (.int 1))) (tCons (tC (.int 3)) tNil))) (tCons (tLst (tCons (tC (.int 1)) (tCons (tOp rSub (tUn rNeg (tC (.int 1))) (tVar 0)) tNil))) (tCons (tLst (tCons (tC (.str "1")) (tCons (tC (.int 1)) tNil))) (tCons (tLst (tCons (tLst (tCons (tC (.int 1)) tNil)) (tCons (tC (.int 1)) tNil))) tNil)))))))))))))) (gName 1)) (tRet (tOp rCat (tVar 1) (tLst (tCons (tOp rRep (tLst (tCons (tC (.int 1)) tNil)) (tC (.int 201))) (tCons (tLst (tCons (tC (.int 1)) (tCons (tC (.int 2)) (tCons (tTup (tCons (tC (.int 1)) tNil)) tNil)))) (tCons (tOp rRep (tLst (tCons (tC (.int 0)) tNil)) (tOp rAdd (tC (.int 201)) (tOp rMod (tVar 0) (tC (.int 90))))) (tCons (tLst (tCons (tC (.bl false)) tNil)) (tCons (tLst (tCons (tC (.int 1)) (tCons (tC (.int 1)) (tCons (tC .non) tNil)))) tNil))))))))
theorem pure__law_bad_counts (h : sp__law_bad_counts K vs H Q E) : t__law_bad_counts K { nx := fun _ H' => Q .non H', rt := Q } (start N__law_bad_counts vs) H := by
  obtain ⟨k, rfl, hk, q⟩ := h
  show t__law_bad_counts K _ [some (.int k), none] H
  unfold t__law_bad_counts
  have hv : EvT K (tVar 0) [some (.int k), none] H (some (.int k)) := evt_var rfl (.dp (.int k))
  refine seqC fun R kR => ?_
  refine evy_lst (K := K) (ds := badCounts1 k) ?_ (by simp [badCounts1]) H (Ex.refl H) _ fun p xs H2 hp e h2 t => kR _ _ ?_
  · unfold badCounts1
    walk_at "evt"
  have hv : EvT K (tVar 0) [some (.int k), some (.ref p)] H2 (some (.int k)) := evt_var rfl (.dp (.int k))
  have hm : EvT K (tOp rMod (tVar 0) (tC (.int 90))) [some (.int k), some (.ref p)] H2 (some (.int (k % 90))) := evt_mod hv evt_int (by decide)
  have hr1 : EvT K (tOp rRep (tLst (tCons (tC (.int 1)) tNil)) (tC (.int 201))) [some (.int k), some (.ref p)] H2 (some (.list (List.replicate (201 : Int).toNat (.int 1)))) := evt_rep evt_int evt_int (by decide) (by decide)
  have hr2 : EvT K (tOp rRep (tLst (tCons (tC (.int 0)) tNil)) (tOp rAdd (tC (.int 201)) (tOp rMod (tVar 0) (tC (.int 90))))) [some (.int k), some (.ref p)] H2 (some (.list (List.replicate (201 + k % 90).toNat (.int 0)))) := evt_rep evt_int (evt_add evt_int hm) (by omega) (by omega)
  refine evy_catv (K := K) (ds := badCounts1 k) (es := badCounts2 k) rfl h2 t (evy_lst ?_ (by simp [badCounts2])) (by simp [badCounts1, badCounts2]) H2 (Ex.refl H2) _ fun p' xs' H3 hp' e3 h3 t3 => q p' xs' H3 (fresh_back e hp') (e.trans e3) h3 t3
  unfold badCounts2
  walk_at "evt"
end
end TW
namespace TW
open PySem PySem.Spec PyProof.Rows L2 Evl
local macro_rules | `(tactic| walk_at "ev") => `(tactic| try simp only [tSeq, tNext, tRet, tRetN, tDrop, tAsg, gName, gSub, gTup, gCons, gNil, tIfS, tAndV, tOrV, tNotV, tAnd, tOr, tNot, tCB, tCons, tNil, tC, tTest, tB, tOp, tUn, tCall, tIf, tTup, tLst, tIsTh, tChain, tBM, tBM0, tAug, tAugS, tYes, tRaise, tPar, tSl, tPart, tNoPart, tRevL, rI0, rI, rU, ipI, tVar, E0,
  List.getElem?_cons_zero, List.getElem?_cons_succ, List.set_cons_zero, List.set_cons_succ, Option.some.injEq, exists_eq_left', exists_eq_left, V.int.injEq, V.bl.injEq, V.ref.injEq, List.cons.injEq, and_true, true_and, exists_and_left, List.cons_append, List.nil_append, List.append_nil, exists_eq, exists_const, and_assoc, exists_eq_right, if_true, if_false, Bool.not_true, Bool.not_false, Bool.false_eq_true, if_pos])
section
variable {K : PySem.W.Frag} {c : Cs} {vs : List V} {H H' : Hp} {Q : VK} {E : XK} {d1 d2 d3 : Option PyData}
theorem okH_not {n : Nat} (h : okH d1 = false) (e : d1 = some (.int n)) (n1 : 1 ≤ n) (n2 : n ≤ 200) {P : Prop} : P := by
  subst e
  rw [okH_nat n1 n2] at h
  cases h
theorem nat_eq {n m : Nat} (h : (some (PyData.int (m : Int))) = some (.int (n : Int))) : m = n := by
  have h2 : (m : Int) = n := by simpa using h
  omega
theorem chk2_h {good : Nat → List Ed → Prop} (h : okH d1 = false) (q : ∀ H', Ex H H' → E (.ref c.BadHouses) none H') : Chk2 c d1 d2 H E good := ⟨fun _ => q H (Ex.refl H), fun n e n1 n2 => okH_not h e n1 n2, fun n rs e n1 n2 => okH_not h e n1 n2⟩
theorem chk3_h {good : Nat → List Ed → Prop} (h : okH d1 = false) (q : ∀ H', Ex H H' → E (.ref c.BadHouses) none H') : Chk3 c d1 d2 H E good := ⟨fun _ => q H (Ex.refl H), fun n e n1 n2 => okH_not h e n1 n2, fun n rs e n1 n2 => okH_not h e n1 n2, fun n rs e n1 n2 => okH_not h e n1 n2⟩
theorem chk5_h {good : Nat → List Ed → List Ed → Prop} (h : okH d1 = false) (q : ∀ H', Ex H H' → E (.ref c.BadHouses) none H') : Chk5 c d1 d2 d3 H E good := ⟨fun _ => q H (Ex.refl H), fun n e n1 n2 => okH_not h e n1 n2, fun n rs e n1 n2 => okH_not h e n1 n2, fun n rs os e n1 n2 => okH_not h e n1 n2, fun n rs os e n1 n2 => okH_not h e n1 n2⟩
theorem bad_ok {b : Bool} (h : b = false) (h' : b = true) {P : Prop} : P := by rw [h] at h'; cases h'
theorem chk2_r {m : Nat} {good : Nat → List Ed → Prop} (hm : okH (some (.int m)) = true) (h : okR d2 m = false) (q : ∀ H', Ex H H' → E (.ref c.BadRoads) none H') : Chk2 c (some (.int m)) d2 H E good := ⟨fun z => bad_ok z hm, fun n e _ _ _ => q, fun n rs e n1 n2 e2 hr => by
  have := nat_eq e
  subst this
  rw [e2, okR_enc hr] at h
  cases h⟩
theorem chk3_r {m : Nat} {good : Nat → List Ed → Prop} (hm : okH (some (.int m)) = true) (h : okR d2 m = false) (q : ∀ H', Ex H H' → E (.ref c.BadRoads) none H') : Chk3 c (some (.int m)) d2 H E good := by
  have key : ∀ (n : Nat) (rs : List Ed), some (PyData.int (m : Int)) = some (.int (n : Int)) → d2 = some (encR rs) → Roads n rs → False := fun n rs e e2 hr => by
    have := nat_eq e
    subst this
    rw [e2, okR_enc hr] at h
    cases h
  exact ⟨fun z => bad_ok z hm, fun n e _ _ _ => q, fun n rs e n1 n2 e2 hr => (key n rs e e2 hr).elim, fun n rs e n1 n2 e2 hr => (key n rs e e2 hr).elim⟩
theorem encR_inj {a b : List Ed} (h : encR a = encR b) : a = b := by
  have h2 : a.map encE = b.map encE := by
    unfold encR at h
    simpa using h
  have h3 := congrArg (fun l => l.map asRoad) h2
  have h4 : (a.map encE).map asRoad = (b.map encE).map asRoad := h3
  rw [map_as, map_as] at h4
  exact h4
theorem chk3_t {m : Nat} {rs0 : List Ed} {good : Nat → List Ed → Prop} (hm : okH (some (.int m)) = true) (hr0 : Roads m rs0) (ht : isTreeB m rs0 = false) (q : ∀ H', Ex H H' → E (.ref c.NoTree) none H') : Chk3 c (some (.int m)) (some (encR rs0)) H E good := by
  refine ⟨fun z => bad_ok z hm, fun n e _ _ z => ?_, fun n rs e n1 n2 e2 hr _ => q, fun n rs e n1 n2 e2 hr hb => ?_⟩
  · have := nat_eq e
    subst this
    exact bad_ok z (okR_enc hr0)
  · have := nat_eq e
    subst this
    have := encR_inj (Option.some.inj e2)
    subst this
    exact bad_ok ht hb
theorem chk3_ok {m : Nat} {rs0 : List Ed} {good : Nat → List Ed → Prop} (hm : okH (some (.int m)) = true) (hr0 : Roads m rs0) (ht : isTreeB m rs0 = true) (q : good m rs0) : Chk3 c (some (.int m)) (some (encR rs0)) H E good := by
  refine ⟨fun z => bad_ok z hm, fun n e _ _ z => ?_, fun n rs e n1 n2 e2 hr hb => ?_, fun n rs e n1 n2 e2 hr hb => ?_⟩
  · have := nat_eq e
    subst this
    exact bad_ok z (okR_enc hr0)
  · have := nat_eq e
    subst this
    have := encR_inj (Option.some.inj e2)
    subst this
    exact bad_ok hb ht
  · have := nat_eq e
    subst this
    have := encR_inj (Option.some.inj e2)
    subst this
    exact q
theorem chk5_r {m : Nat} {good : Nat → List Ed → List Ed → Prop} (hm : okH (some (.int m)) = true) (h : okR d2 m = false) (q : ∀ H', Ex H H' → E (.ref c.BadRoads) none H') : Chk5 c (some (.int m)) d2 d3 H E good := by
  have key : ∀ (n : Nat) (rs : List Ed), some (PyData.int (m : Int)) = some (.int (n : Int)) → d2 = some (encR rs) → Roads n rs → False := fun n rs e e2 hr => by
    have := nat_eq e
    subst this
    rw [e2, okR_enc hr] at h
    cases h
  exact ⟨fun z => bad_ok z hm, fun n e _ _ _ => q, fun n rs e n1 n2 e2 hr => (key n rs e e2 hr).elim, fun n rs os e n1 n2 e2 hr => (key n rs e e2 hr).elim, fun n rs os e n1 n2 e2 hr => (key n rs e e2 hr).elim⟩
theorem chk5_r2 {m : Nat} {rs0 : List Ed} {good : Nat → List Ed → List Ed → Prop} (hm : okH (some (.int m)) = true) (hr0 : Roads m rs0) (h : okR d3 m = false) (q : ∀ H', Ex H H' → E (.ref c.BadRoads) none H') : Chk5 c (some (.int m)) (some (encR rs0)) d3 H E good := by
  have key : ∀ (n : Nat) (os : List Ed), some (PyData.int (m : Int)) = some (.int (n : Int)) → d3 = some (encR os) → Roads n os → False := fun n rs e e2 hr => by
    have := nat_eq e
    subst this
    rw [e2, okR_enc hr] at h
    cases h
  refine ⟨fun z => bad_ok z hm, fun n e _ _ z => ?_, fun n rs e n1 n2 e2 hr _ => q, fun n rs os e n1 n2 e2 hr e3 ho => (key n os e e3 ho).elim, fun n rs os e n1 n2 e2 hr e3 ho => (key n os e e3 ho).elim⟩
  have := nat_eq e
  subst this
  exact bad_ok z (okR_enc hr0)
theorem chk5_t {m : Nat} {rs0 os0 : List Ed} {good : Nat → List Ed → List Ed → Prop} (hm : okH (some (.int m)) = true) (hr0 : Roads m rs0) (ho0 : Roads m os0) (h : (isTreeB m rs0 && isTreeB m os0) = false) (q : ∀ H', Ex H H' → E (.ref c.NoTree) none H') : Chk5 c (some (.int m)) (some (encR rs0)) (some (encR os0)) H E good := by
  refine ⟨fun z => bad_ok z hm, fun n e _ _ z => ?_, fun n rs e n1 n2 e2 hr z => ?_, fun n rs os e n1 n2 e2 hr e3 ho _ => q, fun n rs os e n1 n2 e2 hr e3 ho h1 h2 => ?_⟩
  · have := nat_eq e
    subst this
    exact bad_ok z (okR_enc hr0)
  · have := nat_eq e
    subst this
    exact bad_ok z (okR_enc ho0)
  · have := nat_eq e
    subst this
    have := encR_inj (Option.some.inj e2)
    subst this
    have := encR_inj (Option.some.inj e3)
    subst this
    rw [h1, h2] at h
    cases h
theorem chk5_ok {m : Nat} {rs0 os0 : List Ed} {good : Nat → List Ed → List Ed → Prop} (hm : okH (some (.int m)) = true) (hr0 : Roads m rs0) (ho0 : Roads m os0) (h1 : isTreeB m rs0 = true) (h2 : isTreeB m os0 = true) (q : good m rs0 os0) : Chk5 c (some (.int m)) (some (encR rs0)) (some (encR os0)) H E good := by
  refine ⟨fun z => bad_ok z hm, fun n e _ _ z => ?_, fun n rs e n1 n2 e2 hr z => ?_, fun n rs os e n1 n2 e2 hr e3 ho z => ?_, fun n rs os e n1 n2 e2 hr e3 ho _ _ => ?_⟩
  · have := nat_eq e
    subst this
    exact bad_ok z (okR_enc hr0)
  · have := nat_eq e
    subst this
    exact bad_ok z (okR_enc ho0)
  · have := nat_eq e
    subst this
    have := encR_inj (Option.some.inj e2)
    subst this
    have := encR_inj (Option.some.inj e3)
    subst this
    rw [h1, h2] at z
    cases z
  · have := nat_eq e
    subst this
    have := encR_inj (Option.some.inj e2)
    subst this
    have := encR_inj (Option.some.inj e3)
    subst this
    exact q
theorem sz_none : SzOk none := fun ds h => by cases h
theorem sz_non : SzOk (some .none) := fun ds h => by cases h
theorem sz_l {ds : List PyData} (h : ds.length < 64) : SzOk (some (.list ds)) := fun es e => by
  cases e
  exact ⟨by omega, by unfold SetOk; rw [List.length_map]; exact h⟩
/-! ### at each door -/
def sp__law_with_houses (K : PySem.W.Frag) (c : Cs) : Sp := fun vs H Q E => ∃ (k : Nat) (v : V) (d : Option PyData), vs = [.int k, v] ∧ k < 9 ∧ Th K H v d ∧ okH d = false ∧ ∀ H', Ex H H' → E (.ref c.BadHouses) none H'
abbrev N__law_with_houses : List Str := ["_law_door", "_law_thing"]
def t__law_with_houses (K : PySem.W.Frag) (c : Cs) (E : XK) : TS := tSeq (tIfS (tTest (tOp rLt (tVar 0) (tC (.int 2)))) (tRet (tIf (tTest (tOp rEq (tVar 0) (tC (.int 0)))) (tCall (sp_told K c) [] E (tCons (tVar 1) (tCons (tC .non) tNil))) (tCall (sp_word_of K c) [] E (tCons (tVar 1) (tCons (tC .non) tNil))))) tNext) (tSeq (tIfS (tTest (tOp rLt (tVar 0) (tC (.int 4)))) (tRet (tIf (tTest (tOp rEq (tVar 0) (tC (.int 2)))) (tCall (sp_tree_of K c) [] E (tCons (tVar 1) (tCons (tC .non) tNil))) (tCall (sp_trees K c) [] E (tCons (tVar 1) tNil)))) tNext) (tSeq (tIfS (tTest (tOp rLt (tVar 0) (tC (.int 6)))) (tRet (tIf (tTest (tOp rEq (tVar 0) (tC (.int 4)))) (tCall (sp_tree_by K c) [] E (tCons (tVar 1) (tCons (tUn rNeg (tC (.int 1))) tNil))) (tCall (sp_number_of K c) [] E (tCons (tVar 1) (tCons (tC .non) tNil))))) tNext) (tSeq (tIfS (tTest (tOp rLt (tVar 0) (tC (.int 8)))) (tRet (tIf (tTest (tOp rEq (tVar 0) (tC (.int 6)))) (tCall (sp_number_with K c) [] E (tCons (tVar 1) (tCons (tC .non) tNil))) (tCall (sp_way K c) [] E (tCons (tVar 1) (tCons (tC .non) (tCons (tUn rNeg (tC (.int 1))) (tCons (tC .non) tNil))))))) tNext) (tRet (tCall (sp_led K c) [] E (tCons (tVar 1) (tCons (tC .non) (tCons (tC .non) tNil))))))))
theorem len__law_with_houses (h : sp__law_with_houses K c vs H Q E) : vs.length = 2 := by
  obtain ⟨_, _, _, rfl, _⟩ := h
  rfl
theorem th_non : Th K H .non (some .none) := .dp .non
theorem th_i {i : Int} : Th K H (.int i) (some (.int i)) := .dp (.int i)
section
variable {σ : L2.St} {D : Ends} {i : Nat} {k j : Int} {ta tb : TS} {rest : TS} {ea eb : TE}
theorem itT {b : Bool} {A B : Prop} (hb : b = true) (h : A) : if b = true then A else B := by
  rw [if_pos hb]
  exact h
theorem itF {b : Bool} {A B : Prop} (hb : b = false) (h : B) : if b = true then A else B := by
  rw [hb, if_neg (by decide)]
  exact h
theorem sqLtT (h0 : σ[i]? = some (some (.int k))) (hk : k < j) (h : ta { D with nx := rest D } σ H) : tSeq (tIfS (tTest (tOp rLt (tVar i) (tC (.int j)))) ta tNext) rest D σ H := ⟨_, h0, _, _, rfl, rfl, _, rfl, itT (decide_eq_true hk) h⟩
theorem sqLtF (h0 : σ[i]? = some (some (.int k))) (hk : ¬ k < j) (h : rest D σ H) : tSeq (tIfS (tTest (tOp rLt (tVar i) (tC (.int j)))) ta tNext) rest D σ H := ⟨_, h0, _, _, rfl, rfl, _, rfl, itF (by simpa using hk) h⟩
theorem sqEqT (h0 : σ[i]? = some (some (.int k))) (hk : k = j) (h : ta { D with nx := rest D } σ H) : tSeq (tIfS (tTest (tOp rEq (tVar i) (tC (.int j)))) ta tNext) rest D σ H := ⟨_, h0, rfl, _, rfl, itT (by simpa using hk) h⟩
theorem sqEqF (h0 : σ[i]? = some (some (.int k))) (hk : ¬ k = j) (h : rest D σ H) : tSeq (tIfS (tTest (tOp rEq (tVar i) (tC (.int j)))) ta tNext) rest D σ H := ⟨_, h0, rfl, _, rfl, itF (by simpa using hk) h⟩
theorem ieEqT (h0 : σ[i]? = some (some (.int k))) (hk : k = j) (h : ea σ H Q) : tIf (tTest (tOp rEq (tVar i) (tC (.int j)))) ea eb σ H Q := ⟨_, h0, rfl, _, rfl, itT (by simpa using hk) h⟩
theorem ieEqF (h0 : σ[i]? = some (some (.int k))) (hk : ¬ k = j) (h : eb σ H Q) : tIf (tTest (tOp rEq (tVar i) (tC (.int j)))) ea eb σ H Q := ⟨_, h0, rfl, _, rfl, itF (by simpa using hk) h⟩
theorem retI {te : TE} (h : te σ H D.rt) : tRet te D σ H := h
end
local macro_rules | `(tactic| walk_at "door") => `(tactic| repeat (first | refine sqLtT rfl (by decide) ?_ | refine sqLtF rfl (by decide) ?_ | refine sqEqT rfl (by decide) ?_ | refine sqEqF rfl (by decide) ?_ | refine ieEqT rfl (by decide) ?_ | refine ieEqF rfl (by decide) ?_ | refine retI ?_))
theorem tree_by_h {v1 v2 : V} {d1 d2 : Option PyData} (t1 : Th K H v1 d1) (t2 : Th K H v2 d2) (h : okH d1 = false) (q : ∀ H', Ex H H' → E (.ref c.BadHouses) none H') : sp_tree_by K c [v1, v2] H Q E :=
  ⟨v1, v2, d1, d2, rfl, t1, t2, fun _ => q H (Ex.refl H), fun n e n1 n2 => okH_not h e n1 n2, fun n k e n1 n2 => okH_not h e n1 n2⟩
theorem tree_of_h {v1 v2 : V} {d1 d2 : Option PyData} (t1 : Th K H v1 d1) (t2 : Th K H v2 d2) (hz : SzL d2) (h : okH d1 = false) (q : ∀ H', Ex H H' → E (.ref c.BadHouses) none H') : sp_tree_of K c [v1, v2] H Q E :=
  ⟨v1, v2, d1, d2, rfl, t1, t2, hz, fun _ => q H (Ex.refl H), fun n e n1 n2 => okH_not h e n1 n2, fun n k e n1 n2 => okH_not h e n1 n2⟩
theorem szl_non : SzL (some .none) := fun ds h => by cases h
theorem pure__law_with_houses (h : sp__law_with_houses K c vs H Q E) : t__law_with_houses K c E { nx := fun _ H' => Q .non H', rt := Q } (start N__law_with_houses vs) H := by
  obtain ⟨k, v, d, rfl, hk, t, hd, q⟩ := h
  show t__law_with_houses K c E _ [some (.int k), some v] H
  unfold t__law_with_houses
  match k, hk with
  | 0, _ =>
    walk_at "door"
    exact ⟨v, rfl, v, .non, d, _, rfl, t, th_non, sz_non, chk2_h hd q⟩
  | 1, _ =>
    walk_at "door"
    exact ⟨v, rfl, v, .non, d, _, rfl, t, th_non, sz_non, chk3_h hd q⟩
  | 2, _ =>
    walk_at "door"
    exact ⟨v, rfl, tree_of_h t th_non szl_non hd q⟩
  | 3, _ =>
    walk_at "door"
    exact ⟨v, rfl, v, d, rfl, t, fun _ => q H (Ex.refl H), fun n e n1 n2 => okH_not hd e n1 n2⟩
  | 4, _ =>
    walk_at "door"
    exact ⟨v, rfl, _, rfl, tree_by_h t th_i hd q⟩
  | 5, _ =>
    walk_at "door"
    exact ⟨v, rfl, v, .non, d, _, rfl, t, th_non, sz_non, chk3_h hd q⟩
  | 6, _ =>
    walk_at "door"
    exact ⟨v, rfl, v, .non, d, _, rfl, t, th_non, sz_non, chk3_h hd q⟩
  | 7, _ =>
    walk_at "door"
    exact ⟨v, rfl, _, rfl, v, .non, _, .non, d, _, _, _, rfl, t, th_non, th_i, th_non, sz_non, chk3_h hd q⟩
  | 8, _ =>
    walk_at "door"
    exact ⟨v, rfl, v, .non, .non, d, _, _, rfl, t, th_non, th_non, sz_non, sz_non, chk5_h hd q⟩
/-! ### with roads -/
def sp__law_with_roads (K : PySem.W.Frag) (c : Cs) : Sp := fun vs H Q E => ∃ (k : Nat) (v : V) (d : Option PyData), vs = [.int k, v] ∧ k < 7 ∧ Th K H v d ∧ SzOk d ∧ okR d 3 = false ∧ ∀ H', Ex H H' → E (.ref c.BadRoads) none H'
abbrev N__law_with_roads : List Str := ["_law_door", "_law_thing"]
def t__law_with_roads (K : PySem.W.Frag) (c : Cs) (E : XK) : TS := tSeq (tIfS (tTest (tOp rLt (tVar 0) (tC (.int 2)))) (tRet (tIf (tTest (tOp rEq (tVar 0) (tC (.int 0)))) (tCall (sp_told K c) [] E (tCons (tC (.int 3)) (tCons (tVar 1) tNil))) (tCall (sp_word_of K c) [] E (tCons (tC (.int 3)) (tCons (tVar 1) tNil))))) tNext) (tSeq (tIfS (tTest (tOp rLt (tVar 0) (tC (.int 4)))) (tRet (tIf (tTest (tOp rEq (tVar 0) (tC (.int 2)))) (tCall (sp_number_of K c) [] E (tCons (tC (.int 3)) (tCons (tVar 1) tNil))) (tCall (sp_number_with K c) [] E (tCons (tC (.int 3)) (tCons (tVar 1) tNil))))) tNext) (tRet (tIf (tTest (tOp rEq (tVar 0) (tC (.int 4)))) (tCall (sp_way K c) [] E (tCons (tC (.int 3)) (tCons (tVar 1) (tCons (tUn rNeg (tC (.int 1))) (tCons (tC (.int 9)) tNil))))) (tIf (tTest (tOp rEq (tVar 0) (tC (.int 5)))) (tCall (sp_led K c) [] E (tCons (tC (.int 3)) (tCons (tVar 1) (tCons (tC .non) tNil)))) (tCall (sp_led K c) [] E (tCons (tC (.int 3)) (tCons (tLst tNil) (tCons (tVar 1) tNil))))))))
theorem len__law_with_roads (h : sp__law_with_roads K c vs H Q E) : vs.length = 2 := by
  obtain ⟨_, _, _, rfl, _⟩ := h
  rfl
theorem roads_nil (n : Nat) : Roads n [] := ⟨.nil, by simp⟩
theorem ok3 : okH (some (.int ((3 : Nat) : Int))) = true := by decide
theorem ok4 : okH (some (.int ((4 : Nat) : Int))) = true := by decide
theorem pure__law_with_roads (h : sp__law_with_roads K c vs H Q E) : t__law_with_roads K c E { nx := fun _ H' => Q .non H', rt := Q } (start N__law_with_roads vs) H := by
  obtain ⟨k, v, d, rfl, hk, t, hz, hd, q⟩ := h
  show t__law_with_roads K c E _ [some (.int k), some v] H
  have hd3 : okR d ((3 : Nat) : Int) = false := hd
  unfold t__law_with_roads
  match k, hk with
  | 0, _ =>
    walk_at "door"
    exact ⟨v, rfl, .int (3 : Nat), v, _, d, rfl, th_i, t, hz, chk2_r ok3 hd3 q⟩
  | 1, _ =>
    walk_at "door"
    exact ⟨v, rfl, .int (3 : Nat), v, _, d, rfl, th_i, t, hz, chk3_r ok3 hd3 q⟩
  | 2, _ =>
    walk_at "door"
    exact ⟨v, rfl, .int (3 : Nat), v, _, d, rfl, th_i, t, hz, chk3_r ok3 hd3 q⟩
  | 3, _ =>
    walk_at "door"
    exact ⟨v, rfl, .int (3 : Nat), v, _, d, rfl, th_i, t, hz, chk3_r ok3 hd3 q⟩
  | 4, _ =>
    walk_at "door"
    exact ⟨v, rfl, _, rfl, .int (3 : Nat), v, _, _, _, d, _, _, rfl, th_i, t, th_i, th_i, hz, chk3_r ok3 hd3 q⟩
  | 5, _ =>
    walk_at "door"
    exact ⟨v, rfl, .int (3 : Nat), v, .non, _, d, _, rfl, th_i, t, th_non, hz, sz_non, chk5_r ok3 hd3 q⟩
  | 6, _ =>
    walk_at "door"
    refine ⟨Nat.zero_le _, fun p hp => ⟨v, rfl, .int (3 : Nat), .ref p, v, _, some (encR []), d, rfl, th_i, .dp (.lst (SqL.of upd_same) .nil), t.ex (Ex.new hp), sz_l (by decide), hz, chk5_r2 ok3 (roads_nil 3) hd3 fun H' e => q H' ((Ex.new hp).trans e)⟩⟩
end
end TW
namespace TW
open PySem PySem.Spec PyProof.Rows L2 Evl
local macro_rules | `(tactic| walk_at "ev") => `(tactic| try simp only [tSeq, tNext, tRet, tRetN, tDrop, tAsg, gName, gSub, gTup, gCons, gNil, tIfS, tAndV, tOrV, tNotV, tAnd, tOr, tNot, tCB, tCons, tNil, tC, tTest, tB, tOp, tUn, tCall, tIf, tTup, tLst, tIsTh, tChain, tBM, tBM0, tAug, tAugS, tYes, tRaise, tPar, tSl, tPart, tNoPart, tRevL, rI0, rI, rU, ipI, tVar, E0,
  List.getElem?_cons_zero, List.getElem?_cons_succ, List.set_cons_zero, List.set_cons_succ, Option.some.injEq, exists_eq_left', exists_eq_left, V.int.injEq, V.bl.injEq, V.ref.injEq, List.cons.injEq, and_true, true_and, exists_and_left, List.cons_append, List.nil_append, List.append_nil, exists_eq, exists_const, and_assoc, exists_eq_right, if_true, if_false, Bool.not_true, Bool.not_false, Bool.false_eq_true, if_pos])
local macro_rules | `(tactic| walk_at "door") => `(tactic| repeat (first | refine sqLtT rfl (by decide) ?_ | refine sqLtF rfl (by decide) ?_ | refine sqEqT rfl (by decide) ?_ | refine sqEqF rfl (by decide) ?_ | refine ieEqT rfl (by decide) ?_ | refine ieEqF rfl (by decide) ?_ | refine retI ?_))
local macro_rules | `(tactic| walk_at "evt") => `(tactic| repeat (first | assumption | exact evt_nil | refine evt_cons ?_ ?_ | exact evt_int | exact evt_bl | exact evt_str | exact evt_non | exact evt_dict | with_reducible apply evt_neg | with_reducible apply evt_sub | with_reducible apply evt_add | refine evt_lst ?_ (by simp) | refine evt_tup ?_ (by simp)))
section
variable {K : PySem.W.Frag} {c : Cs} {vs : List V} {H H' : Hp} {Q : VK} {E : XK} {d1 d2 d3 : Option PyData}
theorem nat3 : ((3 : Nat) : Int) = 3 := rfl
theorem call_ev {σ : L2.St} {sp : Sp} {dvs : List V} {te : TE} {ta : TA} (h : te σ H fun v H1 => ta σ H1 fun vs H2 => sp ((v :: vs) ++ dvs) H2 Q E) : tCall sp dvs E (tCons te ta) σ H Q := h
/-! ### with no tree -/
def sp__law_with_no_tree (K : PySem.W.Frag) (c : Cs) : Sp := fun vs H Q E => ∃ (k : Nat) (v : V) (rs : List Ed), vs = [.int k, v] ∧ k < 6 ∧ Dp K H v (encR rs) ∧ rs.length < 64 ∧ Roads 4 rs ∧ isTreeB 4 rs = false ∧ ∀ H', Ex H H' → E (.ref c.NoTree) none H'
abbrev N__law_with_no_tree : List Str := ["_law_door", "_law_thing", "_law_tree"]
def t__law_with_no_tree (K : PySem.W.Frag) (c : Cs) (E : XK) : TS := tSeq (tIfS (tTest (tOp rLt (tVar 0) (tC (.int 3)))) (tRet (tIf (tTest (tOp rEq (tVar 0) (tC (.int 0)))) (tCall (sp_word_of K c) [] E (tCons (tC (.int 4)) (tCons (tVar 1) tNil))) (tIf (tTest (tOp rEq (tVar 0) (tC (.int 1)))) (tCall (sp_number_of K c) [] E (tCons (tC (.int 4)) (tCons (tVar 1) tNil))) (tCall (sp_number_with K c) [] E (tCons (tC (.int 4)) (tCons (tVar 1) tNil)))))) tNext) (tSeq (tAsg (tLst (tCons (tTup (tCons (tC (.int 0)) (tCons (tC (.int 1)) tNil))) (tCons (tTup (tCons (tC (.int 1)) (tCons (tC (.int 2)) tNil))) (tCons (tTup (tCons (tC (.int 2)) (tCons (tC (.int 3)) tNil))) tNil)))) (gName 2)) (tRet (tIf (tTest (tOp rEq (tVar 0) (tC (.int 3)))) (tCall (sp_way K c) [] E (tCons (tC (.int 4)) (tCons (tVar 1) (tCons (tUn rNeg (tC (.int 1))) (tCons (tC .non) tNil))))) (tIf (tTest (tOp rEq (tVar 0) (tC (.int 4)))) (tCall (sp_led K c) [] E (tCons (tC (.int 4)) (tCons (tVar 1) (tCons (tVar 2) tNil)))) (tCall (sp_led K c) [] E (tCons (tC (.int 4)) (tCons (tVar 2) (tCons (tVar 1) tNil))))))))
theorem len__law_with_no_tree (h : sp__law_with_no_tree K c vs H Q E) : vs.length = 2 := by
  obtain ⟨_, _, _, rfl, _⟩ := h
  rfl
def way4 : List Ed := [(0, 1), (1, 2), (2, 3)]
theorem way4_ok : Roads 4 way4 ∧ isTreeB 4 way4 = true := ⟨⟨by decide, by decide⟩, by decide⟩
theorem sz_r {rs : List Ed} (h : rs.length < 64) : SzOk (some (encR rs)) := sz_l (by simpa using h)
theorem pure__law_with_no_tree (h : sp__law_with_no_tree K c vs H Q E) : t__law_with_no_tree K c E { nx := fun _ H' => Q .non H', rt := Q } (start N__law_with_no_tree vs) H := by
  obtain ⟨k, v, rs, rfl, hk, t, hl, hr, ht, q⟩ := h
  show t__law_with_no_tree K c E _ [some (.int k), some v, none] H
  have hz := sz_r hl
  unfold t__law_with_no_tree
  have key : ∀ k : Nat, 3 ≤ k → ∀ (R : L2.St → Hp → Prop), (∀ p H1, Ex H H1 → Dp K H1 (.ref p) (encR way4) → R [some (.int k), some v, some (.ref p)] H1) →
      tAsg (tLst (tCons (tTup (tCons (tC (.int 0)) (tCons (tC (.int 1)) tNil))) (tCons (tTup (tCons (tC (.int 1)) (tCons (tC (.int 2)) tNil))) (tCons (tTup (tCons (tC (.int 2)) (tCons (tC (.int 3)) tNil))) tNil)))) (gName 2) { nx := R, rt := Q } [some (.int k), some v, none] H := by
    intro k _ R kR
    have h1 : EvT K (tLst (tCons (tTup (tCons (tC (.int 0)) (tCons (tC (.int 1)) tNil))) (tCons (tTup (tCons (tC (.int 1)) (tCons (tC (.int 2)) tNil))) (tCons (tTup (tCons (tC (.int 2)) (tCons (tC (.int 3)) tNil))) tNil)))) [some (V.int k), some v, none] H (some (encR way4)) := by
      unfold encR way4
      walk_at "evt"
    refine h1 H (Ex.refl H) _ fun u H2 e2 tu => ?_
    obtain ⟨p, xs, rfl, _⟩ := dp_list (th_dp tu)
    exact kR p H2 e2 (th_dp tu)
  match k, hk with
  | 0, _ =>
    walk_at "door"
    exact ⟨v, rfl, .int (4 : Nat), v, _, _, rfl, th_i, .dp t, hz, chk3_t ok4 hr ht q⟩
  | 1, _ =>
    walk_at "door"
    exact ⟨v, rfl, .int (4 : Nat), v, _, _, rfl, th_i, .dp t, hz, chk3_t ok4 hr ht q⟩
  | 2, _ =>
    walk_at "door"
    exact ⟨v, rfl, .int (4 : Nat), v, _, _, rfl, th_i, .dp t, hz, chk3_t ok4 hr ht q⟩
  | 3, _ =>
    walk_at "door"
    refine seqC fun R kR => key 3 (by decide) R fun p H1 e1 hp => kR _ _ ?_
    walk_at "door"
    exact ⟨v, rfl, _, rfl, .int (4 : Nat), v, _, .non, _, _, _, _, rfl, th_i, .dp (dp_ex e1 t), th_i, th_non, hz, chk3_t ok4 hr ht fun H' e => q H' (e1.trans e)⟩
  | 4, _ =>
    walk_at "door"
    refine seqC fun R kR => key 4 (by decide) R fun p H1 e1 hp => kR _ _ ?_
    walk_at "door"
    exact ⟨v, rfl, .ref p, rfl, .int (4 : Nat), v, .ref p, _, _, _, rfl, th_i, .dp (dp_ex e1 t), .dp hp, hz, sz_r (by decide), chk5_t ok4 hr way4_ok.1 (by rw [ht]; rfl) fun H' e => q H' (e1.trans e)⟩
  | 5, _ =>
    walk_at "door"
    refine seqC fun R kR => key 5 (by decide) R fun p H1 e1 hp => kR _ _ ?_
    walk_at "door"
    exact ⟨.ref p, rfl, v, rfl, .int (4 : Nat), .ref p, v, _, _, _, rfl, th_i, .dp hp, .dp (dp_ex e1 t), sz_r (by decide), hz, chk5_t ok4 way4_ok.1 hr (by rw [ht, Bool.and_false]) fun H' e => q H' (e1.trans e)⟩
/-! ### with others -/
def badAt (c : Cs) (k : Nat) (d : Option PyData) (C : Addr) : Prop :=
  (k < 2 ∧ isNum d 0 2 = false ∧ C = c.BadHouse) ∨ (k = 2 ∧ SzL d ∧ okW d 4 = false ∧ C = c.BadWord) ∨ ((k = 3 ∨ k = 4) ∧ isNum d 0 2 = false ∧ C = c.BadNumber) ∨ ((k = 5 ∨ k = 6) ∧ SzL d ∧ okC d = false ∧ C = c.BadCounts)
def sp__law_with_others (K : PySem.W.Frag) (c : Cs) : Sp := fun vs H Q E => ∃ (k : Nat) (v : V) (d : Option PyData), vs = [.int k, v] ∧ Th K H v d ∧
  ((∃ C, badAt c k d C ∧ ∀ H', Ex H H' → E (.ref C) none H') ∨ (k = 3 ∧ d = some (.int 2) ∧ ∀ u H', Ex H H' → Q u H'))
abbrev N__law_with_others : List Str := ["_law_door", "_law_thing", "_law_tree"]
def t__law_with_others (K : PySem.W.Frag) (c : Cs) (E : XK) : TS := tSeq (tAsg (tLst (tCons (tTup (tCons (tC (.int 0)) (tCons (tC (.int 2)) tNil))) (tCons (tTup (tCons (tC (.int 1)) (tCons (tC (.int 2)) tNil))) tNil))) (gName 2)) (tSeq (tIfS (tTest (tOp rLt (tVar 0) (tC (.int 2)))) (tRet (tIf (tTest (tOp rEq (tVar 0) (tC (.int 0)))) (tCall (sp_way K c) [] E (tCons (tC (.int 3)) (tCons (tVar 2) (tCons (tVar 1) (tCons (tC (.int 0)) tNil))))) (tCall (sp_way K c) [] E (tCons (tC (.int 3)) (tCons (tVar 2) (tCons (tC (.int 2)) (tCons (tVar 1) tNil))))))) tNext) (tSeq (tIfS (tTest (tOp rEq (tVar 0) (tC (.int 2)))) (tRet (tCall (sp_tree_of K c) [] E (tCons (tC (.int 4)) (tCons (tVar 1) tNil)))) tNext) (tSeq (tIfS (tTest (tOp rLt (tVar 0) (tC (.int 5)))) (tRet (tIf (tTest (tOp rEq (tVar 0) (tC (.int 3)))) (tCall (sp_tree_by K c) [] E (tCons (tC (.int 3)) (tCons (tVar 1) tNil))) (tCall (sp_tree_with K c) [] E (tCons (tLst (tCons (tC (.int 1)) (tCons (tC (.int 3)) (tCons (tC (.int 2)) (tCons (tC (.int 1)) (tCons (tC (.int 1)) tNil)))))) (tCons (tVar 1) tNil))))) tNext) (tRet (tIf (tTest (tOp rEq (tVar 0) (tC (.int 5)))) (tCall (sp_trees_with K c) [] E (tCons (tVar 1) tNil)) (tCall (sp_tree_with K c) [] E (tCons (tVar 1) (tCons (tUn rNeg (tC (.int 1))) tNil))))))))
theorem len__law_with_others (h : sp__law_with_others K c vs H Q E) : vs.length = 2 := by
  obtain ⟨_, _, _, rfl, _⟩ := h
  rfl
def star3 : List Ed := [(0, 2), (1, 2)]
theorem star3_ok : Roads 3 star3 ∧ isTreeB 3 star3 = true := ⟨⟨by decide, by decide⟩, by decide⟩
def cs5 : List Int := [1, 3, 2, 1, 1]
theorem cs5_with : treesWith cs5 = 3 := by decide
theorem pure__law_with_others (h : sp__law_with_others K c vs H Q E) : t__law_with_others K c E { nx := fun _ H' => Q .non H', rt := Q } (start N__law_with_others vs) H := by
  obtain ⟨k, v, d, rfl, t, hq⟩ := h
  show t__law_with_others K c E _ [some (.int k), some v, none] H
  unfold t__law_with_others
  refine seqC fun R kR => ?_
  have h1 : EvT K (tLst (tCons (tTup (tCons (tC (.int 0)) (tCons (tC (.int 2)) tNil))) (tCons (tTup (tCons (tC (.int 1)) (tCons (tC (.int 2)) tNil))) tNil))) [some (V.int k), some v, none] H (some (encR star3)) := by
    unfold encR star3
    walk_at "evt"
  refine h1 H (Ex.refl H) _ fun u H1 e1 tu => kR _ _ ?_
  have t' := t.ex e1
  have i0 : isNum (some (.int 0)) 0 (((3 : Nat) : Int) - 1) = true := by decide
  rcases hq with ⟨C, hb, q⟩ | ⟨rfl, rfl, q⟩
  · have q' : ∀ H', Ex H1 H' → E (.ref C) none H' := fun H' e => q H' (e1.trans e)
    rcases hb with ⟨hk, hd, rfl⟩ | ⟨rfl, hz, hd, rfl⟩ | ⟨hk, hd, rfl⟩ | ⟨hk, hz, hd, rfl⟩
    · have hd3 : isNum d 0 (((3 : Nat) : Int) - 1) = false := hd
      have hno : ∀ a : Nat, d = some (.int a) → a < 3 → False := fun a e ha => by
        subst e
        rw [nat_isNum ha] at hd3
        cases hd3
      match k, hk with
      | 0, _ =>
        walk_at "door"
        exact ⟨u, rfl, v, rfl, .int (3 : Nat), u, v, .int (0 : Nat), _, _, _, _, rfl, th_i, tu, t', th_i, sz_r (by decide), chk3_ok ok3 star3_ok.1 star3_ok.2 ⟨fun _ => q', fun a b ea _ ha _ => (hno a ea ha).elim⟩⟩
      | 1, _ =>
        walk_at "door"
        exact ⟨u, rfl, v, rfl, .int (3 : Nat), u, .int (2 : Nat), v, _, _, _, _, rfl, th_i, tu, th_i, t', sz_r (by decide), chk3_ok ok3 star3_ok.1 star3_ok.2 ⟨fun _ => q', fun a b _ eb _ hb => (hno b eb hb).elim⟩⟩
    · walk_at "door"
      refine ⟨v, rfl, .int (4 : Nat), v, _, d, rfl, th_i, t', hz, fun z => bad_ok z ok4, fun n e n1 n2 _ => q', fun n w e n1 n2 e2 w1 w2 => ?_⟩
      have := nat_eq e
      subst this
      rw [e2, okW_enc w1 w2] at hd
      cases hd
    · have hno : ∀ a : Nat, d = some (.int a) → a < 3 → False := fun a e ha => by
        subst e
        have := nat_isNum ha
        rw [nat3] at this
        exact bad_ok hd this
      rcases hk with rfl | rfl
      · walk_at "door"
        refine ⟨v, rfl, .int (3 : Nat), v, _, d, rfl, th_i, t', fun z => bad_ok z ok3, fun n e n1 n2 _ => q', fun n k e n1 n2 e2 hlt => ?_⟩
        have := nat_eq e
        subst this
        exact (hno k e2 hlt).elim
      · walk_at "door"
        have h5 : EvT K (tLst (tCons (tC (.int 1)) (tCons (tC (.int 3)) (tCons (tC (.int 2)) (tCons (tC (.int 1)) (tCons (tC (.int 1)) tNil)))))) [some (V.int ((4 : Nat) : Int)), some v, some u] H1 (some (encI cs5)) := by
          unfold encI cs5
          walk_at "evt"
        refine call_ev ?_
        refine h5 H1 (Ex.refl H1) _ fun a H2 e2 ta => ⟨v, rfl, a, v, _, d, rfl, ta, t'.ex e2, fun ds e => by cases e; decide, fun z => ?_, fun cs e c1 c2 c3 _ H' e3 => q' H' (e2.trans e3), fun cs k e c1 c2 c3 e2 hlt => ?_⟩
        · exact bad_ok z (okC_enc (cs := cs5) (by decide) (by decide) (by decide))
        · have : cs = cs5 := by
            unfold encI at e
            simp at e
            exact (List.map_inj_right (by simp)).mp e.symm
          subst this
          rw [cs5_with] at hlt
          exact (hno k e2 hlt).elim
    · have hno : ∀ cs : List Int, d = some (encI cs) → 1 ≤ cs.length → cs.length ≤ 200 → (∀ x ∈ cs, 0 ≤ x) → False := fun cs e c1 c2 c3 => by
        subst e
        rw [okC_enc c1 c2 c3] at hd
        cases hd
      rcases hk with rfl | rfl
      · walk_at "door"
        exact ⟨v, rfl, v, d, rfl, t', hz, fun _ => q', fun cs e c1 c2 c3 => (hno cs e c1 c2 c3).elim⟩
      · walk_at "door"
        exact ⟨v, rfl, _, rfl, v, .int (-1), d, _, rfl, t', th_i, hz, fun _ => q', fun cs e c1 c2 c3 => (hno cs e c1 c2 c3).elim, fun cs k e c1 c2 c3 => (hno cs e c1 c2 c3).elim⟩
  · walk_at "door"
    refine ⟨v, rfl, .int (3 : Nat), v, _, _, rfl, th_i, t', fun z => bad_ok z ok3, fun n e n1 n2 hb => ?_, fun n k e n1 n2 e2 hlt p xs H' hp ex' _ _ => q _ H' (e1.trans ex')⟩
    have := nat_eq e
    subst this
    exact bad_ok hb (by decide)
end
end TW
namespace TW
open PySem PySem.Spec PyProof.Rows L2 Evl
/-! ### the things are bad -/
theorem all_mem {α : Type} {P : α → Prop} {l : List α} (h : ∀ x, x ∈ l → P x) : ∀ x ∈ l, P x := h
theorem badHouses_bad {k : Int} (hk : 0 ≤ k) : ∀ d ∈ badHouses k, okH d = false := by
  simp [badHouses, okH, isNum]
  omega
theorem badHouse_bad {k : Int} (hk : 0 ≤ k) : ∀ d ∈ badHouse k, isNum d 0 2 = false := by
  simp [badHouse, isNum]
  omega
theorem badWords_bad {k : Int} (hk : 0 ≤ k) : ∀ d ∈ badWords k, SzL d ∧ okW d 4 = false := by
  simp [badWords, badWords1, badWords2, okW, isNum, SzL]
  omega
theorem badRoads_bad {k : Int} (hk : 0 ≤ k) : ∀ d ∈ badRoads k, SzOk d ∧ okR d 3 = false := by
  simp [badRoads, badRoads1, badRoads2, badRoads3, okR, isRoad, asRoad, SzOk, SetOk]
  omega
theorem badCounts_bad {k : Int} (hk : 0 ≤ k) : ∀ d ∈ badCounts k, SzL d ∧ okC d = false := by
  simp [badCounts, badCounts1, badCounts2, okC, isCnt, SzL]
  omega
theorem noTrees_bad {k : Int} (hk : 0 ≤ k) : ∀ d ∈ noTrees k, ∃ rs, d = some (encR rs) ∧ rs.length < 64 ∧ Roads 4 rs ∧ isTreeB 4 rs = false := by
  intro d hd
  have fin : ∀ rs : List Ed, rs.length < 64 → (decide rs.Nodup && rs.all (fun e => decide (e.1 < e.2) && decide (e.2 < 4))) = true → isTreeB 4 rs = false → ∃ rs', some (encR rs) = some (encR rs') ∧ rs'.length < 64 ∧ Roads 4 rs' ∧ isTreeB 4 rs' = false := by
    intro rs h1 h2 h3
    simp only [Bool.and_eq_true, decide_eq_true_eq, List.all_eq_true] at h2
    exact ⟨rs, rfl, h1, ⟨h2.1, h2.2⟩, h3⟩
  unfold noTrees noTrees1 noTrees2 at hd
  simp only [List.mem_append, List.mem_cons, List.not_mem_nil, or_false] at hd
  rcases hd with (rfl | rfl | rfl | rfl | rfl) | (rfl | rfl | rfl)
  · exact fin _ (by decide) (by decide) (by decide)
  · exact fin _ (by decide) (by decide) (by decide)
  · exact fin _ (by decide) (by decide) (by decide)
  · exact fin _ (by decide) (by decide) (by decide)
  · exact fin _ (by decide) (by decide) (by decide)
  · exact fin _ (by decide) (by decide) (by decide)
  · have h3 : k % 3 = 0 ∨ k % 3 = 1 ∨ k % 3 = 2 := by omega
    rcases h3 with e | e | e <;> rw [e]
    · exact fin [(0, 1)] (by decide) (by decide) (by decide)
    · exact fin [(0, 2)] (by decide) (by decide) (by decide)
    · exact fin [(0, 3)] (by decide) (by decide) (by decide)
  · have h3 : k % 2 = 0 ∨ k % 2 = 1 := by omega
    rcases h3 with e | e <;> rw [e]
    · exact fin [(0, 1), (0, 2), (0, 3), (1, 2)] (by decide) (by decide) (by decide)
    · exact fin [(0, 1), (0, 2), (0, 3), (1, 3)] (by decide) (by decide) (by decide)
/-! ### the good ones at the bounds -/
theorem trees200 : ((200 ^ (200 - 2) : Nat) : Int) % 199 = 1 := by decide +kernel
def cs200 : List Int := [1] ++ List.replicate 198 2 ++ [1]
theorem cs200_with : treesWith cs200 ≠ 0 := by
  have h : standsOf cs200 ≠ [] := by decide +kernel
  unfold treesWith
  rw [if_neg h]
  exact Nat.pos_iff_ne_zero.mp (ways_pos _)
theorem cs0_with : treesWith [0] = 1 := by decide +kernel
end TW
/-! A comprehension over a range within an except suite: the block bears the handled error as a pin. -/
namespace TW
open PySem PySem.Spec PyProof.Rows L2
abbrev blkH (X : Cx) (p : Addr × Obj) (s : Shared) (H : Hp) (sc : Scope) (ce : Env) (fp : List Addr) : Cx := (X.blk s H sc ce fp).tr [p] fun _ _ => False
/-- the block's start, the error pinned -/
theorem startH {X : Cx} {pins : List (Addr × Obj)} {σ : L2.St} {H : Hp} {s : Shared} {sc : Scope} {own : List (Str × Nat)} {fp : List Addr} {p : Addr × Obj} (hp : p ∈ X.pn) (I : Inv X pins σ H s) (ok : BlkOk X.N X.env.scope sc own) (hN : X.N.Nodup)
    (hf : ∀ b ∈ fp, FpOk X pins H b ∧ b < s.heap.objs.size) :
    Inv (blkH X p s H sc (compEnvC sc (cellsFrom (s.heap.objs.size + 1) sc.names (cloFrom X.env.cells sc.names [])) s.heap.objs.size X.env) fp) [] (wipe σ (own.map (·.2))) H { s with heap := pushCells (s.heap.push { cls := .type "dict", data := .dict #[] }) sc.names } := by
  have J := block_start I ok hN hf
  obtain ⟨g1, g2, g3, g4, g5⟩ := I.pin p (List.mem_append_left _ hp)
  refine Inv.toTry (pins := [p]) (J.pins_of fun q hq => ?_) _
  obtain rfl := List.mem_singleton.mp hq
  refine ⟨pushCells_keeps _ _ _ _ (Heap.get?_push_of_some _ g1), g2, Nat.ne_of_lt (Heap.lt_size g1), ?_, g5⟩
  intro hz
  rcases I.ok.stk with e | ⟨e, ef⟩
  · have hz0 : q.1 ∈ frs X.stack := hz
    rw [e] at hz0
    exact g4 hz0
  · have hz2 : q.1 ∈ frs (X.env :: X.outer) := by rw [← e]; exact hz
    obtain ⟨v, hv, hq2⟩ := List.mem_filterMap.mp hz2
    rcases List.mem_cons.mp hv with rfl | hv
    · rw [ef] at hq2
      exact g3 (Option.some.inj hq2).symm
    · exact g4 (List.mem_filterMap.mpr ⟨v, hv, hq2⟩)
section
variable {X : Cx} {elt tg iter : Expr} {ifs : List Expr} {sc : Scope} {own : List (Str × Nat)} {pos : Pos} {wi : TI} {g : TG} {tt : TT} {te : TE}
theorem pe_lcH {p : Addr × Obj} (hot : L2H.Hot1 X.A p) (hp : p ∈ X.pn) (hN : X.N.Nodup) (hi : L2H.PIH X tg iter wi) (ok : BlkOk X.N X.env.scope sc own)
    (hg : ∀ (s : Shared) (H : Hp) (C : Addr) (cl : List (Str × Addr)) (fp : List Addr), PG (blkH X p s H sc (compEnvC sc cl C X.env) fp) tg g) (ht : ∀ (s : Shared) (H : Hp) (C : Addr) (cl : List (Str × Addr)) (fp : List Addr), PTs (blkH X p s H sc (compEnvC sc cl C X.env) fp) ifs tt)
    (he : ∀ (s : Shared) (H : Hp) (C : Addr) (cl : List (Str × Addr)) (fp : List Addr), PE (blkH X p s H sc (compEnvC sc cl C X.env) fp) elt te) (hs : ∀ x, foldedSetIterable iter X.env x = pure x := by intro _; rfl) :
    PE X (.ListComp elt [⟨tg, iter, ifs, 0⟩] sc pos) (tLc wi g tt te (own.map (·.2))) := by
  constructor
  intro pins s σ H Q I h
  rw [eval_ListComp]
  have hfr : ∀ y ∈ sc.names, y.2 = .free → ∃ c, X.env.cells.lookup y.1 = some c := by
    intro y hy e
    exact I.ok.has _ (ok.free y hy e)
  have h1 := hi.run pins s σ H _ I h
  refine wpAny_comprehension_free (use := none) rfl hs (closure_ok hfr) ok.kind (fun y hy e => (ok.uniq y hy).trans (congrArg some e)) (thn h1 fun xv s1 hx => thn hx fun itv s2 h2 => ?_)
  obtain ⟨it, fp, tn, J, H2, rfl, I2, T, st2, f2, q⟩ := h2
  obtain ⟨D, hD⟩ : ∃ D, D = s2.heap.objs.size := ⟨_, rfl⟩
  have hDn : H2 D = none := I2.hok.fresh (Nat.le_of_eq hD.symm)
  obtain ⟨W, ⟨m0, w0⟩, turn⟩ := q D hDn
  refine wpAny_newObj_type (newEnv_comp ?_) (by show 0 ≤ sizeLine; decide)
  rw [← hD]
  -- the list that is filled
  obtain ⟨s3, hs3⟩ : ∃ s3 : Shared, s3 = { s2 with heap := s2.heap.push { cls := .type "list", data := .seq ([] : List Value).toArray } } := ⟨_, rfl⟩
  have h3 : s3.heap = s2.heap.push { cls := .type "list", data := .seq ([] : List Value).toArray } := by rw [hs3]
  have up3 : ∀ b o, s2.heap.get? b = some o → s3.heap.get? b = some o := by
    intro b o e
    rw [h3]
    exact Heap.get?_push_of_some _ e
  have I3 : Inv X pins σ (upd H2 D (.lst [])) s3 := by
    rw [hs3]
    refine I2.laid (t' := s2.toks) (fun b o e => Heap.get?_push_of_some _ e) (Nat.le_of_eq hD.symm) ⟨Nat.zero_le _, [], 0, .nil, ?_⟩
    rw [hD]
    exact Heap.get?_push_size _ rfl
  have f3 : ∀ b ∈ fp, FpOk X pins (upd H2 D (.lst [])) b ∧ b < s3.heap.objs.size := by
    intro b hb
    obtain ⟨o, eo, _⟩ := T.obj _ _ st2 b hb
    have hlt := Heap.lt_size eo
    refine ⟨⟨(upd_ne (Nat.ne_of_lt (by rw [hD]; exact hlt))).trans (f2 b hb).1, (f2 b hb).2⟩, ?_⟩
    rw [h3, Heap.size_push]
    exact Nat.lt_succ_of_lt hlt
  have st3 : tn 0 s3.heap := T.keep _ _ _ st2 fun b _ o e => up3 b o e
  have I4 := startH hp I3 ok hN f3
  have pg := hg s3 (upd H2 D (.lst [])) s3.heap.objs.size (cellsFrom (s3.heap.objs.size + 1) sc.names (cloFrom X.env.cells sc.names [])) fp
  have pt := ht s3 (upd H2 D (.lst [])) s3.heap.objs.size (cellsFrom (s3.heap.objs.size + 1) sc.names (cloFrom X.env.cells sc.names [])) fp
  have pe := he s3 (upd H2 D (.lst [])) s3.heap.objs.size (cellsFrom (s3.heap.objs.size + 1) sc.names (cloFrom X.env.cells sc.names [])) fp
  generalize hce : compEnvC sc (cellsFrom (s3.heap.objs.size + 1) sc.names (cloFrom X.env.cells sc.names [])) s3.heap.objs.size X.env = ce at I4 pg pt pe
  have cL : ce.locals = s3.heap.objs.size := by rw [← hce]; rfl
  generalize hH3 : upd H2 D (.lst []) = H3 at I3 I4 pg pt pe w0 f3
  generalize hs4 : ({ s3 with heap := pushCells (s3.heap.push { cls := .type "dict", data := .dict #[] }) sc.names } : Shared) = s4 at I4
  have st4 : tn 0 s4.heap := T.keep _ _ _ st3 fun b _ o e => by
    rw [← hs4]
    exact pushCells_keeps _ _ _ _ (Heap.get?_push_of_some _ e)
  have hotB : L2H.HotC (blkH X p s3 H3 sc ce fp) := ⟨p, hot, List.mem_singleton.mpr rfl⟩
  have fpk : ∀ {σ' : L2.St} {H' : Hp} {s' : Shared}, Inv (blkH X p s3 H3 sc ce fp) [] σ' H' s' → (∀ b ∈ fp, H' b = none) → ∀ b ∈ fp, FpOk (blkH X p s3 H3 sc ce fp) [] H' b := by
    intro σ' H' s' I' hn b hb
    refine ⟨hn b hb, (I'.ok.exf b hb).1, I'.ok.exfs b hb, .inl hb, fun x c e => (I'.ok.exf b hb).2 x c e, fun r hr => ?_⟩
    have hr2 : r = p := by simpa using hr
    rw [hr2]
    exact (f2 b hb).2.2.2.2.2 p (List.mem_append_left _ hp)
  have loop : codeAny (model X.prog X.w) X.A (.compLoop (.ListComp elt [⟨tg, iter, ifs, 0⟩] sc pos) 0 (.ref it) (.ref D) ce) (compPost (model X.prog X.w) X.A X.xe none (EP X pins σ Q) (.ref D) s3.heap.objs.size) s4 := by
    refine compLoop_any (fun n s' => ∃ i H', Inv (blkH X p s3 H3 sc ce fp) [] (wipe σ (own.map (·.2))) H' s' ∧ tn i s'.heap ∧ (∀ b ∈ fp, H' b = none) ∧ W i n H') ?_ m0 ⟨0, H3, I4, st4, fun b hb => (f3 b hb).1.1, w0⟩
    rintro n s5 ⟨i, H5, I5, st5, n5, w5⟩
    rcases turn i n H5 w5 with ⟨stop, qq⟩ | ⟨go, Nx, hNx, step⟩
    · have td := T.done (blkH X p s3 H3 sc ce fp) rfl rfl rfl hotB i [] s5 _ H5 (fun _ _ => False) I5 (fpk I5 n5) st5 stop
      refine thnF td ?_
      rintro r s6 ⟨rfl, I6⟩
      have I7 : Inv X pins σ H5 s6 := I3.call' (ch := fp) I6.os I6.base I6.hok I6.bare fun b hb => ⟨(f3 b hb).1.2.2.2.1, (f3 b hb).1.2.1, (f3 b hb).1.2.2.2.2.1, (f3 b hb).1.2.2.2.2.2⟩
      have nC : H5 s3.heap.objs.size = none := by
        have z : H5 ce.locals = none := I6.free
        rw [cL] at z
        exact z
      obtain ⟨m, hn, _⟩ := I6.loc
      have hn2 : s6.heap.Ns ce.locals m := hn
      rw [cL] at hn2
      obtain ⟨a0, a1, a2, a3, a4, a5⟩ := I3.fpOk (Nat.le_refl _) nC
      refine ⟨m, hn2, fun h' sb => ⟨.ref D, H5, I7.turned (t' := s6.toks) (fun b o hb e => (sb.2 b hb).trans e) a0 a1 a3 a4 a5, rfl, qq⟩⟩
    · have ti := T.item (blkH X p s3 H3 sc ce fp) rfl rfl rfl hotB i [] s5 _ H5 (fun _ _ => False) I5 (fpk I5 n5) st5 go
      refine thnF ti ?_
      rintro r s6 ⟨u, rfl, h6⟩
      refine thnF h6 ?_
      rintro _ s7 ⟨x, H7, I7, r7, y7, st7, n7⟩
      have I7p := I7.pinned (fpk I7 n7) (T.obj _ _ st7)
      refine thnF (pg.run _ s7 _ H7 x u _ I7p r7 (step x H7 y7)) ?_
      rintro _ s8 ⟨σ8, H8, I8, hw8, q8⟩
      refine thnF (pt.run _ s8 σ8 H8 _ I8 q8) ?_
      rintro b s9 ⟨H9, I9, q9⟩
      have fin : ∀ {s' : Shared} {H' : Hp}, Inv (blkH X p s3 H3 sc ce fp) ([] ++ pinsAt fp s7.heap) σ8 H' s' → Nx H' → ∃ m, m < n ∧ ∃ i H', Inv (blkH X p s3 H3 sc ce fp) [] (wipe σ (own.map (·.2))) H' s' ∧ tn i s'.heap ∧ (∀ b ∈ fp, H' b = none) ∧ W i m H' := by
        intro s' H' I' nx
        obtain ⟨m', hm, w'⟩ := hNx H' nx
        have pn : ∀ b ∈ fp, ∀ o, s7.heap.get? b = some o → s'.heap.get? b = some o ∧ H' b = none := by
          intro b hb o e
          have z := I'.pin (b, o) (List.mem_append_right _ (List.mem_append_right _ (mem_pinsAt hb e)))
          exact ⟨z.1, z.2.1⟩
        have hl : (wipe σ (own.map (·.2))).length = σ8.length := by rw [← hw8, wipe_length]
        refine ⟨m', hm, i + 1, H', (I'.unpinned (pins := [])).weak hl ?_, T.keep _ _ _ st7 fun b hb o e => (pn b hb o e).1, ?_, w'⟩
        · intro j v e
          rw [← hw8] at e
          exact (wipe_some e).1
        · intro b hb
          obtain ⟨o, e, _⟩ := T.obj _ _ st7 b hb
          exact (pn b hb o e).2
      cases b with
      | false =>
        simp only [Bool.false_eq_true, if_false] at q9 ⊢
        exact fin I9 q9
      | true =>
        simp only [if_true] at q9 ⊢
        refine thnF (pe.run _ s9 σ8 H9 _ I9 q9) ?_
        rintro z s10 ⟨yv, H10, I10, r10, acc, hD10, hz10, nx⟩
        exact app_ok (X := blkH X p s3 H3 sc ce fp) I10 hD10 hz10 r10 fun s11 I11 => fin I11 nx
  have goal := codeAny_compStart_list loop (T.self X.A 0 _ _ _ st4 loop)
  rw [← hs4, ← hce, hs3] at goal
  exact goal
end
end TW
namespace TW
open PySem PySem.Spec PyProof.Rows L2 Evl
/-! ### errors whose context is None -/
theorem passN {X : Cx} : Passes (L2N.CX X.prog X.w) X E0 := by
  intro _ _ _ _ _ _ _ h
  obtain ⟨_, _, _, _, _, _, _, _, _, _, _, _, z⟩ := h
  exact z.elim
theorem takesN {X : Cx} : L2N.Takes X (fun _ _ _ _ => False) := by
  intro _ _ x
  obtain ⟨_, _, _, _, _, _, _, _, _, _, _, _, _, _, _, _, z⟩ := x
  exact z.elim
theorem hot_of {X : Cx} {a : Addr} {oe : Obj} {cls : Value} {d : Option Addr} {pn : List (Addr × Obj)} (hz : L2N.Zn cls d oe) (hf : ∃ vs, oe.data = .fields vs) : L2H.Hot1 (X.suite a ((a, oe) :: pn)).A (a, oe) := by
  obtain ⟨vs, hv⟩ := hf
  exact ⟨rfl, vs, hv, hz.2.2 vs hv⟩
theorem okN {P : Program} {w : World} {K : PySem.W.Frag} {mg : Str → Option Value} {base : Heap} {x qual : Str} {st : Stmt} {f : Addr} {fd : FuncData} {N ps : List Str} {k : Nat} {sp : Sp} (F : Fun K x qual st f fd) (S : FnScope N ps (defScope st)) (len : ∀ vs H Q E, sp vs H Q E → vs.length = ps.length)
    (hb : ∀ (cdv : Value) (A : Around) (outer : List Env) (s : Shared) (H : Hp) (vs : List V) (Q : VK) (E : XK), Room k (A.deeper (envOfC qual (defScope st) s.heap.objs.size f cdv)) → sp vs H Q E →
      ∃ t, PSs (cxOf (L2N.CX P w) P w K mg base N qual (defScope st) f cdv A outer s H E) (defBody st) t ∧ t { nx := fun _ H' => Q .non H', rt := Q } (start N vs) H) : FnOk P w K mg base (L2N.CX P w) (k + 1) f fd ps sp := by
  obtain ⟨oc, od, kV, doc, pm, an, cdv, ct, osl, rfl, lk, hcd⟩ := F.ex
  exact fn_of lk hcd S len fun A outer s H vs Q E hr hsp => hb cdv A outer s H vs Q E hr hsp
end TW
namespace TW
open PySem PySem.Spec PyProof.Rows L2 Evl
def topS (i : Nat) : Stmt := PySem.Challenge.pw_treeword_k07_refused.main.body.getD i (.Pass ⟨0, 0, 0, 0⟩)
abbrev s_is_number : Stmt := topS 12
abbrev s_check_houses : Stmt := topS 13
abbrev s_is_road : Stmt := topS 14
abbrev s_check_roads : Stmt := topS 15
abbrev s_neighbours_of : Stmt := topS 16
abbrev s_came_from : Stmt := topS 17
abbrev s_way_by : Stmt := topS 18
abbrev s_is_tree : Stmt := topS 19
abbrev s_road_of : Stmt := topS 20
abbrev s_letters_of : Stmt := topS 21
abbrev s_roads_of : Stmt := topS 28
abbrev s_check_tree : Stmt := topS 31
abbrev s_word_of : Stmt := topS 32
abbrev s_tree_of : Stmt := topS 33
abbrev s_way : Stmt := topS 35
abbrev s_many_words : Stmt := topS 38
abbrev s_trees : Stmt := topS 39
abbrev s_check_number : Stmt := topS 40
abbrev s_tree_by : Stmt := topS 41
abbrev s_number_of : Stmt := topS 42
abbrev s_ways_of : Stmt := topS 43
abbrev s_stands_of : Stmt := topS 44
abbrev s_trees_with : Stmt := topS 45
abbrev s_first_of : Stmt := topS 46
abbrev s_tree_with : Stmt := topS 47
abbrev s_number_with : Stmt := topS 48
abbrev s_told : Stmt := topS 30
abbrev s_led : Stmt := topS 36
abbrev s__law_with_houses : Stmt := topS 50
abbrev s__law_with_roads : Stmt := topS 51
abbrev s__law_with_no_tree : Stmt := topS 52
abbrev s__law_with_others : Stmt := topS 53
abbrev s__law_bad_houses : Stmt := topS 55
abbrev s__law_bad_roads : Stmt := topS 56
abbrev s__law_no_trees : Stmt := topS 57
abbrev s__law_bad_house : Stmt := topS 58
abbrev s__law_bad_words : Stmt := topS 59
abbrev s__law_bad_numbers : Stmt := topS 60
abbrev s__law_bad_counts : Stmt := topS 61
abbrev s__law_due : Stmt := topS 54
abbrev s_law : Stmt := topS 62
structure TX (K : PySem.W.Frag) (mg : Str → Option Value) (c : Cs) where
  a_is_number : Addr
  fd_is_number : FuncData
  f_is_number : Fun K "is_number" "is_number" s_is_number a_is_number fd_is_number
  b_is_number : Binds K fd_is_number ["thing", "least", "most"] []
  g_is_number : mg "is_number" = some (.ref a_is_number)
  k_is_number : PySem.W.keepIn K (.ref a_is_number) = true
  a_check_houses : Addr
  fd_check_houses : FuncData
  f_check_houses : Fun K "check_houses" "check_houses" s_check_houses a_check_houses fd_check_houses
  b_check_houses : Binds K fd_check_houses ["houses"] []
  g_check_houses : mg "check_houses" = some (.ref a_check_houses)
  k_check_houses : PySem.W.keepIn K (.ref a_check_houses) = true
  a_is_road : Addr
  fd_is_road : FuncData
  f_is_road : Fun K "is_road" "is_road" s_is_road a_is_road fd_is_road
  b_is_road : Binds K fd_is_road ["thing", "houses"] []
  g_is_road : mg "is_road" = some (.ref a_is_road)
  k_is_road : PySem.W.keepIn K (.ref a_is_road) = true
  a_check_roads : Addr
  fd_check_roads : FuncData
  f_check_roads : Fun K "check_roads" "check_roads" s_check_roads a_check_roads fd_check_roads
  b_check_roads : Binds K fd_check_roads ["houses", "roads"] []
  g_check_roads : mg "check_roads" = some (.ref a_check_roads)
  k_check_roads : PySem.W.keepIn K (.ref a_check_roads) = true
  a_neighbours_of : Addr
  fd_neighbours_of : FuncData
  f_neighbours_of : Fun K "neighbours_of" "neighbours_of" s_neighbours_of a_neighbours_of fd_neighbours_of
  b_neighbours_of : Binds K fd_neighbours_of ["houses", "roads"] []
  g_neighbours_of : mg "neighbours_of" = some (.ref a_neighbours_of)
  k_neighbours_of : PySem.W.keepIn K (.ref a_neighbours_of) = true
  a_came_from : Addr
  fd_came_from : FuncData
  f_came_from : Fun K "came_from" "came_from" s_came_from a_came_from fd_came_from
  b_came_from : Binds K fd_came_from ["houses", "roads", "begin"] []
  g_came_from : mg "came_from" = some (.ref a_came_from)
  k_came_from : PySem.W.keepIn K (.ref a_came_from) = true
  a_way_by : Addr
  fd_way_by : FuncData
  f_way_by : Fun K "way_by" "way_by" s_way_by a_way_by fd_way_by
  b_way_by : Binds K fd_way_by ["ahead", "house"] []
  g_way_by : mg "way_by" = some (.ref a_way_by)
  k_way_by : PySem.W.keepIn K (.ref a_way_by) = true
  a_is_tree : Addr
  fd_is_tree : FuncData
  f_is_tree : Fun K "is_tree" "is_tree" s_is_tree a_is_tree fd_is_tree
  b_is_tree : Binds K fd_is_tree ["houses", "roads"] []
  g_is_tree : mg "is_tree" = some (.ref a_is_tree)
  k_is_tree : PySem.W.keepIn K (.ref a_is_tree) = true
  a_road_of : Addr
  fd_road_of : FuncData
  f_road_of : Fun K "road_of" "road_of" s_road_of a_road_of fd_road_of
  b_road_of : Binds K fd_road_of ["one", "other"] []
  g_road_of : mg "road_of" = some (.ref a_road_of)
  k_road_of : PySem.W.keepIn K (.ref a_road_of) = true
  a_letters_of : Addr
  fd_letters_of : FuncData
  f_letters_of : Fun K "letters_of" "letters_of" s_letters_of a_letters_of fd_letters_of
  b_letters_of : Binds K fd_letters_of ["houses", "roads"] []
  g_letters_of : mg "letters_of" = some (.ref a_letters_of)
  k_letters_of : PySem.W.keepIn K (.ref a_letters_of) = true
  a_roads_of : Addr
  fd_roads_of : FuncData
  f_roads_of : Fun K "roads_of" "roads_of" s_roads_of a_roads_of fd_roads_of
  b_roads_of : Binds K fd_roads_of ["houses", "word"] []
  g_roads_of : mg "roads_of" = some (.ref a_roads_of)
  k_roads_of : PySem.W.keepIn K (.ref a_roads_of) = true
  a_check_tree : Addr
  fd_check_tree : FuncData
  f_check_tree : Fun K "check_tree" "check_tree" s_check_tree a_check_tree fd_check_tree
  b_check_tree : Binds K fd_check_tree ["houses", "roads"] []
  g_check_tree : mg "check_tree" = some (.ref a_check_tree)
  k_check_tree : PySem.W.keepIn K (.ref a_check_tree) = true
  a_word_of : Addr
  fd_word_of : FuncData
  f_word_of : Fun K "word_of" "word_of" s_word_of a_word_of fd_word_of
  b_word_of : Binds K fd_word_of ["houses", "roads"] []
  g_word_of : mg "word_of" = some (.ref a_word_of)
  k_word_of : PySem.W.keepIn K (.ref a_word_of) = true
  a_tree_of : Addr
  fd_tree_of : FuncData
  f_tree_of : Fun K "tree_of" "tree_of" s_tree_of a_tree_of fd_tree_of
  b_tree_of : Binds K fd_tree_of ["houses", "word"] []
  g_tree_of : mg "tree_of" = some (.ref a_tree_of)
  k_tree_of : PySem.W.keepIn K (.ref a_tree_of) = true
  a_way : Addr
  fd_way : FuncData
  f_way : Fun K "way" "way" s_way a_way fd_way
  b_way : Binds K fd_way ["houses", "roads", "one", "other"] []
  g_way : mg "way" = some (.ref a_way)
  k_way : PySem.W.keepIn K (.ref a_way) = true
  a_many_words : Addr
  fd_many_words : FuncData
  f_many_words : Fun K "many_words" "many_words" s_many_words a_many_words fd_many_words
  b_many_words : Binds K fd_many_words ["houses"] []
  g_many_words : mg "many_words" = some (.ref a_many_words)
  k_many_words : PySem.W.keepIn K (.ref a_many_words) = true
  a_trees : Addr
  fd_trees : FuncData
  f_trees : Fun K "trees" "trees" s_trees a_trees fd_trees
  b_trees : Binds K fd_trees ["houses"] []
  g_trees : mg "trees" = some (.ref a_trees)
  k_trees : PySem.W.keepIn K (.ref a_trees) = true
  a_check_number : Addr
  fd_check_number : FuncData
  f_check_number : Fun K "check_number" "check_number" s_check_number a_check_number fd_check_number
  b_check_number : Binds K fd_check_number ["number", "many"] []
  g_check_number : mg "check_number" = some (.ref a_check_number)
  k_check_number : PySem.W.keepIn K (.ref a_check_number) = true
  a_tree_by : Addr
  fd_tree_by : FuncData
  f_tree_by : Fun K "tree_by" "tree_by" s_tree_by a_tree_by fd_tree_by
  b_tree_by : Binds K fd_tree_by ["houses", "number"] []
  g_tree_by : mg "tree_by" = some (.ref a_tree_by)
  k_tree_by : PySem.W.keepIn K (.ref a_tree_by) = true
  a_number_of : Addr
  fd_number_of : FuncData
  f_number_of : Fun K "number_of" "number_of" s_number_of a_number_of fd_number_of
  b_number_of : Binds K fd_number_of ["houses", "roads"] []
  g_number_of : mg "number_of" = some (.ref a_number_of)
  k_number_of : PySem.W.keepIn K (.ref a_number_of) = true
  a_ways_of : Addr
  fd_ways_of : FuncData
  f_ways_of : Fun K "ways_of" "ways_of" s_ways_of a_ways_of fd_ways_of
  b_ways_of : Binds K fd_ways_of ["counts"] []
  g_ways_of : mg "ways_of" = some (.ref a_ways_of)
  k_ways_of : PySem.W.keepIn K (.ref a_ways_of) = true
  a_stands_of : Addr
  fd_stands_of : FuncData
  f_stands_of : Fun K "stands_of" "stands_of" s_stands_of a_stands_of fd_stands_of
  b_stands_of : Binds K fd_stands_of ["counts"] []
  g_stands_of : mg "stands_of" = some (.ref a_stands_of)
  k_stands_of : PySem.W.keepIn K (.ref a_stands_of) = true
  a_trees_with : Addr
  fd_trees_with : FuncData
  f_trees_with : Fun K "trees_with" "trees_with" s_trees_with a_trees_with fd_trees_with
  b_trees_with : Binds K fd_trees_with ["counts"] []
  g_trees_with : mg "trees_with" = some (.ref a_trees_with)
  k_trees_with : PySem.W.keepIn K (.ref a_trees_with) = true
  a_first_of : Addr
  fd_first_of : FuncData
  f_first_of : Fun K "first_of" "first_of" s_first_of a_first_of fd_first_of
  b_first_of : Binds K fd_first_of ["left", "number"] []
  g_first_of : mg "first_of" = some (.ref a_first_of)
  k_first_of : PySem.W.keepIn K (.ref a_first_of) = true
  a_tree_with : Addr
  fd_tree_with : FuncData
  f_tree_with : Fun K "tree_with" "tree_with" s_tree_with a_tree_with fd_tree_with
  b_tree_with : Binds K fd_tree_with ["counts", "number"] []
  g_tree_with : mg "tree_with" = some (.ref a_tree_with)
  k_tree_with : PySem.W.keepIn K (.ref a_tree_with) = true
  a_number_with : Addr
  fd_number_with : FuncData
  f_number_with : Fun K "number_with" "number_with" s_number_with a_number_with fd_number_with
  b_number_with : Binds K fd_number_with ["houses", "roads"] []
  g_number_with : mg "number_with" = some (.ref a_number_with)
  k_number_with : PySem.W.keepIn K (.ref a_number_with) = true
  a_told : Addr
  fd_told : FuncData
  f_told : Fun K "told" "told" s_told a_told fd_told
  b_told : Binds K fd_told ["houses", "roads"] []
  g_told : mg "told" = some (.ref a_told)
  k_told : PySem.W.keepIn K (.ref a_told) = true
  a_led : Addr
  fd_led : FuncData
  f_led : Fun K "led" "led" s_led a_led fd_led
  b_led : Binds K fd_led ["houses", "roads", "others"] []
  g_led : mg "led" = some (.ref a_led)
  k_led : PySem.W.keepIn K (.ref a_led) = true
  a__law_with_houses : Addr
  fd__law_with_houses : FuncData
  f__law_with_houses : Fun K "_law_with_houses" "_law_with_houses" s__law_with_houses a__law_with_houses fd__law_with_houses
  b__law_with_houses : Binds K fd__law_with_houses ["_law_door", "_law_thing"] []
  g__law_with_houses : mg "_law_with_houses" = some (.ref a__law_with_houses)
  k__law_with_houses : PySem.W.keepIn K (.ref a__law_with_houses) = true
  a__law_with_roads : Addr
  fd__law_with_roads : FuncData
  f__law_with_roads : Fun K "_law_with_roads" "_law_with_roads" s__law_with_roads a__law_with_roads fd__law_with_roads
  b__law_with_roads : Binds K fd__law_with_roads ["_law_door", "_law_thing"] []
  g__law_with_roads : mg "_law_with_roads" = some (.ref a__law_with_roads)
  k__law_with_roads : PySem.W.keepIn K (.ref a__law_with_roads) = true
  a__law_with_no_tree : Addr
  fd__law_with_no_tree : FuncData
  f__law_with_no_tree : Fun K "_law_with_no_tree" "_law_with_no_tree" s__law_with_no_tree a__law_with_no_tree fd__law_with_no_tree
  b__law_with_no_tree : Binds K fd__law_with_no_tree ["_law_door", "_law_thing"] []
  g__law_with_no_tree : mg "_law_with_no_tree" = some (.ref a__law_with_no_tree)
  k__law_with_no_tree : PySem.W.keepIn K (.ref a__law_with_no_tree) = true
  a__law_with_others : Addr
  fd__law_with_others : FuncData
  f__law_with_others : Fun K "_law_with_others" "_law_with_others" s__law_with_others a__law_with_others fd__law_with_others
  b__law_with_others : Binds K fd__law_with_others ["_law_door", "_law_thing"] []
  g__law_with_others : mg "_law_with_others" = some (.ref a__law_with_others)
  k__law_with_others : PySem.W.keepIn K (.ref a__law_with_others) = true
  a__law_bad_houses : Addr
  fd__law_bad_houses : FuncData
  f__law_bad_houses : Fun K "_law_bad_houses" "_law_bad_houses" s__law_bad_houses a__law_bad_houses fd__law_bad_houses
  b__law_bad_houses : Binds K fd__law_bad_houses ["_law_cell"] []
  g__law_bad_houses : mg "_law_bad_houses" = some (.ref a__law_bad_houses)
  k__law_bad_houses : PySem.W.keepIn K (.ref a__law_bad_houses) = true
  a__law_bad_roads : Addr
  fd__law_bad_roads : FuncData
  f__law_bad_roads : Fun K "_law_bad_roads" "_law_bad_roads" s__law_bad_roads a__law_bad_roads fd__law_bad_roads
  b__law_bad_roads : Binds K fd__law_bad_roads ["_law_cell"] []
  g__law_bad_roads : mg "_law_bad_roads" = some (.ref a__law_bad_roads)
  k__law_bad_roads : PySem.W.keepIn K (.ref a__law_bad_roads) = true
  a__law_no_trees : Addr
  fd__law_no_trees : FuncData
  f__law_no_trees : Fun K "_law_no_trees" "_law_no_trees" s__law_no_trees a__law_no_trees fd__law_no_trees
  b__law_no_trees : Binds K fd__law_no_trees ["_law_cell"] []
  g__law_no_trees : mg "_law_no_trees" = some (.ref a__law_no_trees)
  k__law_no_trees : PySem.W.keepIn K (.ref a__law_no_trees) = true
  a__law_bad_house : Addr
  fd__law_bad_house : FuncData
  f__law_bad_house : Fun K "_law_bad_house" "_law_bad_house" s__law_bad_house a__law_bad_house fd__law_bad_house
  b__law_bad_house : Binds K fd__law_bad_house ["_law_cell"] []
  g__law_bad_house : mg "_law_bad_house" = some (.ref a__law_bad_house)
  k__law_bad_house : PySem.W.keepIn K (.ref a__law_bad_house) = true
  a__law_bad_words : Addr
  fd__law_bad_words : FuncData
  f__law_bad_words : Fun K "_law_bad_words" "_law_bad_words" s__law_bad_words a__law_bad_words fd__law_bad_words
  b__law_bad_words : Binds K fd__law_bad_words ["_law_cell"] []
  g__law_bad_words : mg "_law_bad_words" = some (.ref a__law_bad_words)
  k__law_bad_words : PySem.W.keepIn K (.ref a__law_bad_words) = true
  a__law_bad_numbers : Addr
  fd__law_bad_numbers : FuncData
  f__law_bad_numbers : Fun K "_law_bad_numbers" "_law_bad_numbers" s__law_bad_numbers a__law_bad_numbers fd__law_bad_numbers
  b__law_bad_numbers : Binds K fd__law_bad_numbers ["_law_cell"] []
  g__law_bad_numbers : mg "_law_bad_numbers" = some (.ref a__law_bad_numbers)
  k__law_bad_numbers : PySem.W.keepIn K (.ref a__law_bad_numbers) = true
  a__law_bad_counts : Addr
  fd__law_bad_counts : FuncData
  f__law_bad_counts : Fun K "_law_bad_counts" "_law_bad_counts" s__law_bad_counts a__law_bad_counts fd__law_bad_counts
  b__law_bad_counts : Binds K fd__law_bad_counts ["_law_cell"] []
  g__law_bad_counts : mg "_law_bad_counts" = some (.ref a__law_bad_counts)
  k__law_bad_counts : PySem.W.keepIn K (.ref a__law_bad_counts) = true
  a__law_due : Addr
  fd__law_due : FuncData
  f__law_due : Fun K "_law_due" "_law_due" s__law_due a__law_due fd__law_due
  b__law_due : Binds K fd__law_due ["_law_ask", "_law_door", "_law_thing", "_law_due_here"] []
  g__law_due : mg "_law_due" = some (.ref a__law_due)
  k__law_due : PySem.W.keepIn K (.ref a__law_due) = true
  a_law : Addr
  fd_law : FuncData
  f_law : Fun K "law" "law" s_law a_law fd_law
  b_law : Binds K fd_law ["_law_script"] []
  g_law : mg "law" = some (.ref a_law)
  k_law : PySem.W.keepIn K (.ref a_law) = true
  z_isinstance : mg "isinstance" = none
  z_int : mg "int" = none
  z_bool : mg "bool" = none
  z_list : mg "list" = none
  z_tuple : mg "tuple" = none
  z_str : mg "str" = none
  z_len : mg "len" = none
  z_set : mg "set" = none
  z_range : mg "range" = none
  z_all : mg "all" = none
  z_any : mg "any" = none
  z_min : mg "min" = none
  z_max : mg "max" = none
  z_sum : mg "sum" = none
  z_sorted : mg "sorted" = none
  z_enumerate : mg "enumerate" = none
  z_abs : mg "abs" = none
  z_zip : mg "zip" = none
  z_ValueError : mg "ValueError" = none
  t_MOST : Tok
  g_MOST : mg "MOST_HOUSES" = some (.int 200 t_MOST)
  g_TreeError : mg "TreeError" = some (.ref c.TreeError)
  kc_TreeError : PySem.W.keepIn K (.ref c.TreeError) = true
  bc_TreeError : PySem.W.subIn K (.ref c.TreeError) (.type "BaseException") = some true
  tc_TreeError : PySem.W.typeIn K (.ref c.TreeError) = some (.type "type")
  g_BadHouses : mg "BadHouses" = some (.ref c.BadHouses)
  kc_BadHouses : PySem.W.keepIn K (.ref c.BadHouses) = true
  bc_BadHouses : PySem.W.subIn K (.ref c.BadHouses) (.type "BaseException") = some true
  tc_BadHouses : PySem.W.typeIn K (.ref c.BadHouses) = some (.type "type")
  x_BadHouses : PySem.W.excIn K c.BadHouses [.type "ValueError", .type "Exception", .type "BaseException", .type "object"] "ValueError.__new__" = true
  g_BadRoads : mg "BadRoads" = some (.ref c.BadRoads)
  kc_BadRoads : PySem.W.keepIn K (.ref c.BadRoads) = true
  bc_BadRoads : PySem.W.subIn K (.ref c.BadRoads) (.type "BaseException") = some true
  tc_BadRoads : PySem.W.typeIn K (.ref c.BadRoads) = some (.type "type")
  x_BadRoads : PySem.W.excIn K c.BadRoads [.type "ValueError", .type "Exception", .type "BaseException", .type "object"] "ValueError.__new__" = true
  g_BadHouse : mg "BadHouse" = some (.ref c.BadHouse)
  kc_BadHouse : PySem.W.keepIn K (.ref c.BadHouse) = true
  bc_BadHouse : PySem.W.subIn K (.ref c.BadHouse) (.type "BaseException") = some true
  tc_BadHouse : PySem.W.typeIn K (.ref c.BadHouse) = some (.type "type")
  x_BadHouse : PySem.W.excIn K c.BadHouse [.type "ValueError", .type "Exception", .type "BaseException", .type "object"] "ValueError.__new__" = true
  g_BadWord : mg "BadWord" = some (.ref c.BadWord)
  kc_BadWord : PySem.W.keepIn K (.ref c.BadWord) = true
  bc_BadWord : PySem.W.subIn K (.ref c.BadWord) (.type "BaseException") = some true
  tc_BadWord : PySem.W.typeIn K (.ref c.BadWord) = some (.type "type")
  x_BadWord : PySem.W.excIn K c.BadWord [.type "ValueError", .type "Exception", .type "BaseException", .type "object"] "ValueError.__new__" = true
  g_BadNumber : mg "BadNumber" = some (.ref c.BadNumber)
  kc_BadNumber : PySem.W.keepIn K (.ref c.BadNumber) = true
  bc_BadNumber : PySem.W.subIn K (.ref c.BadNumber) (.type "BaseException") = some true
  tc_BadNumber : PySem.W.typeIn K (.ref c.BadNumber) = some (.type "type")
  x_BadNumber : PySem.W.excIn K c.BadNumber [.type "ValueError", .type "Exception", .type "BaseException", .type "object"] "ValueError.__new__" = true
  g_BadCounts : mg "BadCounts" = some (.ref c.BadCounts)
  kc_BadCounts : PySem.W.keepIn K (.ref c.BadCounts) = true
  bc_BadCounts : PySem.W.subIn K (.ref c.BadCounts) (.type "BaseException") = some true
  tc_BadCounts : PySem.W.typeIn K (.ref c.BadCounts) = some (.type "type")
  x_BadCounts : PySem.W.excIn K c.BadCounts [.type "ValueError", .type "Exception", .type "BaseException", .type "object"] "ValueError.__new__" = true
  g_NoTree : mg "NoTree" = some (.ref c.NoTree)
  kc_NoTree : PySem.W.keepIn K (.ref c.NoTree) = true
  bc_NoTree : PySem.W.subIn K (.ref c.NoTree) (.type "BaseException") = some true
  tc_NoTree : PySem.W.typeIn K (.ref c.NoTree) = some (.type "type")
  x_NoTree : PySem.W.excIn K c.NoTree [.type "ValueError", .type "Exception", .type "BaseException", .type "object"] "ValueError.__new__" = true
  ec_0 : ExcC K c.BadHouses
  sm_0 : PySem.W.subIn K (.ref c.BadHouses) (.ref c.TreeError) = some true
  kv_0 : PySem.W.kitOne K (.ref c.BadHouses) (.type "ValueError") = some true
  ki_0_0 : PySem.W.kitOne K (.ref c.BadHouses) (.ref c.BadHouses) = some true
  ki_0_1 : PySem.W.kitOne K (.ref c.BadHouses) (.ref c.BadRoads) = some false
  ki_0_2 : PySem.W.kitOne K (.ref c.BadHouses) (.ref c.BadHouse) = some false
  ki_0_3 : PySem.W.kitOne K (.ref c.BadHouses) (.ref c.BadWord) = some false
  ki_0_4 : PySem.W.kitOne K (.ref c.BadHouses) (.ref c.BadNumber) = some false
  ki_0_5 : PySem.W.kitOne K (.ref c.BadHouses) (.ref c.BadCounts) = some false
  ki_0_6 : PySem.W.kitOne K (.ref c.BadHouses) (.ref c.NoTree) = some false
  ec_1 : ExcC K c.BadRoads
  sm_1 : PySem.W.subIn K (.ref c.BadRoads) (.ref c.TreeError) = some true
  kv_1 : PySem.W.kitOne K (.ref c.BadRoads) (.type "ValueError") = some true
  ki_1_0 : PySem.W.kitOne K (.ref c.BadRoads) (.ref c.BadHouses) = some false
  ki_1_1 : PySem.W.kitOne K (.ref c.BadRoads) (.ref c.BadRoads) = some true
  ki_1_2 : PySem.W.kitOne K (.ref c.BadRoads) (.ref c.BadHouse) = some false
  ki_1_3 : PySem.W.kitOne K (.ref c.BadRoads) (.ref c.BadWord) = some false
  ki_1_4 : PySem.W.kitOne K (.ref c.BadRoads) (.ref c.BadNumber) = some false
  ki_1_5 : PySem.W.kitOne K (.ref c.BadRoads) (.ref c.BadCounts) = some false
  ki_1_6 : PySem.W.kitOne K (.ref c.BadRoads) (.ref c.NoTree) = some false
  ec_2 : ExcC K c.BadHouse
  sm_2 : PySem.W.subIn K (.ref c.BadHouse) (.ref c.TreeError) = some true
  kv_2 : PySem.W.kitOne K (.ref c.BadHouse) (.type "ValueError") = some true
  ki_2_0 : PySem.W.kitOne K (.ref c.BadHouse) (.ref c.BadHouses) = some false
  ki_2_1 : PySem.W.kitOne K (.ref c.BadHouse) (.ref c.BadRoads) = some false
  ki_2_2 : PySem.W.kitOne K (.ref c.BadHouse) (.ref c.BadHouse) = some true
  ki_2_3 : PySem.W.kitOne K (.ref c.BadHouse) (.ref c.BadWord) = some false
  ki_2_4 : PySem.W.kitOne K (.ref c.BadHouse) (.ref c.BadNumber) = some false
  ki_2_5 : PySem.W.kitOne K (.ref c.BadHouse) (.ref c.BadCounts) = some false
  ki_2_6 : PySem.W.kitOne K (.ref c.BadHouse) (.ref c.NoTree) = some false
  ec_3 : ExcC K c.BadWord
  sm_3 : PySem.W.subIn K (.ref c.BadWord) (.ref c.TreeError) = some true
  kv_3 : PySem.W.kitOne K (.ref c.BadWord) (.type "ValueError") = some true
  ki_3_0 : PySem.W.kitOne K (.ref c.BadWord) (.ref c.BadHouses) = some false
  ki_3_1 : PySem.W.kitOne K (.ref c.BadWord) (.ref c.BadRoads) = some false
  ki_3_2 : PySem.W.kitOne K (.ref c.BadWord) (.ref c.BadHouse) = some false
  ki_3_3 : PySem.W.kitOne K (.ref c.BadWord) (.ref c.BadWord) = some true
  ki_3_4 : PySem.W.kitOne K (.ref c.BadWord) (.ref c.BadNumber) = some false
  ki_3_5 : PySem.W.kitOne K (.ref c.BadWord) (.ref c.BadCounts) = some false
  ki_3_6 : PySem.W.kitOne K (.ref c.BadWord) (.ref c.NoTree) = some false
  ec_4 : ExcC K c.BadNumber
  sm_4 : PySem.W.subIn K (.ref c.BadNumber) (.ref c.TreeError) = some true
  kv_4 : PySem.W.kitOne K (.ref c.BadNumber) (.type "ValueError") = some true
  ki_4_0 : PySem.W.kitOne K (.ref c.BadNumber) (.ref c.BadHouses) = some false
  ki_4_1 : PySem.W.kitOne K (.ref c.BadNumber) (.ref c.BadRoads) = some false
  ki_4_2 : PySem.W.kitOne K (.ref c.BadNumber) (.ref c.BadHouse) = some false
  ki_4_3 : PySem.W.kitOne K (.ref c.BadNumber) (.ref c.BadWord) = some false
  ki_4_4 : PySem.W.kitOne K (.ref c.BadNumber) (.ref c.BadNumber) = some true
  ki_4_5 : PySem.W.kitOne K (.ref c.BadNumber) (.ref c.BadCounts) = some false
  ki_4_6 : PySem.W.kitOne K (.ref c.BadNumber) (.ref c.NoTree) = some false
  ec_5 : ExcC K c.BadCounts
  sm_5 : PySem.W.subIn K (.ref c.BadCounts) (.ref c.TreeError) = some true
  kv_5 : PySem.W.kitOne K (.ref c.BadCounts) (.type "ValueError") = some true
  ki_5_0 : PySem.W.kitOne K (.ref c.BadCounts) (.ref c.BadHouses) = some false
  ki_5_1 : PySem.W.kitOne K (.ref c.BadCounts) (.ref c.BadRoads) = some false
  ki_5_2 : PySem.W.kitOne K (.ref c.BadCounts) (.ref c.BadHouse) = some false
  ki_5_3 : PySem.W.kitOne K (.ref c.BadCounts) (.ref c.BadWord) = some false
  ki_5_4 : PySem.W.kitOne K (.ref c.BadCounts) (.ref c.BadNumber) = some false
  ki_5_5 : PySem.W.kitOne K (.ref c.BadCounts) (.ref c.BadCounts) = some true
  ki_5_6 : PySem.W.kitOne K (.ref c.BadCounts) (.ref c.NoTree) = some false
  ec_6 : ExcC K c.NoTree
  sm_6 : PySem.W.subIn K (.ref c.NoTree) (.ref c.TreeError) = some true
  kv_6 : PySem.W.kitOne K (.ref c.NoTree) (.type "ValueError") = some true
  ki_6_0 : PySem.W.kitOne K (.ref c.NoTree) (.ref c.BadHouses) = some false
  ki_6_1 : PySem.W.kitOne K (.ref c.NoTree) (.ref c.BadRoads) = some false
  ki_6_2 : PySem.W.kitOne K (.ref c.NoTree) (.ref c.BadHouse) = some false
  ki_6_3 : PySem.W.kitOne K (.ref c.NoTree) (.ref c.BadWord) = some false
  ki_6_4 : PySem.W.kitOne K (.ref c.NoTree) (.ref c.BadNumber) = some false
  ki_6_5 : PySem.W.kitOne K (.ref c.NoTree) (.ref c.BadCounts) = some false
  ki_6_6 : PySem.W.kitOne K (.ref c.NoTree) (.ref c.NoTree) = some true
  hd_TreeError : PySem.W.hasDictIn K c.TreeError = true
theorem len__law_bad_houses {K : PySem.W.Frag} {vs : List V} {H : Hp} {Q : VK} {E : XK} (h : sp__law_bad_houses K vs H Q E) : vs.length = 1 := len_things h
theorem len__law_bad_roads {K : PySem.W.Frag} {vs : List V} {H : Hp} {Q : VK} {E : XK} (h : sp__law_bad_roads K vs H Q E) : vs.length = 1 := len_things h
theorem len__law_no_trees {K : PySem.W.Frag} {vs : List V} {H : Hp} {Q : VK} {E : XK} (h : sp__law_no_trees K vs H Q E) : vs.length = 1 := len_things h
theorem len__law_bad_house {K : PySem.W.Frag} {vs : List V} {H : Hp} {Q : VK} {E : XK} (h : sp__law_bad_house K vs H Q E) : vs.length = 1 := len_things h
theorem len__law_bad_words {K : PySem.W.Frag} {vs : List V} {H : Hp} {Q : VK} {E : XK} (h : sp__law_bad_words K vs H Q E) : vs.length = 1 := len_things h
theorem len__law_bad_numbers {K : PySem.W.Frag} {vs : List V} {H : Hp} {Q : VK} {E : XK} (h : sp__law_bad_numbers K vs H Q E) : vs.length = 1 := len_things h
theorem len__law_bad_counts {K : PySem.W.Frag} {vs : List V} {H : Hp} {Q : VK} {E : XK} (h : sp__law_bad_counts K vs H Q E) : vs.length = 1 := len_things h
section
variable {P : Program} {w : World} {K : PySem.W.Frag} {mg : Str → Option Value} {base : Heap} {c : Cs}
theorem sc_is_number : FnScope N_is_number ["thing", "least", "most"] (defScope s_is_number) := ⟨rfl, rfl, rfl, by decide +kernel, rfl, by decide +kernel, by decide +kernel⟩
theorem ok_is_number (T : TX K mg c) : FnOk P w K mg base CX0 1 T.a_is_number T.fd_is_number ["thing", "least", "most"] (sp_is_number K) :=
  T.f_is_number.ok sc_is_number (fun vs H Q E h => len_is_number h) (fun cdv A outer s H vs Q E hr h => ⟨t_is_number K, (pss_one (ps_ret (pe_and (pe_callB call_isTh (by rfl) T.z_isinstance (by decide +kernel) (pa_cons (pv 0) (pa_cons (pe_bltn (v := .ty "int") (by rfl) T.z_int (by decide +kernel) rfl) pa_nil))) (pe_and (pe_not (pe_callB call_isTh (by rfl) T.z_isinstance (by decide +kernel) (pa_cons (pv 0) (pa_cons (pe_bltn (v := .ty "bool") (by rfl) T.z_bool (by decide +kernel) rfl) pa_nil)))) (pe_one (pe_chain op_le op_le (pv 1) (pv 0) (pv 2))))))), pure_is_number h⟩)
theorem sc_check_houses : FnScope N_check_houses ["houses"] (defScope s_check_houses) := ⟨rfl, rfl, rfl, by decide +kernel, rfl, by decide +kernel, by decide +kernel⟩
theorem ok_check_houses (T : TX K mg c) : FnOk P w K mg base (L2N.CX P w) 2 T.a_check_houses T.fd_check_houses ["houses"] (sp_check_houses K c) :=
  okN T.f_check_houses sc_check_houses (fun vs H Q E h => len_check_houses h) (fun cdv A outer s H vs Q E hr h => ⟨t_check_houses K c E, (pss_one (ps_if (pt_not (pt_val (pe_call (ok_is_number T) (hr.mono (by decide)) (by rfl) T.g_is_number T.k_is_number T.b_is_number .nil pass0 (pa_cons (pv 0) (pa_cons pe_int (pa_cons (pe_glob (by rfl) T.g_MOST ⟨_, rfl⟩) pa_nil)))))) (pss_one (L2N.ps_raise rfl (L2N.takes_of rfl rfl rfl rfl) (L2N.pmk_own PySem.F.excBase_ValueError T.x_BadHouses T.g_BadHouses T.kc_BadHouses (raises_own T.bc_BadHouses T.tc_BadHouses) (by rfl)))) pss_nil)), pure_check_houses h⟩)
theorem sc_is_road : FnScope N_is_road ["thing", "houses"] (defScope s_is_road) := ⟨rfl, rfl, rfl, by decide +kernel, rfl, by decide +kernel, by decide +kernel⟩
theorem ok_is_road (T : TX K mg c) : FnOk P w K mg base CX0 2 T.a_is_road T.fd_is_road ["thing", "houses"] (sp_is_road K) :=
  T.f_is_road.ok sc_is_road (fun vs H Q E h => len_is_road h) (fun cdv A outer s H vs Q E hr h => ⟨t_is_road K, (pss_cons (ps_if (PW.pt (pw_or (pt_not (pt_val (pe_callB call_isTh (by rfl) T.z_isinstance (by decide +kernel) (pa_cons (pv 0) (pa_cons (pe_bltn (v := .ty "tuple") (by rfl) T.z_tuple (by decide +kernel) rfl) pa_nil))))) (pw_or1 (pt_cmpR op_ne (pe_callB call_len_seq (by rfl) T.z_len (by decide +kernel) (pa_cons (pv 0) pa_nil)) pe_int (nomark _))))) (pss_one (ps_ret pe_bl)) pss_nil) (pss_one (ps_ret (pe_and (pe_callB (cr_all rfl) (by rfl) T.z_all (by decide +kernel) (pa_cons (pe_lc (own := [("house", 2)]) (g := (gName 2)) (tt := tYes) (te := (tCall (sp_is_number K) [] E0 (tCons (tVar 2) (tCons (tC (.int 0)) (tCons (tOp rSub (tVar 1) (tC (.int 1))) tNil))))) (by rfl) sc_is_road.nd (pi_tup (pv 0)) (blkOk_by (own := [("house", 2)]) (N := N_is_road) (sc := defScope s_is_road) (by decide +kernel)) (fun _ _ _ _ _ => (pg_name (i := 2) sc_is_road.nd rfl (.inl rfl))) (fun _ _ _ _ _ => pts_nil) (fun _ _ _ _ _ => (pe_call (ok_is_number T) (hr.mono (by decide)) (by rfl) T.g_is_number T.k_is_number T.b_is_number .nil pass0 (pa_cons (pv 2) (pa_cons pe_int (pa_cons (pe_op op_sub (pv 1) pe_int) pa_nil)))))) pa_nil)) (pe_one (pe_cmpR op_lt (pe_ix ix_tup (pv 0) pe_int (fun _ _ => rfl)) (pe_ix ix_tup (pv 0) pe_int (fun _ _ => rfl)) (nomark _))))))), pure_is_road h⟩)
theorem sc_check_roads : FnScope N_check_roads ["houses", "roads"] (defScope s_check_roads) := ⟨rfl, rfl, rfl, by decide +kernel, rfl, by decide +kernel, by decide +kernel⟩
theorem ok_check_roads (T : TX K mg c) : FnOk P w K mg base (L2N.CX P w) 3 T.a_check_roads T.fd_check_roads ["houses", "roads"] (sp_check_roads K c) :=
  okN T.f_check_roads sc_check_roads (fun vs H Q E h => len_check_roads h) (fun cdv A outer s H vs Q E hr h => ⟨t_check_roads K c E, (pss_cons (ps_if (PW.pt (pw_or (pt_not (pt_val (pe_callB call_isTh (by rfl) T.z_isinstance (by decide +kernel) (pa_cons (pv 1) (pa_cons (pe_bltn (v := .ty "list") (by rfl) T.z_list (by decide +kernel) rfl) pa_nil))))) (pw_or1 (pt_not (pt_val (pe_callB (cr_all rfl) (by rfl) T.z_all (by decide +kernel) (pa_cons (pe_lc (own := [("road", 2)]) (g := (gName 2)) (tt := tYes) (te := (tCall (sp_is_road K) [] E0 (tCons (tVar 2) (tCons (tVar 0) tNil)))) (by rfl) sc_check_roads.nd (pi_list (pv 1)) (blkOk_by (own := [("road", 2)]) (N := N_check_roads) (sc := defScope s_check_roads) (by decide +kernel)) (fun _ _ _ _ _ => (pg_name (i := 2) sc_check_roads.nd rfl (.inl rfl))) (fun _ _ _ _ _ => pts_nil) (fun _ _ _ _ _ => (pe_call (ok_is_road T) (hr.mono (by decide)) (by rfl) T.g_is_road T.k_is_road T.b_is_road .nil pass0 (pa_cons (pv 2) (pa_cons (pv 0) pa_nil))))) pa_nil))))))) (pss_one (L2N.ps_raise rfl (L2N.takes_of rfl rfl rfl rfl) (L2N.pmk_own PySem.F.excBase_ValueError T.x_BadRoads T.g_BadRoads T.kc_BadRoads (raises_own T.bc_BadRoads T.tc_BadRoads) (by rfl)))) pss_nil) (pss_one (ps_if (pt_cmpR op_ne (pe_lenSetR (by rfl) hr.units (by rfl) T.z_len (by rfl) T.z_set (pv 1)) (pe_callB call_len_seq (by rfl) T.z_len (by decide +kernel) (pa_cons (pv 1) pa_nil)) (nomark _)) (pss_one (L2N.ps_raise rfl (L2N.takes_of rfl rfl rfl rfl) (L2N.pmk_own PySem.F.excBase_ValueError T.x_BadRoads T.g_BadRoads T.kc_BadRoads (raises_own T.bc_BadRoads T.tc_BadRoads) (by rfl)))) pss_nil))), pure_check_roads h⟩)
theorem sc_neighbours_of : FnScope N_neighbours_of ["houses", "roads"] (defScope s_neighbours_of) := ⟨rfl, rfl, rfl, by decide +kernel, rfl, by decide +kernel, by decide +kernel⟩
theorem ok_neighbours_of (T : TX K mg c) : FnOk P w K mg base CX0 1 T.a_neighbours_of T.fd_neighbours_of ["houses", "roads"] (sp_neighbours_of K) :=
  T.f_neighbours_of.ok sc_neighbours_of (fun vs H Q E h => len_neighbours_of h) (fun cdv A outer s H vs Q E hr h => ⟨t_neighbours_of K, (pss_cons (ps_setLc (i := 2) (own := [("house", 3)]) (g := (gName 3)) (tt := tYes) (te := (tLst tNil)) (by rfl) sc_neighbours_of.nd rfl rfl (sw_true rfl rfl rfl (by decide +kernel)) (pi_range1 (by rfl) T.z_range (pa_cons (pv 0) pa_nil)) (blkOk_by (own := [("house", 3)]) (N := N_neighbours_of) (sc := defScope s_neighbours_of) (by decide +kernel)) (fun _ _ _ _ _ => (pg_name (i := 3) sc_neighbours_of.nd rfl (.inl rfl))) (fun _ _ _ _ _ => pts_nil) (fun _ _ _ _ _ => (pe_lst pa_nil))) (pss_cons (ps_for PassesOwn.never (by rfl) (pi_list (pv 1)) (pg_tup (by rfl) (pgs_cons (pg_name (i := 4) sc_neighbours_of.nd rfl (.inl rfl)) (pgs_cons (pg_name (i := 5) sc_neighbours_of.nd rfl (.inl rfl)) pgs_nil))) (pss_cons (ps_expr (pe_bm PySem.F.plainAttrs_list PySem.F.slot_list_append PySem.F.type_list_append mt_append (pe_ix ix_list (pv 2) (pv 4) (fun _ _ => rfl)) (pa_cons (pv 5) pa_nil))) (pss_one (ps_expr (pe_bm PySem.F.plainAttrs_list PySem.F.slot_list_append PySem.F.type_list_append mt_append (pe_ix ix_list (pv 2) (pv 5) (fun _ _ => rfl)) (pa_cons (pv 4) pa_nil)))))) (pss_one (ps_ret (pv 2))))), pure_neighbours_of h⟩)
theorem sc_came_from : FnScope N_came_from ["houses", "roads", "begin"] (defScope s_came_from) := ⟨rfl, rfl, rfl, by decide +kernel, rfl, by decide +kernel, by decide +kernel⟩
theorem ok_came_from (T : TX K mg c) : FnOk P w K mg base CX0 2 T.a_came_from T.fd_came_from ["houses", "roads", "begin"] (sp_came_from K) :=
  T.f_came_from.ok sc_came_from (fun vs H Q E h => len_came_from h) (fun cdv A outer s H vs Q E hr h => ⟨t_came_from K, (pss_cons (ps_set (i := 3) sc_came_from.nd rfl (.inl rfl) (pe_call (ok_neighbours_of T) (hr.mono (by decide)) (by rfl) T.g_neighbours_of T.k_neighbours_of T.b_neighbours_of .nil pass0 (pa_cons (pv 0) (pa_cons (pv 1) pa_nil)))) (pss_cons (ps_set (i := 4) sc_came_from.nd rfl (.inl rfl) (pe_op op_rep (pe_lst (pa_cons (pe_un un_neg pe_int) pa_nil)) (pv 0))) (pss_cons (ps_asg (pv 2) (pg_sub (pv 4) (pv 2) set_list)) (pss_cons (ps_set (i := 5) sc_came_from.nd rfl (.inl rfl) (pe_lst (pa_cons (pv 2) pa_nil))) (pss_cons (ps_while PassesOwn.never (pt_cmpR op_gt (pe_callB call_len_seq (by rfl) T.z_len (by decide +kernel) (pa_cons (pv 5) pa_nil)) pe_int (nomark _)) (pss_cons (ps_set (i := 6) sc_came_from.nd rfl (.inl rfl) (pe_bm0 PySem.F.plainAttrs_list PySem.F.slot_list_pop PySem.F.type_list_pop mt_pop (pv 5))) (pss_one (ps_for PassesOwn.never (by rfl) (pi_list (pe_ix ix_list (pv 3) (pv 6) (fun _ _ => rfl))) (pg_name (i := 7) sc_came_from.nd rfl (.inl rfl)) (pss_one (ps_if (pt_cmpR op_lt (pe_ix ix_list (pv 4) (pv 7) (fun _ _ => rfl)) pe_int (nomark _)) (pss_cons (ps_asg (pv 6) (pg_sub (pv 4) (pv 7) set_list)) (pss_one (ps_expr (pe_bm PySem.F.plainAttrs_list PySem.F.slot_list_append PySem.F.type_list_append mt_append (pv 5) (pa_cons (pv 7) pa_nil))))) pss_nil)))))) (pss_one (ps_ret (pv 4)))))))), pure_came_from h⟩)
theorem sc_way_by : FnScope N_way_by ["ahead", "house"] (defScope s_way_by) := ⟨rfl, rfl, rfl, by decide +kernel, rfl, by decide +kernel, by decide +kernel⟩
theorem ok_way_by (T : TX K mg c) : FnOk P w K mg base CX0 1 T.a_way_by T.fd_way_by ["ahead", "house"] (sp_way_by K) :=
  T.f_way_by.ok sc_way_by (fun vs H Q E h => len_way_by h) (fun cdv A outer s H vs Q E hr h => ⟨t_way_by K, (pss_cons (ps_set (i := 2) sc_way_by.nd rfl (.inl rfl) (pe_lst (pa_cons (pv 1) pa_nil))) (pss_cons (ps_while PassesOwn.never (pt_cmpR op_ne (pe_ix ix_list (pv 0) (pe_ix ix_list (pv 2) (pe_un un_neg pe_int) (fun _ _ => rfl)) (fun _ _ => rfl)) (pe_ix ix_list (pv 2) (pe_un un_neg pe_int) (fun _ _ => rfl)) (nomark _)) (pss_one (ps_expr (pe_bm PySem.F.plainAttrs_list PySem.F.slot_list_append PySem.F.type_list_append mt_append (pv 2) (pa_cons (pe_ix ix_list (pv 0) (pe_ix ix_list (pv 2) (pe_un un_neg pe_int) (fun _ _ => rfl)) (fun _ _ => rfl)) pa_nil))))) (pss_one (ps_ret (pe_revL (pv 2)))))), pure_way_by h⟩)
theorem sc_is_tree : FnScope N_is_tree ["houses", "roads"] (defScope s_is_tree) := ⟨rfl, rfl, rfl, by decide +kernel, rfl, by decide +kernel, by decide +kernel⟩
theorem ok_is_tree (T : TX K mg c) : FnOk P w K mg base CX0 3 T.a_is_tree T.fd_is_tree ["houses", "roads"] (sp_is_tree K) :=
  T.f_is_tree.ok sc_is_tree (fun vs H Q E h => len_is_tree h) (fun cdv A outer s H vs Q E hr h => ⟨t_is_tree K, (pss_one (ps_ret (pe_and (pe_cmpR op_eq (pe_callB call_len_seq (by rfl) T.z_len (by decide +kernel) (pa_cons (pv 1) pa_nil)) (pe_op op_sub (pv 0) pe_int) (nomark _)) (pe_one (pe_cmpR op_ge (pe_callB (cr_min rfl) (by rfl) T.z_min (by decide +kernel) (pa_cons (pe_call (ok_came_from T) (hr.mono (by decide)) (by rfl) T.g_came_from T.k_came_from T.b_came_from .nil pass0 (pa_cons (pv 0) (pa_cons (pv 1) (pa_cons pe_int pa_nil)))) pa_nil)) pe_int (nomark _)))))), pure_is_tree h⟩)
theorem sc_road_of : FnScope N_road_of ["one", "other"] (defScope s_road_of) := ⟨rfl, rfl, rfl, by decide +kernel, rfl, by decide +kernel, by decide +kernel⟩
theorem ok_road_of (T : TX K mg c) : FnOk P w K mg base CX0 1 T.a_road_of T.fd_road_of ["one", "other"] (sp_road_of K) :=
  T.f_road_of.ok sc_road_of (fun vs H Q E h => len_road_of h) (fun cdv A outer s H vs Q E hr h => ⟨t_road_of K, (pss_one (ps_ret (pe_tup (pa_cons (pe_callB (call_min2 rfl) (by rfl) T.z_min (by decide +kernel) (pa_cons (pv 0) (pa_cons (pv 1) pa_nil))) (pa_cons (pe_callB (call_max2 rfl) (by rfl) T.z_max (by decide +kernel) (pa_cons (pv 0) (pa_cons (pv 1) pa_nil))) pa_nil))))), pure_road_of h⟩)
theorem sc_letters_of : FnScope N_letters_of ["houses", "roads"] (defScope s_letters_of) := ⟨rfl, rfl, rfl, by decide +kernel, rfl, by decide +kernel, by decide +kernel⟩
theorem ok_letters_of (T : TX K mg c) : FnOk P w K mg base CX0 2 T.a_letters_of T.fd_letters_of ["houses", "roads"] (sp_letters_of K) :=
  T.f_letters_of.ok sc_letters_of (fun vs H Q E h => len_letters_of h) (fun cdv A outer s H vs Q E hr h => ⟨t_letters_of K, (pss_cons (ps_set (i := 2) sc_letters_of.nd rfl (.inl rfl) (pe_call (ok_neighbours_of T) (hr.mono (by decide)) (by rfl) T.g_neighbours_of T.k_neighbours_of T.b_neighbours_of .nil pass0 (pa_cons (pv 0) (pa_cons (pv 1) pa_nil)))) (pss_cons (ps_setLc (i := 3) (own := [("others", 4)]) (g := (gName 4)) (tt := tYes) (te := (tCB (Evl.rLenS K) (tCons (tVar 4) tNil))) (by rfl) sc_letters_of.nd rfl rfl (sw_true rfl rfl rfl (by decide +kernel)) (pi_list (pv 2)) (blkOk_by (own := [("others", 4)]) (N := N_letters_of) (sc := defScope s_letters_of) (by decide +kernel)) (fun _ _ _ _ _ => (pg_name (i := 4) sc_letters_of.nd rfl (.inl rfl))) (fun _ _ _ _ _ => pts_nil) (fun _ _ _ _ _ => (pe_callB call_len_seq (by rfl) T.z_len (by decide +kernel) (pa_cons (pv 4) pa_nil)))) (pss_cons (ps_set (i := 5) sc_letters_of.nd rfl (.inl rfl) (pe_op op_rep (pe_lst (pa_cons pe_bl pa_nil)) (pv 0))) (pss_cons (ps_set (i := 6) sc_letters_of.nd rfl (.inl rfl) (pe_lst pa_nil)) (pss_cons (ps_for PassesOwn.never (by rfl) (pi_range1 (by rfl) T.z_range (pa_cons (pe_op op_sub (pv 0) pe_int) pa_nil)) (pg_name (i := 7) sc_letters_of.nd rfl (.inl rfl)) (pss_cons (ps_set (i := 8) sc_letters_of.nd rfl (.inl rfl) (pe_bm PySem.F.plainAttrs_list PySem.F.slot_list_index PySem.F.type_list_index mt_index (pv 3) (pa_cons pe_int pa_nil))) (pss_cons (ps_asg pe_bl (pg_sub (pv 5) (pv 8) set_list)) (pss_cons (ps_asg pe_int (pg_sub (pv 3) (pv 8) set_list)) (pss_one (ps_for PassesOwn.never (by rfl) (pi_list (pe_ix ix_list (pv 2) (pv 8) (fun _ _ => rfl))) (pg_name (i := 9) sc_letters_of.nd rfl (.inl rfl)) (pss_one (ps_if (pt_not (pt_val (pe_ix ix_list (pv 5) (pv 9) (fun _ _ => rfl)))) (pss_cons (ps_expr (pe_bm PySem.F.plainAttrs_list PySem.F.slot_list_append PySem.F.type_list_append mt_append (pv 6) (pa_cons (pv 9) pa_nil))) (pss_one (ps_augS (pv 3) (pv 9) get_list pe_int ip_sub set_list))) pss_nil)))))))) (pss_one (ps_ret (pv 6)))))))), pure_letters_of h⟩)
theorem sc_roads_of : FnScope N_roads_of ["houses", "word"] (defScope s_roads_of) := ⟨rfl, rfl, rfl, by decide +kernel, rfl, by decide +kernel, by decide +kernel⟩
theorem ok_roads_of (T : TX K mg c) : FnOk P w K mg base CX0 2 T.a_roads_of T.fd_roads_of ["houses", "word"] (sp_roads_of K) :=
  T.f_roads_of.ok sc_roads_of (fun vs H Q E h => len_roads_of h) (fun cdv A outer s H vs Q E hr h => ⟨t_roads_of K, (pss_cons (ps_set (i := 2) sc_roads_of.nd rfl (.inr rfl) (pe_op op_rep (pe_lst (pa_cons pe_int pa_nil)) (pv 0))) (pss_cons (ps_for PassesOwn.never (by rfl) (pi_list (pv 1)) (pg_name (i := 3) sc_roads_of.nd rfl (.inl rfl)) (pss_one (ps_augS (pv 2) (pv 3) get_list pe_int ip_add set_list))) (pss_cons (ps_set (i := 4) sc_roads_of.nd rfl (.inl rfl) (pe_lst pa_nil)) (pss_cons (ps_for PassesOwn.never (by rfl) (pi_list (pv 1)) (pg_name (i := 3) sc_roads_of.nd rfl (.inl rfl)) (pss_cons (ps_set (i := 5) sc_roads_of.nd rfl (.inl rfl) (pe_bm PySem.F.plainAttrs_list PySem.F.slot_list_index PySem.F.type_list_index mt_index (pv 2) (pa_cons pe_int pa_nil))) (pss_cons (ps_expr (pe_bm PySem.F.plainAttrs_list PySem.F.slot_list_append PySem.F.type_list_append mt_append (pv 4) (pa_cons (pe_call (ok_road_of T) (hr.mono (by decide)) (by rfl) T.g_road_of T.k_road_of T.b_road_of .nil pass0 (pa_cons (pv 5) (pa_cons (pv 3) pa_nil))) pa_nil))) (pss_cons (ps_asg pe_int (pg_sub (pv 2) (pv 5) set_list)) (pss_one (ps_augS (pv 2) (pv 3) get_list pe_int ip_sub set_list)))))) (pss_cons (ps_if (pt_cmpR op_gt (pv 0) pe_int (nomark _)) (pss_cons (ps_setLc (i := 6) (own := [("house", 3)]) (g := (gName 3)) (tt := (tTest (tOp rEq (tOp (rIxL K) (tVar 2) (tVar 3)) (tC (.int 1))))) (te := (tVar 3)) (by rfl) sc_roads_of.nd rfl rfl (sw_true rfl rfl rfl (by decide +kernel)) (pi_range1 (by rfl) T.z_range (pa_cons (pv 0) pa_nil)) (blkOk_by (own := [("house", 3)]) (N := N_roads_of) (sc := defScope s_roads_of) (by decide +kernel)) (fun _ _ _ _ _ => (pg_name (i := 3) sc_roads_of.nd rfl (.inl rfl))) (fun _ _ _ _ _ => pts_one (pt_cmpR op_eq (pe_ix ix_list (pv 2) (pv 3) (fun _ _ => rfl)) pe_int (nomark _))) (fun _ _ _ _ _ => (pv 3))) (pss_one (ps_expr (pe_bm PySem.F.plainAttrs_list PySem.F.slot_list_append PySem.F.type_list_append mt_append (pv 4) (pa_cons (pe_tup (pa_cons (pe_ix ix_list (pv 6) pe_int (fun _ _ => rfl)) (pa_cons (pe_ix ix_list (pv 6) pe_int (fun _ _ => rfl)) pa_nil))) pa_nil))))) pss_nil) (pss_one (ps_ret (pe_callB cr_sortedPO (by rfl) T.z_sorted (by decide +kernel) (pa_cons (pv 4) pa_nil))))))))), pure_roads_of h⟩)
theorem sc_check_tree : FnScope N_check_tree ["houses", "roads"] (defScope s_check_tree) := ⟨rfl, rfl, rfl, by decide +kernel, rfl, by decide +kernel, by decide +kernel⟩
theorem ok_check_tree (T : TX K mg c) : FnOk P w K mg base (L2N.CX P w) 4 T.a_check_tree T.fd_check_tree ["houses", "roads"] (sp_check_tree K c) :=
  okN T.f_check_tree sc_check_tree (fun vs H Q E h => len_check_tree h) (fun cdv A outer s H vs Q E hr h => ⟨t_check_tree K c E, (pss_one (ps_if (pt_not (pt_val (pe_call (ok_is_tree T) (hr.mono (by decide)) (by rfl) T.g_is_tree T.k_is_tree T.b_is_tree .nil pass0 (pa_cons (pv 0) (pa_cons (pv 1) pa_nil))))) (pss_one (L2N.ps_raise rfl (L2N.takes_of rfl rfl rfl rfl) (L2N.pmk_own PySem.F.excBase_ValueError T.x_NoTree T.g_NoTree T.kc_NoTree (raises_own T.bc_NoTree T.tc_NoTree) (by rfl)))) pss_nil)), pure_check_tree h⟩)
theorem sc_word_of : FnScope N_word_of ["houses", "roads"] (defScope s_word_of) := ⟨rfl, rfl, rfl, by decide +kernel, rfl, by decide +kernel, by decide +kernel⟩
theorem ok_word_of (T : TX K mg c) : FnOk P w K mg base (L2N.CX P w) 5 T.a_word_of T.fd_word_of ["houses", "roads"] (sp_word_of K c) :=
  okN T.f_word_of sc_word_of (fun vs H Q E h => len_word_of h) (fun cdv A outer s H vs Q E hr h => ⟨t_word_of K c E, (pss_cons (ps_expr (pe_call (ok_check_houses T) (hr.mono (by decide)) (by rfl) T.g_check_houses T.k_check_houses T.b_check_houses .nil (L2N.passes_call (L2N.takes_of rfl rfl rfl rfl) (fun _ _ _ _ h => h)) (pa_cons (pv 0) pa_nil))) (pss_cons (ps_expr (pe_call (ok_check_roads T) (hr.mono (by decide)) (by rfl) T.g_check_roads T.k_check_roads T.b_check_roads .nil (L2N.passes_call (L2N.takes_of rfl rfl rfl rfl) (fun _ _ _ _ h => h)) (pa_cons (pv 0) (pa_cons (pv 1) pa_nil)))) (pss_cons (ps_expr (pe_call (ok_check_tree T) (hr.mono (by decide)) (by rfl) T.g_check_tree T.k_check_tree T.b_check_tree .nil (L2N.passes_call (L2N.takes_of rfl rfl rfl rfl) (fun _ _ _ _ h => h)) (pa_cons (pv 0) (pa_cons (pv 1) pa_nil)))) (PSs.nox (pss_one (ps_ret (pe_call (ok_letters_of T) (hr.mono (by decide)) (by rfl) T.g_letters_of T.k_letters_of T.b_letters_of .nil pass0 (pa_cons (pv 0) (pa_cons (pv 1) pa_nil))))))))), pure_word_of h⟩)
theorem sc_tree_of : FnScope N_tree_of ["houses", "word"] (defScope s_tree_of) := ⟨rfl, rfl, rfl, by decide +kernel, rfl, by decide +kernel, by decide +kernel⟩
theorem ok_tree_of (T : TX K mg c) : FnOk P w K mg base (L2N.CX P w) 3 T.a_tree_of T.fd_tree_of ["houses", "word"] (sp_tree_of K c) :=
  okN T.f_tree_of sc_tree_of (fun vs H Q E h => len_tree_of h) (fun cdv A outer s H vs Q E hr h => ⟨t_tree_of K c E, (pss_cons (ps_expr (pe_call (ok_check_houses T) (hr.mono (by decide)) (by rfl) T.g_check_houses T.k_check_houses T.b_check_houses .nil (L2N.passes_call (L2N.takes_of rfl rfl rfl rfl) (fun _ _ _ _ h => h)) (pa_cons (pv 0) pa_nil))) (pss_cons (ps_if (PW.pt (pw_or (pt_not (pt_val (pe_callB call_isTh (by rfl) T.z_isinstance (by decide +kernel) (pa_cons (pv 1) (pa_cons (pe_bltn (v := .ty "list") (by rfl) T.z_list (by decide +kernel) rfl) pa_nil))))) (pw_or1 (pt_cmpR op_ne (pe_callB call_len_seq (by rfl) T.z_len (by decide +kernel) (pa_cons (pv 1) pa_nil)) (pe_callB (call_max2 rfl) (by rfl) T.z_max (by decide +kernel) (pa_cons pe_int (pa_cons (pe_op op_sub (pv 0) pe_int) pa_nil))) (nomark _))))) (pss_one (L2N.ps_raise rfl (L2N.takes_of rfl rfl rfl rfl) (L2N.pmk_own PySem.F.excBase_ValueError T.x_BadWord T.g_BadWord T.kc_BadWord (raises_own T.bc_BadWord T.tc_BadWord) (by rfl)))) pss_nil) (pss_cons (ps_if (pt_not (pt_val (pe_callB (cr_all rfl) (by rfl) T.z_all (by decide +kernel) (pa_cons (pe_lc (own := [("house", 2)]) (g := (gName 2)) (tt := tYes) (te := (tCall (sp_is_number K) [] E0 (tCons (tVar 2) (tCons (tC (.int 0)) (tCons (tOp rSub (tVar 0) (tC (.int 1))) tNil))))) (by rfl) sc_tree_of.nd (pi_list (pv 1)) (blkOk_by (own := [("house", 2)]) (N := N_tree_of) (sc := defScope s_tree_of) (by decide +kernel)) (fun _ _ _ _ _ => (pg_name (i := 2) sc_tree_of.nd rfl (.inl rfl))) (fun _ _ _ _ _ => pts_nil) (fun _ _ _ _ _ => (pe_call (ok_is_number T) (hr.mono (by decide)) (by rfl) T.g_is_number T.k_is_number T.b_is_number .nil pass0 (pa_cons (pv 2) (pa_cons pe_int (pa_cons (pe_op op_sub (pv 0) pe_int) pa_nil)))))) pa_nil)))) (pss_one (L2N.ps_raise rfl (L2N.takes_of rfl rfl rfl rfl) (L2N.pmk_own PySem.F.excBase_ValueError T.x_BadWord T.g_BadWord T.kc_BadWord (raises_own T.bc_BadWord T.tc_BadWord) (by rfl)))) pss_nil) (PSs.nox (pss_one (ps_ret (pe_call (ok_roads_of T) (hr.mono (by decide)) (by rfl) T.g_roads_of T.k_roads_of T.b_roads_of .nil pass0 (pa_cons (pv 0) (pa_cons (pv 1) pa_nil))))))))), pure_tree_of h⟩)
theorem sc_way : FnScope N_way ["houses", "roads", "one", "other"] (defScope s_way) := ⟨rfl, rfl, rfl, by decide +kernel, rfl, by decide +kernel, by decide +kernel⟩
theorem ok_way (T : TX K mg c) : FnOk P w K mg base (L2N.CX P w) 5 T.a_way T.fd_way ["houses", "roads", "one", "other"] (sp_way K c) :=
  okN T.f_way sc_way (fun vs H Q E h => len_way h) (fun cdv A outer s H vs Q E hr h => ⟨t_way K c E, (pss_cons (ps_expr (pe_call (ok_check_houses T) (hr.mono (by decide)) (by rfl) T.g_check_houses T.k_check_houses T.b_check_houses .nil (L2N.passes_call (L2N.takes_of rfl rfl rfl rfl) (fun _ _ _ _ h => h)) (pa_cons (pv 0) pa_nil))) (pss_cons (ps_expr (pe_call (ok_check_roads T) (hr.mono (by decide)) (by rfl) T.g_check_roads T.k_check_roads T.b_check_roads .nil (L2N.passes_call (L2N.takes_of rfl rfl rfl rfl) (fun _ _ _ _ h => h)) (pa_cons (pv 0) (pa_cons (pv 1) pa_nil)))) (pss_cons (ps_expr (pe_call (ok_check_tree T) (hr.mono (by decide)) (by rfl) T.g_check_tree T.k_check_tree T.b_check_tree .nil (L2N.passes_call (L2N.takes_of rfl rfl rfl rfl) (fun _ _ _ _ h => h)) (pa_cons (pv 0) (pa_cons (pv 1) pa_nil)))) (pss_cons (ps_if (PW.pt (pw_or (pt_not (pt_val (pe_call (ok_is_number T) (hr.mono (by decide)) (by rfl) T.g_is_number T.k_is_number T.b_is_number .nil pass0 (pa_cons (pv 2) (pa_cons pe_int (pa_cons (pe_op op_sub (pv 0) pe_int) pa_nil)))))) (pw_or1 (pt_not (pt_val (pe_call (ok_is_number T) (hr.mono (by decide)) (by rfl) T.g_is_number T.k_is_number T.b_is_number .nil pass0 (pa_cons (pv 3) (pa_cons pe_int (pa_cons (pe_op op_sub (pv 0) pe_int) pa_nil))))))))) (pss_one (L2N.ps_raise rfl (L2N.takes_of rfl rfl rfl rfl) (L2N.pmk_own PySem.F.excBase_ValueError T.x_BadHouse T.g_BadHouse T.kc_BadHouse (raises_own T.bc_BadHouse T.tc_BadHouse) (by rfl)))) pss_nil) (PSs.nox (pss_one (ps_ret (pe_call (ok_way_by T) (hr.mono (by decide)) (by rfl) T.g_way_by T.k_way_by T.b_way_by .nil pass0 (pa_cons (pe_call (ok_came_from T) (hr.mono (by decide)) (by rfl) T.g_came_from T.k_came_from T.b_came_from .nil pass0 (pa_cons (pv 0) (pa_cons (pv 1) (pa_cons (pv 2) pa_nil)))) (pa_cons (pv 3) pa_nil)))))))))), pure_way h⟩)
theorem sc_many_words : FnScope N_many_words ["houses"] (defScope s_many_words) := ⟨rfl, rfl, rfl, by decide +kernel, rfl, by decide +kernel, by decide +kernel⟩
theorem ok_many_words (T : TX K mg c) : FnOk P w K mg base CX0 1 T.a_many_words T.fd_many_words ["houses"] (sp_many_words K) :=
  T.f_many_words.ok sc_many_words (fun vs H Q E h => len_many_words h) (fun cdv A outer s H vs Q E hr h => ⟨t_many_words K, (pss_cons (ps_set (i := 1) sc_many_words.nd rfl (.inl rfl) pe_int) (pss_cons (ps_for PassesOwn.never (by rfl) (pi_range1 (by rfl) T.z_range (pa_cons (pe_op op_sub (pv 0) pe_int) pa_nil)) (pg_name (i := 2) sc_many_words.nd rfl (.inl rfl)) (pss_one (ps_aug (i := 1) sc_many_words.nd rfl (.inl rfl) (pv 0) iop_mul))) (pss_one (ps_ret (pv 1))))), pure_many_words h⟩)
theorem sc_trees : FnScope N_trees ["houses"] (defScope s_trees) := ⟨rfl, rfl, rfl, by decide +kernel, rfl, by decide +kernel, by decide +kernel⟩
theorem ok_trees (T : TX K mg c) : FnOk P w K mg base (L2N.CX P w) 3 T.a_trees T.fd_trees ["houses"] (sp_trees K c) :=
  okN T.f_trees sc_trees (fun vs H Q E h => len_trees h) (fun cdv A outer s H vs Q E hr h => ⟨t_trees K c E, (pss_cons (ps_expr (pe_call (ok_check_houses T) (hr.mono (by decide)) (by rfl) T.g_check_houses T.k_check_houses T.b_check_houses .nil (L2N.passes_call (L2N.takes_of rfl rfl rfl rfl) (fun _ _ _ _ h => h)) (pa_cons (pv 0) pa_nil))) (PSs.nox (pss_one (ps_ret (pe_call (ok_many_words T) (hr.mono (by decide)) (by rfl) T.g_many_words T.k_many_words T.b_many_words .nil pass0 (pa_cons (pv 0) pa_nil)))))), pure_trees h⟩)
theorem sc_check_number : FnScope N_check_number ["number", "many"] (defScope s_check_number) := ⟨rfl, rfl, rfl, by decide +kernel, rfl, by decide +kernel, by decide +kernel⟩
theorem ok_check_number (T : TX K mg c) : FnOk P w K mg base (L2N.CX P w) 2 T.a_check_number T.fd_check_number ["number", "many"] (sp_check_number K c) :=
  okN T.f_check_number sc_check_number (fun vs H Q E h => len_check_number h) (fun cdv A outer s H vs Q E hr h => ⟨t_check_number K c E, (pss_one (ps_if (pt_not (pt_val (pe_call (ok_is_number T) (hr.mono (by decide)) (by rfl) T.g_is_number T.k_is_number T.b_is_number .nil pass0 (pa_cons (pv 0) (pa_cons pe_int (pa_cons (pe_op op_sub (pv 1) pe_int) pa_nil)))))) (pss_one (L2N.ps_raise rfl (L2N.takes_of rfl rfl rfl rfl) (L2N.pmk_own PySem.F.excBase_ValueError T.x_BadNumber T.g_BadNumber T.kc_BadNumber (raises_own T.bc_BadNumber T.tc_BadNumber) (by rfl)))) pss_nil)), pure_check_number h⟩)
theorem sc_tree_by : FnScope N_tree_by ["houses", "number"] (defScope s_tree_by) := ⟨rfl, rfl, rfl, by decide +kernel, rfl, by decide +kernel, by decide +kernel⟩
theorem ok_tree_by (T : TX K mg c) : FnOk P w K mg base (L2N.CX P w) 3 T.a_tree_by T.fd_tree_by ["houses", "number"] (sp_tree_by K c) :=
  okN T.f_tree_by sc_tree_by (fun vs H Q E h => len_tree_by h) (fun cdv A outer s H vs Q E hr h => ⟨t_tree_by K c E, (pss_cons (ps_expr (pe_call (ok_check_houses T) (hr.mono (by decide)) (by rfl) T.g_check_houses T.k_check_houses T.b_check_houses .nil (L2N.passes_call (L2N.takes_of rfl rfl rfl rfl) (fun _ _ _ _ h => h)) (pa_cons (pv 0) pa_nil))) (pss_cons (ps_expr (pe_call (ok_check_number T) (hr.mono (by decide)) (by rfl) T.g_check_number T.k_check_number T.b_check_number .nil (L2N.passes_call (L2N.takes_of rfl rfl rfl rfl) (fun _ _ _ _ h => h)) (pa_cons (pv 1) (pa_cons (pe_call (ok_many_words T) (hr.mono (by decide)) (by rfl) T.g_many_words T.k_many_words T.b_many_words .nil pass0 (pa_cons (pv 0) pa_nil)) pa_nil)))) (PSs.nox (pss_cons (ps_set (i := 2) sc_tree_by.nd rfl (.inl rfl) (pe_lst pa_nil)) (pss_cons (ps_for PassesOwn.never (by rfl) (pi_range1 (by rfl) T.z_range (pa_cons (pe_op op_sub (pv 0) pe_int) pa_nil)) (pg_name (i := 3) sc_tree_by.nd rfl (.inl rfl)) (pss_cons (ps_expr (pe_bm PySem.F.plainAttrs_list PySem.F.slot_list_append PySem.F.type_list_append mt_append (pv 2) (pa_cons (pe_op op_mod (pv 1) (pv 0)) pa_nil))) (pss_one (ps_aug (i := 1) sc_tree_by.nd rfl (.inl rfl) (pv 0) iop_fdiv)))) (pss_one (ps_ret (pe_call (ok_roads_of T) (hr.mono (by decide)) (by rfl) T.g_roads_of T.k_roads_of T.b_roads_of .nil pass0 (pa_cons (pv 0) (pa_cons (pv 2) pa_nil)))))))))), pure_tree_by h⟩)
theorem sc_number_of : FnScope N_number_of ["houses", "roads"] (defScope s_number_of) := ⟨rfl, rfl, rfl, by decide +kernel, rfl, by decide +kernel, by decide +kernel⟩
theorem ok_number_of (T : TX K mg c) : FnOk P w K mg base (L2N.CX P w) 6 T.a_number_of T.fd_number_of ["houses", "roads"] (sp_number_of K c) :=
  okN T.f_number_of sc_number_of (fun vs H Q E h => len_number_of h) (fun cdv A outer s H vs Q E hr h => ⟨t_number_of K c E, (pss_cons (ps_set (i := 2) sc_number_of.nd rfl (.inl rfl) pe_int) (pss_cons (ps_for (passes_of rfl) (by rfl) (pi_list (pe_revL (pe_call (ok_word_of T) (hr.mono (by decide)) (by rfl) T.g_word_of T.k_word_of T.b_word_of .nil (L2N.passes_call (L2N.takes_of rfl rfl rfl rfl) (fun _ _ _ _ h => h)) (pa_cons (pv 0) (pa_cons (pv 1) pa_nil))))) (pg_name (i := 3) sc_number_of.nd rfl (.inl rfl)) (PSs.nox (pss_one (ps_set (i := 2) sc_number_of.nd rfl (.inl rfl) (pe_op op_add (pe_op op_mul (pv 2) (pv 0)) (pv 3)))))) (PSs.nox (pss_one (ps_ret (pv 2)))))), pure_number_of h⟩)
theorem sc_ways_of : FnScope N_ways_of ["counts"] (defScope s_ways_of) := ⟨rfl, rfl, rfl, by decide +kernel, rfl, by decide +kernel, by decide +kernel⟩
theorem ok_ways_of (T : TX K mg c) : FnOk P w K mg base CX0 1 T.a_ways_of T.fd_ways_of ["counts"] (sp_ways_of K) :=
  T.f_ways_of.ok sc_ways_of (fun vs H Q E h => len_ways_of h) (fun cdv A outer s H vs Q E hr h => ⟨t_ways_of K, (pss_cons (ps_set (i := 1) sc_ways_of.nd rfl (.inl rfl) pe_int) (pss_cons (ps_set (i := 2) sc_ways_of.nd rfl (.inl rfl) pe_int) (pss_cons (ps_for PassesOwn.never (by rfl) (pi_list (pv 0)) (pg_name (i := 3) sc_ways_of.nd rfl (.inl rfl)) (pss_one (ps_for PassesOwn.never (by rfl) (pi_range1 (by rfl) T.z_range (pa_cons (pv 3) pa_nil)) (pg_name (i := 4) sc_ways_of.nd rfl (.inl rfl)) (pss_cons (ps_aug (i := 2) sc_ways_of.nd rfl (.inl rfl) pe_int ip_add) (pss_one (ps_set (i := 1) sc_ways_of.nd rfl (.inl rfl) (pe_op op_fdiv (pe_op op_mul (pv 1) (pv 2)) (pe_op op_add (pv 4) pe_int)))))))) (pss_one (ps_ret (pv 1)))))), pure_ways_of h⟩)
theorem sc_stands_of : FnScope N_stands_of ["counts"] (defScope s_stands_of) := ⟨rfl, rfl, rfl, by decide +kernel, rfl, by decide +kernel, by decide +kernel⟩
theorem ok_stands_of (T : TX K mg c) : FnOk P w K mg base CX0 1 T.a_stands_of T.fd_stands_of ["counts"] (sp_stands_of K) :=
  T.f_stands_of.ok sc_stands_of (fun vs H Q E h => len_stands_of h) (fun cdv A outer s H vs Q E hr h => ⟨t_stands_of K, (pss_cons (ps_if (pt_cmpR op_eq (pe_callB call_len_seq (by rfl) T.z_len (by decide +kernel) (pa_cons (pv 0) pa_nil)) pe_int (nomark _)) (pss_one (ps_ret (pe_ifExp (pt_cmpR (op_eqD hr.units) (pv 0) (pe_lst (pa_cons pe_int pa_nil)) (nomark _)) (pe_lst (pa_cons pe_int pa_nil)) (pe_lst pa_nil)))) pss_nil) (pss_cons (ps_if (PW.pt (pw_or (pt_cmpR op_lt (pe_callB (cr_min rfl) (by rfl) T.z_min (by decide +kernel) (pa_cons (pv 0) pa_nil)) pe_int (nomark _)) (pw_or1 (pt_cmpR op_ne (pe_callB (cr_sum rfl) (by rfl) T.z_sum (by decide +kernel) (pa_cons (pv 0) pa_nil)) (pe_op op_mul pe_int (pe_op op_sub (pe_callB call_len_seq (by rfl) T.z_len (by decide +kernel) (pa_cons (pv 0) pa_nil)) pe_int)) (nomark _))))) (pss_one (ps_ret (pe_lst pa_nil))) pss_nil) (pss_one (ps_ret (pe_lc (own := [("many", 1)]) (g := (gName 1)) (tt := tYes) (te := (tOp rSub (tVar 1) (tC (.int 1)))) (by rfl) sc_stands_of.nd (pi_list (pv 0)) (blkOk_by (own := [("many", 1)]) (N := N_stands_of) (sc := defScope s_stands_of) (by decide +kernel)) (fun _ _ _ _ _ => (pg_name (i := 1) sc_stands_of.nd rfl (.inl rfl))) (fun _ _ _ _ _ => pts_nil) (fun _ _ _ _ _ => (pe_op op_sub (pv 1) pe_int))))))), pure_stands_of h⟩)
theorem sc_trees_with : FnScope N_trees_with ["counts"] (defScope s_trees_with) := ⟨rfl, rfl, rfl, by decide +kernel, rfl, by decide +kernel, by decide +kernel⟩
theorem ok_trees_with (T : TX K mg c) : FnOk P w K mg base (L2N.CX P w) 2 T.a_trees_with T.fd_trees_with ["counts"] (sp_trees_with K c) :=
  okN T.f_trees_with sc_trees_with (fun vs H Q E h => len_trees_with h) (fun cdv A outer s H vs Q E hr h => ⟨t_trees_with K c E, (pss_cons (ps_if (PW.pt (pw_or (pt_not (pt_val (pe_callB call_isTh (by rfl) T.z_isinstance (by decide +kernel) (pa_cons (pv 0) (pa_cons (pe_bltn (v := .ty "list") (by rfl) T.z_list (by decide +kernel) rfl) pa_nil))))) (pw_or1 (pt_not (pt_chain op_le op_le pe_int (pe_callB call_len_seq (by rfl) T.z_len (by decide +kernel) (pa_cons (pv 0) pa_nil)) (pe_glob (by rfl) T.g_MOST ⟨_, rfl⟩)))))) (pss_one (L2N.ps_raise rfl (L2N.takes_of rfl rfl rfl rfl) (L2N.pmk_own PySem.F.excBase_ValueError T.x_BadCounts T.g_BadCounts T.kc_BadCounts (raises_own T.bc_BadCounts T.tc_BadCounts) (by rfl)))) pss_nil) (pss_cons (ps_if (pt_not (pt_val (pe_callB (cr_all rfl) (by rfl) T.z_all (by decide +kernel) (pa_cons (pe_lc (own := [("many", 1)]) (g := (gName 1)) (tt := tYes) (te := (tAndV (tIsTh K (tVar 1) "int") (tAndV (tNotV (tIsTh K (tVar 1) "bool")) (tOp rGe (tVar 1) (tC (.int 0)))))) (by rfl) sc_trees_with.nd (pi_list (pv 0)) (blkOk_by (own := [("many", 1)]) (N := N_trees_with) (sc := defScope s_trees_with) (by decide +kernel)) (fun _ _ _ _ _ => (pg_name (i := 1) sc_trees_with.nd rfl (.inl rfl))) (fun _ _ _ _ _ => pts_nil) (fun _ _ _ _ _ => (pe_and (pe_callB call_isTh (by rfl) T.z_isinstance (by decide +kernel) (pa_cons (pv 1) (pa_cons (pe_bltn (v := .ty "int") (by rfl) T.z_int (by decide +kernel) rfl) pa_nil))) (pe_and (pe_not (pe_callB call_isTh (by rfl) T.z_isinstance (by decide +kernel) (pa_cons (pv 1) (pa_cons (pe_bltn (v := .ty "bool") (by rfl) T.z_bool (by decide +kernel) rfl) pa_nil)))) (pe_one (pe_cmpR op_ge (pv 1) pe_int (nomark _))))))) pa_nil)))) (pss_one (L2N.ps_raise rfl (L2N.takes_of rfl rfl rfl rfl) (L2N.pmk_own PySem.F.excBase_ValueError T.x_BadCounts T.g_BadCounts T.kc_BadCounts (raises_own T.bc_BadCounts T.tc_BadCounts) (by rfl)))) pss_nil) (PSs.nox (pss_cons (ps_set (i := 2) sc_trees_with.nd rfl (.inl rfl) (pe_call (ok_stands_of T) (hr.mono (by decide)) (by rfl) T.g_stands_of T.k_stands_of T.b_stands_of .nil pass0 (pa_cons (pv 0) pa_nil))) (pss_one (ps_ret (pe_ifExp (pt_cmpR (op_neD hr.units) (pv 2) (pe_lst pa_nil) (nomark _)) (pe_call (ok_ways_of T) (hr.mono (by decide)) (by rfl) T.g_ways_of T.k_ways_of T.b_ways_of .nil pass0 (pa_cons (pv 2) pa_nil)) pe_int))))))), pure_trees_with h⟩)
theorem sc_first_of : FnScope N_first_of ["left", "number"] (defScope s_first_of) := ⟨rfl, rfl, rfl, by decide +kernel, rfl, by decide +kernel, by decide +kernel⟩
theorem ok_first_of (T : TX K mg c) : FnOk P w K mg base CX0 2 T.a_first_of T.fd_first_of ["left", "number"] (sp_first_of K) :=
  T.f_first_of.ok sc_first_of (fun vs H Q E h => len_first_of h) (fun cdv A outer s H vs Q E hr h => ⟨t_first_of K, (pss_cons (ps_set (i := 2) sc_first_of.nd rfl (.inl rfl) (pe_call (ok_ways_of T) (hr.mono (by decide)) (by rfl) T.g_ways_of T.k_ways_of T.b_ways_of .nil pass0 (pa_cons (pv 0) pa_nil))) (pss_cons (ps_for PassesOwn.never (by rfl) (pi_enum (by rfl) T.z_enumerate (pa_cons (pv 0) pa_nil)) (pg_tup (by rfl) (pgs_cons (pg_name (i := 3) sc_first_of.nd rfl (.inl rfl)) (pgs_cons (pg_name (i := 4) sc_first_of.nd rfl (.inl rfl)) pgs_nil))) (pss_cons (ps_set (i := 5) sc_first_of.nd rfl (.inl rfl) (pe_op op_fdiv (pe_op op_mul (pv 2) (pv 4)) (pe_callB (cr_sum rfl) (by rfl) T.z_sum (by decide +kernel) (pa_cons (pv 0) pa_nil)))) (pss_cons (ps_if (pt_cmpR op_lt (pv 1) (pv 5) (nomark _)) (pss_one (ps_ret (pe_tup (pa_cons (pv 3) (pa_cons (pv 1) pa_nil))))) pss_nil) (pss_one (ps_aug (i := 1) sc_first_of.nd rfl (.inl rfl) (pv 5) ip_sub))))) (pss_one (ps_ret (pe_tup (pa_cons pe_int (pa_cons pe_int pa_nil))))))), pure_first_of h⟩)
theorem sc_tree_with : FnScope N_tree_with ["counts", "number"] (defScope s_tree_with) := ⟨rfl, rfl, rfl, by decide +kernel, rfl, by decide +kernel, by decide +kernel⟩
theorem ok_tree_with (T : TX K mg c) : FnOk P w K mg base (L2N.CX P w) 3 T.a_tree_with T.fd_tree_with ["counts", "number"] (sp_tree_with K c) :=
  okN T.f_tree_with sc_tree_with (fun vs H Q E h => len_tree_with h) (fun cdv A outer s H vs Q E hr h => ⟨t_tree_with K c E, (pss_cons (ps_expr (pe_call (ok_check_number T) (hr.mono (by decide)) (by rfl) T.g_check_number T.k_check_number T.b_check_number .nil (L2N.passes_call (L2N.takes_of rfl rfl rfl rfl) (fun _ _ _ _ h => h)) (pa_cons (pv 1) (pa_cons (pe_call (ok_trees_with T) (hr.mono (by decide)) (by rfl) T.g_trees_with T.k_trees_with T.b_trees_with .nil (L2N.passes_call (L2N.takes_of rfl rfl rfl rfl) (fun _ _ _ _ h => h)) (pa_cons (pv 0) pa_nil)) pa_nil)))) (PSs.nox (pss_cons (ps_set (i := 2) sc_tree_with.nd rfl (.inl rfl) (pe_call (ok_stands_of T) (hr.mono (by decide)) (by rfl) T.g_stands_of T.k_stands_of T.b_stands_of .nil pass0 (pa_cons (pv 0) pa_nil))) (pss_cons (ps_set (i := 3) sc_tree_with.nd rfl (.inl rfl) (pe_lst pa_nil)) (pss_cons (ps_for PassesOwn.never (by rfl) (pi_range1 (by rfl) T.z_range (pa_cons (pe_op op_sub (pe_callB call_len_seq (by rfl) T.z_len (by decide +kernel) (pa_cons (pv 0) pa_nil)) pe_int) pa_nil)) (pg_name (i := 4) sc_tree_with.nd rfl (.inl rfl)) (pss_cons (ps_asg (pe_call (ok_first_of T) (hr.mono (by decide)) (by rfl) T.g_first_of T.k_first_of T.b_first_of .nil pass0 (pa_cons (pv 2) (pa_cons (pv 1) pa_nil))) (pg_tup (by rfl) (pgs_cons (pg_name (i := 5) sc_tree_with.nd rfl (.inl rfl)) (pgs_cons (pg_name (i := 1) sc_tree_with.nd rfl (.inl rfl)) pgs_nil)))) (pss_cons (ps_expr (pe_bm PySem.F.plainAttrs_list PySem.F.slot_list_append PySem.F.type_list_append mt_append (pv 3) (pa_cons (pv 5) pa_nil))) (pss_one (ps_augS (pv 2) (pv 5) get_list pe_int ip_sub set_list))))) (pss_one (ps_ret (pe_call (ok_roads_of T) (hr.mono (by decide)) (by rfl) T.g_roads_of T.k_roads_of T.b_roads_of .nil pass0 (pa_cons (pe_callB call_len_seq (by rfl) T.z_len (by decide +kernel) (pa_cons (pv 0) pa_nil)) (pa_cons (pv 3) pa_nil)))))))))), pure_tree_with h⟩)
theorem sc_number_with : FnScope N_number_with ["houses", "roads"] (defScope s_number_with) := ⟨rfl, rfl, rfl, by decide +kernel, rfl, by decide +kernel, by decide +kernel⟩
theorem ok_number_with (T : TX K mg c) : FnOk P w K mg base (L2N.CX P w) 6 T.a_number_with T.fd_number_with ["houses", "roads"] (sp_number_with K c) :=
  okN T.f_number_with sc_number_with (fun vs H Q E h => len_number_with h) (fun cdv A outer s H vs Q E hr h => ⟨t_number_with K c E, (pss_cons (ps_set (i := 2) sc_number_with.nd rfl (.inl rfl) (pe_call (ok_word_of T) (hr.mono (by decide)) (by rfl) T.g_word_of T.k_word_of T.b_word_of .nil (L2N.passes_call (L2N.takes_of rfl rfl rfl rfl) (fun _ _ _ _ h => h)) (pa_cons (pv 0) (pa_cons (pv 1) pa_nil)))) (PSs.nox (pss_cons (ps_set (i := 3) sc_number_with.nd rfl (.inl rfl) (pe_ifExp (pt_cmpR op_gt (pv 0) pe_int (nomark _)) (pe_lc (own := [("others", 4)]) (g := (gName 4)) (tt := tYes) (te := (tOp rSub (tCB (Evl.rLenS K) (tCons (tVar 4) tNil)) (tC (.int 1)))) (by rfl) sc_number_with.nd (pi_list (pe_call (ok_neighbours_of T) (hr.mono (by decide)) (by rfl) T.g_neighbours_of T.k_neighbours_of T.b_neighbours_of .nil pass0 (pa_cons (pv 0) (pa_cons (pv 1) pa_nil)))) (blkOk_by (own := [("others", 4)]) (N := N_number_with) (sc := defScope s_number_with) (by decide +kernel)) (fun _ _ _ _ _ => (pg_name (i := 4) sc_number_with.nd rfl (.inl rfl))) (fun _ _ _ _ _ => pts_nil) (fun _ _ _ _ _ => (pe_op op_sub (pe_callB call_len_seq (by rfl) T.z_len (by decide +kernel) (pa_cons (pv 4) pa_nil)) pe_int))) (pe_lst (pa_cons pe_int pa_nil)))) (pss_cons (ps_set (i := 5) sc_number_with.nd rfl (.inl rfl) pe_int) (pss_cons (ps_for PassesOwn.never (by rfl) (pi_list (pv 2)) (pg_name (i := 6) sc_number_with.nd rfl (.inl rfl)) (pss_cons (ps_aug (i := 5) sc_number_with.nd rfl (.inl rfl) (pe_op op_fdiv (pe_op op_mul (pe_call (ok_ways_of T) (hr.mono (by decide)) (by rfl) T.g_ways_of T.k_ways_of T.b_ways_of .nil pass0 (pa_cons (pv 3) pa_nil)) (pe_callB (cr_sum rfl) (by rfl) T.z_sum (by decide +kernel) (pa_cons (pe_slice sl_list (pv 3) po_none (po_some (pv 6))) pa_nil))) (pe_callB (cr_sum rfl) (by rfl) T.z_sum (by decide +kernel) (pa_cons (pv 3) pa_nil))) ip_add) (pss_one (ps_augS (pv 3) (pv 6) get_list pe_int ip_sub set_list)))) (pss_one (ps_ret (pv 5)))))))), pure_number_with h⟩)
theorem sc_told : FnScope N_told ["houses", "roads"] (defScope s_told) := ⟨rfl, rfl, rfl, by decide +kernel, rfl, by decide +kernel, by decide +kernel⟩
theorem ok_told (T : TX K mg c) : FnOk P w K mg base (L2N.CX P w) 4 T.a_told T.fd_told ["houses", "roads"] (sp_told K c) :=
  okN T.f_told sc_told (fun vs H Q E h => len_told h) (fun cdv A outer s H vs Q E hr h => ⟨t_told K c E, (pss_cons (ps_expr (pe_call (ok_check_houses T) (hr.mono (by decide)) (by rfl) T.g_check_houses T.k_check_houses T.b_check_houses .nil (L2N.passes_call (L2N.takes_of rfl rfl rfl rfl) (fun _ _ _ _ h => h)) (pa_cons (pv 0) pa_nil))) (pss_cons (ps_expr (pe_call (ok_check_roads T) (hr.mono (by decide)) (by rfl) T.g_check_roads T.k_check_roads T.b_check_roads .nil (L2N.passes_call (L2N.takes_of rfl rfl rfl rfl) (fun _ _ _ _ h => h)) (pa_cons (pv 0) (pa_cons (pv 1) pa_nil)))) pss_never)), pure_told h⟩)
theorem sc_led : FnScope N_led ["houses", "roads", "others"] (defScope s_led) := ⟨rfl, rfl, rfl, by decide +kernel, rfl, by decide +kernel, by decide +kernel⟩
theorem ok_led (T : TX K mg c) : FnOk P w K mg base (L2N.CX P w) 5 T.a_led T.fd_led ["houses", "roads", "others"] (sp_led K c) :=
  okN T.f_led sc_led (fun vs H Q E h => len_led h) (fun cdv A outer s H vs Q E hr h => ⟨t_led K c E, (pss_cons (ps_expr (pe_call (ok_check_houses T) (hr.mono (by decide)) (by rfl) T.g_check_houses T.k_check_houses T.b_check_houses .nil (L2N.passes_call (L2N.takes_of rfl rfl rfl rfl) (fun _ _ _ _ h => h)) (pa_cons (pv 0) pa_nil))) (pss_cons (ps_expr (pe_call (ok_check_roads T) (hr.mono (by decide)) (by rfl) T.g_check_roads T.k_check_roads T.b_check_roads .nil (L2N.passes_call (L2N.takes_of rfl rfl rfl rfl) (fun _ _ _ _ h => h)) (pa_cons (pv 0) (pa_cons (pv 1) pa_nil)))) (pss_cons (ps_expr (pe_call (ok_check_roads T) (hr.mono (by decide)) (by rfl) T.g_check_roads T.k_check_roads T.b_check_roads .nil (L2N.passes_call (L2N.takes_of rfl rfl rfl rfl) (fun _ _ _ _ h => h)) (pa_cons (pv 0) (pa_cons (pv 2) pa_nil)))) (pss_cons (ps_expr (pe_call (ok_check_tree T) (hr.mono (by decide)) (by rfl) T.g_check_tree T.k_check_tree T.b_check_tree .nil (L2N.passes_call (L2N.takes_of rfl rfl rfl rfl) (fun _ _ _ _ h => h)) (pa_cons (pv 0) (pa_cons (pv 1) pa_nil)))) (pss_cons (ps_expr (pe_call (ok_check_tree T) (hr.mono (by decide)) (by rfl) T.g_check_tree T.k_check_tree T.b_check_tree .nil (L2N.passes_call (L2N.takes_of rfl rfl rfl rfl) (fun _ _ _ _ h => h)) (pa_cons (pv 0) (pa_cons (pv 2) pa_nil)))) (PSs.nox (pss_cons (ps_set (i := 3) sc_led.nd rfl (.inl rfl) (pe_callTy call_list_of (by rfl) T.z_list (by decide +kernel) (pa_cons (pv 1) pa_nil))) (pss_cons (ps_set (i := 4) sc_led.nd rfl (.inl rfl) (pe_lst pa_nil)) (pss_cons (ps_for PassesOwn.never (by rfl) (pi_list (pe_callB cr_sortedPO (by rfl) T.z_sorted (by decide +kernel) (pa_cons (pv 2) pa_nil))) (pg_name (i := 5) sc_led.nd rfl (.inl rfl)) pss_never) (pss_one (ps_ret (pv 4)))))))))))), pure_led h⟩)
theorem sc__law_with_houses : FnScope N__law_with_houses ["_law_door", "_law_thing"] (defScope s__law_with_houses) := ⟨rfl, rfl, rfl, by decide +kernel, rfl, by decide +kernel, by decide +kernel⟩
theorem ok__law_with_houses (T : TX K mg c) : FnOk P w K mg base (L2N.CX P w) 7 T.a__law_with_houses T.fd__law_with_houses ["_law_door", "_law_thing"] (sp__law_with_houses K c) :=
  okN T.f__law_with_houses sc__law_with_houses (fun vs H Q E h => len__law_with_houses h) (fun cdv A outer s H vs Q E hr h => ⟨t__law_with_houses K c E, (pss_cons (ps_if (pt_cmpR op_lt (pv 0) pe_int (nomark _)) (pss_one (ps_ret (pe_ifExp (pt_cmpR op_eq (pv 0) pe_int (nomark _)) (pe_call (ok_told T) (hr.mono (by decide)) (by rfl) T.g_told T.k_told T.b_told .nil (L2N.passes_call (L2N.takes_of rfl rfl rfl rfl) (fun _ _ _ _ h => h)) (pa_cons (pv 1) (pa_cons pe_non pa_nil))) (pe_call (ok_word_of T) (hr.mono (by decide)) (by rfl) T.g_word_of T.k_word_of T.b_word_of .nil (L2N.passes_call (L2N.takes_of rfl rfl rfl rfl) (fun _ _ _ _ h => h)) (pa_cons (pv 1) (pa_cons pe_non pa_nil)))))) pss_nil) (pss_cons (ps_if (pt_cmpR op_lt (pv 0) pe_int (nomark _)) (pss_one (ps_ret (pe_ifExp (pt_cmpR op_eq (pv 0) pe_int (nomark _)) (pe_call (ok_tree_of T) (hr.mono (by decide)) (by rfl) T.g_tree_of T.k_tree_of T.b_tree_of .nil (L2N.passes_call (L2N.takes_of rfl rfl rfl rfl) (fun _ _ _ _ h => h)) (pa_cons (pv 1) (pa_cons pe_non pa_nil))) (pe_call (ok_trees T) (hr.mono (by decide)) (by rfl) T.g_trees T.k_trees T.b_trees .nil (L2N.passes_call (L2N.takes_of rfl rfl rfl rfl) (fun _ _ _ _ h => h)) (pa_cons (pv 1) pa_nil))))) pss_nil) (pss_cons (ps_if (pt_cmpR op_lt (pv 0) pe_int (nomark _)) (pss_one (ps_ret (pe_ifExp (pt_cmpR op_eq (pv 0) pe_int (nomark _)) (pe_call (ok_tree_by T) (hr.mono (by decide)) (by rfl) T.g_tree_by T.k_tree_by T.b_tree_by .nil (L2N.passes_call (L2N.takes_of rfl rfl rfl rfl) (fun _ _ _ _ h => h)) (pa_cons (pv 1) (pa_cons (pe_un un_neg pe_int) pa_nil))) (pe_call (ok_number_of T) (hr.mono (by decide)) (by rfl) T.g_number_of T.k_number_of T.b_number_of .nil (L2N.passes_call (L2N.takes_of rfl rfl rfl rfl) (fun _ _ _ _ h => h)) (pa_cons (pv 1) (pa_cons pe_non pa_nil)))))) pss_nil) (pss_cons (ps_if (pt_cmpR op_lt (pv 0) pe_int (nomark _)) (pss_one (ps_ret (pe_ifExp (pt_cmpR op_eq (pv 0) pe_int (nomark _)) (pe_call (ok_number_with T) (hr.mono (by decide)) (by rfl) T.g_number_with T.k_number_with T.b_number_with .nil (L2N.passes_call (L2N.takes_of rfl rfl rfl rfl) (fun _ _ _ _ h => h)) (pa_cons (pv 1) (pa_cons pe_non pa_nil))) (pe_call (ok_way T) (hr.mono (by decide)) (by rfl) T.g_way T.k_way T.b_way .nil (L2N.passes_call (L2N.takes_of rfl rfl rfl rfl) (fun _ _ _ _ h => h)) (pa_cons (pv 1) (pa_cons pe_non (pa_cons (pe_un un_neg pe_int) (pa_cons pe_non pa_nil)))))))) pss_nil) (pss_one (ps_ret (pe_call (ok_led T) (hr.mono (by decide)) (by rfl) T.g_led T.k_led T.b_led .nil (L2N.passes_call (L2N.takes_of rfl rfl rfl rfl) (fun _ _ _ _ h => h)) (pa_cons (pv 1) (pa_cons pe_non (pa_cons pe_non pa_nil)))))))))), pure__law_with_houses h⟩)
theorem sc__law_with_roads : FnScope N__law_with_roads ["_law_door", "_law_thing"] (defScope s__law_with_roads) := ⟨rfl, rfl, rfl, by decide +kernel, rfl, by decide +kernel, by decide +kernel⟩
theorem ok__law_with_roads (T : TX K mg c) : FnOk P w K mg base (L2N.CX P w) 7 T.a__law_with_roads T.fd__law_with_roads ["_law_door", "_law_thing"] (sp__law_with_roads K c) :=
  okN T.f__law_with_roads sc__law_with_roads (fun vs H Q E h => len__law_with_roads h) (fun cdv A outer s H vs Q E hr h => ⟨t__law_with_roads K c E, (pss_cons (ps_if (pt_cmpR op_lt (pv 0) pe_int (nomark _)) (pss_one (ps_ret (pe_ifExp (pt_cmpR op_eq (pv 0) pe_int (nomark _)) (pe_call (ok_told T) (hr.mono (by decide)) (by rfl) T.g_told T.k_told T.b_told .nil (L2N.passes_call (L2N.takes_of rfl rfl rfl rfl) (fun _ _ _ _ h => h)) (pa_cons pe_int (pa_cons (pv 1) pa_nil))) (pe_call (ok_word_of T) (hr.mono (by decide)) (by rfl) T.g_word_of T.k_word_of T.b_word_of .nil (L2N.passes_call (L2N.takes_of rfl rfl rfl rfl) (fun _ _ _ _ h => h)) (pa_cons pe_int (pa_cons (pv 1) pa_nil)))))) pss_nil) (pss_cons (ps_if (pt_cmpR op_lt (pv 0) pe_int (nomark _)) (pss_one (ps_ret (pe_ifExp (pt_cmpR op_eq (pv 0) pe_int (nomark _)) (pe_call (ok_number_of T) (hr.mono (by decide)) (by rfl) T.g_number_of T.k_number_of T.b_number_of .nil (L2N.passes_call (L2N.takes_of rfl rfl rfl rfl) (fun _ _ _ _ h => h)) (pa_cons pe_int (pa_cons (pv 1) pa_nil))) (pe_call (ok_number_with T) (hr.mono (by decide)) (by rfl) T.g_number_with T.k_number_with T.b_number_with .nil (L2N.passes_call (L2N.takes_of rfl rfl rfl rfl) (fun _ _ _ _ h => h)) (pa_cons pe_int (pa_cons (pv 1) pa_nil)))))) pss_nil) (pss_one (ps_ret (pe_ifExp (pt_cmpR op_eq (pv 0) pe_int (nomark _)) (pe_call (ok_way T) (hr.mono (by decide)) (by rfl) T.g_way T.k_way T.b_way .nil (L2N.passes_call (L2N.takes_of rfl rfl rfl rfl) (fun _ _ _ _ h => h)) (pa_cons pe_int (pa_cons (pv 1) (pa_cons (pe_un un_neg pe_int) (pa_cons pe_int pa_nil))))) (pe_ifExp (pt_cmpR op_eq (pv 0) pe_int (nomark _)) (pe_call (ok_led T) (hr.mono (by decide)) (by rfl) T.g_led T.k_led T.b_led .nil (L2N.passes_call (L2N.takes_of rfl rfl rfl rfl) (fun _ _ _ _ h => h)) (pa_cons pe_int (pa_cons (pv 1) (pa_cons pe_non pa_nil)))) (pe_call (ok_led T) (hr.mono (by decide)) (by rfl) T.g_led T.k_led T.b_led .nil (L2N.passes_call (L2N.takes_of rfl rfl rfl rfl) (fun _ _ _ _ h => h)) (pa_cons pe_int (pa_cons (pe_lst pa_nil) (pa_cons (pv 1) pa_nil)))))))))), pure__law_with_roads h⟩)
theorem sc__law_with_no_tree : FnScope N__law_with_no_tree ["_law_door", "_law_thing"] (defScope s__law_with_no_tree) := ⟨rfl, rfl, rfl, by decide +kernel, rfl, by decide +kernel, by decide +kernel⟩
theorem ok__law_with_no_tree (T : TX K mg c) : FnOk P w K mg base (L2N.CX P w) 7 T.a__law_with_no_tree T.fd__law_with_no_tree ["_law_door", "_law_thing"] (sp__law_with_no_tree K c) :=
  okN T.f__law_with_no_tree sc__law_with_no_tree (fun vs H Q E h => len__law_with_no_tree h) (fun cdv A outer s H vs Q E hr h => ⟨t__law_with_no_tree K c E, (pss_cons (ps_if (pt_cmpR op_lt (pv 0) pe_int (nomark _)) (pss_one (ps_ret (pe_ifExp (pt_cmpR op_eq (pv 0) pe_int (nomark _)) (pe_call (ok_word_of T) (hr.mono (by decide)) (by rfl) T.g_word_of T.k_word_of T.b_word_of .nil (L2N.passes_call (L2N.takes_of rfl rfl rfl rfl) (fun _ _ _ _ h => h)) (pa_cons pe_int (pa_cons (pv 1) pa_nil))) (pe_ifExp (pt_cmpR op_eq (pv 0) pe_int (nomark _)) (pe_call (ok_number_of T) (hr.mono (by decide)) (by rfl) T.g_number_of T.k_number_of T.b_number_of .nil (L2N.passes_call (L2N.takes_of rfl rfl rfl rfl) (fun _ _ _ _ h => h)) (pa_cons pe_int (pa_cons (pv 1) pa_nil))) (pe_call (ok_number_with T) (hr.mono (by decide)) (by rfl) T.g_number_with T.k_number_with T.b_number_with .nil (L2N.passes_call (L2N.takes_of rfl rfl rfl rfl) (fun _ _ _ _ h => h)) (pa_cons pe_int (pa_cons (pv 1) pa_nil))))))) pss_nil) (pss_cons (ps_set (i := 2) sc__law_with_no_tree.nd rfl (.inl rfl) (pe_lst (pa_cons (pe_tup (pa_cons pe_int (pa_cons pe_int pa_nil))) (pa_cons (pe_tup (pa_cons pe_int (pa_cons pe_int pa_nil))) (pa_cons (pe_tup (pa_cons pe_int (pa_cons pe_int pa_nil))) pa_nil))))) (pss_one (ps_ret (pe_ifExp (pt_cmpR op_eq (pv 0) pe_int (nomark _)) (pe_call (ok_way T) (hr.mono (by decide)) (by rfl) T.g_way T.k_way T.b_way .nil (L2N.passes_call (L2N.takes_of rfl rfl rfl rfl) (fun _ _ _ _ h => h)) (pa_cons pe_int (pa_cons (pv 1) (pa_cons (pe_un un_neg pe_int) (pa_cons pe_non pa_nil))))) (pe_ifExp (pt_cmpR op_eq (pv 0) pe_int (nomark _)) (pe_call (ok_led T) (hr.mono (by decide)) (by rfl) T.g_led T.k_led T.b_led .nil (L2N.passes_call (L2N.takes_of rfl rfl rfl rfl) (fun _ _ _ _ h => h)) (pa_cons pe_int (pa_cons (pv 1) (pa_cons (pv 2) pa_nil)))) (pe_call (ok_led T) (hr.mono (by decide)) (by rfl) T.g_led T.k_led T.b_led .nil (L2N.passes_call (L2N.takes_of rfl rfl rfl rfl) (fun _ _ _ _ h => h)) (pa_cons pe_int (pa_cons (pv 2) (pa_cons (pv 1) pa_nil)))))))))), pure__law_with_no_tree h⟩)
theorem sc__law_with_others : FnScope N__law_with_others ["_law_door", "_law_thing"] (defScope s__law_with_others) := ⟨rfl, rfl, rfl, by decide +kernel, rfl, by decide +kernel, by decide +kernel⟩
theorem ok__law_with_others (T : TX K mg c) : FnOk P w K mg base (L2N.CX P w) 6 T.a__law_with_others T.fd__law_with_others ["_law_door", "_law_thing"] (sp__law_with_others K c) :=
  okN T.f__law_with_others sc__law_with_others (fun vs H Q E h => len__law_with_others h) (fun cdv A outer s H vs Q E hr h => ⟨t__law_with_others K c E, (pss_cons (ps_set (i := 2) sc__law_with_others.nd rfl (.inl rfl) (pe_lst (pa_cons (pe_tup (pa_cons pe_int (pa_cons pe_int pa_nil))) (pa_cons (pe_tup (pa_cons pe_int (pa_cons pe_int pa_nil))) pa_nil)))) (pss_cons (ps_if (pt_cmpR op_lt (pv 0) pe_int (nomark _)) (pss_one (ps_ret (pe_ifExp (pt_cmpR op_eq (pv 0) pe_int (nomark _)) (pe_call (ok_way T) (hr.mono (by decide)) (by rfl) T.g_way T.k_way T.b_way .nil (L2N.passes_call (L2N.takes_of rfl rfl rfl rfl) (fun _ _ _ _ h => h)) (pa_cons pe_int (pa_cons (pv 2) (pa_cons (pv 1) (pa_cons pe_int pa_nil))))) (pe_call (ok_way T) (hr.mono (by decide)) (by rfl) T.g_way T.k_way T.b_way .nil (L2N.passes_call (L2N.takes_of rfl rfl rfl rfl) (fun _ _ _ _ h => h)) (pa_cons pe_int (pa_cons (pv 2) (pa_cons pe_int (pa_cons (pv 1) pa_nil)))))))) pss_nil) (pss_cons (ps_if (pt_cmpR op_eq (pv 0) pe_int (nomark _)) (pss_one (ps_ret (pe_call (ok_tree_of T) (hr.mono (by decide)) (by rfl) T.g_tree_of T.k_tree_of T.b_tree_of .nil (L2N.passes_call (L2N.takes_of rfl rfl rfl rfl) (fun _ _ _ _ h => h)) (pa_cons pe_int (pa_cons (pv 1) pa_nil))))) pss_nil) (pss_cons (ps_if (pt_cmpR op_lt (pv 0) pe_int (nomark _)) (pss_one (ps_ret (pe_ifExp (pt_cmpR op_eq (pv 0) pe_int (nomark _)) (pe_call (ok_tree_by T) (hr.mono (by decide)) (by rfl) T.g_tree_by T.k_tree_by T.b_tree_by .nil (L2N.passes_call (L2N.takes_of rfl rfl rfl rfl) (fun _ _ _ _ h => h)) (pa_cons pe_int (pa_cons (pv 1) pa_nil))) (pe_call (ok_tree_with T) (hr.mono (by decide)) (by rfl) T.g_tree_with T.k_tree_with T.b_tree_with .nil (L2N.passes_call (L2N.takes_of rfl rfl rfl rfl) (fun _ _ _ _ h => h)) (pa_cons (pe_lst (pa_cons pe_int (pa_cons pe_int (pa_cons pe_int (pa_cons pe_int (pa_cons pe_int pa_nil)))))) (pa_cons (pv 1) pa_nil)))))) pss_nil) (pss_one (ps_ret (pe_ifExp (pt_cmpR op_eq (pv 0) pe_int (nomark _)) (pe_call (ok_trees_with T) (hr.mono (by decide)) (by rfl) T.g_trees_with T.k_trees_with T.b_trees_with .nil (L2N.passes_call (L2N.takes_of rfl rfl rfl rfl) (fun _ _ _ _ h => h)) (pa_cons (pv 1) pa_nil)) (pe_call (ok_tree_with T) (hr.mono (by decide)) (by rfl) T.g_tree_with T.k_tree_with T.b_tree_with .nil (L2N.passes_call (L2N.takes_of rfl rfl rfl rfl) (fun _ _ _ _ h => h)) (pa_cons (pv 1) (pa_cons (pe_un un_neg pe_int) pa_nil)))))))))), pure__law_with_others h⟩)
theorem sc__law_bad_houses : FnScope N__law_bad_houses ["_law_cell"] (defScope s__law_bad_houses) := ⟨rfl, rfl, rfl, by decide +kernel, rfl, by decide +kernel, by decide +kernel⟩
theorem ok__law_bad_houses (T : TX K mg c) : FnOk P w K mg base CX0 1 T.a__law_bad_houses T.fd__law_bad_houses ["_law_cell"] (sp__law_bad_houses K) :=
  T.f__law_bad_houses.ok sc__law_bad_houses (fun vs H Q E h => len__law_bad_houses h) (fun cdv A outer s H vs Q E hr h => ⟨t__law_bad_houses K, (pss_one (ps_ret (pe_lst (pa_cons pe_non (pa_cons pe_int (pa_cons (pe_op op_sub (pe_un un_neg pe_int) (pv 0)) (pa_cons pe_int (pa_cons (pe_op op_add pe_int (pv 0)) (pa_cons pe_bl (pa_cons pe_bl (pa_cons pe_str (pa_cons (pe_lst (pa_cons pe_int pa_nil)) (pa_cons (pe_tup (pa_cons pe_int pa_nil)) (pa_cons pe_dnewK pa_nil)))))))))))))), pure__law_bad_houses h⟩)
theorem sc__law_bad_roads : FnScope N__law_bad_roads ["_law_cell"] (defScope s__law_bad_roads) := ⟨rfl, rfl, rfl, by decide +kernel, rfl, by decide +kernel, by decide +kernel⟩
theorem ok__law_bad_roads (T : TX K mg c) : FnOk P w K mg base CX0 1 T.a__law_bad_roads T.fd__law_bad_roads ["_law_cell"] (sp__law_bad_roads K) :=
  T.f__law_bad_roads.ok sc__law_bad_roads (fun vs H Q E h => len__law_bad_roads h) (fun cdv A outer s H vs Q E hr h => ⟨t__law_bad_roads K, (pss_cons (ps_set (i := 1) sc__law_bad_roads.nd rfl (.inl rfl) (pe_lst (pa_cons pe_non (pa_cons (pe_tup pa_nil) (pa_cons (pe_tup (pa_cons (pe_tup (pa_cons pe_int (pa_cons pe_int pa_nil))) pa_nil)) (pa_cons pe_str (pa_cons pe_dnewK (pa_cons pe_int (pa_cons (pe_lst (pa_cons pe_non pa_nil)) (pa_cons (pe_lst (pa_cons pe_int pa_nil)) (pa_cons (pe_lst (pa_cons (pe_lst (pa_cons pe_int (pa_cons pe_int pa_nil))) pa_nil)) (pa_cons (pe_lst (pa_cons (pe_tup (pa_cons pe_int pa_nil)) pa_nil)) (pa_cons (pe_lst (pa_cons (pe_tup (pa_cons pe_int (pa_cons pe_int (pa_cons pe_int pa_nil)))) pa_nil)) (pa_cons (pe_lst (pa_cons (pe_tup (pa_cons pe_int (pa_cons pe_int pa_nil))) pa_nil)) (pa_cons (pe_lst (pa_cons (pe_tup (pa_cons pe_int (pa_cons pe_int pa_nil))) pa_nil)) (pa_cons (pe_lst (pa_cons (pe_tup (pa_cons pe_int (pa_cons pe_int pa_nil))) pa_nil)) pa_nil)))))))))))))))) (pss_cons (ps_set (i := 1) sc__law_bad_roads.nd rfl (.inl rfl) (pe_op op_cat (pv 1) (pe_lst (pa_cons (pe_lst (pa_cons (pe_tup (pa_cons (pe_un un_neg pe_int) (pa_cons pe_int pa_nil))) pa_nil)) (pa_cons (pe_lst (pa_cons (pe_tup (pa_cons (pe_op op_sub (pe_un un_neg pe_int) (pv 0)) (pa_cons pe_int pa_nil))) pa_nil)) (pa_cons (pe_lst (pa_cons (pe_tup (pa_cons pe_int (pa_cons (pe_op op_add pe_int (pv 0)) pa_nil))) pa_nil)) (pa_cons (pe_lst (pa_cons (pe_tup (pa_cons pe_int (pa_cons pe_bl pa_nil))) pa_nil)) (pa_cons (pe_lst (pa_cons (pe_tup (pa_cons pe_bl (pa_cons pe_int pa_nil))) pa_nil)) (pa_cons (pe_lst (pa_cons (pe_tup (pa_cons pe_str (pa_cons pe_int pa_nil))) pa_nil)) (pa_cons (pe_lst (pa_cons (pe_tup (pa_cons pe_int (pa_cons pe_non pa_nil))) pa_nil)) pa_nil)))))))))) (pss_one (ps_ret (pe_op op_cat (pv 1) (pe_lst (pa_cons (pe_lst (pa_cons (pe_tup (pa_cons pe_int (pa_cons pe_int pa_nil))) (pa_cons (pe_tup (pa_cons pe_int (pa_cons pe_int pa_nil))) pa_nil))) (pa_cons (pe_lst (pa_cons (pe_tup (pa_cons pe_int (pa_cons pe_int pa_nil))) (pa_cons (pe_tup (pa_cons pe_int (pa_cons pe_int pa_nil))) (pa_cons (pe_tup (pa_cons pe_int (pa_cons pe_int pa_nil))) pa_nil)))) (pa_cons (pe_lst (pa_cons (pe_tup (pa_cons pe_int (pa_cons pe_int pa_nil))) (pa_cons (pe_lst (pa_cons pe_int (pa_cons pe_int pa_nil))) pa_nil))) (pa_cons (pe_lst (pa_cons (pe_tup (pa_cons pe_int (pa_cons pe_int pa_nil))) (pa_cons (pe_tup (pa_cons pe_int (pa_cons pe_int pa_nil))) pa_nil))) pa_nil)))))))))), pure__law_bad_roads h⟩)
theorem sc__law_no_trees : FnScope N__law_no_trees ["_law_cell"] (defScope s__law_no_trees) := ⟨rfl, rfl, rfl, by decide +kernel, rfl, by decide +kernel, by decide +kernel⟩
theorem ok__law_no_trees (T : TX K mg c) : FnOk P w K mg base CX0 1 T.a__law_no_trees T.fd__law_no_trees ["_law_cell"] (sp__law_no_trees K) :=
  T.f__law_no_trees.ok sc__law_no_trees (fun vs H Q E h => len__law_no_trees h) (fun cdv A outer s H vs Q E hr h => ⟨t__law_no_trees K, (pss_cons (ps_set (i := 1) sc__law_no_trees.nd rfl (.inl rfl) (pe_lst (pa_cons (pe_lst pa_nil) (pa_cons (pe_lst (pa_cons (pe_tup (pa_cons pe_int (pa_cons pe_int pa_nil))) pa_nil)) (pa_cons (pe_lst (pa_cons (pe_tup (pa_cons pe_int (pa_cons pe_int pa_nil))) (pa_cons (pe_tup (pa_cons pe_int (pa_cons pe_int pa_nil))) pa_nil))) (pa_cons (pe_lst (pa_cons (pe_tup (pa_cons pe_int (pa_cons pe_int pa_nil))) (pa_cons (pe_tup (pa_cons pe_int (pa_cons pe_int pa_nil))) (pa_cons (pe_tup (pa_cons pe_int (pa_cons pe_int pa_nil))) pa_nil)))) (pa_cons (pe_lst (pa_cons (pe_tup (pa_cons pe_int (pa_cons pe_int pa_nil))) (pa_cons (pe_tup (pa_cons pe_int (pa_cons pe_int pa_nil))) (pa_cons (pe_tup (pa_cons pe_int (pa_cons pe_int pa_nil))) (pa_cons (pe_tup (pa_cons pe_int (pa_cons pe_int pa_nil))) pa_nil))))) pa_nil))))))) (pss_one (ps_ret (pe_op op_cat (pv 1) (pe_lst (pa_cons (pe_lst (pa_cons (pe_tup (pa_cons pe_int (pa_cons pe_int pa_nil))) (pa_cons (pe_tup (pa_cons pe_int (pa_cons pe_int pa_nil))) pa_nil))) (pa_cons (pe_lst (pa_cons (pe_tup (pa_cons pe_int (pa_cons (pe_op op_add (pe_op op_mod (pv 0) pe_int) pe_int) pa_nil))) pa_nil)) (pa_cons (pe_lst (pa_cons (pe_tup (pa_cons pe_int (pa_cons pe_int pa_nil))) (pa_cons (pe_tup (pa_cons pe_int (pa_cons pe_int pa_nil))) (pa_cons (pe_tup (pa_cons pe_int (pa_cons pe_int pa_nil))) (pa_cons (pe_tup (pa_cons pe_int (pa_cons (pe_op op_add (pe_op op_mod (pv 0) pe_int) pe_int) pa_nil))) pa_nil))))) pa_nil)))))))), pure__law_no_trees h⟩)
theorem sc__law_bad_house : FnScope N__law_bad_house ["_law_cell"] (defScope s__law_bad_house) := ⟨rfl, rfl, rfl, by decide +kernel, rfl, by decide +kernel, by decide +kernel⟩
theorem ok__law_bad_house (T : TX K mg c) : FnOk P w K mg base CX0 1 T.a__law_bad_house T.fd__law_bad_house ["_law_cell"] (sp__law_bad_house K) :=
  T.f__law_bad_house.ok sc__law_bad_house (fun vs H Q E h => len__law_bad_house h) (fun cdv A outer s H vs Q E hr h => ⟨t__law_bad_house K, (pss_one (ps_ret (pe_lst (pa_cons pe_non (pa_cons (pe_un un_neg pe_int) (pa_cons (pe_op op_sub (pe_un un_neg pe_int) (pv 0)) (pa_cons pe_int (pa_cons (pe_op op_add pe_int (pv 0)) (pa_cons pe_bl (pa_cons pe_bl (pa_cons pe_str (pa_cons (pe_lst (pa_cons pe_int pa_nil)) (pa_cons (pe_tup (pa_cons pe_int pa_nil)) (pa_cons pe_dnewK pa_nil)))))))))))))), pure__law_bad_house h⟩)
theorem sc__law_bad_words : FnScope N__law_bad_words ["_law_cell"] (defScope s__law_bad_words) := ⟨rfl, rfl, rfl, by decide +kernel, rfl, by decide +kernel, by decide +kernel⟩
theorem ok__law_bad_words (T : TX K mg c) : FnOk P w K mg base CX0 1 T.a__law_bad_words T.fd__law_bad_words ["_law_cell"] (sp__law_bad_words K) :=
  T.f__law_bad_words.ok sc__law_bad_words (fun vs H Q E h => len__law_bad_words h) (fun cdv A outer s H vs Q E hr h => ⟨t__law_bad_words K, (pss_cons (ps_set (i := 1) sc__law_bad_words.nd rfl (.inl rfl) (pe_lst (pa_cons pe_non (pa_cons (pe_tup (pa_cons pe_int (pa_cons pe_int pa_nil))) (pa_cons pe_str (pa_cons pe_dnewK (pa_cons pe_int (pa_cons (pe_lst pa_nil) (pa_cons (pe_lst (pa_cons pe_int pa_nil)) (pa_cons (pe_lst (pa_cons pe_int (pa_cons pe_int (pa_cons pe_int pa_nil)))) (pa_cons (pe_lst (pa_cons pe_int (pa_cons pe_int pa_nil))) (pa_cons (pe_lst (pa_cons (pe_un un_neg pe_int) (pa_cons pe_int pa_nil))) (pa_cons (pe_lst (pa_cons pe_int (pa_cons (pe_op op_add pe_int (pv 0)) pa_nil))) (pa_cons (pe_lst (pa_cons (pe_op op_sub (pe_un un_neg pe_int) (pv 0)) (pa_cons pe_int pa_nil))) (pa_cons (pe_lst (pa_cons pe_int (pa_cons pe_bl pa_nil))) pa_nil))))))))))))))) (pss_one (ps_ret (pe_op op_cat (pv 1) (pe_lst (pa_cons (pe_lst (pa_cons pe_bl (pa_cons pe_int pa_nil))) (pa_cons (pe_lst (pa_cons pe_str (pa_cons pe_int pa_nil))) (pa_cons (pe_lst (pa_cons pe_int (pa_cons pe_non pa_nil))) (pa_cons (pe_lst (pa_cons (pe_lst (pa_cons pe_int pa_nil)) (pa_cons pe_int pa_nil))) (pa_cons (pe_lst (pa_cons pe_int (pa_cons pe_int (pa_cons pe_int pa_nil)))) pa_nil)))))))))), pure__law_bad_words h⟩)
theorem sc__law_bad_numbers : FnScope N__law_bad_numbers ["_law_cell"] (defScope s__law_bad_numbers) := ⟨rfl, rfl, rfl, by decide +kernel, rfl, by decide +kernel, by decide +kernel⟩
theorem ok__law_bad_numbers (T : TX K mg c) : FnOk P w K mg base CX0 1 T.a__law_bad_numbers T.fd__law_bad_numbers ["_law_cell"] (sp__law_bad_numbers K) :=
  T.f__law_bad_numbers.ok sc__law_bad_numbers (fun vs H Q E h => len__law_bad_numbers h) (fun cdv A outer s H vs Q E hr h => ⟨t__law_bad_numbers K, (pss_one (ps_ret (pe_lst (pa_cons pe_non (pa_cons (pe_un un_neg pe_int) (pa_cons (pe_op op_sub (pe_un un_neg pe_int) (pv 0)) (pa_cons pe_int (pa_cons (pe_op op_add pe_int (pv 0)) (pa_cons pe_bl (pa_cons pe_bl (pa_cons pe_str (pa_cons (pe_lst (pa_cons pe_int pa_nil)) (pa_cons (pe_tup (pa_cons pe_int pa_nil)) (pa_cons pe_dnewK pa_nil)))))))))))))), pure__law_bad_numbers h⟩)
theorem sc__law_bad_counts : FnScope N__law_bad_counts ["_law_cell"] (defScope s__law_bad_counts) := ⟨rfl, rfl, rfl, by decide +kernel, rfl, by decide +kernel, by decide +kernel⟩
theorem ok__law_bad_counts (T : TX K mg c) : FnOk P w K mg base CX0 1 T.a__law_bad_counts T.fd__law_bad_counts ["_law_cell"] (sp__law_bad_counts K) :=
  T.f__law_bad_counts.ok sc__law_bad_counts (fun vs H Q E h => len__law_bad_counts h) (fun cdv A outer s H vs Q E hr h => ⟨t__law_bad_counts K, (pss_cons (ps_set (i := 1) sc__law_bad_counts.nd rfl (.inl rfl) (pe_lst (pa_cons pe_non (pa_cons (pe_tup pa_nil) (pa_cons (pe_tup (pa_cons pe_int (pa_cons pe_int pa_nil))) (pa_cons pe_str (pa_cons pe_dnewK (pa_cons pe_int (pa_cons (pe_lst pa_nil) (pa_cons (pe_lst (pa_cons pe_non (pa_cons pe_int pa_nil))) (pa_cons (pe_lst (pa_cons pe_int (pa_cons pe_bl pa_nil))) (pa_cons (pe_lst (pa_cons (pe_un un_neg pe_int) (pa_cons pe_int pa_nil))) (pa_cons (pe_lst (pa_cons pe_int (pa_cons (pe_op op_sub (pe_un un_neg pe_int) (pv 0)) pa_nil))) (pa_cons (pe_lst (pa_cons pe_str (pa_cons pe_int pa_nil))) (pa_cons (pe_lst (pa_cons (pe_lst (pa_cons pe_int pa_nil)) (pa_cons pe_int pa_nil))) pa_nil))))))))))))))) (pss_one (ps_ret (pe_op op_cat (pv 1) (pe_lst (pa_cons (pe_op op_rep (pe_lst (pa_cons pe_int pa_nil)) pe_int) (pa_cons (pe_lst (pa_cons pe_int (pa_cons pe_int (pa_cons (pe_tup (pa_cons pe_int pa_nil)) pa_nil)))) (pa_cons (pe_op op_rep (pe_lst (pa_cons pe_int pa_nil)) (pe_op op_add pe_int (pe_op op_mod (pv 0) pe_int))) (pa_cons (pe_lst (pa_cons pe_bl pa_nil)) (pa_cons (pe_lst (pa_cons pe_int (pa_cons pe_int (pa_cons pe_non pa_nil)))) pa_nil)))))))))), pure__law_bad_counts h⟩)
def AskS (T : TX K mg c) : Addr → Sp → Prop := fun f sp => (f = T.a__law_with_houses ∧ sp = (sp__law_with_houses K c)) ∨ (f = T.a__law_with_roads ∧ sp = (sp__law_with_roads K c)) ∨ (f = T.a__law_with_no_tree ∧ sp = (sp__law_with_no_tree K c)) ∨ (f = T.a__law_with_others ∧ sp = (sp__law_with_others K c))
def ThingS (T : TX K mg c) : Addr → Sp → Prop := fun f sp => (f = T.a__law_bad_houses ∧ sp = (sp__law_bad_houses K)) ∨ (f = T.a__law_bad_roads ∧ sp = (sp__law_bad_roads K)) ∨ (f = T.a__law_no_trees ∧ sp = (sp__law_no_trees K)) ∨ (f = T.a__law_bad_house ∧ sp = (sp__law_bad_house K)) ∨ (f = T.a__law_bad_words ∧ sp = (sp__law_bad_words K)) ∨ (f = T.a__law_bad_numbers ∧ sp = (sp__law_bad_numbers K)) ∨ (f = T.a__law_bad_counts ∧ sp = (sp__law_bad_counts K))
theorem held_ask (T : TX K mg c) : HeldBy P w K mg base (L2N.CX P w) 7 (AskS T) := by
  rintro f sp (⟨rfl, rfl⟩ | ⟨rfl, rfl⟩ | ⟨rfl, rfl⟩ | ⟨rfl, rfl⟩)
  · exact ⟨_, _, (ok__law_with_houses T).mono (by decide), T.k__law_with_houses, T.b__law_with_houses⟩
  · exact ⟨_, _, (ok__law_with_roads T).mono (by decide), T.k__law_with_roads, T.b__law_with_roads⟩
  · exact ⟨_, _, (ok__law_with_no_tree T).mono (by decide), T.k__law_with_no_tree, T.b__law_with_no_tree⟩
  · exact ⟨_, _, (ok__law_with_others T).mono (by decide), T.k__law_with_others, T.b__law_with_others⟩
theorem held_things (T : TX K mg c) : HeldBy P w K mg base CX0 1 (ThingS T) := by
  rintro f sp (⟨rfl, rfl⟩ | ⟨rfl, rfl⟩ | ⟨rfl, rfl⟩ | ⟨rfl, rfl⟩ | ⟨rfl, rfl⟩ | ⟨rfl, rfl⟩ | ⟨rfl, rfl⟩)
  · exact ⟨_, _, (ok__law_bad_houses T).mono (by decide), T.k__law_bad_houses, T.b__law_bad_houses⟩
  · exact ⟨_, _, (ok__law_bad_roads T).mono (by decide), T.k__law_bad_roads, T.b__law_bad_roads⟩
  · exact ⟨_, _, (ok__law_no_trees T).mono (by decide), T.k__law_no_trees, T.b__law_no_trees⟩
  · exact ⟨_, _, (ok__law_bad_house T).mono (by decide), T.k__law_bad_house, T.b__law_bad_house⟩
  · exact ⟨_, _, (ok__law_bad_words T).mono (by decide), T.k__law_bad_words, T.b__law_bad_words⟩
  · exact ⟨_, _, (ok__law_bad_numbers T).mono (by decide), T.k__law_bad_numbers, T.b__law_bad_numbers⟩
  · exact ⟨_, _, (ok__law_bad_counts T).mono (by decide), T.k__law_bad_counts, T.b__law_bad_counts⟩
end
end TW
namespace TW
open PySem PySem.Spec PyProof.Rows L2 Evl
local macro_rules | `(tactic| walk_at "ev") => `(tactic| try simp only [tSeq, tNext, tRet, tRetN, tDrop, tAsg, gName, gSub, gTup, gCons, gNil, tIfS, tAndV, tOrV, tNotV, tAnd, tOr, tNot, tCB, tCons, tNil, tC, tTest, tB, tOp, tUn, tCall, tIf, tTup, tLst, tIsTh, tChain, tBM, tBM0, tAug, tAugS, tYes, tRaise, tPar, tSl, tPart, tNoPart, tRevL, rI0, rI, rU, ipI, tVar, E0,
  List.getElem?_cons_zero, List.getElem?_cons_succ, List.set_cons_zero, List.set_cons_succ, Option.some.injEq, exists_eq_left', exists_eq_left, V.int.injEq, V.bl.injEq, V.ref.injEq, List.cons.injEq, and_true, true_and, exists_and_left, List.cons_append, List.nil_append, List.append_nil, exists_eq, exists_const, and_assoc, exists_eq_right, if_true, if_false, Bool.not_true, Bool.not_false, Bool.false_eq_true, if_pos])
section
variable {P : Program} {w : World} {K : PySem.W.Frag} {mg : Str → Option Value} {base : Heap} {c : Cs} {vs : List V} {H H' : Hp} {Q : VK} {E : XK}
def errA (c : Cs) : Nat → Addr
  | 0 => c.BadHouses
  | 1 => c.BadRoads
  | 2 => c.BadHouse
  | 3 => c.BadWord
  | 4 => c.BadNumber
  | 5 => c.BadCounts
  | _ => c.NoTree
def sp__law_due (T : TX K mg c) : Sp := fun vs H Q _ => ∃ (f : Addr) (sp : Sp) (v1 v2 : V) (k : Nat), vs = [.ref f, v1, v2, .int k] ∧ AskS T f sp ∧ k < 7 ∧
  (((∀ Q' E', (∀ H', Ex H H' → E' (.ref (errA c k)) none H') → sp [v1, v2] H Q' E') ∧ ∀ H', Ex H H' → Q (.bl true) H') ∨
   ((∀ Q' E', (∀ u H', Ex H H' → Q' u H') → sp [v1, v2] H Q' E') ∧ ∀ H', Ex H H' → Q (.bl false) H'))
abbrev N__law_due : List Str := ["_law_ask", "_law_door", "_law_thing", "_law_due_here", "error", "_law_found", "_law_k"]
def t__law_due (T : TX K mg c) : TS := tSeq (tTryAs K (.ref c.TreeError) 4 (fun W => (tDrop (tCallH 0 (AskS T) (WE W) (tCons (tVar 1) (tCons (tVar 2) tNil))))) (fun a cls d => (tSeq (tAsg (tLst (tCons (tCB (rIsX K cls d a) (tCons (tVar 4) (tCons (tC (.ref c.BadHouses)) tNil))) (tCons (tCB (rIsX K cls d a) (tCons (tVar 4) (tCons (tC (.ref c.BadRoads)) tNil))) (tCons (tCB (rIsX K cls d a) (tCons (tVar 4) (tCons (tC (.ref c.BadHouse)) tNil))) tNil)))) (gName 5)) (tSeq (tAsg (tOp rCat (tVar 5) (tLst (tCons (tCB (rIsX K cls d a) (tCons (tVar 4) (tCons (tC (.ref c.BadWord)) tNil))) (tCons (tCB (rIsX K cls d a) (tCons (tVar 4) (tCons (tC (.ref c.BadNumber)) tNil))) (tCons (tCB (rIsX K cls d a) (tCons (tVar 4) (tCons (tC (.ref c.BadCounts)) tNil))) tNil))))) (gName 5)) (tSeq (tDrop (tBM K "list" rAppend (tVar 5) (tCons (tCB (rIsX K cls d a) (tCons (tVar 4) (tCons (tC (.ref c.NoTree)) tNil))) tNil))) (tRet (tAndV (tOp (rEqD K) (tVar 5) (tLc (iRng1 (tCons (tC (.int 7)) tNil)) (gName 6) tYes (tOp rEq (tVar 6) (tVar 3)) [6])) (tCB (rIsX K cls d a) (tCons (tVar 4) (tCons (tC (.ty "ValueError")) tNil)))))))))) (tRet (tC (.bl false)))
theorem len__law_due {T : TX K mg c} (h : sp__law_due T vs H Q E) : vs.length = 4 := by
  obtain ⟨_, _, _, _, _, rfl, _⟩ := h
  rfl
theorem TX.ec (T : TX K mg c) {k : Nat} (hk : k < 7) : ExcC K (errA c k) := by
  match k, hk with
  | 0, _ => exact T.ec_0
  | 1, _ => exact T.ec_1
  | 2, _ => exact T.ec_2
  | 3, _ => exact T.ec_3
  | 4, _ => exact T.ec_4
  | 5, _ => exact T.ec_5
  | 6, _ => exact T.ec_6
theorem TX.sm (T : TX K mg c) {k : Nat} (hk : k < 7) : PySem.W.exmOne K (.ref (errA c k)) (.ref c.TreeError) = some true := by
  refine PySem.W.exm_ref T.bc_TreeError T.hd_TreeError T.tc_TreeError ?_
  match k, hk with
  | 0, _ => exact T.sm_0
  | 1, _ => exact T.sm_1
  | 2, _ => exact T.sm_2
  | 3, _ => exact T.sm_3
  | 4, _ => exact T.sm_4
  | 5, _ => exact T.sm_5
  | 6, _ => exact T.sm_6
theorem TX.kv (T : TX K mg c) {k : Nat} (hk : k < 7) : PySem.W.kitOne K (.ref (errA c k)) (.type "ValueError") = some true := by
  match k, hk with
  | 0, _ => exact T.kv_0
  | 1, _ => exact T.kv_1
  | 2, _ => exact T.kv_2
  | 3, _ => exact T.kv_3
  | 4, _ => exact T.kv_4
  | 5, _ => exact T.kv_5
  | 6, _ => exact T.kv_6
theorem TX.ki (T : TX K mg c) {k : Nat} (hk : k < 7) : PySem.W.kitOne K (.ref (errA c k)) (.ref c.BadHouses) = some (decide (0 = k)) ∧ PySem.W.kitOne K (.ref (errA c k)) (.ref c.BadRoads) = some (decide (1 = k)) ∧ PySem.W.kitOne K (.ref (errA c k)) (.ref c.BadHouse) = some (decide (2 = k)) ∧
    PySem.W.kitOne K (.ref (errA c k)) (.ref c.BadWord) = some (decide (3 = k)) ∧ PySem.W.kitOne K (.ref (errA c k)) (.ref c.BadNumber) = some (decide (4 = k)) ∧ PySem.W.kitOne K (.ref (errA c k)) (.ref c.BadCounts) = some (decide (5 = k)) ∧ PySem.W.kitOne K (.ref (errA c k)) (.ref c.NoTree) = some (decide (6 = k)) := by
  match k, hk with
  | 0, _ => exact ⟨T.ki_0_0, T.ki_0_1, T.ki_0_2, T.ki_0_3, T.ki_0_4, T.ki_0_5, T.ki_0_6⟩
  | 1, _ => exact ⟨T.ki_1_0, T.ki_1_1, T.ki_1_2, T.ki_1_3, T.ki_1_4, T.ki_1_5, T.ki_1_6⟩
  | 2, _ => exact ⟨T.ki_2_0, T.ki_2_1, T.ki_2_2, T.ki_2_3, T.ki_2_4, T.ki_2_5, T.ki_2_6⟩
  | 3, _ => exact ⟨T.ki_3_0, T.ki_3_1, T.ki_3_2, T.ki_3_3, T.ki_3_4, T.ki_3_5, T.ki_3_6⟩
  | 4, _ => exact ⟨T.ki_4_0, T.ki_4_1, T.ki_4_2, T.ki_4_3, T.ki_4_4, T.ki_4_5, T.ki_4_6⟩
  | 5, _ => exact ⟨T.ki_5_0, T.ki_5_1, T.ki_5_2, T.ki_5_3, T.ki_5_4, T.ki_5_5, T.ki_5_6⟩
  | 6, _ => exact ⟨T.ki_6_0, T.ki_6_1, T.ki_6_2, T.ki_6_3, T.ki_6_4, T.ki_6_5, T.ki_6_6⟩
theorem isx_ref {D a A : Addr} {b : Bool} (C : ExcC K D) (h : PySem.W.kitOne K (.ref D) (.ref A) = some b) (q : Q (.bl b) H) : rIsX K (.ref D) none a [.ref a, .ref A] H Q := ⟨D, rfl, rfl, C, .ref A, .ref A, b, rfl, fun u r => r, h, q⟩
theorem isx_ty {D a : Addr} {S : String} {b : Bool} (C : ExcC K D) (h : PySem.W.kitOne K (.ref D) (.type S) = some b) (q : Q (.bl b) H) : rIsX K (.ref D) none a [.ref a, .ty S] H Q := ⟨D, rfl, rfl, C, .ty S, .type S, b, rfl, fun u r => r, h, q⟩
theorem bools_dpa (bs : List Bool) : DpAll K H (bs.map V.bl) (bs.map PyData.bool) := by
  induction bs with
  | nil => exact .nil
  | cons b bs ih => exact .cons (.bl b) ih
theorem shaped_bools (bs : List Bool) : SeqAt.shaped (.list (bs.map PyData.bool)) = true := shapedL fun d hd => by
  obtain ⟨b, _, rfl⟩ := List.mem_map.mp hd
  simp [flat1, PyData.canLay0, PyData.depth]
theorem eqv_bools (bs : List Bool) : PyData.eqv (.list (bs.map PyData.bool)) (.list (bs.map PyData.bool)) = true := by
  have key : ∀ bs : List Bool, PyData.eqvAll (bs.map PyData.bool) (bs.map PyData.bool) = true := by
    intro bs
    induction bs with
    | nil => simp [PyData.eqvAll]
    | cons b bs ih => simp [PyData.eqvAll, PyData.eqv, ih]
  simp only [PyData.eqv]
  exact key bs
theorem sm3 {n : Nat} (h : n ≤ 100) : n ≤ sizeLine := Nat.le_of_lt (sz_lt (by omega))
theorem sm4 {n : Nat} (h : n ≤ 100) : n < sizeLine := sz_lt (by omega)
theorem pure__law_due {T : TX K mg c} (h : sp__law_due T vs H Q E) : t__law_due T { nx := fun _ H' => Q .non H', rt := Q } (start N__law_due vs) H := by
  obtain ⟨f, sp, v1, v2, k, rfl, hS, hk, h⟩ := h
  show t__law_due T _ [some (.ref f), some v1, some v2, some (.int k), none, none, none] H
  unfold t__law_due
  rcases h with ⟨hr, q⟩ | ⟨hr, q⟩
  · refine seqC fun R kR => ⟨f, sp, rfl, hS, v1, rfl, v2, rfl, hr _ _ fun H1 e1 => ⟨true, T.sm hk, fun _ a ha => ?_, fun z => by cases z⟩⟩
    have C := T.ec hk
    obtain ⟨k0, k1, k2, k3, k4, k5, k6⟩ := T.ki hk
    refine seqC fun R2 kR2 => ?_
    refine ⟨_, rfl, isx_ref C k0 ⟨_, rfl, isx_ref C k1 ⟨_, rfl, isx_ref C k2 ⟨sm3 (by simp), fun p hp => kR2 _ _ ?_⟩⟩⟩⟩
    refine seqC fun R3 kR3 => ?_
    refine ⟨_, rfl, _, rfl, isx_ref C k3 ⟨_, rfl, isx_ref C k4 ⟨_, rfl, isx_ref C k5 ⟨sm3 (by simp), fun p2 hp2 => ⟨p, p2, _, _, rfl, rfl, (Ex.new hp2) _ _ upd_same, upd_same, sm3 (by simp), fun p3 hp3 => kR3 _ _ ?_⟩⟩⟩⟩⟩
    refine seqC fun R4 kR4 => ?_
    refine ⟨_, rfl, .inl ⟨rfl, _, SqL.of upd_same⟩, _, rfl, isx_ref C k6 ⟨p3, _, _, rfl, rfl, upd_same, sm4 (by simp), kR4 _ _ ?_⟩⟩
    have ex : Ex H (upd (upd (upd (upd H1 p (.lst [V.bl (decide (0 = k)), V.bl (decide (1 = k)), V.bl (decide (2 = k))])) p2 (.lst [V.bl (decide (3 = k)), V.bl (decide (4 = k)), V.bl (decide (5 = k))])) p3 (.lst ([V.bl (decide (0 = k)), V.bl (decide (1 = k)), V.bl (decide (2 = k))] ++ [V.bl (decide (3 = k)), V.bl (decide (4 = k)), V.bl (decide (5 = k))])))
        p3 (.lst (([V.bl (decide (0 = k)), V.bl (decide (1 = k)), V.bl (decide (2 = k))] ++ [V.bl (decide (3 = k)), V.bl (decide (4 = k)), V.bl (decide (5 = k))]) ++ [V.bl (decide (6 = k))]))) :=
      Ex.mut ((((e1.trans (Ex.new hp)).trans (Ex.new hp2)).trans (Ex.new hp3))) (fresh_back ((e1.trans (Ex.new hp)).trans (Ex.new hp2)) hp3)
    generalize hH5 : upd (upd (upd (upd H1 p (.lst [V.bl (decide (0 = k)), V.bl (decide (1 = k)), V.bl (decide (2 = k))])) p2 (.lst [V.bl (decide (3 = k)), V.bl (decide (4 = k)), V.bl (decide (5 = k))])) p3 (.lst ([V.bl (decide (0 = k)), V.bl (decide (1 = k)), V.bl (decide (2 = k))] ++ [V.bl (decide (3 = k)), V.bl (decide (4 = k)), V.bl (decide (5 = k))])))
        p3 (.lst (([V.bl (decide (0 = k)), V.bl (decide (1 = k)), V.bl (decide (2 = k))] ++ [V.bl (decide (3 = k)), V.bl (decide (4 = k)), V.bl (decide (5 = k))]) ++ [V.bl (decide (6 = k))])) = H5 at ex ⊢
    have h5 : H5 p3 = some (.lst (((List.range 7).map fun j => decide (j = k)).map V.bl)) := by
      rw [← hH5, upd_same]
      rfl
    refine ⟨_, rfl, ?_⟩
    refine lcR (n := 7) (fun _ i u _ => u = .bl (decide (i = k))) (cr_flat fun i => .bl (decide (i = k))) (fun _ => true) (fun Q' kk => kk H5 (Ex.refl H5)) (by decide) (by decide) (fun x => rfl) (fun i H' hi e Q'' q'' => q'' H' (Ex.refl H')) (fun i D H' hi e _ Q'' q'' => ?_) (fun D ys H6 hD e6 hy hall => ?_)
    · refine ⟨_, rfl, _, rfl, rfl, ?_⟩
      refine q'' _ H' (Ex.refl H') fun _ _ => ?_
      congr 1
      rw [decide_eq_decide]
      constructor
      · intro z
        have : (i : Int) = k := by injection z
        omega
      · intro z
        rw [z]
    · have e7 := hall.eq
      rw [picks_all] at e7
      refine ⟨.list (((List.range 7).map fun j => decide (j = k)).map PyData.bool), .list (((List.range 7).map fun j => decide (j = k)).map PyData.bool), .lst (ex_l e6 (SqL.of h5)) (bools_dpa _), .lst (SqL.of hy) ?_, ?_, ?_, _, rfl, ?_⟩
      · rw [e7]
        have := bools_dpa (K := K) (H := H6) ((List.range 7).map fun j => decide (j = k))
        rw [List.map_map] at this
        exact this
      · exact shaped_bools _
      · exact shaped_bools _
      · rw [eqv_bools]
        exact iteT ⟨_, rfl, isx_ty C (T.kv hk) (q H6 (ex.trans e6))⟩
  · refine seqC fun R kR => ⟨f, sp, rfl, hS, v1, rfl, v2, rfl, hr _ _ fun u H1 e1 => kR _ _ ?_⟩
    exact q H1 e1
theorem sc__law_due : FnScope N__law_due ["_law_ask", "_law_door", "_law_thing", "_law_due_here"] (defScope s__law_due) := ⟨rfl, rfl, rfl, by decide +kernel, rfl, by decide +kernel, by decide +kernel⟩
theorem ok__law_due (T : TX K mg c) : FnOk P w K mg base CX0 8 T.a__law_due T.fd__law_due ["_law_ask", "_law_door", "_law_thing", "_law_due_here"] (sp__law_due T) :=
  T.f__law_due.ok sc__law_due (fun vs H Q E h => len__law_due h) (fun cdv A outer s H vs Q E hr h => ⟨t__law_due T, (pss_cons (L2N.ps_try_as (i := 4) (tb := fun W => (tDrop (tCallH 0 (AskS T) (WE W) (tCons (tVar 1) (tCons (tVar 2) tNil))))) (ts := fun a cls d => (tSeq (tAsg (tLst (tCons (tCB (rIsX K cls d a) (tCons (tVar 4) (tCons (tC (.ref c.BadHouses)) tNil))) (tCons (tCB (rIsX K cls d a) (tCons (tVar 4) (tCons (tC (.ref c.BadRoads)) tNil))) (tCons (tCB (rIsX K cls d a) (tCons (tVar 4) (tCons (tC (.ref c.BadHouse)) tNil))) tNil)))) (gName 5)) (tSeq (tAsg (tOp rCat (tVar 5) (tLst (tCons (tCB (rIsX K cls d a) (tCons (tVar 4) (tCons (tC (.ref c.BadWord)) tNil))) (tCons (tCB (rIsX K cls d a) (tCons (tVar 4) (tCons (tC (.ref c.BadNumber)) tNil))) (tCons (tCB (rIsX K cls d a) (tCons (tVar 4) (tCons (tC (.ref c.BadCounts)) tNil))) tNil))))) (gName 5)) (tSeq (tDrop (tBM K "list" rAppend (tVar 5) (tCons (tCB (rIsX K cls d a) (tCons (tVar 4) (tCons (tC (.ref c.NoTree)) tNil))) tNil))) (tRet (tAndV (tOp (rEqD K) (tVar 5) (tLc (iRng1 (tCons (tC (.int 7)) tNil)) (gName 6) tYes (tOp rEq (tVar 6) (tVar 3)) [6])) (tCB (rIsX K cls d a) (tCons (tVar 4) (tCons (tC (.ty "ValueError")) tNil))))))))) (Wout := fun _ _ _ _ => False) rfl rfl sc__law_due.nd rfl rfl ⟨rfl, by decide, Or.inl T.g_TreeError⟩ takesN (fun W pn xe tk _ => by exact (pss_one (ps_expr (pe_callH (held_ask T) (hr.mono (by decide)) rfl (Or.inl rfl) (fun σ => L2N.passAt tk σ) (pa_cons (pv 1) (pa_cons (pv 2) pa_nil)))))) (fun a oe cls d pn hz hf => by exact (pss_cons (ps_set (i := 5) sc__law_due.nd rfl (.inl rfl) (pe_lst (pa_cons (pe_callB (call_isX hz.zc hf) (by rfl) T.z_isinstance (by decide +kernel) (pa_cons (pv 4) (pa_cons (pe_glob (by rfl) T.g_BadHouses rfl) pa_nil))) (pa_cons (pe_callB (call_isX hz.zc hf) (by rfl) T.z_isinstance (by decide +kernel) (pa_cons (pv 4) (pa_cons (pe_glob (by rfl) T.g_BadRoads rfl) pa_nil))) (pa_cons (pe_callB (call_isX hz.zc hf) (by rfl) T.z_isinstance (by decide +kernel) (pa_cons (pv 4) (pa_cons (pe_glob (by rfl) T.g_BadHouse rfl) pa_nil))) pa_nil))))) (pss_cons (ps_set (i := 5) sc__law_due.nd rfl (.inl rfl) (pe_op op_cat (pv 5) (pe_lst (pa_cons (pe_callB (call_isX hz.zc hf) (by rfl) T.z_isinstance (by decide +kernel) (pa_cons (pv 4) (pa_cons (pe_glob (by rfl) T.g_BadWord rfl) pa_nil))) (pa_cons (pe_callB (call_isX hz.zc hf) (by rfl) T.z_isinstance (by decide +kernel) (pa_cons (pv 4) (pa_cons (pe_glob (by rfl) T.g_BadNumber rfl) pa_nil))) (pa_cons (pe_callB (call_isX hz.zc hf) (by rfl) T.z_isinstance (by decide +kernel) (pa_cons (pv 4) (pa_cons (pe_glob (by rfl) T.g_BadCounts rfl) pa_nil))) pa_nil)))))) (pss_cons (ps_expr (pe_bm PySem.F.plainAttrs_list PySem.F.slot_list_append PySem.F.type_list_append mt_append (pv 5) (pa_cons (pe_callB (call_isX hz.zc hf) (by rfl) T.z_isinstance (by decide +kernel) (pa_cons (pv 4) (pa_cons (pe_glob (by rfl) T.g_NoTree rfl) pa_nil))) pa_nil))) (pss_one (ps_ret (pe_and (pe_cmpR (op_eqD hr.units) (pv 5) (pe_lcH (own := [("_law_k", 6)]) (g := (gName 6)) (tt := tYes) (te := (tOp rEq (tVar 6) (tVar 3))) (p := (a, oe)) (hot_of hz hf) List.mem_cons_self sc__law_due.nd (L2H.pi_range1H (by rfl) T.z_range (pa_cons pe_int pa_nil)) (blkOk_by (own := [("_law_k", 6)]) (N := N__law_due) (sc := defScope s__law_due) (by decide +kernel)) (fun _ _ _ _ _ => (pg_name (i := 6) sc__law_due.nd rfl (.inl rfl))) (fun _ _ _ _ _ => pts_nil) (fun _ _ _ _ _ => (pe_cmpR op_eq (pv 6) (pv 3) (nomark _)))) (nomark _)) (pe_one (pe_callB (call_isX hz.zc hf) (by rfl) T.z_isinstance (by decide +kernel) (pa_cons (pv 4) (pa_cons (pe_bltn (v := .ty "ValueError") (by rfl) T.z_ValueError (by decide +kernel) rfl) pa_nil)))))))))))) (pss_one (ps_ret pe_bl))), pure__law_due h⟩)
end
end TW
namespace TW
open PySem PySem.Spec PyProof.Rows L2 Evl
local macro_rules | `(tactic| walk_at "ev") => `(tactic| try simp only [tSeq, tNext, tRet, tRetN, tDrop, tAsg, gName, gSub, gTup, gCons, gNil, tIfS, tAndV, tOrV, tNotV, tAnd, tOr, tNot, tCB, tCons, tNil, tC, tTest, tB, tOp, tUn, tCall, tIf, tTup, tLst, tIsTh, tChain, tBM, tBM0, tAug, tAugS, tYes, tRaise, tPar, tSl, tPart, tNoPart, tRevL, rI0, rI, rU, ipI, tVar, E0,
  List.getElem?_cons_zero, List.getElem?_cons_succ, List.set_cons_zero, List.set_cons_succ, Option.some.injEq, exists_eq_left', exists_eq_left, V.int.injEq, V.bl.injEq, V.ref.injEq, List.cons.injEq, and_true, true_and, exists_and_left, List.cons_append, List.nil_append, List.append_nil, exists_eq, exists_const, and_assoc, exists_eq_right, if_true, if_false, Bool.not_true, Bool.not_false, Bool.false_eq_true, if_pos])
section
variable {P : Program} {w : World} {K : PySem.W.Frag} {mg : Str → Option Value} {base : Heap} {c : Cs} {vs : List V} {H H' : Hp} {Q : VK} {E : XK}
def sp_law (K : PySem.W.Frag) : Sp := fun vs H Q _ => ∃ (a : Addr) (ns : List Int), vs = [.ref a] ∧ SqL K H a (ns.map V.int) ∧ ns.length ≤ 63 ∧ ∀ H', Q (.bl true) H'
abbrev N_law : List Str := ["_law_script", "_law_kinds", "_law_ask", "_law_doors", "_law_things", "_law_due_here", "_law_door", "_law_thing", "_law_cell", "_law_some"]
def t_law (T : TX K mg c) : TS := tSeq (tAsg (tLst (tCons (tTup (tCons (tC (.ref T.a__law_with_houses)) (tCons (tLstRg (tRg1 (tC (.int 9)))) (tCons (tC (.ref T.a__law_bad_houses)) (tCons (tC (.int 0)) tNil))))) tNil)) (gName 1)) (tSeq (tAsg (tOp rCat (tVar 1) (tLst (tCons (tTup (tCons (tC (.ref T.a__law_with_roads)) (tCons (tLstRg (tRg1 (tC (.int 7)))) (tCons (tC (.ref T.a__law_bad_roads)) (tCons (tC (.int 1)) tNil))))) tNil))) (gName 1)) (tSeq (tAsg (tOp rCat (tVar 1) (tLst (tCons (tTup (tCons (tC (.ref T.a__law_with_others)) (tCons (tLst (tCons (tC (.int 0)) (tCons (tC (.int 1)) tNil))) (tCons (tC (.ref T.a__law_bad_house)) (tCons (tC (.int 2)) tNil))))) (tCons (tTup (tCons (tC (.ref T.a__law_with_others)) (tCons (tLst (tCons (tC (.int 2)) tNil)) (tCons (tC (.ref T.a__law_bad_words)) (tCons (tC (.int 3)) tNil))))) tNil)))) (gName 1)) (tSeq (tAsg (tOp rCat (tVar 1) (tLst (tCons (tTup (tCons (tC (.ref T.a__law_with_others)) (tCons (tLst (tCons (tC (.int 3)) (tCons (tC (.int 4)) tNil))) (tCons (tC (.ref T.a__law_bad_numbers)) (tCons (tC (.int 4)) tNil))))) (tCons (tTup (tCons (tC (.ref T.a__law_with_others)) (tCons (tLst (tCons (tC (.int 5)) (tCons (tC (.int 6)) tNil))) (tCons (tC (.ref T.a__law_bad_counts)) (tCons (tC (.int 5)) tNil))))) tNil)))) (gName 1)) (tSeq (tFor (iList K (tOp rCat (tVar 1) (tLst (tCons (tTup (tCons (tC (.ref T.a__law_with_no_tree)) (tCons (tLstRg (tRg1 (tC (.int 6)))) (tCons (tC (.ref T.a__law_no_trees)) (tCons (tC (.int 6)) tNil))))) tNil)))) (gTup K 4 (gCons (gName 2) (gCons (gName 3) (gCons (gName 4) (gCons (gName 5) gNil))))) (tSeq (tFor (iList K (tVar 3)) (gName 6) (tIfS (tNot (tB (tCB (rAll K) (tCons (tLc (iList K (tCallH 4 (ThingS T) (fun _ => E0) (tCons (tCB (Evl.rLenS K) (tCons (tVar 0) tNil)) tNil))) (gName 7) tYes (tCall (sp__law_due T) [] E0 (tCons (tVar 2) (tCons (tVar 6) (tCons (tVar 7) (tCons (tVar 5) tNil))))) [7]) tNil)))) (tRet (tC (.bl false))) tNext)) (tFor (iList K (tVar 0)) (gName 8) (tSeq (tAsg (tCallH 4 (ThingS T) (fun _ => E0) (tCons (tOp rMod (tVar 8) (tOp rPow (tC (.int 10)) (tC (.int 60)))) tNil)) (gName 9)) (tIfS (tNot (tB (tCall (sp__law_due T) [] E0 (tCons (tVar 2) (tCons (tOp (rIxL K) (tVar 3) (tOp rMod (tVar 8) (tCB (Evl.rLenS K) (tCons (tVar 3) tNil)))) (tCons (tOp (rIxL K) (tVar 9) (tOp rMod (tOp rDiv (tVar 8) (tC (.int 7))) (tCB (Evl.rLenS K) (tCons (tVar 9) tNil)))) (tCons (tVar 5) tNil))))))) (tRet (tC (.bl false))) tNext))))) (tSeq (tIfS (tOr (tTest (tOp rNe (tOp rMod (tCall (sp_trees K c) [] E0 (tCons (tC (.int 200)) tNil)) (tC (.int 199))) (tC (.int 1)))) (tOr (tTest (tOp (rNeD K) (tCall (sp_tree_by K c) [] E0 (tCons (tC (.int 1)) (tCons (tC (.int 0)) tNil))) (tLst tNil))) (tTest (tOp rEq (tCall (sp_trees_with K c) [] E0 (tCons (tOp rCat (tOp rCat (tLst (tCons (tC (.int 1)) tNil)) (tOp rRep (tLst (tCons (tC (.int 2)) tNil)) (tC (.int 198)))) (tLst (tCons (tC (.int 1)) tNil))) tNil)) (tC (.int 0)))))) (tRet (tC (.bl false))) tNext) (tRet (tAndV (tOp (rEqD K) (tCall (sp_tree_with K c) [] E0 (tCons (tLst (tCons (tC (.int 0)) tNil)) (tCons (tC (.int 0)) tNil))) (tLst tNil)) (tAndV (tOp (rEqD K) (tCall (sp_led K c) [] E0 (tCons (tC (.int 1)) (tCons (tLst tNil) (tCons (tLst tNil) tNil)))) (tLst tNil)) (tNotV (tCall (sp__law_due T) [] E0 (tCons (tC (.ref T.a__law_with_others)) (tCons (tC (.int 3)) (tCons (tC (.int 2)) (tCons (tC (.int 4)) tNil))))))))))))))
theorem len_law (h : sp_law K vs H Q E) : vs.length = 1 := by
  obtain ⟨_, _, rfl, _⟩ := h
  rfl
/-! ### the kinds -/
def kAsk (T : TX K mg c) : Nat → Addr
  | 0 => T.a__law_with_houses
  | 1 => T.a__law_with_roads
  | 6 => T.a__law_with_no_tree
  | _ => T.a__law_with_others
def kSp (K : PySem.W.Frag) (c : Cs) : Nat → Sp
  | 0 => sp__law_with_houses K c
  | 1 => sp__law_with_roads K c
  | 6 => sp__law_with_no_tree K c
  | _ => sp__law_with_others K c
def kDoors : Nat → List Nat
  | 0 => List.range 9
  | 1 => List.range 7
  | 2 => [0, 1]
  | 3 => [2]
  | 4 => [3, 4]
  | 5 => [5, 6]
  | _ => List.range 6
def kThg (T : TX K mg c) : Nat → Addr
  | 0 => T.a__law_bad_houses
  | 1 => T.a__law_bad_roads
  | 2 => T.a__law_bad_house
  | 3 => T.a__law_bad_words
  | 4 => T.a__law_bad_numbers
  | 5 => T.a__law_bad_counts
  | _ => T.a__law_no_trees
def kBads : Nat → Int → List (Option PyData)
  | 0 => badHouses
  | 1 => badRoads
  | 2 => badHouse
  | 3 => badWords
  | 4 => badHouse
  | 5 => badCounts
  | _ => noTrees
theorem kAsk_in (T : TX K mg c) {i : Nat} (hi : i < 7) : AskS T (kAsk T i) (kSp K c i) := by
  match i, hi with
  | 0, _ => exact .inl ⟨rfl, rfl⟩
  | 1, _ => exact .inr (.inl ⟨rfl, rfl⟩)
  | 2, _ => exact .inr (.inr (.inr ⟨rfl, rfl⟩))
  | 3, _ => exact .inr (.inr (.inr ⟨rfl, rfl⟩))
  | 4, _ => exact .inr (.inr (.inr ⟨rfl, rfl⟩))
  | 5, _ => exact .inr (.inr (.inr ⟨rfl, rfl⟩))
  | 6, _ => exact .inr (.inr (.inl ⟨rfl, rfl⟩))
theorem kThg_in (T : TX K mg c) {i : Nat} (hi : i < 7) : ThingS T (kThg T i) (sp_things K (kBads i)) := by
  match i, hi with
  | 0, _ => exact .inl ⟨rfl, rfl⟩
  | 1, _ => exact .inr (.inl ⟨rfl, rfl⟩)
  | 2, _ => exact .inr (.inr (.inr (.inl ⟨rfl, rfl⟩)))
  | 3, _ => exact .inr (.inr (.inr (.inr (.inl ⟨rfl, rfl⟩))))
  | 4, _ => exact .inr (.inr (.inr (.inr (.inr (.inl ⟨rfl, rfl⟩)))))
  | 5, _ => exact .inr (.inr (.inr (.inr (.inr (.inr ⟨rfl, rfl⟩)))))
  | 6, _ => exact .inr (.inr (.inl ⟨rfl, rfl⟩))
/-- a bad thing at a door of its kind is refused by its class -/
theorem kGood {i : Nat} (hi : i < 7) {door : Nat} (hd : door ∈ kDoors i) {k : Int} (hk : 0 ≤ k) {d : Option PyData} (hb : d ∈ kBads i k) {v : V} (t : Th K H v d) {Q' : VK} {E' : XK} (q : ∀ H', Ex H H' → E' (.ref (errA c i)) none H') : kSp K c i [.int door, v] H Q' E' := by
  match i, hi with
  | 0, _ => exact ⟨door, v, d, rfl, List.mem_range.mp hd, t, badHouses_bad hk d hb, q⟩
  | 1, _ => exact ⟨door, v, d, rfl, List.mem_range.mp hd, t, (badRoads_bad hk d hb).1, (badRoads_bad hk d hb).2, q⟩
  | 2, _ =>
    have h2 : door < 2 := by simp [kDoors] at hd; omega
    exact ⟨door, v, d, rfl, t, .inl ⟨_, .inl ⟨h2, badHouse_bad hk d hb, rfl⟩, q⟩⟩
  | 3, _ =>
    have h2 : door = 2 := by simp [kDoors] at hd; omega
    exact ⟨door, v, d, rfl, t, .inl ⟨_, .inr (.inl ⟨h2, (badWords_bad hk d hb).1, (badWords_bad hk d hb).2, rfl⟩), q⟩⟩
  | 4, _ =>
    have h2 : door = 3 ∨ door = 4 := by simp [kDoors] at hd; omega
    exact ⟨door, v, d, rfl, t, .inl ⟨_, .inr (.inr (.inl ⟨h2, badHouse_bad hk d hb, rfl⟩)), q⟩⟩
  | 5, _ =>
    have h2 : door = 5 ∨ door = 6 := by simp [kDoors] at hd; omega
    exact ⟨door, v, d, rfl, t, .inl ⟨_, .inr (.inr (.inr ⟨h2, (badCounts_bad hk d hb).1, (badCounts_bad hk d hb).2, rfl⟩)), q⟩⟩
  | 6, _ =>
    obtain ⟨rs, rfl, h1, h2, h3⟩ := noTrees_bad hk d hb
    exact ⟨door, v, rs, rfl, List.mem_range.mp hd, th_dp t, h1, h2, h3, q⟩
/-! ### the list of the kinds -/
def KR (T : TX K mg c) (i : Nat) (v : V) (H : Hp) : Prop := ∃ t da, v = .ref t ∧ H t = some (.tup [.ref (kAsk T i), .ref da, .ref (kThg T i), .int i]) ∧ H da = some (.lst ((kDoors i).map nV))
theorem KR.ex {T : TX K mg c} {i : Nat} {v : V} (e : Ex H H') (h : KR T i v H) : KR T i v H' := by
  obtain ⟨t, da, h1, h2, h3⟩ := h
  exact ⟨t, da, h1, e _ _ h2, e _ _ h3⟩
def EvD (te : TE) (σ : L2.St) (ds : List Nat) : Prop := ∀ H1, ∀ Q : VK, (∀ p H2, Ex H1 H2 → H2 p = some (.lst (ds.map nV)) → Q (.ref p) H2) → te σ H1 Q
def EvKs (T : TX K mg c) (ta : TA) (σ : L2.St) (is : List Nat) : Prop := ∀ H1, ∀ Q : List V → Hp → Prop, (∀ vs H2, Ex H1 H2 → All2 (fun i v => KR T i v H2) is vs → Q vs H2) → ta σ H1 Q
theorem evk_nil {T : TX K mg c} {σ : L2.St} : EvKs T tNil σ [] := fun H1 Q q => q [] H1 (Ex.refl H1) .nil
theorem evk_cons {T : TX K mg c} {σ : L2.St} {td : TE} {ts : TA} {is : List Nat} (i : Nat) (h : EvD td σ (kDoors i)) (hs : EvKs T ts σ is) :
    EvKs T (tCons (tTup (tCons (tC (.ref (kAsk T i))) (tCons td (tCons (tC (.ref (kThg T i))) (tCons (tC (.int i)) tNil))))) ts) σ (i :: is) := fun H1 Q q =>
  h H1 _ fun p H2 e2 h2 => ⟨sm3 (by simp), fun t ht => hs _ _ fun vs H3 e3 a3 => q _ H3 ((e2.trans (Ex.new ht)).trans e3) (.cons ⟨t, p, rfl, e3 _ _ upd_same, e3 _ _ ((Ex.new ht) _ _ h2)⟩ a3)⟩
theorem evk_lst {T : TX K mg c} {σ : L2.St} {ts : TA} {is : List Nat} (h : EvKs T ts σ is) (hz : is.length ≤ 100) (q : ∀ p xs H2, Ex H H2 → H2 p = some (.lst xs) → All2 (fun i v => KR T i v H2) is xs → Q (.ref p) H2) : tLst ts σ H Q :=
  h H _ fun vs H2 e2 a2 => ⟨by rw [← a2.len]; exact sm3 hz, fun p hp => q p vs _ (e2.trans (Ex.new hp)) upd_same (a2.imp fun _ _ r => r.ex (Ex.new hp))⟩
theorem evk_cat {T : TX K mg c} {σ : L2.St} {ts : TA} {is js : List Nat} {j : Nat} {p : Addr} {xs : List V} (hj : σ[j]? = some (some (.ref p))) (hp : H p = some (.lst xs)) (a : All2 (fun i v => KR T i v H) is xs) (h : EvKs T ts σ js) (hz : is.length + js.length ≤ 100)
    (q : ∀ p xs H2, Ex H H2 → H2 p = some (.lst xs) → All2 (fun i v => KR T i v H2) (is ++ js) xs → Q (.ref p) H2) : tOp rCat (tVar j) (tLst ts) σ H Q :=
  ⟨_, hj, evk_lst h (by omega) fun p2 ys H2 e2 h2 a2 => ⟨p, p2, xs, ys, rfl, rfl, e2 _ _ hp, h2, by rw [← a.len, ← a2.len]; exact sm3 hz, fun r hr => q r _ _ (e2.trans (Ex.new hr)) upd_same ((a.imp fun _ _ z => z.ex (e2.trans (Ex.new hr))).app (a2.imp fun _ _ z => z.ex (Ex.new hr)))⟩⟩
theorem evd_rg {σ : L2.St} {n : Nat} (hn : n ≤ 100) : EvD (tLstRg (tRg1 (tC (.int n)))) σ (List.range n) := fun H1 Q q =>
  ⟨_, rfl, RgOk.of_le (by omega) (by omega) (by omega) (by omega), fun p hp => q p _ (Ex.new hp) (by
    rw [upd_same]
    unfold rgV
    congr 2
    have : ((n : Int) - 0).toNat = n := by omega
    rw [this]
    apply List.map_congr_left
    intro i _
    show V.int (0 + (i : Int)) = V.int (i : Int)
    rw [Int.zero_add])⟩
theorem evd_1 {σ : L2.St} {x : Nat} : EvD (tLst (tCons (tC (.int x)) tNil)) σ [x] := fun H1 Q q => ⟨sm3 (by simp), fun p hp => q p _ (Ex.new hp) upd_same⟩
theorem evd_2 {σ : L2.St} {x y : Nat} : EvD (tLst (tCons (tC (.int x)) (tCons (tC (.int y)) tNil))) σ [x, y] := fun H1 Q q => ⟨sm3 (by simp), fun p hp => q p _ (Ex.new hp) upd_same⟩
end
end TW
namespace TW
open PySem PySem.Spec PyProof.Rows L2 Evl
local macro_rules | `(tactic| walk_at "ev") => `(tactic| try simp only [tSeq, tNext, tRet, tRetN, tDrop, tAsg, gName, gSub, gTup, gCons, gNil, tIfS, tAndV, tOrV, tNotV, tAnd, tOr, tNot, tCB, tCons, tNil, tC, tTest, tB, tOp, tUn, tCall, tIf, tTup, tLst, tIsTh, tChain, tBM, tBM0, tAug, tAugS, tYes, tRaise, tPar, tSl, tPart, tNoPart, tRevL, rI0, rI, rU, ipI, tVar, E0,
  List.getElem?_cons_zero, List.getElem?_cons_succ, List.set_cons_zero, List.set_cons_succ, Option.some.injEq, exists_eq_left', exists_eq_left, V.int.injEq, V.bl.injEq, V.ref.injEq, List.cons.injEq, and_true, true_and, exists_and_left, List.cons_append, List.nil_append, List.append_nil, exists_eq, exists_const, and_assoc, exists_eq_right, if_true, if_false, Bool.not_true, Bool.not_false, Bool.false_eq_true, if_pos])
section
variable {P : Program} {w : World} {K : PySem.W.Frag} {mg : Str → Option Value} {base : Heap} {c : Cs} {vs : List V} {H H' : Hp} {Q : VK} {E : XK}
theorem All2.get2 {α β : Type} {R : α → β → Prop} {as : List α} {bs : List β} (h : All2 R as bs) : ∀ {i : Nat} {b : β}, bs[i]? = some b → ∃ a, as[i]? = some a ∧ R a b := by
  induction h with
  | nil => intro i a e; simp at e
  | cons r _ ih =>
    intro i a e
    cases i with
    | zero => simp at e; subst e; exact ⟨_, rfl, r⟩
    | succ i =>
      obtain ⟨b, h1, h2⟩ := ih (i := i) (b := a) (by simpa using e)
      exact ⟨b, by simpa using h1, h2⟩
theorem due_ok {T : TX K mg c} {i : Nat} (hi : i < 7) {door : Nat} (hd : door ∈ kDoors i) {k : Int} (hk : 0 ≤ k) {d : Option PyData} (hb : d ∈ kBads i k) {v : V} (t : Th K H v d) (q : ∀ H', Ex H H' → Q (.bl true) H') : sp__law_due T [.ref (kAsk T i), .int door, v, .int i] H Q E :=
  ⟨_, _, _, _, i, rfl, kAsk_in T hi, hi, .inl ⟨fun Q' E' qe => kGood hi hd hk hb t qe, q⟩⟩
theorem bads_ne (i : Nat) (k : Int) : 0 < (kBads i k).length ∧ (kBads i k).length < 100 := by
  match i with
  | 0 => simp [kBads, badHouses]
  | 1 => simp [kBads, badRoads, badRoads1, badRoads2, badRoads3]
  | 2 => simp [kBads, badHouse]
  | 3 => simp [kBads, badWords, badWords1, badWords2]
  | 4 => simp [kBads, badHouse]
  | 5 => simp [kBads, badCounts, badCounts1, badCounts2]
  | n + 6 => simp [kBads, noTrees, noTrees1, noTrees2]
theorem doors_ne (i : Nat) : 0 < (kDoors i).length ∧ (kDoors i).length < 100 := by
  match i with
  | 0 => decide
  | 1 => decide
  | 2 => decide
  | 3 => decide
  | 4 => decide
  | 5 => decide
  | n + 6 => simp [kDoors]
theorem at_mod {α : Type} {xs : List α} {i : Int} (h : 0 < xs.length) : ∃ (j : Nat) (x : α), (i % (xs.length : Int)) = (j : Nat) ∧ xs[j]? = some x := by
  have h1 : 0 ≤ i % (xs.length : Int) := Int.emod_nonneg _ (by omega)
  have h2 : i % (xs.length : Int) < xs.length := Int.emod_lt_of_pos _ (by omega)
  refine ⟨(i % (xs.length : Int)).toNat, xs[(i % (xs.length : Int)).toNat]'(by omega), by omega, ?_⟩
  exact List.getElem?_eq_getElem _
def tBody (T : TX K mg c) : TS := tSeq (tFor (iList K (tVar 3)) (gName 6) (tIfS (tNot (tB (tCB (rAll K) (tCons (tLc (iList K (tCallH 4 (ThingS T) (fun _ => E0) (tCons (tCB (Evl.rLenS K) (tCons (tVar 0) tNil)) tNil))) (gName 7) tYes (tCall (sp__law_due T) [] E0 (tCons (tVar 2) (tCons (tVar 6) (tCons (tVar 7) (tCons (tVar 5) tNil))))) [7]) tNil)))) (tRet (tC (.bl false))) tNext)) (tFor (iList K (tVar 0)) (gName 8) (tSeq (tAsg (tCallH 4 (ThingS T) (fun _ => E0) (tCons (tOp rMod (tVar 8) (tOp rPow (tC (.int 10)) (tC (.int 60)))) tNil)) (gName 9)) (tIfS (tNot (tB (tCall (sp__law_due T) [] E0 (tCons (tVar 2) (tCons (tOp (rIxL K) (tVar 3) (tOp rMod (tVar 8) (tCB (Evl.rLenS K) (tCons (tVar 3) tNil)))) (tCons (tOp (rIxL K) (tVar 9) (tOp rMod (tOp rDiv (tVar 8) (tC (.int 7))) (tCB (Evl.rLenS K) (tCons (tVar 9) tNil)))) (tCons (tVar 5) tNil))))))) (tRet (tC (.bl false))) tNext)))
theorem body_ok {T : TX K mg c} {D : Ends} {a p4 da : Addr} {ns : List Int} {i : Nat} (hi : i < 7) {y6 y7 y8 y9 : Option V} (hS : SqL K H a (ns.map V.int)) (hn : ns.length ≤ 63) (hd : H da = some (.lst ((kDoors i).map nV)))
    (k : ∀ y6 y7 y8 y9 H', Ex H H' → D.nx [some (.ref a), some (.ref p4), some (.ref (kAsk T i)), some (.ref da), some (.ref (kThg T i)), some (.int i), y6, y7, y8, y9] H') :
    tBody T D [some (.ref a), some (.ref p4), some (.ref (kAsk T i)), some (.ref da), some (.ref (kThg T i)), some (.int i), y6, y7, y8, y9] H := by
  unfold tBody
  refine seqC fun R kR => ?_
  refine forL (K := K) (a := da) (xs := (kDoors i).map nV) (fun j σ H' => ∃ y6 y7 : Option V, σ = [some (.ref a), some (.ref p4), some (.ref (kAsk T i)), some (.ref da), some (.ref (kThg T i)), some (.int i), y6, y7, y8, y9] ∧ Ex H H')
    (fun Q' kk => ⟨_, rfl, kk H (Ex.refl H) (SqL.of hd) ⟨y6, y7, rfl, Ex.refl H⟩⟩) (fun j σ H' _ ⟨_, _, _, e⟩ => ex_l e (SqL.of hd)) ?_ ?_
  · rintro j x σ H' Nx hj ⟨y6', y7', rfl, e⟩ kx
    obtain ⟨door, hdoor, rfl⟩ := item_nat hj
    have hdm := List.mem_of_getElem? hdoor
    have hlen : (0 : Int) ≤ ((ns.map V.int).length : Nat) := by omega
    show tIfS _ _ _ _ [some (.ref a), some (.ref p4), some (.ref (kAsk T i)), some (.ref da), some (.ref (kThg T i)), some (.int i), some (nV door), y7', y8, y9] H'
    walk_at "ev"
    refine lc_ev ?_
    refine ⟨kThg T i, sp_things K (kBads i), rfl, kThg_in T hi, _, rfl, a, _, rfl, .inl (ex_l e hS), _, rfl, hlen, fun p xs H2 hp e2 h2 t2 => ?_⟩
    have hxl := t2.len
    have hb := bads_ne i ((ns.map V.int).length : Nat)
    refine lcL (K := K) (a := p) (xs := xs) (fun _ _ u _ => u = .bl true) (cr_flat fun _ => .bl true) (fun _ => true) (fun Q' kk => kk H2 (Ex.refl H2) (SqL.of h2)) (by omega) (fun m z D' H3 Q' hm e3 kk => ?_) (fun L ys H3 hL e3 hy hall => ?_)
    · refine kk _ H3 (Ex.refl H3) rfl (fun Q'' q'' => q'' H3 (Ex.refl H3)) (fun _ H4 e4 Q'' k2 => ?_)
      obtain ⟨d, hd2, td⟩ := t2.get2 hm
      have hdb := List.mem_of_getElem? hd2
      show tCall _ _ _ _ [some (.ref a), some (.ref p4), some (.ref (kAsk T i)), some (.ref da), some (.ref (kThg T i)), some (.int i), some (nV door), some z, y8, y9] H4 Q''
      exact ⟨_, rfl, _, rfl, _, rfl, _, rfl, due_ok (E := E0) hi hdm hlen hdb (td.ex (e3.trans e4)) fun H5 e5 => k2 _ H5 e5 fun _ _ => rfl⟩
    · have e5 := hall.eq
      rw [picks_all] at e5
      have e6 : ys = (List.replicate xs.length true).map V.bl := by
        rw [e5, List.map_replicate, List.map_const', List.length_range]
      refine ⟨L, List.replicate xs.length true, rfl, .inl (.inl (by rw [hy, e6])), _, rfl, ?_⟩
      have e7 : (List.replicate xs.length true).all id = true := by
        rw [List.all_eq_true]
        intro b hb
        rw [(List.mem_replicate.mp hb).2]
        rfl
      rw [e7]
      exact kx _ _ ⟨_, _, rfl, (e.trans e2).trans e3⟩
  · rintro σ H' ⟨y6', y7', rfl, e⟩
    refine kR _ _ ?_
    refine forL (K := K) (a := a) (xs := ns.map V.int) (fun j σ H' => ∃ y8 y9 : Option V, σ = [some (.ref a), some (.ref p4), some (.ref (kAsk T i)), some (.ref da), some (.ref (kThg T i)), some (.int i), y6', y7', y8, y9] ∧ Ex H H')
      (fun Q' kk => ⟨_, rfl, kk H' (Ex.refl H') (ex_l e hS) ⟨y8, y9, rfl, e⟩⟩) (fun j σ H' _ ⟨_, _, _, e⟩ => ex_l e hS) ?_ (fun σ H' ⟨_, _, hσ, e⟩ => by rw [hσ]; exact k _ _ _ _ _ e)
    rintro j x σ H2 Nx hj ⟨y8', y9', rfl, e2⟩ kx
    obtain ⟨n, hn2, rfl⟩ := item_int hj
    show tSeq _ _ _ [some (.ref a), some (.ref p4), some (.ref (kAsk T i)), some (.ref da), some (.ref (kThg T i)), some (.int i), y6', y7', some (.int n), y9'] H2
    refine seqC fun R kR => ?_
    have hm0 : 0 ≤ n % (10 : Int) ^ (60 : Int).toNat := Int.emod_nonneg _ (by decide)
    refine ⟨kThg T i, sp_things K (kBads i), rfl, kThg_in T hi, _, rfl, _, _, rfl, rfl, ⟨by decide, by decide, by decide⟩, n, _, rfl, rfl, (by show (0 : Int) < 10 ^ (60 : Int).toNat; decide), _, rfl, hm0, fun p xs H3 hp e3 h3 t3 => kR _ _ ?_⟩
    have hxl := t3.len
    have hb := bads_ne i (n % (10 : Int) ^ (60 : Int).toNat)
    have hdn := doors_ne i
    obtain ⟨j1, door, ej1, hj1⟩ := at_mod (xs := kDoors i) (i := n) hdn.1
    obtain ⟨j2, z, ej2, hj2⟩ := at_mod (xs := xs) (i := n / 7) (by omega)
    obtain ⟨d, hd2, td⟩ := t3.get2 hj2
    have hdb := List.mem_of_getElem? hd2
    have hdm := List.mem_of_getElem? hj1
    have hdl : ((kDoors i).map nV).length = (kDoors i).length := by simp
    have e3' := e2.trans e3
    refine ⟨_, rfl, _, rfl, _, rfl, _, rfl, da, _, rfl, .inl (SqL.of (e3' _ _ hd)), n, _, rfl, rfl, ?_, ?_⟩
    · show (0 : Int) < (((kDoors i).map nV).length : Nat)
      omega
    refine ⟨da, (kDoors i).map nV, _, nV door, rfl, rfl, SqL.of (e3' _ _ hd), ?_, ?_⟩
    · rw [hdl, ej1]
      exact atI_nat (by rw [List.getElem?_map, hj1]; rfl)
    refine ⟨_, rfl, _, rfl, n, 7, rfl, rfl, ⟨by decide, by decide⟩, _, rfl, p, xs, rfl, .inl (SqL.of h3), n / 7, _, rfl, rfl, ?_, ?_⟩
    · show (0 : Int) < ((xs.length : Nat) : Int)
      omega
    refine ⟨p, xs, _, z, rfl, rfl, SqL.of h3, ?_, ?_⟩
    · rw [ej2]
      exact atI_nat hj2
    refine ⟨V.int i, rfl, ?_⟩
    walk_at "ev"
    refine due_ok (T := T) (E := E0) hi hdm hm0 hdb td fun H4 e4 => ?_
    exact ⟨_, rfl, kx _ _ ⟨_, _, rfl, e3'.trans e4⟩⟩

end
end TW
namespace TW
open PySem PySem.Spec PyProof.Rows L2 Evl
local macro_rules | `(tactic| walk_at "ev") => `(tactic| try simp only [tSeq, tNext, tRet, tRetN, tDrop, tAsg, gName, gSub, gTup, gCons, gNil, tIfS, tAndV, tOrV, tNotV, tAnd, tOr, tNot, tCB, tCons, tNil, tC, tTest, tB, tOp, tUn, tCall, tIf, tTup, tLst, tIsTh, tChain, tBM, tBM0, tAug, tAugS, tYes, tRaise, tPar, tSl, tPart, tNoPart, tRevL, rI0, rI, rU, ipI, tVar, E0,
  List.getElem?_cons_zero, List.getElem?_cons_succ, List.set_cons_zero, List.set_cons_succ, Option.some.injEq, exists_eq_left', exists_eq_left, V.int.injEq, V.bl.injEq, V.ref.injEq, List.cons.injEq, and_true, true_and, exists_and_left, List.cons_append, List.nil_append, List.append_nil, exists_eq, exists_const, and_assoc, exists_eq_right, if_true, if_false, Bool.not_true, Bool.not_false, Bool.false_eq_true, if_pos])
section
variable {P : Program} {w : World} {K : PySem.W.Frag} {mg : Str → Option Value} {base : Heap} {c : Cs} {vs : List V} {H H' : Hp} {Q : VK} {E : XK}
theorem encI_inj {a b : List Int} (h : encI a = encI b) : a = b := by
  unfold encI at h
  have h2 : a.map PyData.int = b.map PyData.int := by simpa using h
  exact (List.map_inj_right (fun x y z => by simpa using z)).mp h2
theorem pure_law {T : TX K mg c} (h : sp_law K vs H Q E) : t_law T { nx := fun _ H' => Q .non H', rt := Q } (start N_law vs) H := by
  obtain ⟨a, ns, rfl, hS, hn, q⟩ := h
  show t_law T _ [some (.ref a), none, none, none, none, none, none, none, none, none] H
  unfold t_law
  refine seqC fun R kR => ?_
  refine evk_lst (T := T) (is := [0]) (evk_cons 0 (evd_rg (by decide)) evk_nil) (by decide) fun p1 xs1 H1 e1 h1 a1 => kR _ _ ?_
  refine seqC fun R kR => ?_
  refine evk_cat (T := T) (is := [0]) (js := [1]) rfl h1 a1 (evk_cons 1 (evd_rg (by decide)) evk_nil) (by decide) fun p2 xs2 H2 e2 h2 a2 => kR _ _ ?_
  refine seqC fun R kR => ?_
  refine evk_cat (T := T) (is := [0, 1]) (js := [2, 3]) rfl h2 a2 (evk_cons 2 evd_2 (evk_cons 3 evd_1 evk_nil)) (by decide) fun p3 xs3 H3 e3 h3 a3 => kR _ _ ?_
  refine seqC fun R kR => ?_
  refine evk_cat (T := T) (is := [0, 1, 2, 3]) (js := [4, 5]) rfl h3 a3 (evk_cons 4 evd_2 (evk_cons 5 evd_2 evk_nil)) (by decide) fun p4 xs4 H4 e4 h4 a4 => kR _ _ ?_
  refine seqC fun R kR => ?_
  refine for_ev ?_
  refine evk_cat (T := T) (is := [0, 1, 2, 3, 4, 5]) (js := [6]) rfl h4 a4 (evk_cons 6 (evd_rg (by decide)) evk_nil) (by decide) fun p5 xs5 H5 e5 h5 a5 => ?_
  have ex5 := (((e1.trans e2).trans e3).trans e4).trans e5
  refine forL (K := K) (a := p5) (xs := xs5) (fun i σ H' => ∃ y2 y3 y4 y5 y6 y7 y8 y9 : Option V, σ = [some (.ref a), some (.ref p4), y2, y3, y4, y5, y6, y7, y8, y9] ∧ Ex H5 H')
    (fun Q' kk => kk _ (Ex.refl _) (SqL.of h5) ⟨none, none, none, none, none, none, none, none, rfl, Ex.refl _⟩) (fun i σ H' _ ⟨_, _, _, _, _, _, _, _, _, e⟩ => ex_l e (SqL.of h5)) ?_ ?_
  · rintro i x σ H' Nx hi ⟨y2, y3, y4, y5, y6, y7, y8, y9, rfl, e⟩ kx
    obtain ⟨i', hi', t, da, rfl, ht, hda⟩ := a5.get2 hi
    have hi7 : i' < 7 := by
      have := List.mem_of_getElem? hi'
      simp at this
      omega
    refine ⟨t, _, rfl, SqT.of (e _ _ ht), rfl, _, _, rfl, _, _, rfl, _, _, rfl, _, _, rfl, rfl, ?_⟩
    exact body_ok (T := T) hi7 (ex_l (ex5.trans e) hS) hn (e _ _ hda) fun z6 z7 z8 z9 H2 e2 => kx _ _ ⟨_, _, _, _, _, _, _, _, rfl, e.trans e2⟩
  · rintro σ H' ⟨y2, y3, y4, y5, y6, y7, y8, y9, rfl, e⟩
    refine kR _ _ ?_
    refine seqC fun R kR => ?_
    walk_at "ev"
    refine ⟨.int (200 : Nat), some (.int (200 : Nat)), rfl, th_i, fun z => bad_ok z (by decide), fun n en n1 n2 H6 e6 => ?_⟩
    have := nat_eq en
    subst this
    refine ⟨_, rfl, by decide, rfl, _, rfl, ?_⟩
    rw [trees200]
    refine iteF ?_
    refine ⟨.int (1 : Nat), .int (0 : Nat), some (.int (1 : Nat)), some (.int (0 : Nat)), rfl, th_i, th_i, fun z => bad_ok z (by decide), fun n en n1 n2 hb => ?_, fun n k en n1 n2 ek hk p xs H7 hp e7 h7 ho => ?_⟩
    · have := nat_eq en
      subst this
      exact bad_ok hb (by decide)
    have := nat_eq en
    subst this
    have hx : xs = [] := by
      have : treeOfW 1 (digits 1 (1 - 2) k) = [] := rfl
      rw [this] at ho
      cases ho
      rfl
    subst hx
    refine ⟨Nat.zero_le _, fun p8 hp8 => ⟨.list [], .list [], .lst (SqL.of ((Ex.new hp8) _ _ h7)) .nil, .lst (SqL.of upd_same) .nil, by decide, by decide, _, rfl, ?_⟩⟩
    refine iteF ?_
    refine ⟨one_le, fun q1 hq1 => ⟨one_le, fun q2 hq2 => ⟨q2, 198, _, rfl, rfl, upd_same, by decide, by decide, ?_, fun q3 hq3 => ⟨q1, q3, _, _, rfl, rfl, ((Ex.new hq2).trans (Ex.new hq3)) _ _ upd_same, upd_same, ?_, fun q4 hq4 => ⟨one_le, fun q5 hq5 => ⟨q4, q5, _, _, rfl, rfl, (Ex.new hq5) _ _ upd_same, upd_same, ?_, fun q6 hq6 => ?_⟩⟩⟩⟩⟩⟩
    · exact Nat.le_of_lt (sz_lt (by decide))
    · exact Nat.le_of_lt (sz_lt (by decide))
    · exact Nat.le_of_lt (sz_lt (by decide))
    refine ⟨.ref q6, some (encI cs200), rfl, .dp (.lst (xs := cs200.map V.int) (SqL.of upd_same) (ints_dpa _)), fun ds e => ?_, fun z => bad_ok z (by decide +kernel), fun cs e c1 c2 c3 H8 e8 => ?_⟩
    · cases e
      decide +kernel
    have hcs : cs = cs200 := encI_inj (Option.some.inj e).symm
    subst hcs
    refine ⟨rfl, _, rfl, itF ?_ (kR _ _ ?_)⟩
    · rw [decide_eq_false_iff_not]
      intro z
      have z2 : ((treesWith cs200 : Nat) : Int) = 0 := by injection z
      exact cs200_with (by omega)
    walk_at "ev"
    refine ⟨one_le, fun r1 hr1 => ⟨.ref r1, .int (0 : Nat), some (encI [0]), some (.int (0 : Nat)), rfl, .dp (.lst (xs := [(0 : Int)].map V.int) (SqL.of upd_same) (ints_dpa _)), th_i, fun ds e => ?_, fun z => bad_ok z (by decide), fun cs e c1 c2 c3 hb => ?_, fun cs k e c1 c2 c3 ek hk p xs H9 hp e9 h9 ho => ?_⟩⟩
    · cases e
      decide
    · have hcs : cs = [0] := encI_inj (Option.some.inj e).symm
      subst hcs
      rw [cs0_with] at hb
      exact bad_ok hb (by decide)
    have hcs : cs = [0] := encI_inj (Option.some.inj e).symm
    subst hcs
    have hx : xs = [] := by
      cases ho
      rfl
    subst hx
    refine ⟨Nat.zero_le _, fun r2 hr2 => ⟨.list [], .list [], .lst (SqL.of ((Ex.new hr2) _ _ h9)) .nil, .lst (SqL.of upd_same) .nil, by decide, by decide, _, rfl, iteT ?_⟩⟩
    refine ⟨Nat.zero_le _, fun r3 hr3 => ⟨Nat.zero_le _, fun r4 hr4 => ?_⟩⟩
    refine ⟨.int (1 : Nat), .ref r3, .ref r4, some (.int (1 : Nat)), some (encR []), some (encR []), rfl, th_i, .dp (.lst (SqL.of ((Ex.new hr4) _ _ upd_same)) .nil), .dp (.lst (SqL.of upd_same) .nil), sz_l (by decide), sz_l (by decide), chk5_ok (by decide) (roads_nil 1) (roads_nil 1) (by decide) (by decide) ⟨rfl, fun p H10 hp e10 h10 => ?_⟩⟩
    refine ⟨Nat.zero_le _, fun r5 hr5 => ⟨.list [], .list [], .lst (SqL.of ((Ex.new hr5) _ _ h10)) .nil, .lst (SqL.of upd_same) .nil, by decide, by decide, _, rfl, iteT ?_⟩⟩
    refine ⟨T.a__law_with_others, sp__law_with_others K c, .int (3 : Nat), .int 2, 4, rfl, .inr (.inr (.inr ⟨rfl, rfl⟩)), by decide, .inr ⟨fun Q' E' qe => ⟨3, .int 2, some (.int 2), rfl, th_i, .inr ⟨rfl, rfl, qe⟩⟩, fun H11 e11 => ⟨_, rfl, q H11⟩⟩⟩
theorem sc_law : FnScope N_law ["_law_script"] (defScope s_law) := ⟨rfl, rfl, rfl, by decide +kernel, rfl, by decide +kernel, by decide +kernel⟩
theorem ok_law (T : TX K mg c) : FnOk P w K mg base CX0 9 T.a_law T.fd_law ["_law_script"] (sp_law K) :=
  T.f_law.ok sc_law (fun vs H Q E h => len_law h) (fun cdv A outer s H vs Q E hr h => ⟨t_law T, (pss_cons (ps_set (i := 1) sc_law.nd rfl (.inl rfl) (pe_lst (pa_cons (pe_tup (pa_cons (pe_glob (by rfl) T.g__law_with_houses rfl) (pa_cons (pe_listRg (by rfl) (by rfl) T.z_list (prg_1 (by rfl) T.z_range pe_int)) (pa_cons (pe_glob (by rfl) T.g__law_bad_houses rfl) (pa_cons pe_int pa_nil))))) pa_nil))) (pss_cons (ps_set (i := 1) sc_law.nd rfl (.inl rfl) (pe_op op_cat (pv 1) (pe_lst (pa_cons (pe_tup (pa_cons (pe_glob (by rfl) T.g__law_with_roads rfl) (pa_cons (pe_listRg (by rfl) (by rfl) T.z_list (prg_1 (by rfl) T.z_range pe_int)) (pa_cons (pe_glob (by rfl) T.g__law_bad_roads rfl) (pa_cons pe_int pa_nil))))) pa_nil)))) (pss_cons (ps_set (i := 1) sc_law.nd rfl (.inl rfl) (pe_op op_cat (pv 1) (pe_lst (pa_cons (pe_tup (pa_cons (pe_glob (by rfl) T.g__law_with_others rfl) (pa_cons (pe_lst (pa_cons pe_int (pa_cons pe_int pa_nil))) (pa_cons (pe_glob (by rfl) T.g__law_bad_house rfl) (pa_cons pe_int pa_nil))))) (pa_cons (pe_tup (pa_cons (pe_glob (by rfl) T.g__law_with_others rfl) (pa_cons (pe_lst (pa_cons pe_int pa_nil)) (pa_cons (pe_glob (by rfl) T.g__law_bad_words rfl) (pa_cons pe_int pa_nil))))) pa_nil))))) (pss_cons (ps_set (i := 1) sc_law.nd rfl (.inl rfl) (pe_op op_cat (pv 1) (pe_lst (pa_cons (pe_tup (pa_cons (pe_glob (by rfl) T.g__law_with_others rfl) (pa_cons (pe_lst (pa_cons pe_int (pa_cons pe_int pa_nil))) (pa_cons (pe_glob (by rfl) T.g__law_bad_numbers rfl) (pa_cons pe_int pa_nil))))) (pa_cons (pe_tup (pa_cons (pe_glob (by rfl) T.g__law_with_others rfl) (pa_cons (pe_lst (pa_cons pe_int (pa_cons pe_int pa_nil))) (pa_cons (pe_glob (by rfl) T.g__law_bad_counts rfl) (pa_cons pe_int pa_nil))))) pa_nil))))) (pss_cons (ps_for PassesOwn.never (by rfl) (pi_list (pe_op op_cat (pv 1) (pe_lst (pa_cons (pe_tup (pa_cons (pe_glob (by rfl) T.g__law_with_no_tree rfl) (pa_cons (pe_listRg (by rfl) (by rfl) T.z_list (prg_1 (by rfl) T.z_range pe_int)) (pa_cons (pe_glob (by rfl) T.g__law_no_trees rfl) (pa_cons pe_int pa_nil))))) pa_nil)))) (pg_tup (by rfl) (pgs_cons (pg_name (i := 2) sc_law.nd rfl (.inr rfl)) (pgs_cons (pg_name (i := 3) sc_law.nd rfl (.inl rfl)) (pgs_cons (pg_name (i := 4) sc_law.nd rfl (.inl rfl)) (pgs_cons (pg_name (i := 5) sc_law.nd rfl (.inr rfl)) pgs_nil))))) (pss_cons (ps_for PassesOwn.never (by rfl) (pi_list (pv 3)) (pg_name (i := 6) sc_law.nd rfl (.inr rfl)) (pss_one (ps_if (pt_not (pt_val (pe_callB (cr_all rfl) (by rfl) T.z_all (by decide +kernel) (pa_cons (pe_lc (own := [("_law_thing", 7)]) (g := (gName 7)) (tt := tYes) (te := (tCall (sp__law_due T) [] E0 (tCons (tVar 2) (tCons (tVar 6) (tCons (tVar 7) (tCons (tVar 5) tNil)))))) (by rfl) sc_law.nd (pi_list (pe_callH (held_things T) (hr.mono (by decide)) rfl (Or.inl rfl) passH0 (pa_cons (pe_callB call_len_seq (by rfl) T.z_len (by decide +kernel) (pa_cons (pv 0) pa_nil)) pa_nil))) (blkOk_by (own := [("_law_thing", 7)]) (N := N_law) (sc := defScope s_law) (by decide +kernel)) (fun _ _ _ _ _ => (pg_name (i := 7) sc_law.nd rfl (.inl rfl))) (fun _ _ _ _ _ => pts_nil) (fun _ _ _ _ _ => (pe_call (ok__law_due T) (hr.mono (by decide)) (by rfl) T.g__law_due T.k__law_due T.b__law_due .nil pass0 (pa_cons (pv 2) (pa_cons (pv 6) (pa_cons (pv 7) (pa_cons (pv 5) pa_nil))))))) pa_nil)))) (pss_one (ps_ret pe_bl)) pss_nil))) (pss_one (ps_for PassesOwn.never (by rfl) (pi_list (pv 0)) (pg_name (i := 8) sc_law.nd rfl (.inl rfl)) (pss_cons (ps_set (i := 9) sc_law.nd rfl (.inl rfl) (pe_callH (held_things T) (hr.mono (by decide)) rfl (Or.inl rfl) passH0 (pa_cons (pe_op op_mod (pv 8) (pe_op op_pow pe_int pe_int)) pa_nil))) (pss_one (ps_if (pt_not (pt_val (pe_call (ok__law_due T) (hr.mono (by decide)) (by rfl) T.g__law_due T.k__law_due T.b__law_due .nil pass0 (pa_cons (pv 2) (pa_cons (pe_ix ix_list (pv 3) (pe_op op_mod (pv 8) (pe_callB call_len_seq (by rfl) T.z_len (by decide +kernel) (pa_cons (pv 3) pa_nil))) (fun _ _ => rfl)) (pa_cons (pe_ix ix_list (pv 9) (pe_op op_mod (pe_op op_fdiv (pv 8) pe_int) (pe_callB call_len_seq (by rfl) T.z_len (by decide +kernel) (pa_cons (pv 9) pa_nil))) (fun _ _ => rfl)) (pa_cons (pv 5) pa_nil))))))) (pss_one (ps_ret pe_bl)) pss_nil))))))) (pss_cons (ps_if (PW.pt (pw_or (pt_cmpR op_ne (pe_op op_mod (pe_call (ok_trees T) (hr.mono (by decide)) (by rfl) T.g_trees T.k_trees T.b_trees .nil passN (pa_cons pe_int pa_nil)) pe_int) pe_int (nomark _)) (pw_or (pt_cmpR (op_neD hr.units) (pe_call (ok_tree_by T) (hr.mono (by decide)) (by rfl) T.g_tree_by T.k_tree_by T.b_tree_by .nil passN (pa_cons pe_int (pa_cons pe_int pa_nil))) (pe_lst pa_nil) (nomark _)) (pw_or1 (pt_cmpR op_eq (pe_call (ok_trees_with T) (hr.mono (by decide)) (by rfl) T.g_trees_with T.k_trees_with T.b_trees_with .nil passN (pa_cons (pe_op op_cat (pe_op op_cat (pe_lst (pa_cons pe_int pa_nil)) (pe_op op_rep (pe_lst (pa_cons pe_int pa_nil)) pe_int)) (pe_lst (pa_cons pe_int pa_nil))) pa_nil)) pe_int (nomark _)))))) (pss_one (ps_ret pe_bl)) pss_nil) (pss_one (ps_ret (pe_and (pe_cmpR (op_eqD hr.units) (pe_call (ok_tree_with T) (hr.mono (by decide)) (by rfl) T.g_tree_with T.k_tree_with T.b_tree_with .nil passN (pa_cons (pe_lst (pa_cons pe_int pa_nil)) (pa_cons pe_int pa_nil))) (pe_lst pa_nil) (nomark _)) (pe_and (pe_cmpR (op_eqD hr.units) (pe_call (ok_led T) (hr.mono (by decide)) (by rfl) T.g_led T.k_led T.b_led .nil passN (pa_cons pe_int (pa_cons (pe_lst pa_nil) (pa_cons (pe_lst pa_nil) pa_nil)))) (pe_lst pa_nil) (nomark _)) (pe_one (pe_not (pe_call (ok__law_due T) (hr.mono (by decide)) (by rfl) T.g__law_due T.k__law_due T.b__law_due .nil pass0 (pa_cons (pe_glob (by rfl) T.g__law_with_others rfl) (pa_cons pe_int (pa_cons pe_int (pa_cons pe_int pa_nil))))))))))))))))), pure_law h⟩)
end
end TW
namespace TW
open PySem PySem.Spec PyProof.Rows L2 Evl
/-! ### what the top has written -/
def DefOk (K : PySem.W.Frag) (mg : Str → Option Value) (x : Str) (st : Stmt) (ps : List Str) : Prop := ∃ (f : Addr) (fd : FuncData), Fun K x x st f fd ∧ Binds K fd ps [] ∧ mg x = some (.ref f) ∧ PySem.W.keepIn K (.ref f) = true
def LawOk (K : PySem.W.Frag) (mg : Str → Option Value) : Prop := ∃ (f : Addr) (fd : FuncData), Fun K "law" "law" s_law f fd ∧ Binds K fd ["_law_script"] [] ∧ mg "law" = some (.ref f) ∧ PySem.W.keepIn K (.ref f) = true ∧ ∀ (s : Shared) (u : Value), BindsTo s fd ⟨[u], []⟩ [("_law_script", u)]
theorem mk_is_number {K : PySem.W.Frag} {h : Heap} {mg : Str → Option Value} {f : Addr} {od an : Option Addr} {sl : Array (Option Value)} {oc kV dc pm cd ct : Value} (X : K.In h) (G : h.Ns mainGlobals mg) (a : PySem.W.nsIn K mainGlobals "is_number" = some (some (.ref f)))
    (l : K.lookup f = some ⟨oc, od, .func (PySem.W.fnOf "is_number" "is_number" (defArgs s_is_number) (defBody s_is_number) (defScope s_is_number) .none kV dc pm an cd ct), sl⟩) (c : PySem.W.codeIn K cd "is_number" = true) (k : PySem.W.keepIn K (.ref f) = true) : DefOk K mg "is_number" s_is_number ["thing", "least", "most"] :=
  ⟨f, _, fun_mk (st := s_is_number) l c k, (fun_mk (st := s_is_number) l c k).binds (ps := ["thing", "least", "most"]) (fun _ _ _ _ _ _ us hl => match us, hl with | [_, _, _], _ => rfl), PySem.W.mg_of X G a, k⟩
theorem mk_check_houses {K : PySem.W.Frag} {h : Heap} {mg : Str → Option Value} {f : Addr} {od an : Option Addr} {sl : Array (Option Value)} {oc kV dc pm cd ct : Value} (X : K.In h) (G : h.Ns mainGlobals mg) (a : PySem.W.nsIn K mainGlobals "check_houses" = some (some (.ref f)))
    (l : K.lookup f = some ⟨oc, od, .func (PySem.W.fnOf "check_houses" "check_houses" (defArgs s_check_houses) (defBody s_check_houses) (defScope s_check_houses) .none kV dc pm an cd ct), sl⟩) (c : PySem.W.codeIn K cd "check_houses" = true) (k : PySem.W.keepIn K (.ref f) = true) : DefOk K mg "check_houses" s_check_houses ["houses"] :=
  ⟨f, _, fun_mk (st := s_check_houses) l c k, (fun_mk (st := s_check_houses) l c k).binds (ps := ["houses"]) (fun _ _ _ _ _ _ us hl => match us, hl with | [_], _ => rfl), PySem.W.mg_of X G a, k⟩
theorem mk_is_road {K : PySem.W.Frag} {h : Heap} {mg : Str → Option Value} {f : Addr} {od an : Option Addr} {sl : Array (Option Value)} {oc kV dc pm cd ct : Value} (X : K.In h) (G : h.Ns mainGlobals mg) (a : PySem.W.nsIn K mainGlobals "is_road" = some (some (.ref f)))
    (l : K.lookup f = some ⟨oc, od, .func (PySem.W.fnOf "is_road" "is_road" (defArgs s_is_road) (defBody s_is_road) (defScope s_is_road) .none kV dc pm an cd ct), sl⟩) (c : PySem.W.codeIn K cd "is_road" = true) (k : PySem.W.keepIn K (.ref f) = true) : DefOk K mg "is_road" s_is_road ["thing", "houses"] :=
  ⟨f, _, fun_mk (st := s_is_road) l c k, (fun_mk (st := s_is_road) l c k).binds (ps := ["thing", "houses"]) (fun _ _ _ _ _ _ us hl => match us, hl with | [_, _], _ => rfl), PySem.W.mg_of X G a, k⟩
theorem mk_check_roads {K : PySem.W.Frag} {h : Heap} {mg : Str → Option Value} {f : Addr} {od an : Option Addr} {sl : Array (Option Value)} {oc kV dc pm cd ct : Value} (X : K.In h) (G : h.Ns mainGlobals mg) (a : PySem.W.nsIn K mainGlobals "check_roads" = some (some (.ref f)))
    (l : K.lookup f = some ⟨oc, od, .func (PySem.W.fnOf "check_roads" "check_roads" (defArgs s_check_roads) (defBody s_check_roads) (defScope s_check_roads) .none kV dc pm an cd ct), sl⟩) (c : PySem.W.codeIn K cd "check_roads" = true) (k : PySem.W.keepIn K (.ref f) = true) : DefOk K mg "check_roads" s_check_roads ["houses", "roads"] :=
  ⟨f, _, fun_mk (st := s_check_roads) l c k, (fun_mk (st := s_check_roads) l c k).binds (ps := ["houses", "roads"]) (fun _ _ _ _ _ _ us hl => match us, hl with | [_, _], _ => rfl), PySem.W.mg_of X G a, k⟩
theorem mk_neighbours_of {K : PySem.W.Frag} {h : Heap} {mg : Str → Option Value} {f : Addr} {od an : Option Addr} {sl : Array (Option Value)} {oc kV dc pm cd ct : Value} (X : K.In h) (G : h.Ns mainGlobals mg) (a : PySem.W.nsIn K mainGlobals "neighbours_of" = some (some (.ref f)))
    (l : K.lookup f = some ⟨oc, od, .func (PySem.W.fnOf "neighbours_of" "neighbours_of" (defArgs s_neighbours_of) (defBody s_neighbours_of) (defScope s_neighbours_of) .none kV dc pm an cd ct), sl⟩) (c : PySem.W.codeIn K cd "neighbours_of" = true) (k : PySem.W.keepIn K (.ref f) = true) : DefOk K mg "neighbours_of" s_neighbours_of ["houses", "roads"] :=
  ⟨f, _, fun_mk (st := s_neighbours_of) l c k, (fun_mk (st := s_neighbours_of) l c k).binds (ps := ["houses", "roads"]) (fun _ _ _ _ _ _ us hl => match us, hl with | [_, _], _ => rfl), PySem.W.mg_of X G a, k⟩
theorem mk_came_from {K : PySem.W.Frag} {h : Heap} {mg : Str → Option Value} {f : Addr} {od an : Option Addr} {sl : Array (Option Value)} {oc kV dc pm cd ct : Value} (X : K.In h) (G : h.Ns mainGlobals mg) (a : PySem.W.nsIn K mainGlobals "came_from" = some (some (.ref f)))
    (l : K.lookup f = some ⟨oc, od, .func (PySem.W.fnOf "came_from" "came_from" (defArgs s_came_from) (defBody s_came_from) (defScope s_came_from) .none kV dc pm an cd ct), sl⟩) (c : PySem.W.codeIn K cd "came_from" = true) (k : PySem.W.keepIn K (.ref f) = true) : DefOk K mg "came_from" s_came_from ["houses", "roads", "begin"] :=
  ⟨f, _, fun_mk (st := s_came_from) l c k, (fun_mk (st := s_came_from) l c k).binds (ps := ["houses", "roads", "begin"]) (fun _ _ _ _ _ _ us hl => match us, hl with | [_, _, _], _ => rfl), PySem.W.mg_of X G a, k⟩
theorem mk_way_by {K : PySem.W.Frag} {h : Heap} {mg : Str → Option Value} {f : Addr} {od an : Option Addr} {sl : Array (Option Value)} {oc kV dc pm cd ct : Value} (X : K.In h) (G : h.Ns mainGlobals mg) (a : PySem.W.nsIn K mainGlobals "way_by" = some (some (.ref f)))
    (l : K.lookup f = some ⟨oc, od, .func (PySem.W.fnOf "way_by" "way_by" (defArgs s_way_by) (defBody s_way_by) (defScope s_way_by) .none kV dc pm an cd ct), sl⟩) (c : PySem.W.codeIn K cd "way_by" = true) (k : PySem.W.keepIn K (.ref f) = true) : DefOk K mg "way_by" s_way_by ["ahead", "house"] :=
  ⟨f, _, fun_mk (st := s_way_by) l c k, (fun_mk (st := s_way_by) l c k).binds (ps := ["ahead", "house"]) (fun _ _ _ _ _ _ us hl => match us, hl with | [_, _], _ => rfl), PySem.W.mg_of X G a, k⟩
theorem mk_is_tree {K : PySem.W.Frag} {h : Heap} {mg : Str → Option Value} {f : Addr} {od an : Option Addr} {sl : Array (Option Value)} {oc kV dc pm cd ct : Value} (X : K.In h) (G : h.Ns mainGlobals mg) (a : PySem.W.nsIn K mainGlobals "is_tree" = some (some (.ref f)))
    (l : K.lookup f = some ⟨oc, od, .func (PySem.W.fnOf "is_tree" "is_tree" (defArgs s_is_tree) (defBody s_is_tree) (defScope s_is_tree) .none kV dc pm an cd ct), sl⟩) (c : PySem.W.codeIn K cd "is_tree" = true) (k : PySem.W.keepIn K (.ref f) = true) : DefOk K mg "is_tree" s_is_tree ["houses", "roads"] :=
  ⟨f, _, fun_mk (st := s_is_tree) l c k, (fun_mk (st := s_is_tree) l c k).binds (ps := ["houses", "roads"]) (fun _ _ _ _ _ _ us hl => match us, hl with | [_, _], _ => rfl), PySem.W.mg_of X G a, k⟩
theorem mk_road_of {K : PySem.W.Frag} {h : Heap} {mg : Str → Option Value} {f : Addr} {od an : Option Addr} {sl : Array (Option Value)} {oc kV dc pm cd ct : Value} (X : K.In h) (G : h.Ns mainGlobals mg) (a : PySem.W.nsIn K mainGlobals "road_of" = some (some (.ref f)))
    (l : K.lookup f = some ⟨oc, od, .func (PySem.W.fnOf "road_of" "road_of" (defArgs s_road_of) (defBody s_road_of) (defScope s_road_of) .none kV dc pm an cd ct), sl⟩) (c : PySem.W.codeIn K cd "road_of" = true) (k : PySem.W.keepIn K (.ref f) = true) : DefOk K mg "road_of" s_road_of ["one", "other"] :=
  ⟨f, _, fun_mk (st := s_road_of) l c k, (fun_mk (st := s_road_of) l c k).binds (ps := ["one", "other"]) (fun _ _ _ _ _ _ us hl => match us, hl with | [_, _], _ => rfl), PySem.W.mg_of X G a, k⟩
theorem mk_letters_of {K : PySem.W.Frag} {h : Heap} {mg : Str → Option Value} {f : Addr} {od an : Option Addr} {sl : Array (Option Value)} {oc kV dc pm cd ct : Value} (X : K.In h) (G : h.Ns mainGlobals mg) (a : PySem.W.nsIn K mainGlobals "letters_of" = some (some (.ref f)))
    (l : K.lookup f = some ⟨oc, od, .func (PySem.W.fnOf "letters_of" "letters_of" (defArgs s_letters_of) (defBody s_letters_of) (defScope s_letters_of) .none kV dc pm an cd ct), sl⟩) (c : PySem.W.codeIn K cd "letters_of" = true) (k : PySem.W.keepIn K (.ref f) = true) : DefOk K mg "letters_of" s_letters_of ["houses", "roads"] :=
  ⟨f, _, fun_mk (st := s_letters_of) l c k, (fun_mk (st := s_letters_of) l c k).binds (ps := ["houses", "roads"]) (fun _ _ _ _ _ _ us hl => match us, hl with | [_, _], _ => rfl), PySem.W.mg_of X G a, k⟩
theorem mk_roads_of {K : PySem.W.Frag} {h : Heap} {mg : Str → Option Value} {f : Addr} {od an : Option Addr} {sl : Array (Option Value)} {oc kV dc pm cd ct : Value} (X : K.In h) (G : h.Ns mainGlobals mg) (a : PySem.W.nsIn K mainGlobals "roads_of" = some (some (.ref f)))
    (l : K.lookup f = some ⟨oc, od, .func (PySem.W.fnOf "roads_of" "roads_of" (defArgs s_roads_of) (defBody s_roads_of) (defScope s_roads_of) .none kV dc pm an cd ct), sl⟩) (c : PySem.W.codeIn K cd "roads_of" = true) (k : PySem.W.keepIn K (.ref f) = true) : DefOk K mg "roads_of" s_roads_of ["houses", "word"] :=
  ⟨f, _, fun_mk (st := s_roads_of) l c k, (fun_mk (st := s_roads_of) l c k).binds (ps := ["houses", "word"]) (fun _ _ _ _ _ _ us hl => match us, hl with | [_, _], _ => rfl), PySem.W.mg_of X G a, k⟩
theorem mk_check_tree {K : PySem.W.Frag} {h : Heap} {mg : Str → Option Value} {f : Addr} {od an : Option Addr} {sl : Array (Option Value)} {oc kV dc pm cd ct : Value} (X : K.In h) (G : h.Ns mainGlobals mg) (a : PySem.W.nsIn K mainGlobals "check_tree" = some (some (.ref f)))
    (l : K.lookup f = some ⟨oc, od, .func (PySem.W.fnOf "check_tree" "check_tree" (defArgs s_check_tree) (defBody s_check_tree) (defScope s_check_tree) .none kV dc pm an cd ct), sl⟩) (c : PySem.W.codeIn K cd "check_tree" = true) (k : PySem.W.keepIn K (.ref f) = true) : DefOk K mg "check_tree" s_check_tree ["houses", "roads"] :=
  ⟨f, _, fun_mk (st := s_check_tree) l c k, (fun_mk (st := s_check_tree) l c k).binds (ps := ["houses", "roads"]) (fun _ _ _ _ _ _ us hl => match us, hl with | [_, _], _ => rfl), PySem.W.mg_of X G a, k⟩
theorem mk_word_of {K : PySem.W.Frag} {h : Heap} {mg : Str → Option Value} {f : Addr} {od an : Option Addr} {sl : Array (Option Value)} {oc kV dc pm cd ct : Value} (X : K.In h) (G : h.Ns mainGlobals mg) (a : PySem.W.nsIn K mainGlobals "word_of" = some (some (.ref f)))
    (l : K.lookup f = some ⟨oc, od, .func (PySem.W.fnOf "word_of" "word_of" (defArgs s_word_of) (defBody s_word_of) (defScope s_word_of) .none kV dc pm an cd ct), sl⟩) (c : PySem.W.codeIn K cd "word_of" = true) (k : PySem.W.keepIn K (.ref f) = true) : DefOk K mg "word_of" s_word_of ["houses", "roads"] :=
  ⟨f, _, fun_mk (st := s_word_of) l c k, (fun_mk (st := s_word_of) l c k).binds (ps := ["houses", "roads"]) (fun _ _ _ _ _ _ us hl => match us, hl with | [_, _], _ => rfl), PySem.W.mg_of X G a, k⟩
theorem mk_tree_of {K : PySem.W.Frag} {h : Heap} {mg : Str → Option Value} {f : Addr} {od an : Option Addr} {sl : Array (Option Value)} {oc kV dc pm cd ct : Value} (X : K.In h) (G : h.Ns mainGlobals mg) (a : PySem.W.nsIn K mainGlobals "tree_of" = some (some (.ref f)))
    (l : K.lookup f = some ⟨oc, od, .func (PySem.W.fnOf "tree_of" "tree_of" (defArgs s_tree_of) (defBody s_tree_of) (defScope s_tree_of) .none kV dc pm an cd ct), sl⟩) (c : PySem.W.codeIn K cd "tree_of" = true) (k : PySem.W.keepIn K (.ref f) = true) : DefOk K mg "tree_of" s_tree_of ["houses", "word"] :=
  ⟨f, _, fun_mk (st := s_tree_of) l c k, (fun_mk (st := s_tree_of) l c k).binds (ps := ["houses", "word"]) (fun _ _ _ _ _ _ us hl => match us, hl with | [_, _], _ => rfl), PySem.W.mg_of X G a, k⟩
theorem mk_way {K : PySem.W.Frag} {h : Heap} {mg : Str → Option Value} {f : Addr} {od an : Option Addr} {sl : Array (Option Value)} {oc kV dc pm cd ct : Value} (X : K.In h) (G : h.Ns mainGlobals mg) (a : PySem.W.nsIn K mainGlobals "way" = some (some (.ref f)))
    (l : K.lookup f = some ⟨oc, od, .func (PySem.W.fnOf "way" "way" (defArgs s_way) (defBody s_way) (defScope s_way) .none kV dc pm an cd ct), sl⟩) (c : PySem.W.codeIn K cd "way" = true) (k : PySem.W.keepIn K (.ref f) = true) : DefOk K mg "way" s_way ["houses", "roads", "one", "other"] :=
  ⟨f, _, fun_mk (st := s_way) l c k, (fun_mk (st := s_way) l c k).binds (ps := ["houses", "roads", "one", "other"]) (fun _ _ _ _ _ _ us hl => match us, hl with | [_, _, _, _], _ => rfl), PySem.W.mg_of X G a, k⟩
theorem mk_many_words {K : PySem.W.Frag} {h : Heap} {mg : Str → Option Value} {f : Addr} {od an : Option Addr} {sl : Array (Option Value)} {oc kV dc pm cd ct : Value} (X : K.In h) (G : h.Ns mainGlobals mg) (a : PySem.W.nsIn K mainGlobals "many_words" = some (some (.ref f)))
    (l : K.lookup f = some ⟨oc, od, .func (PySem.W.fnOf "many_words" "many_words" (defArgs s_many_words) (defBody s_many_words) (defScope s_many_words) .none kV dc pm an cd ct), sl⟩) (c : PySem.W.codeIn K cd "many_words" = true) (k : PySem.W.keepIn K (.ref f) = true) : DefOk K mg "many_words" s_many_words ["houses"] :=
  ⟨f, _, fun_mk (st := s_many_words) l c k, (fun_mk (st := s_many_words) l c k).binds (ps := ["houses"]) (fun _ _ _ _ _ _ us hl => match us, hl with | [_], _ => rfl), PySem.W.mg_of X G a, k⟩
theorem mk_trees {K : PySem.W.Frag} {h : Heap} {mg : Str → Option Value} {f : Addr} {od an : Option Addr} {sl : Array (Option Value)} {oc kV dc pm cd ct : Value} (X : K.In h) (G : h.Ns mainGlobals mg) (a : PySem.W.nsIn K mainGlobals "trees" = some (some (.ref f)))
    (l : K.lookup f = some ⟨oc, od, .func (PySem.W.fnOf "trees" "trees" (defArgs s_trees) (defBody s_trees) (defScope s_trees) .none kV dc pm an cd ct), sl⟩) (c : PySem.W.codeIn K cd "trees" = true) (k : PySem.W.keepIn K (.ref f) = true) : DefOk K mg "trees" s_trees ["houses"] :=
  ⟨f, _, fun_mk (st := s_trees) l c k, (fun_mk (st := s_trees) l c k).binds (ps := ["houses"]) (fun _ _ _ _ _ _ us hl => match us, hl with | [_], _ => rfl), PySem.W.mg_of X G a, k⟩
theorem mk_check_number {K : PySem.W.Frag} {h : Heap} {mg : Str → Option Value} {f : Addr} {od an : Option Addr} {sl : Array (Option Value)} {oc kV dc pm cd ct : Value} (X : K.In h) (G : h.Ns mainGlobals mg) (a : PySem.W.nsIn K mainGlobals "check_number" = some (some (.ref f)))
    (l : K.lookup f = some ⟨oc, od, .func (PySem.W.fnOf "check_number" "check_number" (defArgs s_check_number) (defBody s_check_number) (defScope s_check_number) .none kV dc pm an cd ct), sl⟩) (c : PySem.W.codeIn K cd "check_number" = true) (k : PySem.W.keepIn K (.ref f) = true) : DefOk K mg "check_number" s_check_number ["number", "many"] :=
  ⟨f, _, fun_mk (st := s_check_number) l c k, (fun_mk (st := s_check_number) l c k).binds (ps := ["number", "many"]) (fun _ _ _ _ _ _ us hl => match us, hl with | [_, _], _ => rfl), PySem.W.mg_of X G a, k⟩
theorem mk_tree_by {K : PySem.W.Frag} {h : Heap} {mg : Str → Option Value} {f : Addr} {od an : Option Addr} {sl : Array (Option Value)} {oc kV dc pm cd ct : Value} (X : K.In h) (G : h.Ns mainGlobals mg) (a : PySem.W.nsIn K mainGlobals "tree_by" = some (some (.ref f)))
    (l : K.lookup f = some ⟨oc, od, .func (PySem.W.fnOf "tree_by" "tree_by" (defArgs s_tree_by) (defBody s_tree_by) (defScope s_tree_by) .none kV dc pm an cd ct), sl⟩) (c : PySem.W.codeIn K cd "tree_by" = true) (k : PySem.W.keepIn K (.ref f) = true) : DefOk K mg "tree_by" s_tree_by ["houses", "number"] :=
  ⟨f, _, fun_mk (st := s_tree_by) l c k, (fun_mk (st := s_tree_by) l c k).binds (ps := ["houses", "number"]) (fun _ _ _ _ _ _ us hl => match us, hl with | [_, _], _ => rfl), PySem.W.mg_of X G a, k⟩
theorem mk_number_of {K : PySem.W.Frag} {h : Heap} {mg : Str → Option Value} {f : Addr} {od an : Option Addr} {sl : Array (Option Value)} {oc kV dc pm cd ct : Value} (X : K.In h) (G : h.Ns mainGlobals mg) (a : PySem.W.nsIn K mainGlobals "number_of" = some (some (.ref f)))
    (l : K.lookup f = some ⟨oc, od, .func (PySem.W.fnOf "number_of" "number_of" (defArgs s_number_of) (defBody s_number_of) (defScope s_number_of) .none kV dc pm an cd ct), sl⟩) (c : PySem.W.codeIn K cd "number_of" = true) (k : PySem.W.keepIn K (.ref f) = true) : DefOk K mg "number_of" s_number_of ["houses", "roads"] :=
  ⟨f, _, fun_mk (st := s_number_of) l c k, (fun_mk (st := s_number_of) l c k).binds (ps := ["houses", "roads"]) (fun _ _ _ _ _ _ us hl => match us, hl with | [_, _], _ => rfl), PySem.W.mg_of X G a, k⟩
theorem mk_ways_of {K : PySem.W.Frag} {h : Heap} {mg : Str → Option Value} {f : Addr} {od an : Option Addr} {sl : Array (Option Value)} {oc kV dc pm cd ct : Value} (X : K.In h) (G : h.Ns mainGlobals mg) (a : PySem.W.nsIn K mainGlobals "ways_of" = some (some (.ref f)))
    (l : K.lookup f = some ⟨oc, od, .func (PySem.W.fnOf "ways_of" "ways_of" (defArgs s_ways_of) (defBody s_ways_of) (defScope s_ways_of) .none kV dc pm an cd ct), sl⟩) (c : PySem.W.codeIn K cd "ways_of" = true) (k : PySem.W.keepIn K (.ref f) = true) : DefOk K mg "ways_of" s_ways_of ["counts"] :=
  ⟨f, _, fun_mk (st := s_ways_of) l c k, (fun_mk (st := s_ways_of) l c k).binds (ps := ["counts"]) (fun _ _ _ _ _ _ us hl => match us, hl with | [_], _ => rfl), PySem.W.mg_of X G a, k⟩
theorem mk_stands_of {K : PySem.W.Frag} {h : Heap} {mg : Str → Option Value} {f : Addr} {od an : Option Addr} {sl : Array (Option Value)} {oc kV dc pm cd ct : Value} (X : K.In h) (G : h.Ns mainGlobals mg) (a : PySem.W.nsIn K mainGlobals "stands_of" = some (some (.ref f)))
    (l : K.lookup f = some ⟨oc, od, .func (PySem.W.fnOf "stands_of" "stands_of" (defArgs s_stands_of) (defBody s_stands_of) (defScope s_stands_of) .none kV dc pm an cd ct), sl⟩) (c : PySem.W.codeIn K cd "stands_of" = true) (k : PySem.W.keepIn K (.ref f) = true) : DefOk K mg "stands_of" s_stands_of ["counts"] :=
  ⟨f, _, fun_mk (st := s_stands_of) l c k, (fun_mk (st := s_stands_of) l c k).binds (ps := ["counts"]) (fun _ _ _ _ _ _ us hl => match us, hl with | [_], _ => rfl), PySem.W.mg_of X G a, k⟩
theorem mk_trees_with {K : PySem.W.Frag} {h : Heap} {mg : Str → Option Value} {f : Addr} {od an : Option Addr} {sl : Array (Option Value)} {oc kV dc pm cd ct : Value} (X : K.In h) (G : h.Ns mainGlobals mg) (a : PySem.W.nsIn K mainGlobals "trees_with" = some (some (.ref f)))
    (l : K.lookup f = some ⟨oc, od, .func (PySem.W.fnOf "trees_with" "trees_with" (defArgs s_trees_with) (defBody s_trees_with) (defScope s_trees_with) .none kV dc pm an cd ct), sl⟩) (c : PySem.W.codeIn K cd "trees_with" = true) (k : PySem.W.keepIn K (.ref f) = true) : DefOk K mg "trees_with" s_trees_with ["counts"] :=
  ⟨f, _, fun_mk (st := s_trees_with) l c k, (fun_mk (st := s_trees_with) l c k).binds (ps := ["counts"]) (fun _ _ _ _ _ _ us hl => match us, hl with | [_], _ => rfl), PySem.W.mg_of X G a, k⟩
theorem mk_first_of {K : PySem.W.Frag} {h : Heap} {mg : Str → Option Value} {f : Addr} {od an : Option Addr} {sl : Array (Option Value)} {oc kV dc pm cd ct : Value} (X : K.In h) (G : h.Ns mainGlobals mg) (a : PySem.W.nsIn K mainGlobals "first_of" = some (some (.ref f)))
    (l : K.lookup f = some ⟨oc, od, .func (PySem.W.fnOf "first_of" "first_of" (defArgs s_first_of) (defBody s_first_of) (defScope s_first_of) .none kV dc pm an cd ct), sl⟩) (c : PySem.W.codeIn K cd "first_of" = true) (k : PySem.W.keepIn K (.ref f) = true) : DefOk K mg "first_of" s_first_of ["left", "number"] :=
  ⟨f, _, fun_mk (st := s_first_of) l c k, (fun_mk (st := s_first_of) l c k).binds (ps := ["left", "number"]) (fun _ _ _ _ _ _ us hl => match us, hl with | [_, _], _ => rfl), PySem.W.mg_of X G a, k⟩
theorem mk_tree_with {K : PySem.W.Frag} {h : Heap} {mg : Str → Option Value} {f : Addr} {od an : Option Addr} {sl : Array (Option Value)} {oc kV dc pm cd ct : Value} (X : K.In h) (G : h.Ns mainGlobals mg) (a : PySem.W.nsIn K mainGlobals "tree_with" = some (some (.ref f)))
    (l : K.lookup f = some ⟨oc, od, .func (PySem.W.fnOf "tree_with" "tree_with" (defArgs s_tree_with) (defBody s_tree_with) (defScope s_tree_with) .none kV dc pm an cd ct), sl⟩) (c : PySem.W.codeIn K cd "tree_with" = true) (k : PySem.W.keepIn K (.ref f) = true) : DefOk K mg "tree_with" s_tree_with ["counts", "number"] :=
  ⟨f, _, fun_mk (st := s_tree_with) l c k, (fun_mk (st := s_tree_with) l c k).binds (ps := ["counts", "number"]) (fun _ _ _ _ _ _ us hl => match us, hl with | [_, _], _ => rfl), PySem.W.mg_of X G a, k⟩
theorem mk_number_with {K : PySem.W.Frag} {h : Heap} {mg : Str → Option Value} {f : Addr} {od an : Option Addr} {sl : Array (Option Value)} {oc kV dc pm cd ct : Value} (X : K.In h) (G : h.Ns mainGlobals mg) (a : PySem.W.nsIn K mainGlobals "number_with" = some (some (.ref f)))
    (l : K.lookup f = some ⟨oc, od, .func (PySem.W.fnOf "number_with" "number_with" (defArgs s_number_with) (defBody s_number_with) (defScope s_number_with) .none kV dc pm an cd ct), sl⟩) (c : PySem.W.codeIn K cd "number_with" = true) (k : PySem.W.keepIn K (.ref f) = true) : DefOk K mg "number_with" s_number_with ["houses", "roads"] :=
  ⟨f, _, fun_mk (st := s_number_with) l c k, (fun_mk (st := s_number_with) l c k).binds (ps := ["houses", "roads"]) (fun _ _ _ _ _ _ us hl => match us, hl with | [_, _], _ => rfl), PySem.W.mg_of X G a, k⟩
theorem mk_told {K : PySem.W.Frag} {h : Heap} {mg : Str → Option Value} {f : Addr} {od an : Option Addr} {sl : Array (Option Value)} {oc kV dc pm cd ct : Value} (X : K.In h) (G : h.Ns mainGlobals mg) (a : PySem.W.nsIn K mainGlobals "told" = some (some (.ref f)))
    (l : K.lookup f = some ⟨oc, od, .func (PySem.W.fnOf "told" "told" (defArgs s_told) (defBody s_told) (defScope s_told) .none kV dc pm an cd ct), sl⟩) (c : PySem.W.codeIn K cd "told" = true) (k : PySem.W.keepIn K (.ref f) = true) : DefOk K mg "told" s_told ["houses", "roads"] :=
  ⟨f, _, fun_mk (st := s_told) l c k, (fun_mk (st := s_told) l c k).binds (ps := ["houses", "roads"]) (fun _ _ _ _ _ _ us hl => match us, hl with | [_, _], _ => rfl), PySem.W.mg_of X G a, k⟩
theorem mk_led {K : PySem.W.Frag} {h : Heap} {mg : Str → Option Value} {f : Addr} {od an : Option Addr} {sl : Array (Option Value)} {oc kV dc pm cd ct : Value} (X : K.In h) (G : h.Ns mainGlobals mg) (a : PySem.W.nsIn K mainGlobals "led" = some (some (.ref f)))
    (l : K.lookup f = some ⟨oc, od, .func (PySem.W.fnOf "led" "led" (defArgs s_led) (defBody s_led) (defScope s_led) .none kV dc pm an cd ct), sl⟩) (c : PySem.W.codeIn K cd "led" = true) (k : PySem.W.keepIn K (.ref f) = true) : DefOk K mg "led" s_led ["houses", "roads", "others"] :=
  ⟨f, _, fun_mk (st := s_led) l c k, (fun_mk (st := s_led) l c k).binds (ps := ["houses", "roads", "others"]) (fun _ _ _ _ _ _ us hl => match us, hl with | [_, _, _], _ => rfl), PySem.W.mg_of X G a, k⟩
theorem mk__law_with_houses {K : PySem.W.Frag} {h : Heap} {mg : Str → Option Value} {f : Addr} {od an : Option Addr} {sl : Array (Option Value)} {oc kV dc pm cd ct : Value} (X : K.In h) (G : h.Ns mainGlobals mg) (a : PySem.W.nsIn K mainGlobals "_law_with_houses" = some (some (.ref f)))
    (l : K.lookup f = some ⟨oc, od, .func (PySem.W.fnOf "_law_with_houses" "_law_with_houses" (defArgs s__law_with_houses) (defBody s__law_with_houses) (defScope s__law_with_houses) .none kV dc pm an cd ct), sl⟩) (c : PySem.W.codeIn K cd "_law_with_houses" = true) (k : PySem.W.keepIn K (.ref f) = true) : DefOk K mg "_law_with_houses" s__law_with_houses ["_law_door", "_law_thing"] :=
  ⟨f, _, fun_mk (st := s__law_with_houses) l c k, (fun_mk (st := s__law_with_houses) l c k).binds (ps := ["_law_door", "_law_thing"]) (fun _ _ _ _ _ _ us hl => match us, hl with | [_, _], _ => rfl), PySem.W.mg_of X G a, k⟩
theorem mk__law_with_roads {K : PySem.W.Frag} {h : Heap} {mg : Str → Option Value} {f : Addr} {od an : Option Addr} {sl : Array (Option Value)} {oc kV dc pm cd ct : Value} (X : K.In h) (G : h.Ns mainGlobals mg) (a : PySem.W.nsIn K mainGlobals "_law_with_roads" = some (some (.ref f)))
    (l : K.lookup f = some ⟨oc, od, .func (PySem.W.fnOf "_law_with_roads" "_law_with_roads" (defArgs s__law_with_roads) (defBody s__law_with_roads) (defScope s__law_with_roads) .none kV dc pm an cd ct), sl⟩) (c : PySem.W.codeIn K cd "_law_with_roads" = true) (k : PySem.W.keepIn K (.ref f) = true) : DefOk K mg "_law_with_roads" s__law_with_roads ["_law_door", "_law_thing"] :=
  ⟨f, _, fun_mk (st := s__law_with_roads) l c k, (fun_mk (st := s__law_with_roads) l c k).binds (ps := ["_law_door", "_law_thing"]) (fun _ _ _ _ _ _ us hl => match us, hl with | [_, _], _ => rfl), PySem.W.mg_of X G a, k⟩
theorem mk__law_with_no_tree {K : PySem.W.Frag} {h : Heap} {mg : Str → Option Value} {f : Addr} {od an : Option Addr} {sl : Array (Option Value)} {oc kV dc pm cd ct : Value} (X : K.In h) (G : h.Ns mainGlobals mg) (a : PySem.W.nsIn K mainGlobals "_law_with_no_tree" = some (some (.ref f)))
    (l : K.lookup f = some ⟨oc, od, .func (PySem.W.fnOf "_law_with_no_tree" "_law_with_no_tree" (defArgs s__law_with_no_tree) (defBody s__law_with_no_tree) (defScope s__law_with_no_tree) .none kV dc pm an cd ct), sl⟩) (c : PySem.W.codeIn K cd "_law_with_no_tree" = true) (k : PySem.W.keepIn K (.ref f) = true) : DefOk K mg "_law_with_no_tree" s__law_with_no_tree ["_law_door", "_law_thing"] :=
  ⟨f, _, fun_mk (st := s__law_with_no_tree) l c k, (fun_mk (st := s__law_with_no_tree) l c k).binds (ps := ["_law_door", "_law_thing"]) (fun _ _ _ _ _ _ us hl => match us, hl with | [_, _], _ => rfl), PySem.W.mg_of X G a, k⟩
theorem mk__law_with_others {K : PySem.W.Frag} {h : Heap} {mg : Str → Option Value} {f : Addr} {od an : Option Addr} {sl : Array (Option Value)} {oc kV dc pm cd ct : Value} (X : K.In h) (G : h.Ns mainGlobals mg) (a : PySem.W.nsIn K mainGlobals "_law_with_others" = some (some (.ref f)))
    (l : K.lookup f = some ⟨oc, od, .func (PySem.W.fnOf "_law_with_others" "_law_with_others" (defArgs s__law_with_others) (defBody s__law_with_others) (defScope s__law_with_others) .none kV dc pm an cd ct), sl⟩) (c : PySem.W.codeIn K cd "_law_with_others" = true) (k : PySem.W.keepIn K (.ref f) = true) : DefOk K mg "_law_with_others" s__law_with_others ["_law_door", "_law_thing"] :=
  ⟨f, _, fun_mk (st := s__law_with_others) l c k, (fun_mk (st := s__law_with_others) l c k).binds (ps := ["_law_door", "_law_thing"]) (fun _ _ _ _ _ _ us hl => match us, hl with | [_, _], _ => rfl), PySem.W.mg_of X G a, k⟩
theorem mk__law_bad_houses {K : PySem.W.Frag} {h : Heap} {mg : Str → Option Value} {f : Addr} {od an : Option Addr} {sl : Array (Option Value)} {oc kV dc pm cd ct : Value} (X : K.In h) (G : h.Ns mainGlobals mg) (a : PySem.W.nsIn K mainGlobals "_law_bad_houses" = some (some (.ref f)))
    (l : K.lookup f = some ⟨oc, od, .func (PySem.W.fnOf "_law_bad_houses" "_law_bad_houses" (defArgs s__law_bad_houses) (defBody s__law_bad_houses) (defScope s__law_bad_houses) .none kV dc pm an cd ct), sl⟩) (c : PySem.W.codeIn K cd "_law_bad_houses" = true) (k : PySem.W.keepIn K (.ref f) = true) : DefOk K mg "_law_bad_houses" s__law_bad_houses ["_law_cell"] :=
  ⟨f, _, fun_mk (st := s__law_bad_houses) l c k, (fun_mk (st := s__law_bad_houses) l c k).binds (ps := ["_law_cell"]) (fun _ _ _ _ _ _ us hl => match us, hl with | [_], _ => rfl), PySem.W.mg_of X G a, k⟩
theorem mk__law_bad_roads {K : PySem.W.Frag} {h : Heap} {mg : Str → Option Value} {f : Addr} {od an : Option Addr} {sl : Array (Option Value)} {oc kV dc pm cd ct : Value} (X : K.In h) (G : h.Ns mainGlobals mg) (a : PySem.W.nsIn K mainGlobals "_law_bad_roads" = some (some (.ref f)))
    (l : K.lookup f = some ⟨oc, od, .func (PySem.W.fnOf "_law_bad_roads" "_law_bad_roads" (defArgs s__law_bad_roads) (defBody s__law_bad_roads) (defScope s__law_bad_roads) .none kV dc pm an cd ct), sl⟩) (c : PySem.W.codeIn K cd "_law_bad_roads" = true) (k : PySem.W.keepIn K (.ref f) = true) : DefOk K mg "_law_bad_roads" s__law_bad_roads ["_law_cell"] :=
  ⟨f, _, fun_mk (st := s__law_bad_roads) l c k, (fun_mk (st := s__law_bad_roads) l c k).binds (ps := ["_law_cell"]) (fun _ _ _ _ _ _ us hl => match us, hl with | [_], _ => rfl), PySem.W.mg_of X G a, k⟩
theorem mk__law_no_trees {K : PySem.W.Frag} {h : Heap} {mg : Str → Option Value} {f : Addr} {od an : Option Addr} {sl : Array (Option Value)} {oc kV dc pm cd ct : Value} (X : K.In h) (G : h.Ns mainGlobals mg) (a : PySem.W.nsIn K mainGlobals "_law_no_trees" = some (some (.ref f)))
    (l : K.lookup f = some ⟨oc, od, .func (PySem.W.fnOf "_law_no_trees" "_law_no_trees" (defArgs s__law_no_trees) (defBody s__law_no_trees) (defScope s__law_no_trees) .none kV dc pm an cd ct), sl⟩) (c : PySem.W.codeIn K cd "_law_no_trees" = true) (k : PySem.W.keepIn K (.ref f) = true) : DefOk K mg "_law_no_trees" s__law_no_trees ["_law_cell"] :=
  ⟨f, _, fun_mk (st := s__law_no_trees) l c k, (fun_mk (st := s__law_no_trees) l c k).binds (ps := ["_law_cell"]) (fun _ _ _ _ _ _ us hl => match us, hl with | [_], _ => rfl), PySem.W.mg_of X G a, k⟩
theorem mk__law_bad_house {K : PySem.W.Frag} {h : Heap} {mg : Str → Option Value} {f : Addr} {od an : Option Addr} {sl : Array (Option Value)} {oc kV dc pm cd ct : Value} (X : K.In h) (G : h.Ns mainGlobals mg) (a : PySem.W.nsIn K mainGlobals "_law_bad_house" = some (some (.ref f)))
    (l : K.lookup f = some ⟨oc, od, .func (PySem.W.fnOf "_law_bad_house" "_law_bad_house" (defArgs s__law_bad_house) (defBody s__law_bad_house) (defScope s__law_bad_house) .none kV dc pm an cd ct), sl⟩) (c : PySem.W.codeIn K cd "_law_bad_house" = true) (k : PySem.W.keepIn K (.ref f) = true) : DefOk K mg "_law_bad_house" s__law_bad_house ["_law_cell"] :=
  ⟨f, _, fun_mk (st := s__law_bad_house) l c k, (fun_mk (st := s__law_bad_house) l c k).binds (ps := ["_law_cell"]) (fun _ _ _ _ _ _ us hl => match us, hl with | [_], _ => rfl), PySem.W.mg_of X G a, k⟩
theorem mk__law_bad_words {K : PySem.W.Frag} {h : Heap} {mg : Str → Option Value} {f : Addr} {od an : Option Addr} {sl : Array (Option Value)} {oc kV dc pm cd ct : Value} (X : K.In h) (G : h.Ns mainGlobals mg) (a : PySem.W.nsIn K mainGlobals "_law_bad_words" = some (some (.ref f)))
    (l : K.lookup f = some ⟨oc, od, .func (PySem.W.fnOf "_law_bad_words" "_law_bad_words" (defArgs s__law_bad_words) (defBody s__law_bad_words) (defScope s__law_bad_words) .none kV dc pm an cd ct), sl⟩) (c : PySem.W.codeIn K cd "_law_bad_words" = true) (k : PySem.W.keepIn K (.ref f) = true) : DefOk K mg "_law_bad_words" s__law_bad_words ["_law_cell"] :=
  ⟨f, _, fun_mk (st := s__law_bad_words) l c k, (fun_mk (st := s__law_bad_words) l c k).binds (ps := ["_law_cell"]) (fun _ _ _ _ _ _ us hl => match us, hl with | [_], _ => rfl), PySem.W.mg_of X G a, k⟩
theorem mk__law_bad_numbers {K : PySem.W.Frag} {h : Heap} {mg : Str → Option Value} {f : Addr} {od an : Option Addr} {sl : Array (Option Value)} {oc kV dc pm cd ct : Value} (X : K.In h) (G : h.Ns mainGlobals mg) (a : PySem.W.nsIn K mainGlobals "_law_bad_numbers" = some (some (.ref f)))
    (l : K.lookup f = some ⟨oc, od, .func (PySem.W.fnOf "_law_bad_numbers" "_law_bad_numbers" (defArgs s__law_bad_numbers) (defBody s__law_bad_numbers) (defScope s__law_bad_numbers) .none kV dc pm an cd ct), sl⟩) (c : PySem.W.codeIn K cd "_law_bad_numbers" = true) (k : PySem.W.keepIn K (.ref f) = true) : DefOk K mg "_law_bad_numbers" s__law_bad_numbers ["_law_cell"] :=
  ⟨f, _, fun_mk (st := s__law_bad_numbers) l c k, (fun_mk (st := s__law_bad_numbers) l c k).binds (ps := ["_law_cell"]) (fun _ _ _ _ _ _ us hl => match us, hl with | [_], _ => rfl), PySem.W.mg_of X G a, k⟩
theorem mk__law_bad_counts {K : PySem.W.Frag} {h : Heap} {mg : Str → Option Value} {f : Addr} {od an : Option Addr} {sl : Array (Option Value)} {oc kV dc pm cd ct : Value} (X : K.In h) (G : h.Ns mainGlobals mg) (a : PySem.W.nsIn K mainGlobals "_law_bad_counts" = some (some (.ref f)))
    (l : K.lookup f = some ⟨oc, od, .func (PySem.W.fnOf "_law_bad_counts" "_law_bad_counts" (defArgs s__law_bad_counts) (defBody s__law_bad_counts) (defScope s__law_bad_counts) .none kV dc pm an cd ct), sl⟩) (c : PySem.W.codeIn K cd "_law_bad_counts" = true) (k : PySem.W.keepIn K (.ref f) = true) : DefOk K mg "_law_bad_counts" s__law_bad_counts ["_law_cell"] :=
  ⟨f, _, fun_mk (st := s__law_bad_counts) l c k, (fun_mk (st := s__law_bad_counts) l c k).binds (ps := ["_law_cell"]) (fun _ _ _ _ _ _ us hl => match us, hl with | [_], _ => rfl), PySem.W.mg_of X G a, k⟩
theorem mk__law_due {K : PySem.W.Frag} {h : Heap} {mg : Str → Option Value} {f : Addr} {od an : Option Addr} {sl : Array (Option Value)} {oc kV dc pm cd ct : Value} (X : K.In h) (G : h.Ns mainGlobals mg) (a : PySem.W.nsIn K mainGlobals "_law_due" = some (some (.ref f)))
    (l : K.lookup f = some ⟨oc, od, .func (PySem.W.fnOf "_law_due" "_law_due" (defArgs s__law_due) (defBody s__law_due) (defScope s__law_due) .none kV dc pm an cd ct), sl⟩) (c : PySem.W.codeIn K cd "_law_due" = true) (k : PySem.W.keepIn K (.ref f) = true) : DefOk K mg "_law_due" s__law_due ["_law_ask", "_law_door", "_law_thing", "_law_due_here"] :=
  ⟨f, _, fun_mk (st := s__law_due) l c k, (fun_mk (st := s__law_due) l c k).binds (ps := ["_law_ask", "_law_door", "_law_thing", "_law_due_here"]) (fun _ _ _ _ _ _ us hl => match us, hl with | [_, _, _, _], _ => rfl), PySem.W.mg_of X G a, k⟩
theorem mk_law {K : PySem.W.Frag} {h : Heap} {mg : Str → Option Value} {f : Addr} {od an : Option Addr} {sl : Array (Option Value)} {oc kV dc pm cd ct : Value} (X : K.In h) (G : h.Ns mainGlobals mg) (a : PySem.W.nsIn K mainGlobals "law" = some (some (.ref f)))
    (l : K.lookup f = some ⟨oc, od, .func (PySem.W.fnOf "law" "law" (defArgs s_law) (defBody s_law) (defScope s_law) .none kV dc pm an cd ct), sl⟩) (c : PySem.W.codeIn K cd "law" = true) (k : PySem.W.keepIn K (.ref f) = true) : LawOk K mg :=
  ⟨f, _, fun_mk (st := s_law) l c k, (fun_mk (st := s_law) l c k).binds (ps := ["_law_script"]) (fun _ _ _ _ _ _ us hl => match us, hl with | [_], _ => rfl), PySem.W.mg_of X G a, k, fun s u => .of_eq rfl⟩
structure ClsOk (K : PySem.W.Frag) (mg : Str → Option Value) (c : Cs) : Prop where
  g_TreeError : mg "TreeError" = some (.ref c.TreeError)
  g_BadHouses : mg "BadHouses" = some (.ref c.BadHouses)
  g_BadRoads : mg "BadRoads" = some (.ref c.BadRoads)
  g_BadHouse : mg "BadHouse" = some (.ref c.BadHouse)
  g_BadWord : mg "BadWord" = some (.ref c.BadWord)
  g_BadNumber : mg "BadNumber" = some (.ref c.BadNumber)
  g_BadCounts : mg "BadCounts" = some (.ref c.BadCounts)
  g_NoTree : mg "NoTree" = some (.ref c.NoTree)
  kc_TreeError : PySem.W.keepIn K (.ref c.TreeError) = true
  bc_TreeError : PySem.W.subIn K (.ref c.TreeError) (.type "BaseException") = some true
  tc_TreeError : PySem.W.typeIn K (.ref c.TreeError) = some (.type "type")
  kc_BadHouses : PySem.W.keepIn K (.ref c.BadHouses) = true
  bc_BadHouses : PySem.W.subIn K (.ref c.BadHouses) (.type "BaseException") = some true
  tc_BadHouses : PySem.W.typeIn K (.ref c.BadHouses) = some (.type "type")
  x_BadHouses : PySem.W.excIn K c.BadHouses [.type "ValueError", .type "Exception", .type "BaseException", .type "object"] "ValueError.__new__" = true
  kc_BadRoads : PySem.W.keepIn K (.ref c.BadRoads) = true
  bc_BadRoads : PySem.W.subIn K (.ref c.BadRoads) (.type "BaseException") = some true
  tc_BadRoads : PySem.W.typeIn K (.ref c.BadRoads) = some (.type "type")
  x_BadRoads : PySem.W.excIn K c.BadRoads [.type "ValueError", .type "Exception", .type "BaseException", .type "object"] "ValueError.__new__" = true
  kc_BadHouse : PySem.W.keepIn K (.ref c.BadHouse) = true
  bc_BadHouse : PySem.W.subIn K (.ref c.BadHouse) (.type "BaseException") = some true
  tc_BadHouse : PySem.W.typeIn K (.ref c.BadHouse) = some (.type "type")
  x_BadHouse : PySem.W.excIn K c.BadHouse [.type "ValueError", .type "Exception", .type "BaseException", .type "object"] "ValueError.__new__" = true
  kc_BadWord : PySem.W.keepIn K (.ref c.BadWord) = true
  bc_BadWord : PySem.W.subIn K (.ref c.BadWord) (.type "BaseException") = some true
  tc_BadWord : PySem.W.typeIn K (.ref c.BadWord) = some (.type "type")
  x_BadWord : PySem.W.excIn K c.BadWord [.type "ValueError", .type "Exception", .type "BaseException", .type "object"] "ValueError.__new__" = true
  kc_BadNumber : PySem.W.keepIn K (.ref c.BadNumber) = true
  bc_BadNumber : PySem.W.subIn K (.ref c.BadNumber) (.type "BaseException") = some true
  tc_BadNumber : PySem.W.typeIn K (.ref c.BadNumber) = some (.type "type")
  x_BadNumber : PySem.W.excIn K c.BadNumber [.type "ValueError", .type "Exception", .type "BaseException", .type "object"] "ValueError.__new__" = true
  kc_BadCounts : PySem.W.keepIn K (.ref c.BadCounts) = true
  bc_BadCounts : PySem.W.subIn K (.ref c.BadCounts) (.type "BaseException") = some true
  tc_BadCounts : PySem.W.typeIn K (.ref c.BadCounts) = some (.type "type")
  x_BadCounts : PySem.W.excIn K c.BadCounts [.type "ValueError", .type "Exception", .type "BaseException", .type "object"] "ValueError.__new__" = true
  kc_NoTree : PySem.W.keepIn K (.ref c.NoTree) = true
  bc_NoTree : PySem.W.subIn K (.ref c.NoTree) (.type "BaseException") = some true
  tc_NoTree : PySem.W.typeIn K (.ref c.NoTree) = some (.type "type")
  x_NoTree : PySem.W.excIn K c.NoTree [.type "ValueError", .type "Exception", .type "BaseException", .type "object"] "ValueError.__new__" = true
  ec_0 : ExcC K c.BadHouses
  sm_0 : PySem.W.subIn K (.ref c.BadHouses) (.ref c.TreeError) = some true
  kv_0 : PySem.W.kitOne K (.ref c.BadHouses) (.type "ValueError") = some true
  ki_0_0 : PySem.W.kitOne K (.ref c.BadHouses) (.ref c.BadHouses) = some true
  ki_0_1 : PySem.W.kitOne K (.ref c.BadHouses) (.ref c.BadRoads) = some false
  ki_0_2 : PySem.W.kitOne K (.ref c.BadHouses) (.ref c.BadHouse) = some false
  ki_0_3 : PySem.W.kitOne K (.ref c.BadHouses) (.ref c.BadWord) = some false
  ki_0_4 : PySem.W.kitOne K (.ref c.BadHouses) (.ref c.BadNumber) = some false
  ki_0_5 : PySem.W.kitOne K (.ref c.BadHouses) (.ref c.BadCounts) = some false
  ki_0_6 : PySem.W.kitOne K (.ref c.BadHouses) (.ref c.NoTree) = some false
  ec_1 : ExcC K c.BadRoads
  sm_1 : PySem.W.subIn K (.ref c.BadRoads) (.ref c.TreeError) = some true
  kv_1 : PySem.W.kitOne K (.ref c.BadRoads) (.type "ValueError") = some true
  ki_1_0 : PySem.W.kitOne K (.ref c.BadRoads) (.ref c.BadHouses) = some false
  ki_1_1 : PySem.W.kitOne K (.ref c.BadRoads) (.ref c.BadRoads) = some true
  ki_1_2 : PySem.W.kitOne K (.ref c.BadRoads) (.ref c.BadHouse) = some false
  ki_1_3 : PySem.W.kitOne K (.ref c.BadRoads) (.ref c.BadWord) = some false
  ki_1_4 : PySem.W.kitOne K (.ref c.BadRoads) (.ref c.BadNumber) = some false
  ki_1_5 : PySem.W.kitOne K (.ref c.BadRoads) (.ref c.BadCounts) = some false
  ki_1_6 : PySem.W.kitOne K (.ref c.BadRoads) (.ref c.NoTree) = some false
  ec_2 : ExcC K c.BadHouse
  sm_2 : PySem.W.subIn K (.ref c.BadHouse) (.ref c.TreeError) = some true
  kv_2 : PySem.W.kitOne K (.ref c.BadHouse) (.type "ValueError") = some true
  ki_2_0 : PySem.W.kitOne K (.ref c.BadHouse) (.ref c.BadHouses) = some false
  ki_2_1 : PySem.W.kitOne K (.ref c.BadHouse) (.ref c.BadRoads) = some false
  ki_2_2 : PySem.W.kitOne K (.ref c.BadHouse) (.ref c.BadHouse) = some true
  ki_2_3 : PySem.W.kitOne K (.ref c.BadHouse) (.ref c.BadWord) = some false
  ki_2_4 : PySem.W.kitOne K (.ref c.BadHouse) (.ref c.BadNumber) = some false
  ki_2_5 : PySem.W.kitOne K (.ref c.BadHouse) (.ref c.BadCounts) = some false
  ki_2_6 : PySem.W.kitOne K (.ref c.BadHouse) (.ref c.NoTree) = some false
  ec_3 : ExcC K c.BadWord
  sm_3 : PySem.W.subIn K (.ref c.BadWord) (.ref c.TreeError) = some true
  kv_3 : PySem.W.kitOne K (.ref c.BadWord) (.type "ValueError") = some true
  ki_3_0 : PySem.W.kitOne K (.ref c.BadWord) (.ref c.BadHouses) = some false
  ki_3_1 : PySem.W.kitOne K (.ref c.BadWord) (.ref c.BadRoads) = some false
  ki_3_2 : PySem.W.kitOne K (.ref c.BadWord) (.ref c.BadHouse) = some false
  ki_3_3 : PySem.W.kitOne K (.ref c.BadWord) (.ref c.BadWord) = some true
  ki_3_4 : PySem.W.kitOne K (.ref c.BadWord) (.ref c.BadNumber) = some false
  ki_3_5 : PySem.W.kitOne K (.ref c.BadWord) (.ref c.BadCounts) = some false
  ki_3_6 : PySem.W.kitOne K (.ref c.BadWord) (.ref c.NoTree) = some false
  ec_4 : ExcC K c.BadNumber
  sm_4 : PySem.W.subIn K (.ref c.BadNumber) (.ref c.TreeError) = some true
  kv_4 : PySem.W.kitOne K (.ref c.BadNumber) (.type "ValueError") = some true
  ki_4_0 : PySem.W.kitOne K (.ref c.BadNumber) (.ref c.BadHouses) = some false
  ki_4_1 : PySem.W.kitOne K (.ref c.BadNumber) (.ref c.BadRoads) = some false
  ki_4_2 : PySem.W.kitOne K (.ref c.BadNumber) (.ref c.BadHouse) = some false
  ki_4_3 : PySem.W.kitOne K (.ref c.BadNumber) (.ref c.BadWord) = some false
  ki_4_4 : PySem.W.kitOne K (.ref c.BadNumber) (.ref c.BadNumber) = some true
  ki_4_5 : PySem.W.kitOne K (.ref c.BadNumber) (.ref c.BadCounts) = some false
  ki_4_6 : PySem.W.kitOne K (.ref c.BadNumber) (.ref c.NoTree) = some false
  ec_5 : ExcC K c.BadCounts
  sm_5 : PySem.W.subIn K (.ref c.BadCounts) (.ref c.TreeError) = some true
  kv_5 : PySem.W.kitOne K (.ref c.BadCounts) (.type "ValueError") = some true
  ki_5_0 : PySem.W.kitOne K (.ref c.BadCounts) (.ref c.BadHouses) = some false
  ki_5_1 : PySem.W.kitOne K (.ref c.BadCounts) (.ref c.BadRoads) = some false
  ki_5_2 : PySem.W.kitOne K (.ref c.BadCounts) (.ref c.BadHouse) = some false
  ki_5_3 : PySem.W.kitOne K (.ref c.BadCounts) (.ref c.BadWord) = some false
  ki_5_4 : PySem.W.kitOne K (.ref c.BadCounts) (.ref c.BadNumber) = some false
  ki_5_5 : PySem.W.kitOne K (.ref c.BadCounts) (.ref c.BadCounts) = some true
  ki_5_6 : PySem.W.kitOne K (.ref c.BadCounts) (.ref c.NoTree) = some false
  ec_6 : ExcC K c.NoTree
  sm_6 : PySem.W.subIn K (.ref c.NoTree) (.ref c.TreeError) = some true
  kv_6 : PySem.W.kitOne K (.ref c.NoTree) (.type "ValueError") = some true
  ki_6_0 : PySem.W.kitOne K (.ref c.NoTree) (.ref c.BadHouses) = some false
  ki_6_1 : PySem.W.kitOne K (.ref c.NoTree) (.ref c.BadRoads) = some false
  ki_6_2 : PySem.W.kitOne K (.ref c.NoTree) (.ref c.BadHouse) = some false
  ki_6_3 : PySem.W.kitOne K (.ref c.NoTree) (.ref c.BadWord) = some false
  ki_6_4 : PySem.W.kitOne K (.ref c.NoTree) (.ref c.BadNumber) = some false
  ki_6_5 : PySem.W.kitOne K (.ref c.NoTree) (.ref c.BadCounts) = some false
  ki_6_6 : PySem.W.kitOne K (.ref c.NoTree) (.ref c.NoTree) = some true
  hd_TreeError : PySem.W.hasDictIn K c.TreeError = true
theorem mk_cls {K : PySem.W.Frag} {h : Heap} {mg : Str → Option Value} {cTreeError cBadHouses cBadRoads cBadHouse cBadWord cBadNumber cBadCounts cNoTree : Addr} (X : K.In h) (G : h.Ns mainGlobals mg)
    (g_TreeError : PySem.W.nsIn K mainGlobals "TreeError" = some (some (.ref cTreeError)))
    (g_BadHouses : PySem.W.nsIn K mainGlobals "BadHouses" = some (some (.ref cBadHouses)))
    (g_BadRoads : PySem.W.nsIn K mainGlobals "BadRoads" = some (some (.ref cBadRoads)))
    (g_BadHouse : PySem.W.nsIn K mainGlobals "BadHouse" = some (some (.ref cBadHouse)))
    (g_BadWord : PySem.W.nsIn K mainGlobals "BadWord" = some (some (.ref cBadWord)))
    (g_BadNumber : PySem.W.nsIn K mainGlobals "BadNumber" = some (some (.ref cBadNumber)))
    (g_BadCounts : PySem.W.nsIn K mainGlobals "BadCounts" = some (some (.ref cBadCounts)))
    (g_NoTree : PySem.W.nsIn K mainGlobals "NoTree" = some (some (.ref cNoTree)))
    (kc_TreeError : PySem.W.keepIn K (.ref cTreeError) = true)
    (bc_TreeError : PySem.W.subIn K (.ref cTreeError) (.type "BaseException") = some true)
    (tc_TreeError : PySem.W.typeIn K (.ref cTreeError) = some (.type "type"))
    (kc_BadHouses : PySem.W.keepIn K (.ref cBadHouses) = true)
    (bc_BadHouses : PySem.W.subIn K (.ref cBadHouses) (.type "BaseException") = some true)
    (tc_BadHouses : PySem.W.typeIn K (.ref cBadHouses) = some (.type "type"))
    (x_BadHouses : PySem.W.excIn K cBadHouses [.type "ValueError", .type "Exception", .type "BaseException", .type "object"] "ValueError.__new__" = true)
    (kc_BadRoads : PySem.W.keepIn K (.ref cBadRoads) = true)
    (bc_BadRoads : PySem.W.subIn K (.ref cBadRoads) (.type "BaseException") = some true)
    (tc_BadRoads : PySem.W.typeIn K (.ref cBadRoads) = some (.type "type"))
    (x_BadRoads : PySem.W.excIn K cBadRoads [.type "ValueError", .type "Exception", .type "BaseException", .type "object"] "ValueError.__new__" = true)
    (kc_BadHouse : PySem.W.keepIn K (.ref cBadHouse) = true)
    (bc_BadHouse : PySem.W.subIn K (.ref cBadHouse) (.type "BaseException") = some true)
    (tc_BadHouse : PySem.W.typeIn K (.ref cBadHouse) = some (.type "type"))
    (x_BadHouse : PySem.W.excIn K cBadHouse [.type "ValueError", .type "Exception", .type "BaseException", .type "object"] "ValueError.__new__" = true)
    (kc_BadWord : PySem.W.keepIn K (.ref cBadWord) = true)
    (bc_BadWord : PySem.W.subIn K (.ref cBadWord) (.type "BaseException") = some true)
    (tc_BadWord : PySem.W.typeIn K (.ref cBadWord) = some (.type "type"))
    (x_BadWord : PySem.W.excIn K cBadWord [.type "ValueError", .type "Exception", .type "BaseException", .type "object"] "ValueError.__new__" = true)
    (kc_BadNumber : PySem.W.keepIn K (.ref cBadNumber) = true)
    (bc_BadNumber : PySem.W.subIn K (.ref cBadNumber) (.type "BaseException") = some true)
    (tc_BadNumber : PySem.W.typeIn K (.ref cBadNumber) = some (.type "type"))
    (x_BadNumber : PySem.W.excIn K cBadNumber [.type "ValueError", .type "Exception", .type "BaseException", .type "object"] "ValueError.__new__" = true)
    (kc_BadCounts : PySem.W.keepIn K (.ref cBadCounts) = true)
    (bc_BadCounts : PySem.W.subIn K (.ref cBadCounts) (.type "BaseException") = some true)
    (tc_BadCounts : PySem.W.typeIn K (.ref cBadCounts) = some (.type "type"))
    (x_BadCounts : PySem.W.excIn K cBadCounts [.type "ValueError", .type "Exception", .type "BaseException", .type "object"] "ValueError.__new__" = true)
    (kc_NoTree : PySem.W.keepIn K (.ref cNoTree) = true)
    (bc_NoTree : PySem.W.subIn K (.ref cNoTree) (.type "BaseException") = some true)
    (tc_NoTree : PySem.W.typeIn K (.ref cNoTree) = some (.type "type"))
    (x_NoTree : PySem.W.excIn K cNoTree [.type "ValueError", .type "Exception", .type "BaseException", .type "object"] "ValueError.__new__" = true)
    (ec_0_hg : PySem.W.findIn K (.ref cBadHouses) "__getattribute__" = some (some (.builtin "BaseException.__getattribute__")))
    (ec_0_hk : PySem.W.findIn K (.ref cBadHouses) "__getattr__" = some none)
    (ec_0_hd : PySem.W.hasDictIn K cBadHouses = true)
    (ec_0_ha : PySem.W.findIn K (.ref cBadHouses) "__class__" = some (some (.builtin "object.__class__")))
    (ehn : PySem.W.specialIn K (.builtin "object.__class__") "__get__" = some (some (.builtin "getset_descriptor.__get__")))
    (eht : PySem.W.takesIn K (.builtin "object.__class__") = some true)
    (ec_0_hm : PySem.W.mroIn K cBadHouses (.type "object") = some true)
    (sm_0 : PySem.W.subIn K (.ref cBadHouses) (.ref cTreeError) = some true)
    (kv_0 : PySem.W.kitOne K (.ref cBadHouses) (.type "ValueError") = some true)
    (ki_0_0 : PySem.W.kitOne K (.ref cBadHouses) (.ref cBadHouses) = some true)
    (ki_0_1 : PySem.W.kitOne K (.ref cBadHouses) (.ref cBadRoads) = some false)
    (ki_0_2 : PySem.W.kitOne K (.ref cBadHouses) (.ref cBadHouse) = some false)
    (ki_0_3 : PySem.W.kitOne K (.ref cBadHouses) (.ref cBadWord) = some false)
    (ki_0_4 : PySem.W.kitOne K (.ref cBadHouses) (.ref cBadNumber) = some false)
    (ki_0_5 : PySem.W.kitOne K (.ref cBadHouses) (.ref cBadCounts) = some false)
    (ki_0_6 : PySem.W.kitOne K (.ref cBadHouses) (.ref cNoTree) = some false)
    (ec_1_hg : PySem.W.findIn K (.ref cBadRoads) "__getattribute__" = some (some (.builtin "BaseException.__getattribute__")))
    (ec_1_hk : PySem.W.findIn K (.ref cBadRoads) "__getattr__" = some none)
    (ec_1_hd : PySem.W.hasDictIn K cBadRoads = true)
    (ec_1_ha : PySem.W.findIn K (.ref cBadRoads) "__class__" = some (some (.builtin "object.__class__")))
    (ec_1_hm : PySem.W.mroIn K cBadRoads (.type "object") = some true)
    (sm_1 : PySem.W.subIn K (.ref cBadRoads) (.ref cTreeError) = some true)
    (kv_1 : PySem.W.kitOne K (.ref cBadRoads) (.type "ValueError") = some true)
    (ki_1_0 : PySem.W.kitOne K (.ref cBadRoads) (.ref cBadHouses) = some false)
    (ki_1_1 : PySem.W.kitOne K (.ref cBadRoads) (.ref cBadRoads) = some true)
    (ki_1_2 : PySem.W.kitOne K (.ref cBadRoads) (.ref cBadHouse) = some false)
    (ki_1_3 : PySem.W.kitOne K (.ref cBadRoads) (.ref cBadWord) = some false)
    (ki_1_4 : PySem.W.kitOne K (.ref cBadRoads) (.ref cBadNumber) = some false)
    (ki_1_5 : PySem.W.kitOne K (.ref cBadRoads) (.ref cBadCounts) = some false)
    (ki_1_6 : PySem.W.kitOne K (.ref cBadRoads) (.ref cNoTree) = some false)
    (ec_2_hg : PySem.W.findIn K (.ref cBadHouse) "__getattribute__" = some (some (.builtin "BaseException.__getattribute__")))
    (ec_2_hk : PySem.W.findIn K (.ref cBadHouse) "__getattr__" = some none)
    (ec_2_hd : PySem.W.hasDictIn K cBadHouse = true)
    (ec_2_ha : PySem.W.findIn K (.ref cBadHouse) "__class__" = some (some (.builtin "object.__class__")))
    (ec_2_hm : PySem.W.mroIn K cBadHouse (.type "object") = some true)
    (sm_2 : PySem.W.subIn K (.ref cBadHouse) (.ref cTreeError) = some true)
    (kv_2 : PySem.W.kitOne K (.ref cBadHouse) (.type "ValueError") = some true)
    (ki_2_0 : PySem.W.kitOne K (.ref cBadHouse) (.ref cBadHouses) = some false)
    (ki_2_1 : PySem.W.kitOne K (.ref cBadHouse) (.ref cBadRoads) = some false)
    (ki_2_2 : PySem.W.kitOne K (.ref cBadHouse) (.ref cBadHouse) = some true)
    (ki_2_3 : PySem.W.kitOne K (.ref cBadHouse) (.ref cBadWord) = some false)
    (ki_2_4 : PySem.W.kitOne K (.ref cBadHouse) (.ref cBadNumber) = some false)
    (ki_2_5 : PySem.W.kitOne K (.ref cBadHouse) (.ref cBadCounts) = some false)
    (ki_2_6 : PySem.W.kitOne K (.ref cBadHouse) (.ref cNoTree) = some false)
    (ec_3_hg : PySem.W.findIn K (.ref cBadWord) "__getattribute__" = some (some (.builtin "BaseException.__getattribute__")))
    (ec_3_hk : PySem.W.findIn K (.ref cBadWord) "__getattr__" = some none)
    (ec_3_hd : PySem.W.hasDictIn K cBadWord = true)
    (ec_3_ha : PySem.W.findIn K (.ref cBadWord) "__class__" = some (some (.builtin "object.__class__")))
    (ec_3_hm : PySem.W.mroIn K cBadWord (.type "object") = some true)
    (sm_3 : PySem.W.subIn K (.ref cBadWord) (.ref cTreeError) = some true)
    (kv_3 : PySem.W.kitOne K (.ref cBadWord) (.type "ValueError") = some true)
    (ki_3_0 : PySem.W.kitOne K (.ref cBadWord) (.ref cBadHouses) = some false)
    (ki_3_1 : PySem.W.kitOne K (.ref cBadWord) (.ref cBadRoads) = some false)
    (ki_3_2 : PySem.W.kitOne K (.ref cBadWord) (.ref cBadHouse) = some false)
    (ki_3_3 : PySem.W.kitOne K (.ref cBadWord) (.ref cBadWord) = some true)
    (ki_3_4 : PySem.W.kitOne K (.ref cBadWord) (.ref cBadNumber) = some false)
    (ki_3_5 : PySem.W.kitOne K (.ref cBadWord) (.ref cBadCounts) = some false)
    (ki_3_6 : PySem.W.kitOne K (.ref cBadWord) (.ref cNoTree) = some false)
    (ec_4_hg : PySem.W.findIn K (.ref cBadNumber) "__getattribute__" = some (some (.builtin "BaseException.__getattribute__")))
    (ec_4_hk : PySem.W.findIn K (.ref cBadNumber) "__getattr__" = some none)
    (ec_4_hd : PySem.W.hasDictIn K cBadNumber = true)
    (ec_4_ha : PySem.W.findIn K (.ref cBadNumber) "__class__" = some (some (.builtin "object.__class__")))
    (ec_4_hm : PySem.W.mroIn K cBadNumber (.type "object") = some true)
    (sm_4 : PySem.W.subIn K (.ref cBadNumber) (.ref cTreeError) = some true)
    (kv_4 : PySem.W.kitOne K (.ref cBadNumber) (.type "ValueError") = some true)
    (ki_4_0 : PySem.W.kitOne K (.ref cBadNumber) (.ref cBadHouses) = some false)
    (ki_4_1 : PySem.W.kitOne K (.ref cBadNumber) (.ref cBadRoads) = some false)
    (ki_4_2 : PySem.W.kitOne K (.ref cBadNumber) (.ref cBadHouse) = some false)
    (ki_4_3 : PySem.W.kitOne K (.ref cBadNumber) (.ref cBadWord) = some false)
    (ki_4_4 : PySem.W.kitOne K (.ref cBadNumber) (.ref cBadNumber) = some true)
    (ki_4_5 : PySem.W.kitOne K (.ref cBadNumber) (.ref cBadCounts) = some false)
    (ki_4_6 : PySem.W.kitOne K (.ref cBadNumber) (.ref cNoTree) = some false)
    (ec_5_hg : PySem.W.findIn K (.ref cBadCounts) "__getattribute__" = some (some (.builtin "BaseException.__getattribute__")))
    (ec_5_hk : PySem.W.findIn K (.ref cBadCounts) "__getattr__" = some none)
    (ec_5_hd : PySem.W.hasDictIn K cBadCounts = true)
    (ec_5_ha : PySem.W.findIn K (.ref cBadCounts) "__class__" = some (some (.builtin "object.__class__")))
    (ec_5_hm : PySem.W.mroIn K cBadCounts (.type "object") = some true)
    (sm_5 : PySem.W.subIn K (.ref cBadCounts) (.ref cTreeError) = some true)
    (kv_5 : PySem.W.kitOne K (.ref cBadCounts) (.type "ValueError") = some true)
    (ki_5_0 : PySem.W.kitOne K (.ref cBadCounts) (.ref cBadHouses) = some false)
    (ki_5_1 : PySem.W.kitOne K (.ref cBadCounts) (.ref cBadRoads) = some false)
    (ki_5_2 : PySem.W.kitOne K (.ref cBadCounts) (.ref cBadHouse) = some false)
    (ki_5_3 : PySem.W.kitOne K (.ref cBadCounts) (.ref cBadWord) = some false)
    (ki_5_4 : PySem.W.kitOne K (.ref cBadCounts) (.ref cBadNumber) = some false)
    (ki_5_5 : PySem.W.kitOne K (.ref cBadCounts) (.ref cBadCounts) = some true)
    (ki_5_6 : PySem.W.kitOne K (.ref cBadCounts) (.ref cNoTree) = some false)
    (ec_6_hg : PySem.W.findIn K (.ref cNoTree) "__getattribute__" = some (some (.builtin "BaseException.__getattribute__")))
    (ec_6_hk : PySem.W.findIn K (.ref cNoTree) "__getattr__" = some none)
    (ec_6_hd : PySem.W.hasDictIn K cNoTree = true)
    (ec_6_ha : PySem.W.findIn K (.ref cNoTree) "__class__" = some (some (.builtin "object.__class__")))
    (ec_6_hm : PySem.W.mroIn K cNoTree (.type "object") = some true)
    (sm_6 : PySem.W.subIn K (.ref cNoTree) (.ref cTreeError) = some true)
    (kv_6 : PySem.W.kitOne K (.ref cNoTree) (.type "ValueError") = some true)
    (ki_6_0 : PySem.W.kitOne K (.ref cNoTree) (.ref cBadHouses) = some false)
    (ki_6_1 : PySem.W.kitOne K (.ref cNoTree) (.ref cBadRoads) = some false)
    (ki_6_2 : PySem.W.kitOne K (.ref cNoTree) (.ref cBadHouse) = some false)
    (ki_6_3 : PySem.W.kitOne K (.ref cNoTree) (.ref cBadWord) = some false)
    (ki_6_4 : PySem.W.kitOne K (.ref cNoTree) (.ref cBadNumber) = some false)
    (ki_6_5 : PySem.W.kitOne K (.ref cNoTree) (.ref cBadCounts) = some false)
    (ki_6_6 : PySem.W.kitOne K (.ref cNoTree) (.ref cNoTree) = some true)
    (hd_TreeError : PySem.W.hasDictIn K cTreeError = true)
    : ClsOk K mg ⟨cTreeError, cBadHouses, cBadRoads, cBadHouse, cBadWord, cBadNumber, cBadCounts, cNoTree⟩ :=
  ⟨PySem.W.mg_of X G g_TreeError, PySem.W.mg_of X G g_BadHouses, PySem.W.mg_of X G g_BadRoads, PySem.W.mg_of X G g_BadHouse, PySem.W.mg_of X G g_BadWord, PySem.W.mg_of X G g_BadNumber, PySem.W.mg_of X G g_BadCounts, PySem.W.mg_of X G g_NoTree, kc_TreeError, bc_TreeError, tc_TreeError, kc_BadHouses, bc_BadHouses, tc_BadHouses, x_BadHouses, kc_BadRoads, bc_BadRoads, tc_BadRoads, x_BadRoads, kc_BadHouse, bc_BadHouse, tc_BadHouse, x_BadHouse, kc_BadWord, bc_BadWord, tc_BadWord, x_BadWord, kc_BadNumber, bc_BadNumber, tc_BadNumber, x_BadNumber, kc_BadCounts, bc_BadCounts, tc_BadCounts, x_BadCounts, kc_NoTree, bc_NoTree, tc_NoTree, x_NoTree, ⟨ec_0_hg, ec_0_hk, bc_BadHouses, ec_0_hd, ec_0_ha, ehn, eht, ec_0_hm⟩, sm_0, kv_0, ki_0_0, ki_0_1, ki_0_2, ki_0_3, ki_0_4, ki_0_5, ki_0_6, ⟨ec_1_hg, ec_1_hk, bc_BadRoads, ec_1_hd, ec_1_ha, ehn, eht, ec_1_hm⟩, sm_1, kv_1, ki_1_0, ki_1_1, ki_1_2, ki_1_3, ki_1_4, ki_1_5, ki_1_6, ⟨ec_2_hg, ec_2_hk, bc_BadHouse, ec_2_hd, ec_2_ha, ehn, eht, ec_2_hm⟩, sm_2, kv_2, ki_2_0, ki_2_1, ki_2_2, ki_2_3, ki_2_4, ki_2_5, ki_2_6, ⟨ec_3_hg, ec_3_hk, bc_BadWord, ec_3_hd, ec_3_ha, ehn, eht, ec_3_hm⟩, sm_3, kv_3, ki_3_0, ki_3_1, ki_3_2, ki_3_3, ki_3_4, ki_3_5, ki_3_6, ⟨ec_4_hg, ec_4_hk, bc_BadNumber, ec_4_hd, ec_4_ha, ehn, eht, ec_4_hm⟩, sm_4, kv_4, ki_4_0, ki_4_1, ki_4_2, ki_4_3, ki_4_4, ki_4_5, ki_4_6, ⟨ec_5_hg, ec_5_hk, bc_BadCounts, ec_5_hd, ec_5_ha, ehn, eht, ec_5_hm⟩, sm_5, kv_5, ki_5_0, ki_5_1, ki_5_2, ki_5_3, ki_5_4, ki_5_5, ki_5_6, ⟨ec_6_hg, ec_6_hk, bc_NoTree, ec_6_hd, ec_6_ha, ehn, eht, ec_6_hm⟩, sm_6, kv_6, ki_6_0, ki_6_1, ki_6_2, ki_6_3, ki_6_4, ki_6_5, ki_6_6, hd_TreeError⟩
structure BltOk (K : PySem.W.Frag) (mg : Str → Option Value) : Prop where
  z_isinstance : mg "isinstance" = none
  z_int : mg "int" = none
  z_bool : mg "bool" = none
  z_list : mg "list" = none
  z_tuple : mg "tuple" = none
  z_str : mg "str" = none
  z_len : mg "len" = none
  z_set : mg "set" = none
  z_range : mg "range" = none
  z_all : mg "all" = none
  z_any : mg "any" = none
  z_min : mg "min" = none
  z_max : mg "max" = none
  z_sum : mg "sum" = none
  z_sorted : mg "sorted" = none
  z_enumerate : mg "enumerate" = none
  z_abs : mg "abs" = none
  z_zip : mg "zip" = none
  z_ValueError : mg "ValueError" = none
  g_MOST : ∃ t, mg "MOST_HOUSES" = some (.int 200 t)
theorem mk_blt {K : PySem.W.Frag} {h : Heap} {mg : Str → Option Value} {t : Tok} (X : K.In h) (G : h.Ns mainGlobals mg) (z_isinstance : PySem.W.nsIn K mainGlobals "isinstance" = some none) (z_int : PySem.W.nsIn K mainGlobals "int" = some none) (z_bool : PySem.W.nsIn K mainGlobals "bool" = some none) (z_list : PySem.W.nsIn K mainGlobals "list" = some none) (z_tuple : PySem.W.nsIn K mainGlobals "tuple" = some none) (z_str : PySem.W.nsIn K mainGlobals "str" = some none) (z_len : PySem.W.nsIn K mainGlobals "len" = some none) (z_set : PySem.W.nsIn K mainGlobals "set" = some none) (z_range : PySem.W.nsIn K mainGlobals "range" = some none) (z_all : PySem.W.nsIn K mainGlobals "all" = some none) (z_any : PySem.W.nsIn K mainGlobals "any" = some none) (z_min : PySem.W.nsIn K mainGlobals "min" = some none) (z_max : PySem.W.nsIn K mainGlobals "max" = some none) (z_sum : PySem.W.nsIn K mainGlobals "sum" = some none) (z_sorted : PySem.W.nsIn K mainGlobals "sorted" = some none) (z_enumerate : PySem.W.nsIn K mainGlobals "enumerate" = some none) (z_abs : PySem.W.nsIn K mainGlobals "abs" = some none) (z_zip : PySem.W.nsIn K mainGlobals "zip" = some none) (z_ValueError : PySem.W.nsIn K mainGlobals "ValueError" = some none) (gm : PySem.W.nsIn K mainGlobals "MOST_HOUSES" = some (some (.int 200 t))) : BltOk K mg :=
  ⟨PySem.W.mg_none_of X G z_isinstance, PySem.W.mg_none_of X G z_int, PySem.W.mg_none_of X G z_bool, PySem.W.mg_none_of X G z_list, PySem.W.mg_none_of X G z_tuple, PySem.W.mg_none_of X G z_str, PySem.W.mg_none_of X G z_len, PySem.W.mg_none_of X G z_set, PySem.W.mg_none_of X G z_range, PySem.W.mg_none_of X G z_all, PySem.W.mg_none_of X G z_any, PySem.W.mg_none_of X G z_min, PySem.W.mg_none_of X G z_max, PySem.W.mg_none_of X G z_sum, PySem.W.mg_none_of X G z_sorted, PySem.W.mg_none_of X G z_enumerate, PySem.W.mg_none_of X G z_abs, PySem.W.mg_none_of X G z_zip, PySem.W.mg_none_of X G z_ValueError, t, PySem.W.mg_of X G gm⟩
theorem fin {l : PySem.W.OpenLaw} {w : World} {K : PySem.W.Frag} {mg : Str → Option Value} {fa : Addr} (hfa : mg "law" = some (.ref fa)) (d_is_number : DefOk K mg "is_number" s_is_number ["thing", "least", "most"]) (d_check_houses : DefOk K mg "check_houses" s_check_houses ["houses"]) (d_is_road : DefOk K mg "is_road" s_is_road ["thing", "houses"]) (d_check_roads : DefOk K mg "check_roads" s_check_roads ["houses", "roads"]) (d_neighbours_of : DefOk K mg "neighbours_of" s_neighbours_of ["houses", "roads"]) (d_came_from : DefOk K mg "came_from" s_came_from ["houses", "roads", "begin"]) (d_way_by : DefOk K mg "way_by" s_way_by ["ahead", "house"]) (d_is_tree : DefOk K mg "is_tree" s_is_tree ["houses", "roads"]) (d_road_of : DefOk K mg "road_of" s_road_of ["one", "other"]) (d_letters_of : DefOk K mg "letters_of" s_letters_of ["houses", "roads"]) (d_roads_of : DefOk K mg "roads_of" s_roads_of ["houses", "word"]) (d_check_tree : DefOk K mg "check_tree" s_check_tree ["houses", "roads"]) (d_word_of : DefOk K mg "word_of" s_word_of ["houses", "roads"]) (d_tree_of : DefOk K mg "tree_of" s_tree_of ["houses", "word"]) (d_way : DefOk K mg "way" s_way ["houses", "roads", "one", "other"]) (d_many_words : DefOk K mg "many_words" s_many_words ["houses"]) (d_trees : DefOk K mg "trees" s_trees ["houses"]) (d_check_number : DefOk K mg "check_number" s_check_number ["number", "many"]) (d_tree_by : DefOk K mg "tree_by" s_tree_by ["houses", "number"]) (d_number_of : DefOk K mg "number_of" s_number_of ["houses", "roads"]) (d_ways_of : DefOk K mg "ways_of" s_ways_of ["counts"]) (d_stands_of : DefOk K mg "stands_of" s_stands_of ["counts"]) (d_trees_with : DefOk K mg "trees_with" s_trees_with ["counts"]) (d_first_of : DefOk K mg "first_of" s_first_of ["left", "number"]) (d_tree_with : DefOk K mg "tree_with" s_tree_with ["counts", "number"]) (d_number_with : DefOk K mg "number_with" s_number_with ["houses", "roads"]) (d_told : DefOk K mg "told" s_told ["houses", "roads"]) (d_led : DefOk K mg "led" s_led ["houses", "roads", "others"]) (d__law_with_houses : DefOk K mg "_law_with_houses" s__law_with_houses ["_law_door", "_law_thing"]) (d__law_with_roads : DefOk K mg "_law_with_roads" s__law_with_roads ["_law_door", "_law_thing"]) (d__law_with_no_tree : DefOk K mg "_law_with_no_tree" s__law_with_no_tree ["_law_door", "_law_thing"]) (d__law_with_others : DefOk K mg "_law_with_others" s__law_with_others ["_law_door", "_law_thing"]) (d__law_bad_houses : DefOk K mg "_law_bad_houses" s__law_bad_houses ["_law_cell"]) (d__law_bad_roads : DefOk K mg "_law_bad_roads" s__law_bad_roads ["_law_cell"]) (d__law_no_trees : DefOk K mg "_law_no_trees" s__law_no_trees ["_law_cell"]) (d__law_bad_house : DefOk K mg "_law_bad_house" s__law_bad_house ["_law_cell"]) (d__law_bad_words : DefOk K mg "_law_bad_words" s__law_bad_words ["_law_cell"]) (d__law_bad_numbers : DefOk K mg "_law_bad_numbers" s__law_bad_numbers ["_law_cell"]) (d__law_bad_counts : DefOk K mg "_law_bad_counts" s__law_bad_counts ["_law_cell"]) (d__law_due : DefOk K mg "_law_due" s__law_due ["_law_ask", "_law_door", "_law_thing", "_law_due_here"]) (d_law : LawOk K mg) (hc : ∃ c, ClsOk K mg c) (hz : BltOk K mg) :
    ∃ fd : FuncData, (∀ (s : Shared) (u : Value), BindsTo s fd ⟨[u], []⟩ [("_law_script", u)]) ∧ ∀ base : Heap, K.In base → base.Ns mainGlobals mg → FnOk l.prog w K mg base CX0 9 fa fd ["_law_script"] (sp_law K) := by
  obtain ⟨c, hc⟩ := hc
  obtain ⟨tm, gm⟩ := hz.g_MOST
  obtain ⟨a_is_number, fd_is_number, f_is_number, b_is_number, g_is_number, k_is_number⟩ := d_is_number
  obtain ⟨a_check_houses, fd_check_houses, f_check_houses, b_check_houses, g_check_houses, k_check_houses⟩ := d_check_houses
  obtain ⟨a_is_road, fd_is_road, f_is_road, b_is_road, g_is_road, k_is_road⟩ := d_is_road
  obtain ⟨a_check_roads, fd_check_roads, f_check_roads, b_check_roads, g_check_roads, k_check_roads⟩ := d_check_roads
  obtain ⟨a_neighbours_of, fd_neighbours_of, f_neighbours_of, b_neighbours_of, g_neighbours_of, k_neighbours_of⟩ := d_neighbours_of
  obtain ⟨a_came_from, fd_came_from, f_came_from, b_came_from, g_came_from, k_came_from⟩ := d_came_from
  obtain ⟨a_way_by, fd_way_by, f_way_by, b_way_by, g_way_by, k_way_by⟩ := d_way_by
  obtain ⟨a_is_tree, fd_is_tree, f_is_tree, b_is_tree, g_is_tree, k_is_tree⟩ := d_is_tree
  obtain ⟨a_road_of, fd_road_of, f_road_of, b_road_of, g_road_of, k_road_of⟩ := d_road_of
  obtain ⟨a_letters_of, fd_letters_of, f_letters_of, b_letters_of, g_letters_of, k_letters_of⟩ := d_letters_of
  obtain ⟨a_roads_of, fd_roads_of, f_roads_of, b_roads_of, g_roads_of, k_roads_of⟩ := d_roads_of
  obtain ⟨a_check_tree, fd_check_tree, f_check_tree, b_check_tree, g_check_tree, k_check_tree⟩ := d_check_tree
  obtain ⟨a_word_of, fd_word_of, f_word_of, b_word_of, g_word_of, k_word_of⟩ := d_word_of
  obtain ⟨a_tree_of, fd_tree_of, f_tree_of, b_tree_of, g_tree_of, k_tree_of⟩ := d_tree_of
  obtain ⟨a_way, fd_way, f_way, b_way, g_way, k_way⟩ := d_way
  obtain ⟨a_many_words, fd_many_words, f_many_words, b_many_words, g_many_words, k_many_words⟩ := d_many_words
  obtain ⟨a_trees, fd_trees, f_trees, b_trees, g_trees, k_trees⟩ := d_trees
  obtain ⟨a_check_number, fd_check_number, f_check_number, b_check_number, g_check_number, k_check_number⟩ := d_check_number
  obtain ⟨a_tree_by, fd_tree_by, f_tree_by, b_tree_by, g_tree_by, k_tree_by⟩ := d_tree_by
  obtain ⟨a_number_of, fd_number_of, f_number_of, b_number_of, g_number_of, k_number_of⟩ := d_number_of
  obtain ⟨a_ways_of, fd_ways_of, f_ways_of, b_ways_of, g_ways_of, k_ways_of⟩ := d_ways_of
  obtain ⟨a_stands_of, fd_stands_of, f_stands_of, b_stands_of, g_stands_of, k_stands_of⟩ := d_stands_of
  obtain ⟨a_trees_with, fd_trees_with, f_trees_with, b_trees_with, g_trees_with, k_trees_with⟩ := d_trees_with
  obtain ⟨a_first_of, fd_first_of, f_first_of, b_first_of, g_first_of, k_first_of⟩ := d_first_of
  obtain ⟨a_tree_with, fd_tree_with, f_tree_with, b_tree_with, g_tree_with, k_tree_with⟩ := d_tree_with
  obtain ⟨a_number_with, fd_number_with, f_number_with, b_number_with, g_number_with, k_number_with⟩ := d_number_with
  obtain ⟨a_told, fd_told, f_told, b_told, g_told, k_told⟩ := d_told
  obtain ⟨a_led, fd_led, f_led, b_led, g_led, k_led⟩ := d_led
  obtain ⟨a__law_with_houses, fd__law_with_houses, f__law_with_houses, b__law_with_houses, g__law_with_houses, k__law_with_houses⟩ := d__law_with_houses
  obtain ⟨a__law_with_roads, fd__law_with_roads, f__law_with_roads, b__law_with_roads, g__law_with_roads, k__law_with_roads⟩ := d__law_with_roads
  obtain ⟨a__law_with_no_tree, fd__law_with_no_tree, f__law_with_no_tree, b__law_with_no_tree, g__law_with_no_tree, k__law_with_no_tree⟩ := d__law_with_no_tree
  obtain ⟨a__law_with_others, fd__law_with_others, f__law_with_others, b__law_with_others, g__law_with_others, k__law_with_others⟩ := d__law_with_others
  obtain ⟨a__law_bad_houses, fd__law_bad_houses, f__law_bad_houses, b__law_bad_houses, g__law_bad_houses, k__law_bad_houses⟩ := d__law_bad_houses
  obtain ⟨a__law_bad_roads, fd__law_bad_roads, f__law_bad_roads, b__law_bad_roads, g__law_bad_roads, k__law_bad_roads⟩ := d__law_bad_roads
  obtain ⟨a__law_no_trees, fd__law_no_trees, f__law_no_trees, b__law_no_trees, g__law_no_trees, k__law_no_trees⟩ := d__law_no_trees
  obtain ⟨a__law_bad_house, fd__law_bad_house, f__law_bad_house, b__law_bad_house, g__law_bad_house, k__law_bad_house⟩ := d__law_bad_house
  obtain ⟨a__law_bad_words, fd__law_bad_words, f__law_bad_words, b__law_bad_words, g__law_bad_words, k__law_bad_words⟩ := d__law_bad_words
  obtain ⟨a__law_bad_numbers, fd__law_bad_numbers, f__law_bad_numbers, b__law_bad_numbers, g__law_bad_numbers, k__law_bad_numbers⟩ := d__law_bad_numbers
  obtain ⟨a__law_bad_counts, fd__law_bad_counts, f__law_bad_counts, b__law_bad_counts, g__law_bad_counts, k__law_bad_counts⟩ := d__law_bad_counts
  obtain ⟨a__law_due, fd__law_due, f__law_due, b__law_due, g__law_due, k__law_due⟩ := d__law_due
  obtain ⟨a_law, fd_law, f_law, b_law, g_law, k_law, bt⟩ := d_law
  let T : TX K mg c := {
    a_is_number := a_is_number, fd_is_number := fd_is_number, f_is_number := f_is_number, b_is_number := b_is_number, g_is_number := g_is_number, k_is_number := k_is_number
    a_check_houses := a_check_houses, fd_check_houses := fd_check_houses, f_check_houses := f_check_houses, b_check_houses := b_check_houses, g_check_houses := g_check_houses, k_check_houses := k_check_houses
    a_is_road := a_is_road, fd_is_road := fd_is_road, f_is_road := f_is_road, b_is_road := b_is_road, g_is_road := g_is_road, k_is_road := k_is_road
    a_check_roads := a_check_roads, fd_check_roads := fd_check_roads, f_check_roads := f_check_roads, b_check_roads := b_check_roads, g_check_roads := g_check_roads, k_check_roads := k_check_roads
    a_neighbours_of := a_neighbours_of, fd_neighbours_of := fd_neighbours_of, f_neighbours_of := f_neighbours_of, b_neighbours_of := b_neighbours_of, g_neighbours_of := g_neighbours_of, k_neighbours_of := k_neighbours_of
    a_came_from := a_came_from, fd_came_from := fd_came_from, f_came_from := f_came_from, b_came_from := b_came_from, g_came_from := g_came_from, k_came_from := k_came_from
    a_way_by := a_way_by, fd_way_by := fd_way_by, f_way_by := f_way_by, b_way_by := b_way_by, g_way_by := g_way_by, k_way_by := k_way_by
    a_is_tree := a_is_tree, fd_is_tree := fd_is_tree, f_is_tree := f_is_tree, b_is_tree := b_is_tree, g_is_tree := g_is_tree, k_is_tree := k_is_tree
    a_road_of := a_road_of, fd_road_of := fd_road_of, f_road_of := f_road_of, b_road_of := b_road_of, g_road_of := g_road_of, k_road_of := k_road_of
    a_letters_of := a_letters_of, fd_letters_of := fd_letters_of, f_letters_of := f_letters_of, b_letters_of := b_letters_of, g_letters_of := g_letters_of, k_letters_of := k_letters_of
    a_roads_of := a_roads_of, fd_roads_of := fd_roads_of, f_roads_of := f_roads_of, b_roads_of := b_roads_of, g_roads_of := g_roads_of, k_roads_of := k_roads_of
    a_check_tree := a_check_tree, fd_check_tree := fd_check_tree, f_check_tree := f_check_tree, b_check_tree := b_check_tree, g_check_tree := g_check_tree, k_check_tree := k_check_tree
    a_word_of := a_word_of, fd_word_of := fd_word_of, f_word_of := f_word_of, b_word_of := b_word_of, g_word_of := g_word_of, k_word_of := k_word_of
    a_tree_of := a_tree_of, fd_tree_of := fd_tree_of, f_tree_of := f_tree_of, b_tree_of := b_tree_of, g_tree_of := g_tree_of, k_tree_of := k_tree_of
    a_way := a_way, fd_way := fd_way, f_way := f_way, b_way := b_way, g_way := g_way, k_way := k_way
    a_many_words := a_many_words, fd_many_words := fd_many_words, f_many_words := f_many_words, b_many_words := b_many_words, g_many_words := g_many_words, k_many_words := k_many_words
    a_trees := a_trees, fd_trees := fd_trees, f_trees := f_trees, b_trees := b_trees, g_trees := g_trees, k_trees := k_trees
    a_check_number := a_check_number, fd_check_number := fd_check_number, f_check_number := f_check_number, b_check_number := b_check_number, g_check_number := g_check_number, k_check_number := k_check_number
    a_tree_by := a_tree_by, fd_tree_by := fd_tree_by, f_tree_by := f_tree_by, b_tree_by := b_tree_by, g_tree_by := g_tree_by, k_tree_by := k_tree_by
    a_number_of := a_number_of, fd_number_of := fd_number_of, f_number_of := f_number_of, b_number_of := b_number_of, g_number_of := g_number_of, k_number_of := k_number_of
    a_ways_of := a_ways_of, fd_ways_of := fd_ways_of, f_ways_of := f_ways_of, b_ways_of := b_ways_of, g_ways_of := g_ways_of, k_ways_of := k_ways_of
    a_stands_of := a_stands_of, fd_stands_of := fd_stands_of, f_stands_of := f_stands_of, b_stands_of := b_stands_of, g_stands_of := g_stands_of, k_stands_of := k_stands_of
    a_trees_with := a_trees_with, fd_trees_with := fd_trees_with, f_trees_with := f_trees_with, b_trees_with := b_trees_with, g_trees_with := g_trees_with, k_trees_with := k_trees_with
    a_first_of := a_first_of, fd_first_of := fd_first_of, f_first_of := f_first_of, b_first_of := b_first_of, g_first_of := g_first_of, k_first_of := k_first_of
    a_tree_with := a_tree_with, fd_tree_with := fd_tree_with, f_tree_with := f_tree_with, b_tree_with := b_tree_with, g_tree_with := g_tree_with, k_tree_with := k_tree_with
    a_number_with := a_number_with, fd_number_with := fd_number_with, f_number_with := f_number_with, b_number_with := b_number_with, g_number_with := g_number_with, k_number_with := k_number_with
    a_told := a_told, fd_told := fd_told, f_told := f_told, b_told := b_told, g_told := g_told, k_told := k_told
    a_led := a_led, fd_led := fd_led, f_led := f_led, b_led := b_led, g_led := g_led, k_led := k_led
    a__law_with_houses := a__law_with_houses, fd__law_with_houses := fd__law_with_houses, f__law_with_houses := f__law_with_houses, b__law_with_houses := b__law_with_houses, g__law_with_houses := g__law_with_houses, k__law_with_houses := k__law_with_houses
    a__law_with_roads := a__law_with_roads, fd__law_with_roads := fd__law_with_roads, f__law_with_roads := f__law_with_roads, b__law_with_roads := b__law_with_roads, g__law_with_roads := g__law_with_roads, k__law_with_roads := k__law_with_roads
    a__law_with_no_tree := a__law_with_no_tree, fd__law_with_no_tree := fd__law_with_no_tree, f__law_with_no_tree := f__law_with_no_tree, b__law_with_no_tree := b__law_with_no_tree, g__law_with_no_tree := g__law_with_no_tree, k__law_with_no_tree := k__law_with_no_tree
    a__law_with_others := a__law_with_others, fd__law_with_others := fd__law_with_others, f__law_with_others := f__law_with_others, b__law_with_others := b__law_with_others, g__law_with_others := g__law_with_others, k__law_with_others := k__law_with_others
    a__law_bad_houses := a__law_bad_houses, fd__law_bad_houses := fd__law_bad_houses, f__law_bad_houses := f__law_bad_houses, b__law_bad_houses := b__law_bad_houses, g__law_bad_houses := g__law_bad_houses, k__law_bad_houses := k__law_bad_houses
    a__law_bad_roads := a__law_bad_roads, fd__law_bad_roads := fd__law_bad_roads, f__law_bad_roads := f__law_bad_roads, b__law_bad_roads := b__law_bad_roads, g__law_bad_roads := g__law_bad_roads, k__law_bad_roads := k__law_bad_roads
    a__law_no_trees := a__law_no_trees, fd__law_no_trees := fd__law_no_trees, f__law_no_trees := f__law_no_trees, b__law_no_trees := b__law_no_trees, g__law_no_trees := g__law_no_trees, k__law_no_trees := k__law_no_trees
    a__law_bad_house := a__law_bad_house, fd__law_bad_house := fd__law_bad_house, f__law_bad_house := f__law_bad_house, b__law_bad_house := b__law_bad_house, g__law_bad_house := g__law_bad_house, k__law_bad_house := k__law_bad_house
    a__law_bad_words := a__law_bad_words, fd__law_bad_words := fd__law_bad_words, f__law_bad_words := f__law_bad_words, b__law_bad_words := b__law_bad_words, g__law_bad_words := g__law_bad_words, k__law_bad_words := k__law_bad_words
    a__law_bad_numbers := a__law_bad_numbers, fd__law_bad_numbers := fd__law_bad_numbers, f__law_bad_numbers := f__law_bad_numbers, b__law_bad_numbers := b__law_bad_numbers, g__law_bad_numbers := g__law_bad_numbers, k__law_bad_numbers := k__law_bad_numbers
    a__law_bad_counts := a__law_bad_counts, fd__law_bad_counts := fd__law_bad_counts, f__law_bad_counts := f__law_bad_counts, b__law_bad_counts := b__law_bad_counts, g__law_bad_counts := g__law_bad_counts, k__law_bad_counts := k__law_bad_counts
    a__law_due := a__law_due, fd__law_due := fd__law_due, f__law_due := f__law_due, b__law_due := b__law_due, g__law_due := g__law_due, k__law_due := k__law_due
    a_law := a_law, fd_law := fd_law, f_law := f_law, b_law := b_law, g_law := g_law, k_law := k_law
    z_isinstance := hz.z_isinstance
    z_int := hz.z_int
    z_bool := hz.z_bool
    z_list := hz.z_list
    z_tuple := hz.z_tuple
    z_str := hz.z_str
    z_len := hz.z_len
    z_set := hz.z_set
    z_range := hz.z_range
    z_all := hz.z_all
    z_any := hz.z_any
    z_min := hz.z_min
    z_max := hz.z_max
    z_sum := hz.z_sum
    z_sorted := hz.z_sorted
    z_enumerate := hz.z_enumerate
    z_abs := hz.z_abs
    z_zip := hz.z_zip
    z_ValueError := hz.z_ValueError
    t_MOST := tm, g_MOST := gm
    g_TreeError := hc.g_TreeError
    g_BadHouses := hc.g_BadHouses
    g_BadRoads := hc.g_BadRoads
    g_BadHouse := hc.g_BadHouse
    g_BadWord := hc.g_BadWord
    g_BadNumber := hc.g_BadNumber
    g_BadCounts := hc.g_BadCounts
    g_NoTree := hc.g_NoTree
    kc_TreeError := hc.kc_TreeError
    bc_TreeError := hc.bc_TreeError
    tc_TreeError := hc.tc_TreeError
    kc_BadHouses := hc.kc_BadHouses
    bc_BadHouses := hc.bc_BadHouses
    tc_BadHouses := hc.tc_BadHouses
    x_BadHouses := hc.x_BadHouses
    kc_BadRoads := hc.kc_BadRoads
    bc_BadRoads := hc.bc_BadRoads
    tc_BadRoads := hc.tc_BadRoads
    x_BadRoads := hc.x_BadRoads
    kc_BadHouse := hc.kc_BadHouse
    bc_BadHouse := hc.bc_BadHouse
    tc_BadHouse := hc.tc_BadHouse
    x_BadHouse := hc.x_BadHouse
    kc_BadWord := hc.kc_BadWord
    bc_BadWord := hc.bc_BadWord
    tc_BadWord := hc.tc_BadWord
    x_BadWord := hc.x_BadWord
    kc_BadNumber := hc.kc_BadNumber
    bc_BadNumber := hc.bc_BadNumber
    tc_BadNumber := hc.tc_BadNumber
    x_BadNumber := hc.x_BadNumber
    kc_BadCounts := hc.kc_BadCounts
    bc_BadCounts := hc.bc_BadCounts
    tc_BadCounts := hc.tc_BadCounts
    x_BadCounts := hc.x_BadCounts
    kc_NoTree := hc.kc_NoTree
    bc_NoTree := hc.bc_NoTree
    tc_NoTree := hc.tc_NoTree
    x_NoTree := hc.x_NoTree
    ec_0 := hc.ec_0
    sm_0 := hc.sm_0
    kv_0 := hc.kv_0
    ki_0_0 := hc.ki_0_0
    ki_0_1 := hc.ki_0_1
    ki_0_2 := hc.ki_0_2
    ki_0_3 := hc.ki_0_3
    ki_0_4 := hc.ki_0_4
    ki_0_5 := hc.ki_0_5
    ki_0_6 := hc.ki_0_6
    ec_1 := hc.ec_1
    sm_1 := hc.sm_1
    kv_1 := hc.kv_1
    ki_1_0 := hc.ki_1_0
    ki_1_1 := hc.ki_1_1
    ki_1_2 := hc.ki_1_2
    ki_1_3 := hc.ki_1_3
    ki_1_4 := hc.ki_1_4
    ki_1_5 := hc.ki_1_5
    ki_1_6 := hc.ki_1_6
    ec_2 := hc.ec_2
    sm_2 := hc.sm_2
    kv_2 := hc.kv_2
    ki_2_0 := hc.ki_2_0
    ki_2_1 := hc.ki_2_1
    ki_2_2 := hc.ki_2_2
    ki_2_3 := hc.ki_2_3
    ki_2_4 := hc.ki_2_4
    ki_2_5 := hc.ki_2_5
    ki_2_6 := hc.ki_2_6
    ec_3 := hc.ec_3
    sm_3 := hc.sm_3
    kv_3 := hc.kv_3
    ki_3_0 := hc.ki_3_0
    ki_3_1 := hc.ki_3_1
    ki_3_2 := hc.ki_3_2
    ki_3_3 := hc.ki_3_3
    ki_3_4 := hc.ki_3_4
    ki_3_5 := hc.ki_3_5
    ki_3_6 := hc.ki_3_6
    ec_4 := hc.ec_4
    sm_4 := hc.sm_4
    kv_4 := hc.kv_4
    ki_4_0 := hc.ki_4_0
    ki_4_1 := hc.ki_4_1
    ki_4_2 := hc.ki_4_2
    ki_4_3 := hc.ki_4_3
    ki_4_4 := hc.ki_4_4
    ki_4_5 := hc.ki_4_5
    ki_4_6 := hc.ki_4_6
    ec_5 := hc.ec_5
    sm_5 := hc.sm_5
    kv_5 := hc.kv_5
    ki_5_0 := hc.ki_5_0
    ki_5_1 := hc.ki_5_1
    ki_5_2 := hc.ki_5_2
    ki_5_3 := hc.ki_5_3
    ki_5_4 := hc.ki_5_4
    ki_5_5 := hc.ki_5_5
    ki_5_6 := hc.ki_5_6
    ec_6 := hc.ec_6
    sm_6 := hc.sm_6
    kv_6 := hc.kv_6
    ki_6_0 := hc.ki_6_0
    ki_6_1 := hc.ki_6_1
    ki_6_2 := hc.ki_6_2
    ki_6_3 := hc.ki_6_3
    ki_6_4 := hc.ki_6_4
    ki_6_5 := hc.ki_6_5
    ki_6_6 := hc.ki_6_6
    hd_TreeError := hc.hd_TreeError
  }
  have e := hfa.symm.trans g_law
  cases e
  exact ⟨fd_law, bt, fun base _ _ => ok_law T⟩
/-- the row's walk: 63 items -/
theorem walk_law {l : PySem.W.OpenLaw} {q : Program} {loose : List Str} {XP : (Str → Option Value) → Heap → Prop} {YP : World → Heap → Prop} {d : DefRec} {K : Params → PySem.W.Frag} (hn : l.most = some 63) (hdf : d.params.defaults = [])
    (hY : ∀ (w : World) (h : Heap), YP w h → (K w.params).In h)
    (F : ∀ (w : World) (mg : Str → Option Value) (fa : Addr) (h : Heap), (K w.params).In h → h.Ns mainGlobals mg → mg d.name = some (.ref fa) →
      ∃ fd : FuncData, (∀ (s : Shared) (u : Value), BindsTo s fd ⟨[u], []⟩ [("_law_script", u)]) ∧ ∀ base : Heap, (K w.params).In base → base.Ns mainGlobals mg → FnOk l.prog w (K w.params) mg base CX0 9 fa fd ["_law_script"] (sp_law (K w.params))) :
    PySem.W.WalkO q loose XP YP l.row.toRowW d [] (fun f vs => PySem.call f vs) :=
  L2.walk_of (n := 63) (k := 9) (x := "_law_script") (CX := fun _ => CX0) (sp := fun w => sp_law (K w.params)) hn (by decide) hdf ⟨rfl, by decide, by decide⟩ hY F (fun _ _ a ns hl _ hS => ⟨a, ns, rfl, hS, hl, fun _ => rfl⟩) fun _ _ _ _ _ z => z
end TW
open PySem PySem.W PyProof.Rows in
set_option maxRecDepth 100000 in
set_option maxHeartbeats 0 in
theorem PySem.Challenge.cw_treeword_k07_refused_holds : PySem.Challenge.rw_treeword_k07_refused.Holds := by
  w_on; o_law; k_head; (case hw => w_witness2)
  k_fill
  refine TW.walk_law (l := PySem.Challenge.rw_treeword_k07_refused) rfl rfl (fun w h Y => PySem.W.kIn_of Y) ?F
  case F =>
    intro w mg fa h KX G hmg
    refine' TW.fin hmg ?d_is_number ?d_check_houses ?d_is_road ?d_check_roads ?d_neighbours_of ?d_came_from ?d_way_by ?d_is_tree ?d_road_of ?d_letters_of ?d_roads_of ?d_check_tree ?d_word_of ?d_tree_of ?d_way ?d_many_words ?d_trees ?d_check_number ?d_tree_by ?d_number_of ?d_ways_of ?d_stands_of ?d_trees_with ?d_first_of ?d_tree_with ?d_number_with ?d_told ?d_led ?d__law_with_houses ?d__law_with_roads ?d__law_with_no_tree ?d__law_with_others ?d__law_bad_houses ?d__law_bad_roads ?d__law_no_trees ?d__law_bad_house ?d__law_bad_words ?d__law_bad_numbers ?d__law_bad_counts ?d__law_due ?d_law ?qcls ?qblt
    (case d_is_number => (refine' TW.mk_is_number KX G ?qa ?ql ?qc ?qk; (case qa => k_is); (case ql => k_is); (case qc => k_is); (case qk => k_is)))
    (case d_check_houses => (refine' TW.mk_check_houses KX G ?qa ?ql ?qc ?qk; (case qa => k_is); (case ql => k_is); (case qc => k_is); (case qk => k_is)))
    (case d_is_road => (refine' TW.mk_is_road KX G ?qa ?ql ?qc ?qk; (case qa => k_is); (case ql => k_is); (case qc => k_is); (case qk => k_is)))
    (case d_check_roads => (refine' TW.mk_check_roads KX G ?qa ?ql ?qc ?qk; (case qa => k_is); (case ql => k_is); (case qc => k_is); (case qk => k_is)))
    (case d_neighbours_of => (refine' TW.mk_neighbours_of KX G ?qa ?ql ?qc ?qk; (case qa => k_is); (case ql => k_is); (case qc => k_is); (case qk => k_is)))
    (case d_came_from => (refine' TW.mk_came_from KX G ?qa ?ql ?qc ?qk; (case qa => k_is); (case ql => k_is); (case qc => k_is); (case qk => k_is)))
    (case d_way_by => (refine' TW.mk_way_by KX G ?qa ?ql ?qc ?qk; (case qa => k_is); (case ql => k_is); (case qc => k_is); (case qk => k_is)))
    (case d_is_tree => (refine' TW.mk_is_tree KX G ?qa ?ql ?qc ?qk; (case qa => k_is); (case ql => k_is); (case qc => k_is); (case qk => k_is)))
    (case d_road_of => (refine' TW.mk_road_of KX G ?qa ?ql ?qc ?qk; (case qa => k_is); (case ql => k_is); (case qc => k_is); (case qk => k_is)))
    (case d_letters_of => (refine' TW.mk_letters_of KX G ?qa ?ql ?qc ?qk; (case qa => k_is); (case ql => k_is); (case qc => k_is); (case qk => k_is)))
    (case d_roads_of => (refine' TW.mk_roads_of KX G ?qa ?ql ?qc ?qk; (case qa => k_is); (case ql => k_is); (case qc => k_is); (case qk => k_is)))
    (case d_check_tree => (refine' TW.mk_check_tree KX G ?qa ?ql ?qc ?qk; (case qa => k_is); (case ql => k_is); (case qc => k_is); (case qk => k_is)))
    (case d_word_of => (refine' TW.mk_word_of KX G ?qa ?ql ?qc ?qk; (case qa => k_is); (case ql => k_is); (case qc => k_is); (case qk => k_is)))
    (case d_tree_of => (refine' TW.mk_tree_of KX G ?qa ?ql ?qc ?qk; (case qa => k_is); (case ql => k_is); (case qc => k_is); (case qk => k_is)))
    (case d_way => (refine' TW.mk_way KX G ?qa ?ql ?qc ?qk; (case qa => k_is); (case ql => k_is); (case qc => k_is); (case qk => k_is)))
    (case d_many_words => (refine' TW.mk_many_words KX G ?qa ?ql ?qc ?qk; (case qa => k_is); (case ql => k_is); (case qc => k_is); (case qk => k_is)))
    (case d_trees => (refine' TW.mk_trees KX G ?qa ?ql ?qc ?qk; (case qa => k_is); (case ql => k_is); (case qc => k_is); (case qk => k_is)))
    (case d_check_number => (refine' TW.mk_check_number KX G ?qa ?ql ?qc ?qk; (case qa => k_is); (case ql => k_is); (case qc => k_is); (case qk => k_is)))
    (case d_tree_by => (refine' TW.mk_tree_by KX G ?qa ?ql ?qc ?qk; (case qa => k_is); (case ql => k_is); (case qc => k_is); (case qk => k_is)))
    (case d_number_of => (refine' TW.mk_number_of KX G ?qa ?ql ?qc ?qk; (case qa => k_is); (case ql => k_is); (case qc => k_is); (case qk => k_is)))
    (case d_ways_of => (refine' TW.mk_ways_of KX G ?qa ?ql ?qc ?qk; (case qa => k_is); (case ql => k_is); (case qc => k_is); (case qk => k_is)))
    (case d_stands_of => (refine' TW.mk_stands_of KX G ?qa ?ql ?qc ?qk; (case qa => k_is); (case ql => k_is); (case qc => k_is); (case qk => k_is)))
    (case d_trees_with => (refine' TW.mk_trees_with KX G ?qa ?ql ?qc ?qk; (case qa => k_is); (case ql => k_is); (case qc => k_is); (case qk => k_is)))
    (case d_first_of => (refine' TW.mk_first_of KX G ?qa ?ql ?qc ?qk; (case qa => k_is); (case ql => k_is); (case qc => k_is); (case qk => k_is)))
    (case d_tree_with => (refine' TW.mk_tree_with KX G ?qa ?ql ?qc ?qk; (case qa => k_is); (case ql => k_is); (case qc => k_is); (case qk => k_is)))
    (case d_number_with => (refine' TW.mk_number_with KX G ?qa ?ql ?qc ?qk; (case qa => k_is); (case ql => k_is); (case qc => k_is); (case qk => k_is)))
    (case d_told => (refine' TW.mk_told KX G ?qa ?ql ?qc ?qk; (case qa => k_is); (case ql => k_is); (case qc => k_is); (case qk => k_is)))
    (case d_led => (refine' TW.mk_led KX G ?qa ?ql ?qc ?qk; (case qa => k_is); (case ql => k_is); (case qc => k_is); (case qk => k_is)))
    (case d__law_with_houses => (refine' TW.mk__law_with_houses KX G ?qa ?ql ?qc ?qk; (case qa => k_is); (case ql => k_is); (case qc => k_is); (case qk => k_is)))
    (case d__law_with_roads => (refine' TW.mk__law_with_roads KX G ?qa ?ql ?qc ?qk; (case qa => k_is); (case ql => k_is); (case qc => k_is); (case qk => k_is)))
    (case d__law_with_no_tree => (refine' TW.mk__law_with_no_tree KX G ?qa ?ql ?qc ?qk; (case qa => k_is); (case ql => k_is); (case qc => k_is); (case qk => k_is)))
    (case d__law_with_others => (refine' TW.mk__law_with_others KX G ?qa ?ql ?qc ?qk; (case qa => k_is); (case ql => k_is); (case qc => k_is); (case qk => k_is)))
    (case d__law_bad_houses => (refine' TW.mk__law_bad_houses KX G ?qa ?ql ?qc ?qk; (case qa => k_is); (case ql => k_is); (case qc => k_is); (case qk => k_is)))
    (case d__law_bad_roads => (refine' TW.mk__law_bad_roads KX G ?qa ?ql ?qc ?qk; (case qa => k_is); (case ql => k_is); (case qc => k_is); (case qk => k_is)))
    (case d__law_no_trees => (refine' TW.mk__law_no_trees KX G ?qa ?ql ?qc ?qk; (case qa => k_is); (case ql => k_is); (case qc => k_is); (case qk => k_is)))
    (case d__law_bad_house => (refine' TW.mk__law_bad_house KX G ?qa ?ql ?qc ?qk; (case qa => k_is); (case ql => k_is); (case qc => k_is); (case qk => k_is)))
    (case d__law_bad_words => (refine' TW.mk__law_bad_words KX G ?qa ?ql ?qc ?qk; (case qa => k_is); (case ql => k_is); (case qc => k_is); (case qk => k_is)))
    (case d__law_bad_numbers => (refine' TW.mk__law_bad_numbers KX G ?qa ?ql ?qc ?qk; (case qa => k_is); (case ql => k_is); (case qc => k_is); (case qk => k_is)))
    (case d__law_bad_counts => (refine' TW.mk__law_bad_counts KX G ?qa ?ql ?qc ?qk; (case qa => k_is); (case ql => k_is); (case qc => k_is); (case qk => k_is)))
    (case d__law_due => (refine' TW.mk__law_due KX G ?qa ?ql ?qc ?qk; (case qa => k_is); (case ql => k_is); (case qc => k_is); (case qk => k_is)))
    (case d_law => (refine' TW.mk_law KX G ?qa ?ql ?qc ?qk; (case qa => k_is); (case ql => k_is); (case qc => k_is); (case qk => k_is)))
    (case qcls =>
      refine' ⟨⟨_, _, _, _, _, _, _, _⟩, TW.mk_cls KX G ?q_g_TreeError ?q_g_BadHouses ?q_g_BadRoads ?q_g_BadHouse ?q_g_BadWord ?q_g_BadNumber ?q_g_BadCounts ?q_g_NoTree ?q_kc_TreeError ?q_bc_TreeError ?q_tc_TreeError ?q_kc_BadHouses ?q_bc_BadHouses ?q_tc_BadHouses ?q_x_BadHouses ?q_kc_BadRoads ?q_bc_BadRoads ?q_tc_BadRoads ?q_x_BadRoads ?q_kc_BadHouse ?q_bc_BadHouse ?q_tc_BadHouse ?q_x_BadHouse ?q_kc_BadWord ?q_bc_BadWord ?q_tc_BadWord ?q_x_BadWord ?q_kc_BadNumber ?q_bc_BadNumber ?q_tc_BadNumber ?q_x_BadNumber ?q_kc_BadCounts ?q_bc_BadCounts ?q_tc_BadCounts ?q_x_BadCounts ?q_kc_NoTree ?q_bc_NoTree ?q_tc_NoTree ?q_x_NoTree ?q_ec_0_hg ?q_ec_0_hk ?q_ec_0_hd ?q_ec_0_ha ?q_ehn ?q_eht ?q_ec_0_hm ?q_sm_0 ?q_kv_0 ?q_ki_0_0 ?q_ki_0_1 ?q_ki_0_2 ?q_ki_0_3 ?q_ki_0_4 ?q_ki_0_5 ?q_ki_0_6 ?q_ec_1_hg ?q_ec_1_hk ?q_ec_1_hd ?q_ec_1_ha ?q_ec_1_hm ?q_sm_1 ?q_kv_1 ?q_ki_1_0 ?q_ki_1_1 ?q_ki_1_2 ?q_ki_1_3 ?q_ki_1_4 ?q_ki_1_5 ?q_ki_1_6 ?q_ec_2_hg ?q_ec_2_hk ?q_ec_2_hd ?q_ec_2_ha ?q_ec_2_hm ?q_sm_2 ?q_kv_2 ?q_ki_2_0 ?q_ki_2_1 ?q_ki_2_2 ?q_ki_2_3 ?q_ki_2_4 ?q_ki_2_5 ?q_ki_2_6 ?q_ec_3_hg ?q_ec_3_hk ?q_ec_3_hd ?q_ec_3_ha ?q_ec_3_hm ?q_sm_3 ?q_kv_3 ?q_ki_3_0 ?q_ki_3_1 ?q_ki_3_2 ?q_ki_3_3 ?q_ki_3_4 ?q_ki_3_5 ?q_ki_3_6 ?q_ec_4_hg ?q_ec_4_hk ?q_ec_4_hd ?q_ec_4_ha ?q_ec_4_hm ?q_sm_4 ?q_kv_4 ?q_ki_4_0 ?q_ki_4_1 ?q_ki_4_2 ?q_ki_4_3 ?q_ki_4_4 ?q_ki_4_5 ?q_ki_4_6 ?q_ec_5_hg ?q_ec_5_hk ?q_ec_5_hd ?q_ec_5_ha ?q_ec_5_hm ?q_sm_5 ?q_kv_5 ?q_ki_5_0 ?q_ki_5_1 ?q_ki_5_2 ?q_ki_5_3 ?q_ki_5_4 ?q_ki_5_5 ?q_ki_5_6 ?q_ec_6_hg ?q_ec_6_hk ?q_ec_6_hd ?q_ec_6_ha ?q_ec_6_hm ?q_sm_6 ?q_kv_6 ?q_ki_6_0 ?q_ki_6_1 ?q_ki_6_2 ?q_ki_6_3 ?q_ki_6_4 ?q_ki_6_5 ?q_ki_6_6 ?q_hd_TreeError⟩
      (case q_g_TreeError => first | k_is | rfl)
      (case q_g_BadHouses => first | k_is | rfl)
      (case q_g_BadRoads => first | k_is | rfl)
      (case q_g_BadHouse => first | k_is | rfl)
      (case q_g_BadWord => first | k_is | rfl)
      (case q_g_BadNumber => first | k_is | rfl)
      (case q_g_BadCounts => first | k_is | rfl)
      (case q_g_NoTree => first | k_is | rfl)
      (case q_kc_TreeError => first | k_is | rfl)
      (case q_bc_TreeError => first | k_is | rfl)
      (case q_tc_TreeError => first | k_is | rfl)
      (case q_kc_BadHouses => first | k_is | rfl)
      (case q_bc_BadHouses => first | k_is | rfl)
      (case q_tc_BadHouses => first | k_is | rfl)
      (case q_x_BadHouses => k_exc)
      (case q_kc_BadRoads => first | k_is | rfl)
      (case q_bc_BadRoads => first | k_is | rfl)
      (case q_tc_BadRoads => first | k_is | rfl)
      (case q_x_BadRoads => k_exc)
      (case q_kc_BadHouse => first | k_is | rfl)
      (case q_bc_BadHouse => first | k_is | rfl)
      (case q_tc_BadHouse => first | k_is | rfl)
      (case q_x_BadHouse => k_exc)
      (case q_kc_BadWord => first | k_is | rfl)
      (case q_bc_BadWord => first | k_is | rfl)
      (case q_tc_BadWord => first | k_is | rfl)
      (case q_x_BadWord => k_exc)
      (case q_kc_BadNumber => first | k_is | rfl)
      (case q_bc_BadNumber => first | k_is | rfl)
      (case q_tc_BadNumber => first | k_is | rfl)
      (case q_x_BadNumber => k_exc)
      (case q_kc_BadCounts => first | k_is | rfl)
      (case q_bc_BadCounts => first | k_is | rfl)
      (case q_tc_BadCounts => first | k_is | rfl)
      (case q_x_BadCounts => k_exc)
      (case q_kc_NoTree => first | k_is | rfl)
      (case q_bc_NoTree => first | k_is | rfl)
      (case q_tc_NoTree => first | k_is | rfl)
      (case q_x_NoTree => k_exc)
      (case q_ec_0_hg => first | k_is | rfl)
      (case q_ec_0_hk => first | k_is | rfl)
      (case q_ec_0_hd => first | k_is | rfl)
      (case q_ec_0_ha => first | k_is | rfl)
      (case q_ehn => first | k_is | rfl)
      (case q_eht => first | k_is | rfl)
      (case q_ec_0_hm => first | k_is | rfl)
      (case q_sm_0 => first | k_is | rfl)
      (case q_kv_0 => first | k_is | rfl)
      (case q_ki_0_0 => first | k_is | rfl)
      (case q_ki_0_1 => first | k_is | rfl)
      (case q_ki_0_2 => first | k_is | rfl)
      (case q_ki_0_3 => first | k_is | rfl)
      (case q_ki_0_4 => first | k_is | rfl)
      (case q_ki_0_5 => first | k_is | rfl)
      (case q_ki_0_6 => first | k_is | rfl)
      (case q_ec_1_hg => first | k_is | rfl)
      (case q_ec_1_hk => first | k_is | rfl)
      (case q_ec_1_hd => first | k_is | rfl)
      (case q_ec_1_ha => first | k_is | rfl)
      (case q_ec_1_hm => first | k_is | rfl)
      (case q_sm_1 => first | k_is | rfl)
      (case q_kv_1 => first | k_is | rfl)
      (case q_ki_1_0 => first | k_is | rfl)
      (case q_ki_1_1 => first | k_is | rfl)
      (case q_ki_1_2 => first | k_is | rfl)
      (case q_ki_1_3 => first | k_is | rfl)
      (case q_ki_1_4 => first | k_is | rfl)
      (case q_ki_1_5 => first | k_is | rfl)
      (case q_ki_1_6 => first | k_is | rfl)
      (case q_ec_2_hg => first | k_is | rfl)
      (case q_ec_2_hk => first | k_is | rfl)
      (case q_ec_2_hd => first | k_is | rfl)
      (case q_ec_2_ha => first | k_is | rfl)
      (case q_ec_2_hm => first | k_is | rfl)
      (case q_sm_2 => first | k_is | rfl)
      (case q_kv_2 => first | k_is | rfl)
      (case q_ki_2_0 => first | k_is | rfl)
      (case q_ki_2_1 => first | k_is | rfl)
      (case q_ki_2_2 => first | k_is | rfl)
      (case q_ki_2_3 => first | k_is | rfl)
      (case q_ki_2_4 => first | k_is | rfl)
      (case q_ki_2_5 => first | k_is | rfl)
      (case q_ki_2_6 => first | k_is | rfl)
      (case q_ec_3_hg => first | k_is | rfl)
      (case q_ec_3_hk => first | k_is | rfl)
      (case q_ec_3_hd => first | k_is | rfl)
      (case q_ec_3_ha => first | k_is | rfl)
      (case q_ec_3_hm => first | k_is | rfl)
      (case q_sm_3 => first | k_is | rfl)
      (case q_kv_3 => first | k_is | rfl)
      (case q_ki_3_0 => first | k_is | rfl)
      (case q_ki_3_1 => first | k_is | rfl)
      (case q_ki_3_2 => first | k_is | rfl)
      (case q_ki_3_3 => first | k_is | rfl)
      (case q_ki_3_4 => first | k_is | rfl)
      (case q_ki_3_5 => first | k_is | rfl)
      (case q_ki_3_6 => first | k_is | rfl)
      (case q_ec_4_hg => first | k_is | rfl)
      (case q_ec_4_hk => first | k_is | rfl)
      (case q_ec_4_hd => first | k_is | rfl)
      (case q_ec_4_ha => first | k_is | rfl)
      (case q_ec_4_hm => first | k_is | rfl)
      (case q_sm_4 => first | k_is | rfl)
      (case q_kv_4 => first | k_is | rfl)
      (case q_ki_4_0 => first | k_is | rfl)
      (case q_ki_4_1 => first | k_is | rfl)
      (case q_ki_4_2 => first | k_is | rfl)
      (case q_ki_4_3 => first | k_is | rfl)
      (case q_ki_4_4 => first | k_is | rfl)
      (case q_ki_4_5 => first | k_is | rfl)
      (case q_ki_4_6 => first | k_is | rfl)
      (case q_ec_5_hg => first | k_is | rfl)
      (case q_ec_5_hk => first | k_is | rfl)
      (case q_ec_5_hd => first | k_is | rfl)
      (case q_ec_5_ha => first | k_is | rfl)
      (case q_ec_5_hm => first | k_is | rfl)
      (case q_sm_5 => first | k_is | rfl)
      (case q_kv_5 => first | k_is | rfl)
      (case q_ki_5_0 => first | k_is | rfl)
      (case q_ki_5_1 => first | k_is | rfl)
      (case q_ki_5_2 => first | k_is | rfl)
      (case q_ki_5_3 => first | k_is | rfl)
      (case q_ki_5_4 => first | k_is | rfl)
      (case q_ki_5_5 => first | k_is | rfl)
      (case q_ki_5_6 => first | k_is | rfl)
      (case q_ec_6_hg => first | k_is | rfl)
      (case q_ec_6_hk => first | k_is | rfl)
      (case q_ec_6_hd => first | k_is | rfl)
      (case q_ec_6_ha => first | k_is | rfl)
      (case q_ec_6_hm => first | k_is | rfl)
      (case q_sm_6 => first | k_is | rfl)
      (case q_kv_6 => first | k_is | rfl)
      (case q_ki_6_0 => first | k_is | rfl)
      (case q_ki_6_1 => first | k_is | rfl)
      (case q_ki_6_2 => first | k_is | rfl)
      (case q_ki_6_3 => first | k_is | rfl)
      (case q_ki_6_4 => first | k_is | rfl)
      (case q_ki_6_5 => first | k_is | rfl)
      (case q_ki_6_6 => first | k_is | rfl)
      (case q_hd_TreeError => first | k_is | rfl))
    (case qblt =>
      refine' TW.mk_blt KX G ?q_z_isinstance ?q_z_int ?q_z_bool ?q_z_list ?q_z_tuple ?q_z_str ?q_z_len ?q_z_set ?q_z_range ?q_z_all ?q_z_any ?q_z_min ?q_z_max ?q_z_sum ?q_z_sorted ?q_z_enumerate ?q_z_abs ?q_z_zip ?q_z_ValueError ?q_gm
      (case q_z_isinstance => k_is)
      (case q_z_int => k_is)
      (case q_z_bool => k_is)
      (case q_z_list => k_is)
      (case q_z_tuple => k_is)
      (case q_z_str => k_is)
      (case q_z_len => k_is)
      (case q_z_set => k_is)
      (case q_z_range => k_is)
      (case q_z_all => k_is)
      (case q_z_any => k_is)
      (case q_z_min => k_is)
      (case q_z_max => k_is)
      (case q_z_sum => k_is)
      (case q_z_sorted => k_is)
      (case q_z_enumerate => k_is)
      (case q_z_abs => k_is)
      (case q_z_zip => k_is)
      (case q_z_ValueError => k_is)
      (case q_gm => k_is))
