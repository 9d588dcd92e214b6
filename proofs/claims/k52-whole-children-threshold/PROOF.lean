import PyProof.Rows.All
import Wide.All
import OpenK.AllK
import Wide.FinOn
import HandS.ForMost
import HandS.ForExc
import HandS.IsInst
import HandS.Property
import HandS.Style
import HandS.Wide
import HandS.FStr
import HandS.ExcInit
import HandS.ExcField
import HandS.ExcCtx
import HandS.HotCalls
import KE.KExcSuper
import PySem.Challenge.RW_spareheap_k52_whole_children_threshold
import HandS.Codes
set_option Elab.async false
set_option linter.all false
set_option maxRecDepth 100000
set_option maxHeartbeats 4000000
/-! ## Pure1 -/
namespace SH
/-! ### owner lists, children, preorder -/
def kidsTo (own : List Nat) (i c : Nat) : List Nat := ((List.range i).filter (fun j => own[j]? == some c)).map (fun j => j + 1)
def kids (own : List Nat) (c : Nat) : List Nat := kidsTo own own.length c
def TreeOk (own : List Nat) : Prop := ∀ (i x : Nat), own[i]? = some x → x ≤ i

theorem kidsTo_zero (own : List Nat) (c : Nat) : kidsTo own 0 c = [] := rfl
theorem kidsTo_succ {own : List Nat} {i x : Nat} (h : own[i]? = some x) (c : Nat) : kidsTo own (i + 1) c = if x = c then kidsTo own i c ++ [i + 1] else kidsTo own i c := by
  unfold kidsTo
  rw [List.range_succ, List.filter_append, List.map_append]
  by_cases e : x = c
  · rw [if_pos e]
    simp [h, e]
  · rw [if_neg e]
    simp [h, e]
theorem mem_kids {own : List Nat} {c d : Nat} : d ∈ kids own c ↔ ∃ j, d = j + 1 ∧ own[j]? = some c := by
  unfold kids kidsTo
  simp only [List.mem_map, List.mem_filter, List.mem_range]
  constructor
  · rintro ⟨j, ⟨_, h⟩, rfl⟩
    exact ⟨j, rfl, by simpa using h⟩
  · rintro ⟨j, rfl, h⟩
    exact ⟨j, ⟨(List.getElem?_eq_some_iff.mp h).1, by simpa using h⟩, rfl⟩
theorem nodup_kidsTo (own : List Nat) (i c : Nat) : (kidsTo own i c).Nodup := by
  unfold kidsTo
  refine List.Pairwise.map _ ?_ ((List.nodup_range (n := i)).sublist List.filter_sublist)
  intro a b h q
  exact h (Nat.succ.inj q)
theorem kidsTo_len (own : List Nat) (i c : Nat) : (kidsTo own i c).length ≤ i := by
  unfold kidsTo
  rw [List.length_map]
  exact Nat.le_trans (List.length_filter_le _ _) (by rw [List.length_range]; exact Nat.le_refl _)
/-- a list of different numbers below n -/
theorem nodup_len : ∀ (n : Nat) (l : List Nat), l.Nodup → (∀ x ∈ l, x < n) → l.length ≤ n
  | 0, l, _, h => by
    cases l with
    | nil => exact Nat.le_refl _
    | cons a t => exact absurd (h a List.mem_cons_self) (Nat.not_lt_zero _)
  | n + 1, l, nd, h => by
    have h2 := nodup_len n (l.erase n) (nd.erase n) (fun x hx => by
      have h3 := (List.Nodup.mem_erase_iff nd).mp hx
      have h4 := h x h3.2
      have h5 := h3.1
      omega)
    by_cases hm : n ∈ l
    · rw [List.length_erase_of_mem hm] at h2
      omega
    · rw [List.erase_of_not_mem hm] at h2
      omega

structure PreOk (own ord : List Nat) : Prop where
  len : ord.length = own.length + 1
  nd : ord.Nodup
  all : ∀ c, c ≤ own.length → c ∈ ord
  low : ∀ c ∈ ord, c ≤ own.length
  par : ∀ (j c p : Nat), ord[j]? = some (c + 1) → own[c]? = some p → ∃ i, i < j ∧ ord[i]? = some p

/-- while the cells are put in order: done, and waiting -/
structure PreInv (own ord st : List Nat) : Prop where
  nd : (ord ++ st).Nodup
  low : ∀ c ∈ ord ++ st, c ≤ own.length
  zero : 0 ∈ ord ++ st
  par : ∀ (j c p : Nat), ord[j]? = some (c + 1) → own[c]? = some p → ∃ i, i < j ∧ ord[i]? = some p
  spar : ∀ (c p : Nat), c + 1 ∈ st → own[c]? = some p → p ∈ ord
  closed : ∀ (c d : Nat), c ∈ ord → d ∈ kids own c → d ∈ ord ++ st

theorem PreInv.start {own : List Nat} : PreInv own [] [0] where
  nd := by simp
  low := by simp
  zero := by simp
  par := by simp
  spar := by simp
  closed := by simp

theorem PreInv.len {own ord st : List Nat} (I : PreInv own ord st) : ord.length + st.length ≤ own.length + 1 := by
  rw [← List.length_append]
  exact nodup_len _ _ I.nd (fun x hx => by have := I.low x hx; omega)

theorem PreInv.step {own ord st : List Nat} {c : Nat} (I : PreInv own ord (st ++ [c])) : PreInv own (ord ++ [c]) (st ++ (kids own c).reverse) := by
  have nd0 := I.nd
  have hc : c ∈ st ++ [c] := by simp
  have hcn : c ∉ ord := fun h => by
    rw [List.nodup_append] at nd0
    exact nd0.2.2 c h c hc rfl
  have kid : ∀ d ∈ kids own c, d ∉ ord ∧ d ∉ st ++ [c] := by
    intro d hd
    obtain ⟨j, rfl, hj⟩ := mem_kids.mp hd
    refine ⟨fun h => ?_, fun h => hcn (I.spar j c h hj)⟩
    obtain ⟨k, hk⟩ := List.getElem?_of_mem h
    obtain ⟨i, _, hi⟩ := I.par k j c hk hj
    exact hcn (List.mem_of_getElem? hi)
  refine ⟨?_, ?_, ?_, ?_, ?_, ?_⟩
  · have e : (ord ++ [c] ++ (st ++ (kids own c).reverse)) = (ord ++ [c] ++ st) ++ (kids own c).reverse := by simp
    rw [e, List.nodup_append]
    refine ⟨?_, (List.reverse_perm _).nodup_iff.mpr (nodup_kidsTo _ _ _), ?_⟩
    · have p : (ord ++ [c] ++ st).Perm (ord ++ (st ++ [c])) := by
        rw [List.append_assoc]
        exact List.Perm.append_left ord List.perm_append_comm
      exact p.nodup_iff.mpr nd0
    · intro a ha b hb e
      subst e
      have hb' := kid a (List.mem_reverse.mp hb)
      simp only [List.mem_append, List.mem_singleton] at ha hb'
      rcases ha with (ha | ha) | ha
      · exact hb'.1 ha
      · exact hb'.2 (.inr ha)
      · exact hb'.2 (.inl ha)
  · intro d hd
    simp only [List.mem_append, List.mem_singleton, List.mem_reverse] at hd
    rcases hd with (hd | hd) | hd | hd
    · exact I.low d (by simp [hd])
    · exact I.low d (by simp [hd])
    · exact I.low d (by simp [hd])
    · obtain ⟨j, rfl, hj⟩ := mem_kids.mp hd
      have := (List.getElem?_eq_some_iff.mp hj).1
      omega
  · have z := I.zero
    simp only [List.mem_append, List.mem_singleton, List.mem_reverse] at z ⊢
    rcases z with z | z | z
    · exact .inl (.inl z)
    · exact .inr (.inl z)
    · exact .inl (.inr z)
  · intro j d p h1 h2
    by_cases hj : j < ord.length
    · rw [List.getElem?_append_left hj] at h1
      obtain ⟨i, hi, e⟩ := I.par j d p h1 h2
      exact ⟨i, hi, by rw [List.getElem?_append_left (by omega)]; exact e⟩
    · rw [List.getElem?_append_right (by omega)] at h1
      have hj2 : j - ord.length = 0 := by
        have := (List.getElem?_eq_some_iff.mp h1).1
        simp at this
        omega
      rw [hj2] at h1
      simp at h1
      subst h1
      obtain ⟨k, hk⟩ := List.getElem?_of_mem (I.spar d p hc h2)
      have := (List.getElem?_eq_some_iff.mp hk).1
      exact ⟨k, by omega, by rw [List.getElem?_append_left this]; exact hk⟩
  · intro d p h1 h2
    rcases List.mem_append.mp h1 with h1 | h1
    · exact List.mem_append_left _ (I.spar d p (List.mem_append_left _ h1) h2)
    · obtain ⟨j, e, hj⟩ := mem_kids.mp (List.mem_reverse.mp h1)
      have e2 : d = j := Nat.succ.inj e
      subst e2
      rw [h2] at hj
      cases hj
      simp
  · intro a d h1 h2
    rcases List.mem_append.mp h1 with h1 | h1
    · have q := I.closed a d h1 h2
      simp only [List.mem_append, List.mem_singleton, List.mem_reverse] at q ⊢
      rcases q with q | q | q
      · exact .inl (.inl q)
      · exact .inr (.inl q)
      · exact .inl (.inr q)
    · have e : a = c := by simpa using h1
      subst e
      exact List.mem_append_right _ (List.mem_append_right _ (List.mem_reverse.mpr h2))

theorem PreInv.done {own ord : List Nat} (T : TreeOk own) (I : PreInv own ord []) : PreOk own ord := by
  have nd := I.nd
  have low := I.low
  have zero := I.zero
  have closed := I.closed
  rw [List.append_nil] at nd low zero
  have all : ∀ n c, c < n → c ≤ own.length → c ∈ ord := by
    intro n
    induction n with
    | zero => intro c h; omega
    | succ n ih =>
      intro c h hc
      cases c with
      | zero => exact zero
      | succ c =>
        obtain ⟨p, hp⟩ : ∃ p, own[c]? = some p := ⟨own[c], List.getElem?_eq_getElem (by omega)⟩
        have hpc := T c p hp
        have hm := closed p (c + 1) (ih p (by omega) (by omega)) (mem_kids.mpr ⟨c, rfl, hp⟩)
        rwa [List.append_nil] at hm
  have all' : ∀ c, c ≤ own.length → c ∈ ord := fun c hc => all (c + 1) c (by omega) hc
  refine ⟨?_, nd, all', low, I.par⟩
  have h1 := nodup_len (own.length + 1) ord nd (fun x hx => by have := low x hx; omega)
  have h2 : (List.range (own.length + 1)).length ≤ ord.length := by
    have key : ∀ (l m : List Nat), l.Nodup → (∀ x ∈ l, x ∈ m) → l.length ≤ m.length := by
      intro l
      induction l with
      | nil => intro m _ _; exact Nat.zero_le _
      | cons a t ih =>
        intro m hnd hs
        have ha := hs a List.mem_cons_self
        have h3 := ih (m.erase a) (List.nodup_cons.mp hnd).2 (fun x hx => by
          have hne : x ≠ a := fun e => (List.nodup_cons.mp hnd).1 (e ▸ hx)
          exact (List.mem_erase_of_ne hne).mpr (hs x (List.mem_cons_of_mem _ hx)))
        rw [List.length_erase_of_mem ha] at h3
        have h4 : 0 < m.length := List.length_pos_of_mem ha
        rw [List.length_cons]
        omega
    exact key _ _ List.nodup_range (fun x hx => all' x (by rw [List.mem_range] at hx; omega))
  rw [List.length_range] at h2
  omega
end SH
/-! ## Pure2 -/
namespace SH
/-! ### the work on one dropped tree: num the drop's number, ent how many cells are entered, fm which are free -/
structure Wk where
  num : Int
  own : List Nat
  ord : List Nat
  ent : Nat
  wait : List Nat
  fm : List Bool
def Wk.size (k : Wk) : Nat := k.own.length + 1
def Wk.cnt (k : Wk) : Nat := k.fm.count true
/-- how many children of c are not free -/
def unf (own : List Nat) (fm : List Bool) (c : Nat) : Nat := (List.range own.length).countP (fun j => own[j]? == some c && fm[j + 1]? == some false)

theorem countP_flip (n j : Nat) (p q : Nat → Bool) (hj : j < n) (hp : p j = true) (hq : q j = false) (h : ∀ i, i ≠ j → q i = p i) : (List.range n).countP q + 1 = (List.range n).countP p := by
  induction n with
  | zero => omega
  | succ n ih =>
    rw [List.range_succ, List.countP_append, List.countP_append]
    by_cases e : j = n
    · subst e
      have e2 : (List.range j).countP q = (List.range j).countP p := List.countP_congr (fun i hi => by
        rw [List.mem_range] at hi
        rw [h i (by omega)])
      simp [e2, hp, hq]
    · have := ih (by omega)
      simp [h n (fun z => e z.symm)]
      omega
theorem countP_same (n : Nat) (p q : Nat → Bool) (h : ∀ i, i < n → q i = p i) : (List.range n).countP q = (List.range n).countP p :=
  List.countP_congr (fun i hi => by rw [List.mem_range] at hi; rw [h i hi])
/-- cell j + 1 becomes free: its owner has one child less that is not -/
theorem unf_free {own : List Nat} {fm : List Bool} {j p : Nat} (hj : own[j]? = some p) (hf : fm[j + 1]? = some false) : unf own (fm.set (j + 1) true) p + 1 = unf own fm p := by
  have hl := (List.getElem?_eq_some_iff.mp hj).1
  have hfl := (List.getElem?_eq_some_iff.mp hf).1
  refine countP_flip own.length j _ _ hl (by simp [hj, hf]) (by simp [hj, List.getElem?_set_self hfl]) (fun i hi => ?_)
  rw [List.getElem?_set_ne (by omega)]
theorem unf_other {own : List Nat} {fm : List Bool} {j p c : Nat} (hj : own[j]? = some p) (hc : c ≠ p) : unf own (fm.set (j + 1) true) c = unf own fm c := by
  refine countP_same _ _ _ (fun i hi => ?_)
  by_cases e : i = j
  · subst e
    have : (some p == some c) = false := by simp; omega
    rw [hj, this]
    rfl
  · rw [List.getElem?_set_ne (by omega)]
theorem unf_root {own : List Nat} {fm : List Bool} {c : Nat} : unf own (fm.set 0 true) c = unf own fm c := by
  refine countP_same _ _ _ (fun i hi => ?_)
  rw [List.getElem?_set_ne (by omega)]
theorem unf_zero {own : List Nat} {fm : List Bool} {c : Nat} (h : unf own fm c = 0) (hl : fm.length = own.length + 1) : ∀ j, own[j]? = some c → fm[j + 1]? = some true := by
  intro j hj
  have hjl := (List.getElem?_eq_some_iff.mp hj).1
  have h2 := List.countP_eq_zero.mp h j (List.mem_range.mpr hjl)
  cases hb : fm[j + 1]? with
  | none =>
    have := List.getElem?_eq_none_iff.mp hb
    omega
  | some b =>
    cases b with
    | true => rfl
    | false => simp [hj, hb] at h2
theorem unf_pos {own : List Nat} {fm : List Bool} {c j : Nat} (hj : own[j]? = some c) (hf : fm[j + 1]? = some false) : 0 < unf own fm c := by
  have hjl := (List.getElem?_eq_some_iff.mp hj).1
  exact List.countP_pos_iff.mpr ⟨j, List.mem_range.mpr hjl, by simp [hj, hf]⟩
theorem unf_all {own : List Nat} {fm : List Bool} {c : Nat} (h : ∀ j, own[j]? = some c → fm[j + 1]? = some true) : unf own fm c = 0 := by
  refine List.countP_eq_zero.mpr (fun j _ => ?_)
  by_cases e : own[j]? = some c
  · simp [e, h j e]
  · simp [e]

/-- e cells are entered; x: the cell at which it is being looked, not yet decided (none between the cuts) -/
structure WIv (own ord : List Nat) (e : Nat) (wait : List Nat) (fm : List Bool) (x : Option Nat) : Prop where
  tree : TreeOk own
  pos : 1 ≤ own.length
  lid : own.length ≤ 1999
  pre : PreOk own ord
  e1 : 1 ≤ e
  e2 : e ≤ own.length + 1
  wl : wait.length = own.length + 1
  fl : fm.length = own.length + 1
  wt : ∀ c, c ≤ own.length → wait[c]? = some (unf own fm c)
  fr : ∀ c : Nat, fm[c]? = some true → ∃ j, j < e ∧ ord[j]? = some c
  fk : ∀ c : Nat, fm[c]? = some true → unf own fm c = 0
  cl : ∀ j c : Nat, j < e → ord[j]? = some c → unf own fm c = 0 → some c ≠ x → fm[c]? = some true
  now : ∀ c : Nat, x = some c → fm[c]? = some false ∧ ∃ j, j < e ∧ ord[j]? = some c

def WInv (k : Wk) : Prop := WIv k.own k.ord k.ent k.wait k.fm none

theorem bool_at {fm : List Bool} {c : Nat} (h : c < fm.length) (n : ¬ fm[c]? = some true) : fm[c]? = some false := by
  cases e : fm[c]? with
  | none =>
    have := List.getElem?_eq_none_iff.mp e
    omega
  | some b =>
    cases b with
    | true => exact absurd e n
    | false => rfl

/-- the next cell is entered -/
theorem WIv.enter {own ord : List Nat} {e c : Nat} {wait : List Nat} {fm : List Bool} (I : WIv own ord e wait fm none) (h : ord[e]? = some c) : WIv own ord (e + 1) wait fm (some c) := by
  have hel := (List.getElem?_eq_some_iff.mp h).1
  have hpl := I.pre.len
  have hcl := I.pre.low c (List.mem_of_getElem? h)
  have same : ∀ i j : Nat, ord[i]? = some c → ord[j]? = some c → i = j := by
    intro i j hi hj
    have nd := I.pre.nd
    have hil := (List.getElem?_eq_some_iff.mp hi).1
    have hjl := (List.getElem?_eq_some_iff.mp hj).1
    exact (List.getElem?_inj hil nd).mp (hi.trans hj.symm)
  have nf : ¬ fm[c]? = some true := fun q => by
    obtain ⟨j, hj, hj2⟩ := I.fr c q
    have := same j e hj2 h
    omega
  refine ⟨I.tree, I.pos, I.lid, I.pre, by omega, by omega, I.wl, I.fl, I.wt, fun c q => ?_, I.fk, fun j d hj hd hu hx => ?_, fun d hd => ?_⟩
  · obtain ⟨j, hj, hj2⟩ := I.fr c q
    exact ⟨j, by omega, hj2⟩
  · by_cases q : j = e
    · subst q
      rw [h] at hd
      exact absurd hd.symm hx
    · exact I.cl j d (by omega) hd hu (by simp)
  · cases hd
    exact ⟨bool_at (by rw [I.fl]; omega) nf, e, by omega, h⟩

/-- the cell at hand has children that are not free: nothing more becomes free -/
theorem WIv.stop {own ord : List Nat} {e c v : Nat} {wait : List Nat} {fm : List Bool} (I : WIv own ord e wait fm (some c)) (h : wait[c]? = some v) (hv : v ≠ 0) : WIv own ord e wait fm none := by
  refine ⟨I.tree, I.pos, I.lid, I.pre, I.e1, I.e2, I.wl, I.fl, I.wt, I.fr, I.fk, fun j d hj hd hu _ => ?_, fun d hd => nomatch hd⟩
  refine I.cl j d hj hd hu (fun q => ?_)
  have e := Option.some.inj q
  rw [e] at hu
  have hc := (I.now c rfl).1
  have hcl := (List.getElem?_eq_some_iff.mp hc).1
  have h2 := I.wt c (by have := I.fl; omega)
  rw [h] at h2
  have h3 := Option.some.inj h2
  omega

theorem WIv.zero {own ord : List Nat} {e c : Nat} {wait : List Nat} {fm : List Bool} (I : WIv own ord e wait fm (some c)) (h : wait[c]? = some 0) : unf own fm c = 0 := by
  have hc := (I.now c rfl).1
  have hcl := (List.getElem?_eq_some_iff.mp hc).1
  have h2 := I.wt c (by have := I.fl; omega)
  rw [h] at h2
  have h3 := Option.some.inj h2
  omega

/-- the root becomes free -/
theorem WIv.root {own ord : List Nat} {e : Nat} {wait : List Nat} {fm : List Bool} (I : WIv own ord e wait fm (some 0)) (h : wait[0]? = some 0) : WIv own ord e wait (fm.set 0 true) none := by
  have hz := I.zero h
  have hfl := I.fl
  refine ⟨I.tree, I.pos, I.lid, I.pre, I.e1, I.e2, I.wl, by rw [List.length_set]; exact I.fl, fun c hc => by rw [unf_root]; exact I.wt c hc, fun c q => ?_, fun c q => ?_, fun j d hj hd hu _ => ?_, fun d hd => nomatch hd⟩
  · by_cases hc : c = 0
    · subst hc
      exact (I.now 0 rfl).2
    · rw [List.getElem?_set_ne (by omega)] at q
      exact I.fr c q
  · rw [unf_root]
    by_cases hc : c = 0
    · subst hc
      exact hz
    · rw [List.getElem?_set_ne (by omega)] at q
      exact I.fk c q
  · rw [unf_root] at hu
    by_cases hc : d = 0
    · subst hc
      rw [List.getElem?_set_self (by omega)]
    · rw [List.getElem?_set_ne (by omega)]
      exact I.cl j d hj hd hu (fun q => by cases q; exact hc rfl)

/-- another cell becomes free, and its owner is looked at -/
theorem WIv.up {own ord : List Nat} {e c p v : Nat} {wait : List Nat} {fm : List Bool} (I : WIv own ord e wait fm (some (c + 1))) (h : wait[c + 1]? = some 0) (hp : own[c]? = some p) (hv : wait[p]? = some v) :
    WIv own ord e (wait.set p (v - 1)) (fm.set (c + 1) true) (some p) ∧ 1 ≤ v := by
  have hz := I.zero h
  obtain ⟨hf, j0, hj0, hj0e⟩ := I.now (c + 1) rfl
  have hcl := (List.getElem?_eq_some_iff.mp hp).1
  have hpc := I.tree c p hp
  have hfl := I.fl
  have hwl := I.wl
  have hu := unf_free hp hf
  have hv2 := I.wt p (by omega)
  rw [hv] at hv2
  have hv3 : v = unf own fm p := Option.some.inj hv2
  have npt : ¬ fm[p]? = some true := fun q => by
    have := I.fk p q
    omega
  refine ⟨⟨I.tree, I.pos, I.lid, I.pre, I.e1, I.e2, by rw [List.length_set]; exact I.wl, by rw [List.length_set]; exact I.fl, fun d hd => ?_, fun d q => ?_, fun d q => ?_, fun j d hj hd hu2 hx => ?_, fun d hd => ?_⟩, by omega⟩
  · by_cases e1 : d = p
    · subst e1
      rw [List.getElem?_set_self (by omega)]
      congr 1
      omega
    · rw [List.getElem?_set_ne (by omega), unf_other hp e1]
      exact I.wt d hd
  · by_cases e1 : d = c + 1
    · subst e1
      exact ⟨j0, hj0, hj0e⟩
    · rw [List.getElem?_set_ne (by omega)] at q
      exact I.fr d q
  · by_cases e1 : d = c + 1
    · subst e1
      rw [unf_other hp (by omega)]
      exact hz
    · rw [List.getElem?_set_ne (by omega)] at q
      by_cases e2 : d = p
      · subst e2
        exact absurd q npt
      · rw [unf_other hp e2]
        exact I.fk d q
  · by_cases e1 : d = c + 1
    · subst e1
      rw [List.getElem?_set_self (by omega)]
    · rw [List.getElem?_set_ne (by omega)]
      have e2 : d ≠ p := fun z => hx (by rw [z])
      rw [unf_other hp e2] at hu2
      exact I.cl j d hj hd hu2 (fun z => by cases z; exact e1 rfl)
  · cases hd
    refine ⟨?_, ?_⟩
    · rw [List.getElem?_set_ne (by omega)]
      exact bool_at (by omega) npt
    · obtain ⟨i, hi, he⟩ := I.pre.par j0 c p hj0e hp
      exact ⟨i, by omega, he⟩

theorem count_set {fm : List Bool} {c : Nat} (h : fm[c]? = some false) : (fm.set c true).count true = fm.count true + 1 := by
  induction fm generalizing c with
  | nil => simp at h
  | cons a t ih =>
    cases c with
    | zero =>
      simp at h
      subst h
      simp
    | succ c =>
      have h2 : t[c]? = some false := by simpa using h
      have := ih h2
      rw [List.set_cons_succ, List.count_cons, List.count_cons, this]
      omega

/-- all cells are entered: all are free -/
theorem WIv.all {own ord : List Nat} {wait : List Nat} {fm : List Bool} (I : WIv own ord (own.length + 1) wait fm none) : ∀ c, c ≤ own.length → fm[c]? = some true := by
  have hfl := I.fl
  have key : ∀ n c, own.length - c < n → c ≤ own.length → fm[c]? = some true := by
    intro n
    induction n with
    | zero => intro c h; omega
    | succ n ih =>
      intro c h hc
      obtain ⟨j, hj⟩ := List.getElem?_of_mem (I.pre.all c hc)
      have hjl := (List.getElem?_eq_some_iff.mp hj).1
      have hpl := I.pre.len
      refine I.cl j c (by omega) hj (unf_all (fun i hi => ?_)) (by simp)
      have hil := (List.getElem?_eq_some_iff.mp hi).1
      have := I.tree i c hi
      exact ih (i + 1) (by omega) (by omega)
  exact fun c hc => key _ c (Nat.lt_succ_self _) hc
theorem count_all : ∀ (fm : List Bool), (∀ c, c < fm.length → fm[c]? = some true) → fm.count true = fm.length
  | [], _ => rfl
  | a :: t, h => by
    have h0 := h 0 (by simp)
    simp at h0
    subst h0
    have := count_all t (fun c hc => by
      have := h (c + 1) (by simpa using hc)
      simpa using this)
    simp [this]
theorem WIv.cnt_all {own ord : List Nat} {wait : List Nat} {fm : List Bool} (I : WIv own ord (own.length + 1) wait fm none) : fm.count true = own.length + 1 := by
  rw [count_all fm (fun c hc => I.all c (by have := I.fl; omega)), I.fl]
theorem WIv.cnt_le {own ord : List Nat} {e : Nat} {x : Option Nat} {wait : List Nat} {fm : List Bool} (I : WIv own ord e wait fm x) : fm.count true ≤ own.length + 1 := by
  have h := List.count_le_length (a := true) (l := fm)
  rw [I.fl] at h
  exact h

/-- a new work -/
theorem WIv.new {own ord : List Nat} (T : TreeOk own) (h1 : 1 ≤ own.length) (h2 : own.length ≤ 1999) (P : PreOk own ord) :
    WIv own ord 1 ((List.range (own.length + 1)).map (fun c => (kids own c).length)) (List.replicate (own.length + 1) false) none := by
  have nt : ∀ c : Nat, ¬ (List.replicate (own.length + 1) false)[c]? = some true := fun c q => by
    rw [List.getElem?_replicate] at q
    split at q <;> cases q
  have un : ∀ c, unf own (List.replicate (own.length + 1) false) c = (kids own c).length := fun c => by
    unfold unf kids kidsTo
    rw [List.length_map, ← List.countP_eq_length_filter]
    refine List.countP_congr (fun i hi => ?_)
    rw [List.mem_range] at hi
    rw [List.getElem?_replicate, if_pos (by omega)]
    simp
  refine ⟨T, h1, h2, P, Nat.le_refl _, by omega, by simp, by simp, fun c hc => ?_, fun c q => absurd q (nt c), fun c q => absurd q (nt c), fun j c hj hc hu _ => ?_, fun d hd => nomatch hd⟩
  · rw [un, List.getElem?_map, List.getElem?_range (by omega)]
    rfl
  · -- the root has a child: cell 1
    exfalso
    have hj0 : j = 0 := by omega
    subst hj0
    have c0 : c = 0 := by
      cases c with
      | zero => rfl
      | succ c =>
        have hl := P.low (c + 1) (List.mem_of_getElem? hc)
        obtain ⟨i, hi, _⟩ := P.par 0 c own[c] hc (List.getElem?_eq_getElem (by omega))
        omega
    subst c0
    obtain ⟨p, hp⟩ : ∃ p, own[0]? = some p := ⟨own[0], List.getElem?_eq_getElem (by omega)⟩
    have := T 0 p hp
    have hp0 : p = 0 := by omega
    subst hp0
    have h3 : 0 < unf own (List.replicate (own.length + 1) false) 0 := unf_pos (j := 0) hp (by rw [List.getElem?_replicate, if_pos (by omega)])
    omega

/-- each next one is the owner of the one before -/
def Path (own l : List Nat) : Prop := ∀ (i a b : Nat), l[i]? = some a → l[i + 1]? = some b → ∃ c, a = c + 1 ∧ own[c]? = some b

/-- one cut of the work k: these become free -/
structure EntR (k : Wk) (ended : List Nat) (k' : Wk) : Prop where
  i : WInv k
  i' : WInv k'
  num : k'.num = k.num
  own : k'.own = k.own
  ent : k'.ent = k.ent + 1
  cnt : k'.cnt = k.cnt + ended.length
  path : Path k.own ended
end SH
/-! ## Pure3 -/
namespace SH
/-! ### the owner lists of the law -/
def Fits (own : List Nat) (f : Int) : Prop := ∀ c, c ≤ own.length → ((kids own c).length : Int) ≤ f

theorem kids_snoc (own : List Nat) (x c : Nat) : kids (own ++ [x]) c = if x = c then kids own c ++ [own.length + 1] else kids own c := by
  have h1 : (own ++ [x])[own.length]? = some x := by simp
  have h2 : kidsTo (own ++ [x]) own.length c = kids own c := by
    unfold kids kidsTo
    congr 1
    refine List.filter_congr (fun j hj => ?_)
    rw [List.mem_range] at hj
    rw [List.getElem?_append_left hj]
  unfold kids
  rw [List.length_append, List.length_singleton, kidsTo_succ h1, h2]
  rfl
theorem treeOk_snoc {own : List Nat} {x : Nat} (T : TreeOk own) (h : x ≤ own.length) : TreeOk (own ++ [x]) := by
  intro i y hi
  by_cases hl : i < own.length
  · rw [List.getElem?_append_left hl] at hi
    exact T i y hi
  · rw [List.getElem?_append_right (by omega)] at hi
    have := (List.getElem?_eq_some_iff.mp hi).1
    simp at this
    have e : i - own.length = 0 := by omega
    rw [e] at hi
    simp at hi
    omega
theorem treeOk_nil : TreeOk [] := fun i x h => by simp at h

theorem chain_get {n i x : Nat} (h : (List.range n)[i]? = some x) : x = i ∧ i < n := by
  have hl := (List.getElem?_eq_some_iff.mp h).1
  rw [List.length_range] at hl
  rw [List.getElem?_range hl] at h
  cases h
  exact ⟨rfl, hl⟩
theorem chain_at {n i : Nat} (h : i < n) : (List.range n)[i]? = some i := List.getElem?_range h
theorem treeOk_chain (n : Nat) : TreeOk (List.range n) := fun i x h => by
  have := chain_get h
  omega
theorem chain_kids (n : Nat) : ∀ i c, i ≤ n → (kidsTo (List.range n) i c).length = if c < i then 1 else 0
  | 0, c, _ => rfl
  | i + 1, c, h => by
    rw [kidsTo_succ (chain_at (by omega)) c]
    have ih := chain_kids n i c (by omega)
    by_cases e : i = c
    · rw [if_pos e, List.length_append, ih]
      simp
      split <;> split <;> omega
    · rw [if_neg e, ih]
      split <;> split <;> omega
theorem fits_chain (n : Nat) {f : Int} (h : 1 ≤ f) : Fits (List.range n) f := fun c _ => by
  have := chain_kids n (List.range n).length c (by rw [List.length_range]; exact Nat.le_refl _)
  unfold kids
  split at this <;> omega

def divT (n w : Nat) : List Nat := (List.range n).map (fun k => k / w)
theorem div_len (n w : Nat) : (divT n w).length = n := by simp [divT]
theorem div_get {n w i x : Nat} (h : (divT n w)[i]? = some x) : x = i / w ∧ i < n := by
  unfold divT at h
  rw [List.getElem?_map] at h
  cases e : (List.range n)[i]? with
  | none => rw [e] at h; cases h
  | some y =>
    rw [e] at h
    cases h
    have := chain_get e
    exact ⟨by rw [this.1], this.2⟩
theorem div_at {n w i : Nat} (h : i < n) : (divT n w)[i]? = some (i / w) := by
  unfold divT
  rw [List.getElem?_map, chain_at h]
  rfl
theorem treeOk_div (n w : Nat) : TreeOk (divT n w) := fun i x h => by
  rw [(div_get h).1]
  exact Nat.div_le_self _ _
theorem div_kids (n w : Nat) (hw : 0 < w) : ∀ i c, i ≤ n → (kidsTo (divT n w) i c).length = min w (i - c * w)
  | 0, c, _ => by
    rw [kidsTo_zero]
    simp
  | i + 1, c, h => by
    rw [kidsTo_succ (div_at (by omega)) c]
    have ih := div_kids n w hw i c (by omega)
    by_cases e : i / w = c
    · rw [if_pos e, List.length_append, ih]
      have h1 : c * w ≤ i := by
        rw [← e]
        exact Nat.div_mul_le_self i w
      have h2 : i < c * w + w := by
        have := Nat.lt_div_mul_add (a := i) hw
        rw [e] at this
        exact this
      simp
      omega
    · rw [if_neg e, ih]
      by_cases h3 : i < c * w
      · omega
      · have h4 : c * w + w ≤ i := by
          have h5 : c ≤ i / w := (Nat.le_div_iff_mul_le hw).mpr (by omega)
          have h6 : c + 1 ≤ i / w := by omega
          have h7 := (Nat.le_div_iff_mul_le hw).mp h6
          rw [Nat.add_mul] at h7
          omega
        omega
theorem fits_div (n w : Nat) (hw : 0 < w) {f : Int} (h : (w : Int) ≤ f) : Fits (divT n w) f := fun c _ => by
  have := div_kids n w hw (divT n w).length c (by rw [div_len]; exact Nat.le_refl _)
  unfold kids
  rw [this]
  omega

/-! ### a chain being worked on -/
theorem chain_low {n : Nat} {ord : List Nat} (P : PreOk (List.range n) ord) : ∀ c j : Nat, ord[j]? = some c → c ≤ j
  | 0, _, _ => Nat.zero_le _
  | c + 1, j, h => by
    have hl := P.low (c + 1) (List.mem_of_getElem? h)
    rw [List.length_range] at hl
    obtain ⟨i, hi, hi2⟩ := P.par j c c h (chain_at (by omega))
    have := chain_low P c i hi2
    omega
theorem chain_none {n e : Nat} {ord wait : List Nat} {fm : List Bool} {x : Option Nat} (I : WIv (List.range n) ord e wait fm x) (he : e ≤ n) : fm.count true = 0 := by
  have hfl := I.fl
  rw [List.length_range] at hfl
  have key : ∀ k c, n - c < k → c ≤ n → ¬ fm[c]? = some true := by
    intro k
    induction k with
    | zero => intro c h; omega
    | succ k ih =>
      intro c h hc q
      by_cases e1 : c = n
      · obtain ⟨j, hj, hj2⟩ := I.fr c q
        have := chain_low I.pre c j hj2
        omega
      · have h2 := unf_zero (I.fk c q) (by rw [List.length_range]; exact hfl) c (chain_at (by omega))
        exact ih (c + 1) (by omega) (by omega) h2
  have h0 : ∀ (l : List Bool), (∀ c : Nat, ¬ l[c]? = some true) → l.count true = 0 := by
    intro l h
    refine List.count_eq_zero.mpr (fun hm => ?_)
    obtain ⟨c, hc⟩ := List.getElem?_of_mem hm
    exact h c hc
  refine h0 fm (fun c q => ?_)
  have := (List.getElem?_eq_some_iff.mp q).1
  exact key _ c (Nat.lt_succ_self _) (by omega) q
theorem path_down {n : Nat} : ∀ {l : List Nat}, Path (List.range n) l → ∀ i a b, l[0]? = some a → l[i]? = some b → a = b + i
  | _, _, 0, a, b, h1, h2 => by
    rw [h1] at h2
    cases h2
    rfl
  | l, P, i + 1, a, b, h1, h2 => by
    have hl := (List.getElem?_eq_some_iff.mp h2).1
    obtain ⟨c, hc⟩ : ∃ c, l[i]? = some c := ⟨l[i], List.getElem?_eq_getElem (by omega)⟩
    have := path_down P i a c h1 hc
    obtain ⟨d, e1, e2⟩ := P i c b hc h2
    have := chain_get e2
    omega
theorem path_all {n : Nat} {l : List Nat} (P : Path (List.range n) l) (hl : l.length = n + 1) (hlow : ∀ c ∈ l, c ≤ n) : l = (List.range (n + 1)).map (fun i => n - i) := by
  have h0 : l[0]? = some l[0] := List.getElem?_eq_getElem (by omega)
  have hn : l[n]? = some l[n] := List.getElem?_eq_getElem (by omega)
  have h1 := path_down P n _ _ h0 hn
  have h2 := hlow l[0] (List.getElem_mem _)
  have e0 : l[0] = n := by omega
  refine List.ext_getElem? (fun i => ?_)
  by_cases hi : i < n + 1
  · have hi2 : l[i]? = some l[i] := List.getElem?_eq_getElem (by omega)
    have h3 := path_down P i _ _ h0 hi2
    rw [hi2, List.getElem?_map, chain_at hi]
    show some l[i] = some (n - i)
    congr 1
    omega
  · rw [List.getElem?_eq_none (by omega), List.getElem?_eq_none (by simp; omega)]

/-! ### the heap -/
structure CS where
  cells : Int
  lim : Int
  fields : Int
  cuts : Int
  free : Int
  live : Int
  begun : Int
  drops : Int
  works : List Wk
  freed : List (Int × Nat)
/-- one cut -/
structure CutR (s s' : CS) : Prop where
  cut : ∃ (k k' : Wk) (r : List Wk) (ended : List Nat), s.works = k :: r ∧ EntR k ended k' ∧ (∀ c ∈ ended, c ≤ k.own.length) ∧
    s' = { s with free := s.free + ended.length, works := if k'.ent = k'.size then r else k' :: r, freed := s.freed ++ ended.map (fun c => (k.num, c)) }
inductive CutsR : Nat → CS → CS → Prop where
  | nil (s : CS) : CutsR 0 s s
  | snoc {n : Nat} {a b c : CS} (h : CutsR n a b) (q : CutR b c) : CutsR (n + 1) a c

def owed : List Wk → Int
  | [] => 0
  | k :: r => (k.size : Int) - k.cnt + owed r
theorem owed_append : ∀ (a b : List Wk), owed (a ++ b) = owed a + owed b
  | [], b => by simp [owed]
  | k :: a, b => by
    simp only [List.cons_append, owed]
    rw [owed_append a b]
    omega
theorem WInv.cnt_le {k : Wk} (h : WInv k) : (k.cnt : Int) ≤ k.size := by
  have := WIv.cnt_le h
  unfold Wk.cnt Wk.size
  omega
theorem WInv.cnt_all {k : Wk} (h : WInv k) (e : k.ent = k.size) : (k.cnt : Int) = k.size := by
  unfold WInv at h
  unfold Wk.size at e
  rw [e] at h
  have := WIv.cnt_all h
  unfold Wk.cnt Wk.size
  omega

/-- what holds of a heap that never stalls; left: the cuts that the running allocation may still make -/
structure Good (s : CS) (left : Int) : Prop where
  c1 : 1 ≤ s.cuts
  lc : s.lim ≤ s.cells
  thr : s.lim ≤ s.cuts * (s.cells - s.lim + 1) + 1
  l0 : 0 ≤ s.live
  l1 : s.live ≤ s.lim
  cons : s.free + s.live + owed s.works = s.cells
  book : (s.freed.length : Int) + owed s.works + s.live = s.begun
  inv : ∀ k ∈ s.works, WInv k ∧ (k.size : Int) ≤ s.lim ∧ k.ent < k.size
  tail : ∀ k r, s.works = k :: r → ∀ x ∈ r, x.ent = 1 ∧ x.cnt = 0
  cred : ∀ k r, s.works = k :: r → s.cuts ≤ s.cuts * (s.free - k.cnt - (s.cells - s.lim)) + left + ((k.ent : Int) - 1)

theorem owed_nonneg : ∀ {l : List Wk}, (∀ k ∈ l, WInv k) → 0 ≤ owed l
  | [], _ => Int.le_refl _
  | k :: r, h => by
    have h1 := (h k List.mem_cons_self).cnt_le
    have h2 := owed_nonneg (l := r) (fun x hx => h x (List.mem_cons_of_mem _ hx))
    simp only [owed]
    omega

theorem Good.cut {s s' : CS} {l : Int} (G : Good s (l + 1)) (C : CutR s s') : Good s' l := by
  obtain ⟨k, k', r, ended, hw, E, _, rfl⟩ := C.cut
  have hk := G.inv k (by rw [hw]; exact List.mem_cons_self)
  have hcr := G.cred k r hw
  have hcons := G.cons
  have hbook := G.book
  rw [hw] at hcons hbook
  simp only [owed] at hcons hbook
  have hsz : k'.size = k.size := by
    unfold Wk.size
    rw [E.own]
  have hent := E.ent
  have hcnt := E.cnt
  have hlt := hk.2.2
  have hc1 := G.c1
  by_cases e : k'.ent = k'.size
  · have hall := E.i'.cnt_all e
    refine ⟨G.c1, G.lc, G.thr, G.l0, G.l1, ?_, ?_, ?_, ?_, ?_⟩
    · dsimp only
      rw [if_pos e]
      omega
    · dsimp only
      rw [if_pos e, List.length_append, List.length_map]
      omega
    · dsimp only
      rw [if_pos e]
      exact fun x hx => G.inv x (by rw [hw]; exact List.mem_cons_of_mem _ hx)
    · dsimp only
      rw [if_pos e]
      intro a b hab x hx
      exact G.tail k r hw x (by rw [hab]; exact List.mem_cons_of_mem _ hx)
    · dsimp only
      rw [if_pos e]
      intro a b hab
      obtain ⟨ha1, ha2⟩ := G.tail k r hw a (by rw [hab]; exact List.mem_cons_self)
      rw [ha1, ha2]
      have e1 : s.free + (ended.length : Int) - ((0 : Nat) : Int) - (s.cells - s.lim) = (s.free - k.cnt - (s.cells - s.lim)) + k.size := by omega
      rw [e1, Int.mul_add]
      have h5 : (k.size : Int) ≤ s.cuts * k.size := by
        have := Int.mul_le_mul_of_nonneg_right hc1 (Int.natCast_nonneg k.size)
        omega
      omega
  · refine ⟨G.c1, G.lc, G.thr, G.l0, G.l1, ?_, ?_, ?_, ?_, ?_⟩
    · dsimp only
      rw [if_neg e]
      simp only [owed]
      omega
    · dsimp only
      rw [if_neg e, List.length_append, List.length_map]
      simp only [owed]
      omega
    · dsimp only
      rw [if_neg e]
      intro x hx
      rcases List.mem_cons.mp hx with rfl | hx
      · exact ⟨E.i', by rw [hsz]; exact hk.2.1, by omega⟩
      · exact G.inv x (by rw [hw]; exact List.mem_cons_of_mem _ hx)
    · dsimp only
      rw [if_neg e]
      intro a b hab x hx
      cases hab
      exact G.tail k r hw x hx
    · dsimp only
      rw [if_neg e]
      intro a b hab
      cases hab
      have e1 : s.free + (ended.length : Int) - (k'.cnt : Int) - (s.cells - s.lim) = (s.free - k.cnt - (s.cells - s.lim)) := by omega
      rw [e1]
      omega
theorem CutR.same {s s' : CS} (C : CutR s s') : s'.cells = s.cells ∧ s'.lim = s.lim ∧ s'.fields = s.fields ∧ s'.cuts = s.cuts ∧ s'.live = s.live ∧ s'.begun = s.begun ∧ s'.drops = s.drops := by
  obtain ⟨k, k', r, ended, hw, E, _, rfl⟩ := C.cut
  exact ⟨rfl, rfl, rfl, rfl, rfl, rfl, rfl⟩
theorem CutsR.same {n : Nat} {s s' : CS} (C : CutsR n s s') : s'.cells = s.cells ∧ s'.lim = s.lim ∧ s'.fields = s.fields ∧ s'.cuts = s.cuts ∧ s'.live = s.live ∧ s'.begun = s.begun ∧ s'.drops = s.drops := by
  induction C with
  | nil => exact ⟨rfl, rfl, rfl, rfl, rfl, rfl, rfl⟩
  | snoc h q ih =>
    obtain ⟨a1, a2, a3, a4, a5, a6, a7⟩ := q.same
    obtain ⟨b1, b2, b3, b4, b5, b6, b7⟩ := ih
    exact ⟨a1.trans b1, a2.trans b2, a3.trans b3, a4.trans b4, a5.trans b5, a6.trans b6, a7.trans b7⟩
theorem Good.cuts {n : Nat} {s s' : CS} (C : CutsR n s s') : ∀ {l : Int}, Good s (l + n) → Good s' l := by
  induction C with
  | nil =>
    intro l G
    have e : l + ((0 : Nat) : Int) = l := by omega
    rw [e] at G
    exact G
  | @snoc n a b c h q ih =>
    intro l G
    refine (ih (l := l + 1) ?_).cut q
    have e : l + 1 + (n : Int) = l + ((n + 1 : Nat) : Int) := by omega
    rw [e]
    exact G
/-- an allocation that has made its cuts finds a free cell -/
theorem Good.serves {s : CS} {l : Int} (G : Good s l) (hl : 0 ≤ l) (h : l = 0 ∨ s.works = []) (hv : s.live < s.lim) : 1 ≤ s.free ∧ Good { s with free := s.free - 1, live := s.live + 1, begun := s.begun + 1 } s.cuts := by
  have hcons := G.cons
  have hbook := G.book
  have hc1 := G.c1
  have hlc := G.lc
  have hthr := G.thr
  have main : 1 ≤ s.free := by
    cases hw : s.works with
    | nil =>
      rw [hw] at hcons
      simp only [owed] at hcons
      omega
    | cons k r =>
      have h0 : l = 0 := by
        rcases h with h | h
        · exact h
        · rw [hw] at h; cases h
      subst h0
      have hk := G.inv k (by rw [hw]; exact List.mem_cons_self)
      have hcr := G.cred k r hw
      have hcl := hk.1.cnt_le
      have hon := owed_nonneg (l := s.works) (fun x hx => (G.inv x hx).1)
      by_cases hf : 1 ≤ s.free
      · exact hf
      · exfalso
        -- free is at most 0
        have h1 : s.cuts * (s.free - k.cnt - (s.cells - s.lim)) ≤ s.cuts * (-(s.cells - s.lim)) := Int.mul_le_mul_of_nonneg_left (by omega) (by omega)
        have h2 : s.cuts * (s.cells - s.lim + 1) = s.cuts * (s.cells - s.lim) + s.cuts := by rw [Int.mul_add, Int.mul_one]
        have h3 : s.cuts * (-(s.cells - s.lim)) = -(s.cuts * (s.cells - s.lim)) := Int.mul_neg _ _
        have h4 := hk.2.1
        have h5 := hk.2.2
        omega
  refine ⟨main, G.c1, G.lc, G.thr, by have := G.l0; dsimp only; omega, by dsimp only; omega, by dsimp only; omega, by dsimp only; omega, G.inv, G.tail, fun k r hw => ?_⟩
  dsimp only at hw ⊢
  have h0 : l = 0 := by
    rcases h with h | h
    · exact h
    · rw [hw] at h; cases h
  have hcr := G.cred k r hw
  have e1 : s.free - 1 - (k.cnt : Int) - (s.cells - s.lim) = (s.free - k.cnt - (s.cells - s.lim)) - 1 := by omega
  rw [e1, Int.mul_sub, Int.mul_one]
  omega

theorem Good.start {cells lim fields cuts : Int} (h1 : 1 ≤ cuts) (h2 : lim ≤ cells) (h3 : 1 ≤ lim) (h4 : lim ≤ cuts * (cells - lim + 1) + 1) : Good ⟨cells, lim, fields, cuts, cells, 0, 0, 0, [], []⟩ cuts :=
  ⟨h1, h2, h4, Int.le_refl _, by dsimp only; omega, by simp [owed], by simp [owed], fun k hk => absurd hk (List.not_mem_nil), fun k r h => (by cases h), fun k r h => (by cases h)⟩
/-- a single cell is dropped -/
theorem Good.drop1 {s : CS} (G : Good s s.cuts) (h : 1 ≤ s.live) : Good { s with free := s.free + 1, live := s.live - 1, drops := s.drops + 1, freed := s.freed ++ [(s.drops, 0)] } s.cuts := by
  have hcons := G.cons
  have hbook := G.book
  have hc1 := G.c1
  have hl1 := G.l1
  refine ⟨G.c1, G.lc, G.thr, by dsimp only; omega, by dsimp only; omega, by dsimp only; omega, by dsimp only; rw [List.length_append, List.length_singleton]; omega, G.inv, G.tail, fun k r hw => ?_⟩
  dsimp only at hw ⊢
  have hcr := G.cred k r hw
  have e1 : s.free + 1 - (k.cnt : Int) - (s.cells - s.lim) = (s.free - k.cnt - (s.cells - s.lim)) + 1 := by omega
  rw [e1, Int.mul_add, Int.mul_one]
  omega
/-- a larger tree is dropped -/
theorem Good.dropN {s : CS} {k : Wk} (G : Good s s.cuts) (h : (k.size : Int) ≤ s.live) (hk : WInv k) (he : k.ent = 1) (hz : k.cnt = 0) : Good { s with live := s.live - k.size, drops := s.drops + 1, works := s.works ++ [k] } s.cuts := by
  have hcons := G.cons
  have hbook := G.book
  have hc1 := G.c1
  have hl1 := G.l1
  have hp : 1 ≤ k.own.length := hk.pos
  have hs : k.size = k.own.length + 1 := rfl
  refine ⟨G.c1, G.lc, G.thr, by dsimp only; omega, by dsimp only; omega, ?_, ?_, ?_, ?_, ?_⟩
  · dsimp only
    rw [owed_append]
    simp only [owed]
    rw [hz]
    omega
  · dsimp only
    rw [owed_append]
    simp only [owed]
    rw [hz]
    omega
  · dsimp only
    intro x hx
    rcases List.mem_append.mp hx with hx | hx
    · exact G.inv x hx
    · have e : x = k := by simpa using hx
      subst e
      exact ⟨hk, by omega, by omega⟩
  · dsimp only
    intro a b hab x hx
    cases hw : s.works with
    | nil =>
      rw [hw] at hab
      cases hab
      cases hx
    | cons c t =>
      rw [hw] at hab
      obtain ⟨rfl, rfl⟩ := List.cons.inj hab
      rcases List.mem_append.mp hx with hx | hx
      · exact G.tail c t hw x hx
      · have e : x = k := by simpa using hx
        subst e
        exact ⟨he, hz⟩
  · dsimp only
    intro a b hab
    cases hw : s.works with
    | nil =>
      rw [hw] at hab hcons
      simp only [List.nil_append] at hab
      cases hab
      simp only [owed] at hcons
      rw [hz, he]
      have h0 : 0 ≤ s.free - ((0 : Nat) : Int) - (s.cells - s.lim) := by omega
      have h1 := Int.mul_nonneg (show 0 ≤ s.cuts by omega) h0
      omega
    | cons c t =>
      rw [hw] at hab
      obtain ⟨rfl, rfl⟩ := List.cons.inj hab
      exact G.cred c t hw

/-! ### the chain that stalls -/
/-- a heap whose one work is a chain of n + 1 cells, e of them entered, none free -/
structure ChainAt (s : CS) (n e : Nat) (num : Int) : Prop where
  w : ∃ k, s.works = [k] ∧ WInv k ∧ k.own = List.range n ∧ k.ent = e ∧ k.num = num ∧ k.cnt = 0
theorem ChainAt.cut {s s' : CS} {n e : Nat} {num : Int} (C : ChainAt s n e num) (he : e < n) (q : CutR s s') : ChainAt s' n (e + 1) num ∧ s'.free = s.free ∧ s'.freed = s.freed := by
  obtain ⟨k, hw, hi, ho, hent, hnum, hz⟩ := C.w
  obtain ⟨k1, k', r, ended, hw', E, _, rfl⟩ := q.cut
  rw [hw] at hw'
  cases hw'
  have h1 := E.i'
  unfold WInv at h1
  rw [E.own, ho] at h1
  have h2 := chain_none h1 (by rw [E.ent, hent]; exact he)
  have h3 := E.cnt
  have h4 : k'.cnt = 0 := h2
  have h5 : ended = [] := List.eq_nil_of_length_eq_zero (by omega)
  subst h5
  have h6 : ¬ k'.ent = k'.size := by
    unfold Wk.size
    rw [E.ent, E.own, ho, hent, List.length_range]
    omega
  refine ⟨⟨k', ?_, E.i', E.own.trans ho, by rw [E.ent, hent], E.num.trans hnum, h4⟩, by simp, by simp⟩
  dsimp only
  rw [if_neg h6]
theorem ChainAt.last {s s' : CS} {n : Nat} {num : Int} (C : ChainAt s n n num) (q : CutR s s') : s'.works = [] ∧ s'.free = s.free + n + 1 ∧ s'.freed = s.freed ++ (List.range (n + 1)).map (fun i => (num, n - i)) := by
  obtain ⟨k, hw, hi, ho, hent, hnum, hz⟩ := C.w
  obtain ⟨k1, k', r, ended, hw', E, hlow, rfl⟩ := q.cut
  rw [hw] at hw'
  cases hw'
  have h6 : k'.ent = k'.size := by
    unfold Wk.size
    rw [E.ent, E.own, ho, hent, List.length_range]
  have h7 := E.i'.cnt_all h6
  have hs : k'.size = n + 1 := by
    unfold Wk.size
    rw [E.own, ho, List.length_range]
  have h3 := E.cnt
  have hlen : ended.length = n + 1 := by omega
  have hp := E.path
  rw [ho] at hp
  have he := path_all hp hlen (fun c hc => by have := hlow c hc; rw [ho, List.length_range] at this; exact this)
  refine ⟨?_, ?_, ?_⟩
  · dsimp only
    rw [if_pos h6]
  · dsimp only
    rw [hlen]
    omega
  · dsimp only
    rw [he, hnum, List.map_map]
    rfl
/-- some cuts that do not reach the end -/
theorem ChainAt.cuts {n m : Nat} {s s' : CS} (q : CutsR m s s') : ∀ {e : Nat} {num : Int}, ChainAt s n e num → e + m ≤ n → ChainAt s' n (e + m) num ∧ s'.free = s.free ∧ s'.freed = s.freed := by
  induction q with
  | nil => exact fun C _ => ⟨C, rfl, rfl⟩
  | snoc h q ih =>
    intro e num C he
    obtain ⟨C1, f1, g1⟩ := ih C (by omega)
    obtain ⟨C2, f2, g2⟩ := C1.cut (by omega) q
    exact ⟨C2, f2.trans f1, g2.trans g1⟩
/-- no cut without a work -/
theorem CutsR.stop {m : Nat} {s s' : CS} (q : CutsR m s s') (h : s.works = []) : m = 0 ∧ s' = s := by
  induction q with
  | nil => exact ⟨rfl, rfl⟩
  | snoc h1 q ih =>
    obtain ⟨_, rfl⟩ := ih h
    obtain ⟨k, k', r, ended, hw, _⟩ := q.cut
    rw [h] at hw
    cases hw
end SH
/-! ## G0 -/
namespace SH
open PySem L2
/-! ### the text by places -/
def top (i : Nat) : Stmt := PySem.Challenge.pw_spareheap_k52_whole_children_threshold.main.body.getD i (.Pass ⟨0, 0, 0, 0⟩)
abbrev sShown : Stmt := top 4
abbrev sStalled : Stmt := inClass (top 10) 0
abbrev sIsInt : Stmt := top 14
abbrev sChecked : Stmt := top 15
abbrev sCheckTree : Stmt := top 19
abbrev sChildren : Stmt := top 20
abbrev sPreorder : Stmt := top 21
abbrev sFits : Stmt := top 22
abbrev sNever : Stmt := top 24
abbrev sWkInit : Stmt := inClass (top 25) 0
abbrev sWkOver : Stmt := inClass (top 25) 1
abbrev sWkEnter : Stmt := inClass (top 25) 2
abbrev sChInit : Stmt := inClass (top 26) 0
abbrev sChFree : Stmt := inClass (top 26) 1
abbrev sChLive : Stmt := inClass (top 26) 2
abbrev sChMake : Stmt := inClass (top 26) 3
abbrev sChDrop : Stmt := inClass (top 26) 4
abbrev sChFreed : Stmt := inClass (top 26) 5
abbrev sChNext : Stmt := inClass (top 26) 6
abbrev sSetInit : Stmt := inClass (top 30) 0
abbrev sSetReach : Stmt := inClass (top 30) 2
abbrev sBox : Stmt := top 32
abbrev sDraw : Stmt := top 33
abbrev sWhole : Stmt := top 34
abbrev sDigits : Stmt := top 35
abbrev sWidth : Stmt := top 36
abbrev sSays : Stmt := top 37
abbrev sGreat : Stmt := top 38
abbrev sSmall : Stmt := top 39
abbrev sNumber : Stmt := top 40
abbrev sServed : Stmt := top 41
abbrev sAnyTree : Stmt := top 42
abbrev sTree : Stmt := top 43
abbrev sSurvives : Stmt := top 44
abbrev sStalls : Stmt := top 45
abbrev sLaw : Stmt := top 46

/-! ### built-in names, and the module's numbers -/
structure Glo (K : PySem.W.Frag) (mg : Str → Option Value) : Prop where
  isinstance : mg "isinstance" = none
  int : mg "int" = none
  bool : mg "bool" = none
  str : mg "str" = none
  len : mg "len" = none
  list : mg "list" = none
  range : mg "range" = none
  enumerate : mg "enumerate" = none
  max : mg "max" = none
  min : mg "min" = none
  super : mg "super" = none
  most : ∃ t, mg "MOST" = some (.int (10 ^ 30) t)
  large : ∃ t, mg "LARGE" = some (.int (10 ^ 40) t)
  cellsMost : ∃ t, mg "MOST_CELLS" = some (.int 2000 t)

/-! ### a def of the text, by its name -/
structure Df (K : PySem.W.Frag) (mg : Str → Option Value) (x qual : Str) (st : Stmt) (ps : List Str) : Prop where
  ex : ∃ f fd, Fun K x qual st f fd ∧ mg x = some (.ref f) ∧ Binds K fd ps []
/-- a def that keeps its promise, as its callers know it -/
structure Cal (P : Program) (w : World) (K : PySem.W.Frag) (mg : Str → Option Value) (base : Heap) (CX : CXT) (k : Nat) (x : Str) (ps : List Str) (sp : Sp) : Prop where
  ex : ∃ f fd, mg x = some (.ref f) ∧ PySem.W.keepIn K (.ref f) = true ∧ Binds K fd ps [] ∧ FnOk P w K mg base CX k f fd ps sp
/-- a method of the class at C -/
structure Mf (K : PySem.W.Frag) (C : Addr) (m qual : Str) (st : Stmt) (ps : List Str) : Prop where
  ex : ∃ f fd, Fun K m qual st f fd ∧ Meth K C m f ∧ Binds K fd ps []
structure CalM (P : Program) (w : World) (K : PySem.W.Frag) (mg : Str → Option Value) (base : Heap) (CX : CXT) (k : Nat) (C : Addr) (m : Str) (ps : List Str) (sp : Sp) : Prop where
  ex : ∃ f fd, Meth K C m f ∧ Binds K fd ps [] ∧ FnOk P w K mg base CX k f fd ps sp
/-- a class with an __init__ -/
structure Kf (K : PySem.W.Frag) (mg : Str → Option Value) (C : Addr) (x qual : Str) (st : Stmt) (ps : List Str) : Prop where
  ex : ∃ f fd, Fun K "__init__" qual st f fd ∧ Mk K C f ∧ Binds K fd ps []
  at_ : mg x = some (.ref C)
structure CalK (P : Program) (w : World) (K : PySem.W.Frag) (mg : Str → Option Value) (base : Heap) (CX : CXT) (k : Nat) (C : Addr) (x : Str) (ps : List Str) (sp : Sp) : Prop where
  ex : ∃ f fd, Mk K C f ∧ Binds K fd ps [] ∧ FnOk P w K mg base CX k f fd ps sp
  at_ : mg x = some (.ref C)
section
variable {P : Program} {w : World} {K : PySem.W.Frag} {mg : Str → Option Value} {base : Heap} {CX : CXT} {k : Nat} {x m qual : Str} {st : Stmt} {ps : List Str} {sp : Sp} {C : Addr}
theorem Df.cal (d : Df K mg x qual st ps) (h : ∀ f fd, Fun K x qual st f fd → FnOk P w K mg base CX k f fd ps sp) : Cal P w K mg base CX k x ps sp := by
  obtain ⟨f, fd, F, e, b⟩ := d.ex
  exact ⟨f, fd, e, F.kp, b, h f fd F⟩
theorem Mf.cal (d : Mf K C m qual st ps) (h : ∀ f fd, Fun K m qual st f fd → FnOk P w K mg base CX k f fd ps sp) : CalM P w K mg base CX k C m ps sp := by
  obtain ⟨f, fd, F, e, b⟩ := d.ex
  exact ⟨f, fd, e, b, h f fd F⟩
theorem Kf.cal (d : Kf K mg C x qual st ps) (h : ∀ f fd, Fun K "__init__" qual st f fd → FnOk P w K mg base CX k f fd ps sp) : CalK P w K mg base CX k C x ps sp := by
  obtain ⟨f, fd, F, e, b⟩ := d.ex
  exact ⟨⟨f, fd, e, b, h f fd F⟩, d.at_⟩
end
section
variable {X : Cx} {CX : CXT} {k : Nat} {x m : Str} {ps : List Str} {sp : Sp} {C : Addr} {E : XK} {e o : Expr} {es : List Expr} {t : TA} {ta : TE} {p pos apos : Pos}
theorem pe_cal (c : Cal X.prog X.w X.K X.mg X.base CX k x ps sp) (hr : Room k X.A) (hx : Passes CX X E) (ha : PA X (e :: es) t) (hg : Gl X x := by rfl) (hdb : (x == ("__debug__" : Str)) = false := by decide)
    (he : starEach (e :: es) X.env = (false, eval e X.env) :: starEach es X.env := by rfl) (hpl : (backTo pos (starEach es X.env)).any (·.1) = false := by rfl) : PE X (.Call (.Name x p) (e :: es) [] pos) (tCall sp [] E t) := by
  obtain ⟨f, fd, m, kp, b, F⟩ := c.ex
  exact pe_call F hr hg m kp b .nil hx ha hdb he hpl
theorem pe_calM {pl : Sem Bool} (ho : PE X o ta) (cl : Cls X.K C) (c : CalM X.prog X.w X.K X.mg X.base CX k C m ps sp) (hr : Room k X.A) (hx : Passes CX X E) (ha : PA X (e :: es) t)
    (hst : starEach (e :: es) X.env = (false, eval e X.env) :: starEach es X.env := by rfl) (hpl : (backTo pos (starEach es X.env)).any (·.1) = false := by rfl)
    (ht : eval (.Call (.Attribute o m apos) (e :: es) [] pos) X.env = (do
      let ov ← eval o X.env
      standAt apos.atName
      let (f, first) ← holding [ov] (getMethod ov m pl)
      callWith pos f first (backTo pos (starEach (e :: es) X.env)) (backToKw pos (keywordEach [] X.env))) := by rfl) :
    PE X (.Call (.Attribute o m apos) (e :: es) [] pos) (tMeth C m sp [] E ta t) := by
  obtain ⟨f, fd, hm, b, F⟩ := c.ex
  exact pe_meth ho cl hm F hr b .nil hx ha hst hpl ht
theorem pe_calM0 {pl : Sem Bool} (ho : PE X o ta) (cl : Cls X.K C) (c : CalM X.prog X.w X.K X.mg X.base CX k C m ps sp) (hr : Room k X.A) (hx : Passes CX X E)
    (ht : eval (.Call (.Attribute o m apos) [] [] pos) X.env = (do
      let ov ← eval o X.env
      standAt apos.atName
      let (f, first) ← holding [ov] (getMethod ov m pl)
      callWith pos f first (backTo pos (starEach [] X.env)) (backToKw pos (keywordEach [] X.env))) := by rfl) :
    PE X (.Call (.Attribute o m apos) [] [] pos) (tMeth C m sp [] E ta tNil) := by
  obtain ⟨f, fd, hm, b, F⟩ := c.ex
  exact pe_meth0 ho cl hm F hr b .nil hx ht
theorem pe_calK (c : CalK X.prog X.w X.K X.mg X.base CX k C x ps sp) (hr : Room (k + 1) X.A) (hx : Passes CX X E) (ha : PA X (e :: es) t) (hg : Gl X x := by rfl) (hdb : (x == ("__debug__" : Str)) = false := by decide)
    (he : starEach (e :: es) X.env = (false, eval e X.env) :: starEach es X.env := by rfl) (hpl : (backTo pos (starEach es X.env)).any (·.1) = false := by rfl) : PE X (.Call (.Name x p) (e :: es) [] pos) (tMake C sp [] E t) := by
  obtain ⟨f, fd, M, b, F⟩ := c.ex
  exact pe_make M F hr hg c.at_ b .nil hx ha hdb he hpl
end
/-! ### small words -/
theorem lk_eq (k : Str) (v : V) (r : List (Str × V)) : List.lookup k ((k, v) :: r) = some v := by simp [List.lookup]
theorem lk_ne {x k : Str} {v : V} {r : List (Str × V)} (h : (x == k) = false) : List.lookup x ((k, v) :: r) = List.lookup x r := by simp [List.lookup, h]
theorem put_eq (k : Str) (v w : V) (r : List (Str × V)) : putF k v ((k, w) :: r) = (k, v) :: r := if_pos rfl
theorem put_ne {x k : Str} {v w : V} {r : List (Str × V)} (h : (k == x) = false) : putF x v ((k, w) :: r) = (k, w) :: putF x v r := if_neg (by simpa using h)
def nV (n : Nat) : V := .int (n : Int)
theorem nV_get {l : List Nat} {i n : Nat} (h : l[i]? = some n) : (l.map nV)[i]? = some (nV n) := by rw [List.getElem?_map, h]; rfl
theorem nV_of {l : List Nat} {i : Nat} {x : V} (h : (l.map nV)[i]? = some x) : ∃ n, l[i]? = some n ∧ x = nV n := by
  rw [List.getElem?_map] at h
  cases e : l[i]? with
  | none => rw [e] at h; cases h
  | some n => rw [e] at h; exact ⟨n, rfl, (Option.some.inj h).symm⟩
/-- for i, x in enumerate(list) -/
theorem for_enum {K : PySem.W.Frag} {a : Addr} {xs : List V} {g : TG} {tb : TS} {D : Ends} {σ : L2.St} {H : Hp} (Pv : Nat → L2.St → Hp → Prop) (h0 : Pv 0 σ H) (hl : ∀ i σ H, i ≤ xs.length → Pv i σ H → SqL K H a xs)
    (hs : ∀ (i : Nat) x σ H T, xs[i]? = some x → Pv i σ H → H T = none → g (.ref T) σ (upd H T (.tup [.int (i : Int), x])) fun σ2 H2 => tb { D with nx := Pv (i + 1), ct := Pv (i + 1), bk := D.nx } σ2 H2) (hd : ∀ σ H, Pv xs.length σ H → D.nx σ H) :
    ∃ W : Nat → Nat → L2.St → Hp → Prop, (∃ m, W 0 m σ H) ∧ ∀ i m σ H, W i m σ H →
      ((Ite K a).stop i H ∧ D.nx σ H) ∨ ((Ite K a).go i H ∧ ∃ N : L2.St → Hp → Prop, (∀ σ' H', N σ' H' → ∃ m', m' < m ∧ W (i + 1) m' σ' H') ∧ ∀ x H', (Ite K a).yld i H x H' → g x σ H' fun σ2 H2 => tb { D with nx := N, ct := N, bk := D.nx } σ2 H2) := by
  refine ⟨fun i m σ H => m = xs.length - i ∧ i ≤ xs.length ∧ Pv i σ H, ⟨xs.length, by simp, Nat.zero_le _, h0⟩, ?_⟩
  rintro i m σ H ⟨rfl, hi, p⟩
  have q := hl i σ H hi p
  by_cases hlt : i < xs.length
  · refine .inr ⟨⟨xs, xs[i], q, by simp [hlt]⟩, Pv (i + 1), fun σ' H' p' => ⟨xs.length - (i + 1), by omega, rfl, hlt, p'⟩, fun x H' y => ?_⟩
    obtain ⟨T, z, e1, e2, e3, y⟩ := y
    subst e1 e3
    exact hs i z σ _ T (y xs q) p e2
  · have e : i = xs.length := by omega
    subst e
    exact .inl ⟨⟨xs, q, Nat.le_refl _⟩, hd σ H p⟩
theorem Same.laid {H : Hp} {p : Addr} {o : HO} (h : H p = none) : Same H (upd H p o) := fun b u e => by
  rw [upd_ne (ne_of_none e h)]
  exact e
theorem line_big {n : Nat} (h : n ≤ 100000) : n < sizeLine := Nat.lt_of_le_of_lt h (by decide)
end SH
/-! ## D1 -/
namespace SH
open PySem L2
def spIsInt : Sp := fun vs H Q _ => ∃ n : Int, vs = [.int n] ∧ Q (.bl true) H
def spChecked : Sp := fun vs H Q _ => ∃ n lo hi : Int, vs = [.int n, .int lo, .int hi] ∧ lo ≤ n ∧ n ≤ hi ∧ Q (.int n) H
section
variable {P : Program} {w : World} {K : PySem.W.Frag} {mg : Str → Option Value} {base : Heap}
theorem scIsInt : FnScope ["value"] ["value"] (defScope sIsInt) := ⟨rfl, rfl, rfl, by decide +kernel, rfl, by decide +kernel, by decide +kernel⟩
theorem ok_isint {f : Addr} {fd : FuncData} (F : Fun K "is_integer" "is_integer" sIsInt f fd) (T : Glo K mg) : FnOk P w K mg base CX0 1 f fd ["value"] spIsInt := by
  refine F.ok scIsInt (fun vs H Q E h => ?_) (fun cdv A outer s H vs Q E hr h => ?_)
  · obtain ⟨n, rfl, _⟩ := h
    rfl
  · obtain ⟨n, rfl, k⟩ := h
    refine ⟨_, pss_one (ps_ret (pe_and (pe_callB call_isi (by rfl) T.isinstance (by decide +kernel) (pa_cons (pv 0) (pa_cons (pe_bltn (v := .ty "int") (by rfl) T.int (by decide +kernel) rfl) pa_nil)))
      (pe_one (pe_not (pe_callB call_isi (by rfl) T.isinstance (by decide +kernel) (pa_cons (pv 0) (pa_cons (pe_bltn (v := .ty "bool") (by rfl) T.bool (by decide +kernel) rfl) pa_nil))))))), ?_⟩
    refine ⟨_, rfl, _, _, _, _, true, rfl, .ty _, .base (.int _), kit_ty (by decide +kernel), true, rfl, iteT ?_⟩
    exact ⟨_, rfl, _, _, _, _, false, rfl, .ty _, .base (.int _), kit_ty (by decide +kernel), false, rfl, k⟩
theorem scChecked : FnScope ["value", "low", "high"] ["value", "low", "high"] (defScope sChecked) := ⟨rfl, rfl, rfl, by decide +kernel, rfl, by decide +kernel, by decide +kernel⟩
theorem ok_checked {f : Addr} {fd : FuncData} (F : Fun K "checked_number" "checked_number" sChecked f fd) (T : Glo K mg) (c1 : Cal P w K mg base CX0 1 "is_integer" ["value"] spIsInt) : FnOk P w K mg base CX0 2 f fd ["value", "low", "high"] spChecked := by
  refine F.ok scChecked (fun vs H Q E h => ?_) (fun cdv A outer s H vs Q E hr h => ?_)
  · obtain ⟨n, lo, hi, rfl, _⟩ := h
    rfl
  · obtain ⟨n, lo, hi, rfl, h1, h2, k⟩ := h
    refine ⟨_, pss_cons (ps_if (PW.pt (pw_or (pt_not (pt_val (pe_cal c1 hr pass0 (pa_cons (pv 0) pa_nil)))) (pw_or1 (pt_cmpR op_lt (pv 0) (pv 1) (nomark _))))) (pss_one ps_never) pss_nil)
      (pss_cons (ps_if (PW.pt (pw_and (pt_cmpR op_notN (pv 2) pe_non (nomark _)) (pw_and1 (pt_cmpR op_gt (pv 0) (pv 2) (nomark _))))) (pss_one ps_never) pss_nil)
      (pss_one (ps_ret (pv 0)))), ?_⟩
    refine ⟨_, rfl, n, rfl, true, rfl, iteF ?_⟩
    refine ⟨_, rfl, _, rfl, _, _, rfl, rfl, _, rfl, ?_⟩
    rw [decide_eq_false (by omega)]
    refine iteF ?_
    refine ⟨_, rfl, rfl, _, rfl, iteT ?_⟩
    refine ⟨_, rfl, _, rfl, _, _, rfl, rfl, _, rfl, ?_⟩
    rw [decide_eq_false (by omega)]
    exact iteF ⟨_, rfl, k⟩
end
end SH
/-! ## D2 -/
namespace SH
open PySem L2
def spCheckTree : Sp := fun vs H Q _ => ∃ (a : Addr) (own : List Nat), vs = [.ref a] ∧ H a = some (.lst (own.map nV)) ∧ TreeOk own ∧ own.length ≤ 1999 ∧ ∀ H', Same H H' → Q .non H'
def spChildren : Sp := fun vs H Q _ => ∃ (a : Addr) (own : List Nat), vs = [.ref a] ∧ H a = some (.lst (own.map nV)) ∧ TreeOk own ∧ own.length ≤ 1999 ∧
  ∀ (H' : Hp) (p : Addr) (ls : List Addr), Same H H' → H p = none → H' p = some (.lst (ls.map V.ref)) → ls.length = own.length + 1 → (∀ (c : Nat) l, ls[c]? = some l → H' l = some (.lst ((kids own c).map nV))) → Q (.ref p) H'
section
variable {P : Program} {w : World} {K : PySem.W.Frag} {mg : Str → Option Value} {base : Heap}
theorem scCheckTree : FnScope ["tree", "place", "owner"] ["tree"] (defScope sCheckTree) := ⟨rfl, rfl, rfl, by decide +kernel, rfl, by decide +kernel, by decide +kernel⟩
theorem ok_checktree {f : Addr} {fd : FuncData} (F : Fun K "check_tree" "check_tree" sCheckTree f fd) (T : Glo K mg) (c1 : Cal P w K mg base CX0 1 "is_integer" ["value"] spIsInt) : FnOk P w K mg base CX0 2 f fd ["tree"] spCheckTree := by
  refine F.ok scCheckTree (fun vs H Q E h => ?_) (fun cdv A outer s H vs Q E hr h => ?_)
  · obtain ⟨a, own, rfl, _⟩ := h
    rfl
  · obtain ⟨a, own, rfl, hA, hT, hlen, k⟩ := h
    obtain ⟨t0, g0⟩ := T.cellsMost
    refine ⟨_, pss_cons (ps_if (pt_not (pt_val (pe_callB call_isi (by rfl) T.isinstance (by decide +kernel) (pa_cons (pv 0) (pa_cons (pe_bltn (v := .ty "list") (by rfl) T.list (by decide +kernel) rfl) pa_nil))))) (pss_one ps_never) pss_nil)
      (pss_cons (ps_if (pt_cmpR op_gt (pe_callB call_len_seq (by rfl) T.len PySem.boot_len (pa_cons (pv 0) pa_nil)) (pe_op op_sub (pe_glob (v := .int 2000) rfl g0 ⟨_, rfl⟩) pe_int) (nomark _)) (pss_one ps_never) pss_nil)
      (pss_one (ps_for PassesOwn.never rfl (pi_enum (by rfl) T.enumerate (pa_cons (pv 0) pa_nil)) (pg_tup rfl (pgs_cons (pg_name (i := 1) scCheckTree.nd rfl (.inl rfl)) (pgs_cons (pg_name (i := 2) scCheckTree.nd rfl (.inl rfl)) pgs_nil)))
        (pss_one (ps_if (PW.pt (pw_or (pt_not (pt_val (pe_cal c1 hr pass0 (pa_cons (pv 2) pa_nil)))) (pw_or (pt_cmpR op_lt (pv 2) pe_int (nomark _)) (pw_or1 (pt_cmpR op_gt (pv 2) (pv 1) (nomark _)))))) (pss_one ps_never) pss_nil))))), ?_⟩
    refine ⟨_, rfl, _, _, _, _, true, rfl, .ty _, .base (.lst hA), kit_ty (by decide +kernel), true, rfl, iteF ?_⟩
    refine ⟨_, rfl, a, _, rfl, .inl (SqL.of hA), _, _, rfl, rfl, _, _, rfl, rfl, _, rfl, ?_⟩
    rw [decide_eq_false (by rw [List.length_map]; omega)]
    refine iteF ?_
    refine ⟨_, rfl, a, _, rfl, SqL.of hA, for_enum (K := K) (a := a) (xs := own.map nV) (fun i σ H' => ∃ v1 v2 : Option V, σ = [some (.ref a), v1, v2] ∧ Same H H') ⟨none, none, rfl, Same.refl _⟩
      (fun i σ H' _ ⟨_, _, _, s1⟩ => s1.seq (SqL.of hA)) ?_ ?_⟩
    · rintro i y σ H' T0 hi ⟨v1, v2, rfl, s1⟩ hT0
      obtain ⟨n, hn, rfl⟩ := nV_of hi
      have hni := hT i n hn
      refine ⟨T0, _, rfl, SqT.of upd_same, rfl, _, _, rfl, _, _, rfl, rfl, ?_⟩
      refine ⟨_, rfl, _, rfl, true, rfl, iteF ?_⟩
      refine ⟨_, rfl, _, _, rfl, rfl, _, rfl, ?_⟩
      rw [decide_eq_false (by omega)]
      refine iteF ?_
      refine ⟨_, rfl, _, rfl, _, _, rfl, rfl, _, rfl, ?_⟩
      rw [decide_eq_false (by omega)]
      exact iteF ⟨_, _, rfl, s1.trans (Same.laid hT0)⟩
    · rintro σ H' ⟨v1, v2, rfl, s1⟩
      exact k _ s1
theorem scChildren : FnScope ["tree", "children", "place", "owner", "_"] ["tree"] (defScope sChildren) := ⟨rfl, rfl, rfl, by decide +kernel, rfl, by decide +kernel, by decide +kernel⟩
theorem ok_children {f : Addr} {fd : FuncData} (F : Fun K "children_of" "children_of" sChildren f fd) (T : Glo K mg) (c1 : Cal P w K mg base CX0 2 "check_tree" ["tree"] spCheckTree) : FnOk P w K mg base CX0 3 f fd ["tree"] spChildren := by
  refine F.ok scChildren (fun vs H Q E h => ?_) (fun cdv A outer s H vs Q E hr h => ?_)
  · obtain ⟨a, own, rfl, _⟩ := h
    rfl
  · obtain ⟨a, own, rfl, hA, hT, hlen, k⟩ := h
    refine ⟨_, pss_cons (ps_expr (pe_cal c1 hr pass0 (pa_cons (pv 0) pa_nil)))
      (pss_cons (ps_setLc (i := 1) (own := [("_", 4)]) (g := gName 4) (by rfl) scChildren.nd rfl rfl (sw_true rfl rfl rfl (by decide +kernel)) (pi_range1 (by rfl) T.range (pa_cons (pe_op op_add (pe_callB call_len_seq (by rfl) T.len PySem.boot_len (pa_cons (pv 0) pa_nil)) pe_int) pa_nil))
          (blkOk_by (own := [("_", 4)]) (N := ["tree", "children", "place", "owner", "_"]) (sc := defScope sChildren) (by decide +kernel)) (fun _ _ _ _ _ => pg_name (i := 4) scChildren.nd rfl (Or.inl rfl)) (fun _ _ _ _ _ => pts_nil) (fun _ _ _ _ _ => pe_lst pa_nil))
      (pss_cons (ps_for PassesOwn.never rfl (pi_enum (by rfl) T.enumerate (pa_cons (pv 0) pa_nil)) (pg_tup rfl (pgs_cons (pg_name (i := 2) scChildren.nd rfl (.inl rfl)) (pgs_cons (pg_name (i := 3) scChildren.nd rfl (.inl rfl)) pgs_nil)))
        (pss_one (ps_expr (pe_bm PySem.F.plainAttrs_list PySem.F.slot_list_append PySem.F.type_list_append mt_append (pe_ix ix_list (pv 1) (pv 3) (fun _ _ => rfl)) (pa_cons (pe_op op_add (pv 2) pe_int) pa_nil)))))
      (pss_one (ps_ret (pv 1))))), ?_⟩
    refine ⟨_, rfl, a, own, rfl, hA, hT, hlen, fun H1 s1 => ?_⟩
    have hA1 := s1 _ _ hA
    refine ⟨_, rfl, a, _, rfl, .inl (SqL.of hA1), _, _, rfl, rfl, _, rfl, (by omega), (by rw [List.length_map]; omega), fun D hD => ?_⟩
    refine lc_range (lo := 0) (n := _) (fun i H' => ∃ ls : List Addr, Same H1 H' ∧ H' D = some (.lst (ls.map V.ref)) ∧ ls.length = i ∧ ls.Nodup ∧ ∀ l ∈ ls, H' l = some (.lst []) ∧ H1 l = none ∧ l ≠ D)
      ⟨[], Same.laid hD, upd_same, rfl, List.nodup_nil, fun l hl => absurd hl List.not_mem_nil⟩ ?_ ?_
    · rintro i H' hi ⟨ls, s2, hL, hll, hnd, hall⟩
      have hi2 : i ≤ 1999 := by rw [List.length_map] at hi; omega
      refine ⟨rfl, Nat.zero_le _, fun l hl => ?_⟩
      have hDl : D ≠ l := ne_of_none hL hl
      have hnew : ∀ b ∈ ls, b ≠ l := fun b hb => ne_of_none (hall b hb).1 hl
      refine ⟨ls.map V.ref, by rw [upd_ne hDl]; exact hL, line_big (by rw [List.length_map]; omega), ls ++ [l], fun b o e => ?_, by rw [upd_same, List.map_append]; rfl, by rw [List.length_append]; simp [hll], ?_, fun b hb => ?_⟩
      · have hbD : b ≠ D := ne_of_none e hD
        rw [upd_ne hbD, upd_ne (ne_of_none (s2 b o e) hl)]
        exact s2 b o e
      · rw [List.nodup_append]
        exact ⟨hnd, by simp, fun x hx y hy => by rw [List.mem_singleton] at hy; rw [hy]; exact hnew x hx⟩
      · rcases List.mem_append.mp hb with hb | hb
        · have z := hall b hb
          exact ⟨by rw [upd_ne z.2.2, upd_ne (hnew b hb)]; exact z.1, z.2⟩
        · rw [List.mem_singleton] at hb
          rw [hb]
          exact ⟨by rw [upd_ne hDl.symm, upd_same], s2.free hl, hDl.symm⟩
    · rintro H2 ⟨ls, s2, hL, hll, hnd, hall⟩
      have hll2 : ls.length = own.length + 1 := by rw [hll, List.length_map]; omega
      have hA2 := s2 _ _ hA1
      refine ⟨_, rfl, a, _, rfl, SqL.of hA2, for_enum (K := K) (a := a) (xs := own.map nV) (fun i σ H' => ∃ v2 v3 v4 : Option V, σ = [some (.ref a), some (.ref D), v2, v3, v4] ∧ Same H1 H' ∧ H' D = some (.lst (ls.map V.ref)) ∧ ∀ (c : Nat) l, ls[c]? = some l → H' l = some (.lst ((kidsTo own i c).map nV)))
        ⟨none, none, none, rfl, s2, hL, fun c l hc => (hall l (List.mem_of_getElem? hc)).1⟩ (fun i σ H' _ ⟨_, _, _, _, s3, _⟩ => s3.seq (SqL.of hA1)) ?_ ?_⟩
      · rintro i y σ H' T0 hi ⟨v2, v3, v4, rfl, s3, hL3, hk⟩ hT0
        obtain ⟨n, hn, rfl⟩ := nV_of hi
        have hni := hT i n hn
        have hil := (List.getElem?_eq_some_iff.mp hn).1
        obtain ⟨l, hl⟩ : ∃ l, ls[n]? = some l := ⟨ls[n], List.getElem?_eq_getElem (by omega)⟩
        have hH := hk n l hl
        have hlT : l ≠ T0 := ne_of_none hH hT0
        have hDT : D ≠ T0 := ne_of_none hL3 hT0
        have hlm := hall l (List.mem_of_getElem? hl)
        have hH' : upd H' T0 (.tup [.int (i : Int), nV n]) l = some (.lst ((kidsTo own i n).map nV)) := by rw [upd_ne hlT]; exact hH
        refine ⟨T0, _, rfl, SqT.of upd_same, rfl, _, _, rfl, _, _, rfl, rfl, ?_⟩
        refine ⟨_, rfl, _, rfl, D, _, _, _, rfl, rfl, SqL.of (by rw [upd_ne hDT]; exact hL3), at_of (j := n) (v := .ref l) rfl (by rw [List.getElem?_map, hl]; rfl), .inl ⟨rfl, _, SqL.of hH'⟩,
          _, rfl, _, _, rfl, rfl, l, _, _, rfl, rfl, hH', line_big (by rw [List.length_map]; have := kidsTo_len own i n; omega), ?_⟩
        refine ⟨_, _, _, rfl, fun b o e => ?_, ?_, fun c l2 hc => ?_⟩
        · have hb : b ≠ l := ne_of_none e hlm.2.1
          rw [upd_ne hb, upd_ne (ne_of_none (s3 b o e) hT0)]
          exact s3 b o e
        · rw [upd_ne hlm.2.2.symm, upd_ne hDT]
          exact hL3
        · by_cases ec : c = n
          · subst ec
            rw [hl] at hc
            have e2 : l = l2 := Option.some.inj hc
            rw [← e2, upd_same, kidsTo_succ hn, if_pos rfl, List.map_append]
            rfl
          · have hne : l2 ≠ l := fun q => ec (by rw [q] at hc; exact (nd_ix hnd hc hl))
            rw [upd_ne hne, upd_ne (ne_of_none (hk c l2 hc) hT0), kidsTo_succ hn, if_neg (fun q => ec q.symm)]
            exact hk c l2 hc
      · rintro σ H' ⟨v2, v3, v4, rfl, s3, hL3, hk⟩
        refine ⟨_, rfl, k H' D ls (s1.trans s3) (s1.free hD) hL3 hll2 (fun c l hc => ?_)⟩
        have := hk c l hc
        rw [List.length_map] at this
        exact this
end
end SH
/-! ## D3 -/
namespace SH
open PySem L2
def spPreorder : Sp := fun vs H Q _ => ∃ (a : Addr) (own : List Nat), vs = [.ref a] ∧ H a = some (.lst (own.map nV)) ∧ TreeOk own ∧ own.length ≤ 1999 ∧
  ∀ (H' : Hp) (p : Addr) (ord : List Nat), Same H H' → H p = none → H' p = some (.lst (ord.map nV)) → PreOk own ord → Q (.ref p) H'
def spFits : Sp := fun vs H Q _ => ∃ (a : Addr) (own : List Nat) (n : Int), vs = [.ref a, .int n] ∧ H a = some (.lst (own.map nV)) ∧ TreeOk own ∧ own.length ≤ 1999 ∧ 1 ≤ n ∧ n ≤ 10 ^ 30 ∧ Fits own n ∧ ∀ H', Same H H' → Q (.bl true) H'
def rLen (K : PySem.W.Frag) : List V → Hp → VK → Prop := fun xs H Q => ∃ p ys, xs = [V.ref p] ∧ (SqL K H p ys ∨ SqT K H p ys) ∧ Q (.int ys.length) H
def lenAt (H : Hp) (a : Addr) : Nat := match H a with
  | some (.lst xs) => xs.length
  | _ => 0
section
variable {P : Program} {w : World} {K : PySem.W.Frag} {mg : Str → Option Value} {base : Heap}
theorem scPreorder : FnScope ["tree", "children", "order", "waiting", "cell", "child"] ["tree"] (defScope sPreorder) := ⟨rfl, rfl, rfl, by decide +kernel, rfl, by decide +kernel, by decide +kernel⟩
theorem ok_preorder {f : Addr} {fd : FuncData} (F : Fun K "preorder" "preorder" sPreorder f fd) (T : Glo K mg) (c1 : Cal P w K mg base CX0 3 "children_of" ["tree"] spChildren) : FnOk P w K mg base CX0 4 f fd ["tree"] spPreorder := by
  refine F.ok scPreorder (fun vs H Q E h => ?_) (fun cdv A outer s H vs Q E hr h => ?_)
  · obtain ⟨a, own, rfl, _⟩ := h
    rfl
  · obtain ⟨a, own, rfl, hA, hT, hlen, k⟩ := h
    refine ⟨_, pss_cons (ps_set (i := 1) scPreorder.nd rfl (.inl rfl) (pe_cal c1 hr pass0 (pa_cons (pv 0) pa_nil)))
      (pss_cons (ps_set (i := 2) scPreorder.nd rfl (.inl rfl) (pe_lst pa_nil))
      (pss_cons (ps_set (i := 3) scPreorder.nd rfl (.inl rfl) (pe_lst (pa_cons pe_int pa_nil)))
      (pss_cons (ps_while PassesOwn.never (pt_cmpR op_gt (pe_callB call_len_seq (by rfl) T.len PySem.boot_len (pa_cons (pv 3) pa_nil)) pe_int (nomark _))
        (pss_cons (ps_set (i := 4) scPreorder.nd rfl (.inl rfl) (pe_bm0 PySem.F.plainAttrs_list PySem.F.slot_list_pop PySem.F.type_list_pop mt_pop (pv 3)))
        (pss_cons (ps_expr (pe_bm PySem.F.plainAttrs_list PySem.F.slot_list_append PySem.F.type_list_append mt_append (pv 2) (pa_cons (pv 4) pa_nil)))
        (pss_one (ps_for PassesOwn.never rfl (pi_list (pe_revL (pe_ix ix_list (pv 1) (pv 4) (fun _ _ => rfl)))) (pg_name (i := 5) scPreorder.nd rfl (.inl rfl))
          (pss_one (ps_expr (pe_bm PySem.F.plainAttrs_list PySem.F.slot_list_append PySem.F.type_list_append mt_append (pv 3) (pa_cons (pv 5) pa_nil)))))))))
      (pss_one (ps_ret (pv 2)))))), ?_⟩
    refine ⟨_, rfl, a, own, rfl, hA, hT, hlen, fun H1 D ls s1 hD hL hll hk => ?_⟩
    refine ⟨Nat.zero_le _, fun O hO => ⟨(by show 1 ≤ sizeLine; decide), fun S hS => ?_⟩⟩
    have hOS : O ≠ S := ne_of_none upd_same hS
    have hS1 : H1 S = none := by rw [upd_ne hOS.symm] at hS; exact hS
    refine while_by (fun σ H' => ∃ (ord st : List Nat) (v4 v5 : Option V), σ = [some (.ref a), some (.ref D), some (.ref O), some (.ref S), v4, v5] ∧ Same H1 H' ∧ H' O = some (.lst (ord.map nV)) ∧ H' S = some (.lst (st.map nV)) ∧ PreInv own ord st)
      (fun σ H' => own.length + 1 - lenAt H' O) ⟨[], [0], none, none, rfl, (Same.laid hO).trans (Same.laid hS), by rw [upd_ne hOS]; exact upd_same, upd_same, PreInv.start⟩ ?_ ?_
    · rintro σ H' ⟨ord, st, v4, v5, rfl, s2, hO2, hS2, I⟩
      have hlenI := I.len
      refine ⟨_, rfl, S, _, rfl, .inl (SqL.of hS2), _, _, rfl, rfl, _, rfl, ?_⟩
      refine ite2 (fun hgt => ?_) (fun hgt => ?_)
      · have hpos : 0 < st.length := by
          have := of_decide_eq_true hgt
          rw [List.length_map] at this
          omega
        obtain ⟨st', c, rfl⟩ : ∃ st' c, st = st' ++ [c] := ⟨st.dropLast, st.getLast (by intro q; rw [q] at hpos; exact absurd hpos (Nat.lt_irrefl 0)), (List.dropLast_concat_getLast _).symm⟩
        have hcl : c ≤ own.length := I.low c (by simp)
        obtain ⟨l, hl⟩ : ∃ l, ls[c]? = some l := ⟨ls[c], List.getElem?_eq_getElem (by omega)⟩
        have hlast : ((st' ++ [c]).map nV)[((st' ++ [c]).map nV).length - 1]? = some (nV c) := by simp
        have hdrop : ((st' ++ [c]).map nV).dropLast = st'.map nV := by simp
        have hlS : l ≠ S := ne_of_none (hk c l hl) hS1
        have hDS : D ≠ S := ne_of_none hL hS1
        have hlO : l ≠ O := ne_of_none (hk c l hl) hO
        have hDO : D ≠ O := ne_of_none hL hO
        refine ⟨_, rfl, .inl ⟨rfl, _, SqL.of hS2⟩, S, _, _, rfl, rfl, hS2, hlast, ?_⟩
        rw [hdrop]
        have hO3 : upd H' S (.lst (st'.map nV)) O = some (.lst (ord.map nV)) := by rw [upd_ne hOS]; exact hO2
        refine ⟨_, rfl, .inl ⟨rfl, _, SqL.of hO3⟩, _, rfl, O, _, _, rfl, rfl, hO3, line_big (by rw [List.length_map]; rw [List.length_append] at hlenI; omega), ?_⟩
        have s3 : Same H1 (upd (upd H' S (.lst (st'.map nV))) O (.lst (ord.map nV ++ [nV c]))) := fun b o e => by
          rw [upd_ne (ne_of_none e hO), upd_ne (ne_of_none e hS1)]
          exact s2 b o e
        refine ⟨_, rfl, _, rfl, D, _, _, _, rfl, rfl, SqL.of (s3 _ _ hL), at_of (j := c) (v := .ref l) rfl (by rw [List.getElem?_map, hl]; rfl), l, _, rfl, SqL.of (s3 _ _ (hk c l hl)), fun R hR => ?_⟩
        have hOR : O ≠ R := ne_of_none upd_same hR
        have hSR : S ≠ R := ne_of_none (H := upd (upd H' S (.lst (st'.map nV))) O (.lst (ord.map nV ++ [nV c]))) (by rw [upd_ne hOS.symm]; exact upd_same) hR
        refine ⟨R, rfl, ⟨_, SqL.of upd_same⟩, for_list (K := K) (a := R) (xs := ((kids own c).map nV).reverse) (fun j σ' H'' => ∃ v5 : Option V, σ' = [some (.ref a), some (.ref D), some (.ref O), some (.ref S), some (nV c), v5] ∧ Same H1 H'' ∧ H'' O = some (.lst ((ord ++ [c]).map nV)) ∧
            H'' S = some (.lst ((st' ++ (kids own c).reverse.take j).map nV)) ∧ H'' R = some (.lst ((kids own c).map nV).reverse))
          ⟨_, rfl, s3.trans (Same.laid hR), by rw [upd_ne hOR, upd_same, List.map_append]; rfl, by rw [upd_ne hSR, upd_ne hOS.symm, upd_same, List.take_zero, List.append_nil], upd_same⟩
          (fun j σ' H'' _ ⟨_, _, _, _, _, hR2⟩ => SqL.of hR2) ?_ ?_⟩
        · rintro j y σ' H'' hj ⟨v5', rfl, s4, hO4, hS4, hR4⟩
          rw [← List.map_reverse] at hj
          obtain ⟨d, hd, rfl⟩ := nV_of hj
          have hlt : (st' ++ (kids own c).reverse.take j).length ≤ 100000 := by
            have h1 : ((kids own c).reverse.take j).length ≤ (kids own c).length := by rw [List.length_take, List.length_reverse]; omega
            have h2 := kidsTo_len own own.length c
            rw [List.length_append] at hlenI ⊢
            unfold kids at h1
            unfold kids
            simp at hlenI
            omega
          refine ⟨_, rfl, .inl ⟨rfl, _, SqL.of hS4⟩, _, rfl, S, _, _, rfl, rfl, hS4, line_big (by rw [List.length_map]; exact hlt), ?_⟩
          refine ⟨_, rfl, fun b o e => ?_, by rw [upd_ne hOS]; exact hO4, ?_, by rw [upd_ne hSR.symm]; exact hR4⟩
          · rw [upd_ne (ne_of_none e hS1)]
            exact s4 b o e
          · have hjl := (List.getElem?_eq_some_iff.mp hd).1
            have e1 : (kids own c).reverse.take (j + 1) = (kids own c).reverse.take j ++ [d] := by
              rw [List.take_add_one, hd]
              rfl
            rw [upd_same, e1, ← List.append_assoc, List.map_append (l₁ := st' ++ _)]
            rfl
        · rintro σ' H'' ⟨v5', rfl, s4, hO4, hS4, hR4⟩
          have e1 : (kids own c).reverse.take ((kids own c).map nV).reverse.length = (kids own c).reverse := by
            rw [List.length_reverse, List.length_map]
            exact List.take_of_length_le (by rw [List.length_reverse]; exact Nat.le_refl _)
          rw [e1] at hS4
          refine ⟨⟨ord ++ [c], _, _, _, rfl, s4, hO4, hS4, I.step⟩, ?_⟩
          show own.length + 1 - lenAt H'' O < own.length + 1 - lenAt H' O
          unfold lenAt
          rw [hO4, hO2]
          simp only [List.length_map, List.length_append, List.length_singleton]
          rw [List.length_append] at hlenI
          simp at hlenI
          omega
      · have hz : st = [] := by
          cases st with
          | nil => rfl
          | cons x t =>
            exfalso
            apply hgt
            apply decide_eq_true
            simp
        subst hz
        exact ⟨_, rfl, k H' O ord (s1.trans s2) (s1.free hO) hO2 (I.done hT)⟩
    · rintro σ H' Q1 Q2 h ⟨v, hv, p, ys, e, hs, i, j, e1, e2, k1, e3, q⟩
      exact ⟨v, hv, p, ys, e, hs, i, j, e1, e2, k1, e3, h _ _ q⟩
theorem scFits : FnScope ["tree", "fields", "children", "row"] ["tree", "fields"] (defScope sFits) := ⟨rfl, rfl, rfl, by decide +kernel, rfl, by decide +kernel, by decide +kernel⟩
theorem ok_fits {f : Addr} {fd : FuncData} (F : Fun K "fits_fields" "fits_fields" sFits f fd) (T : Glo K mg) (c1 : Cal P w K mg base CX0 3 "children_of" ["tree"] spChildren) (c2 : Cal P w K mg base CX0 2 "checked_number" ["value", "low", "high"] spChecked) :
    FnOk P w K mg base CX0 4 f fd ["tree", "fields"] spFits := by
  refine F.ok scFits (fun vs H Q E h => ?_) (fun cdv A outer s H vs Q E hr h => ?_)
  · obtain ⟨a, own, n, rfl, _⟩ := h
    rfl
  · obtain ⟨a, own, n, rfl, hA, hT, hlen, h1, h2, hF, k⟩ := h
    obtain ⟨t0, g0⟩ := T.most
    refine ⟨_, pss_cons (ps_set (i := 2) scFits.nd rfl (.inl rfl) (pe_cal c1 hr pass0 (pa_cons (pv 0) pa_nil)))
      (pss_cons (ps_expr (pe_cal c2 (hr.mono (by decide)) pass0 (pa_cons (pv 1) (pa_cons pe_int (pa_cons (pe_glob (v := .int (10 ^ 30)) rfl g0 ⟨_, rfl⟩) pa_nil)))))
      (pss_one (ps_ret (pe_cmpR op_le (pe_callB (cr_max rfl) (by rfl) T.max (by decide +kernel) (pa_cons
        (pe_lc (te := tCB (rLen K) (tCons (tVar 3) tNil)) (own := [("row", 3)]) (g := gName 3) (by rfl) scFits.nd (pi_list (pv 2)) (blkOk_by (own := [("row", 3)]) (N := ["tree", "fields", "children", "row"]) (sc := defScope sFits) (by decide +kernel))
          (fun _ _ _ _ _ => pg_name (i := 3) scFits.nd rfl (Or.inl rfl)) (fun _ _ _ _ _ => pts_nil) (fun _ _ _ _ _ => pe_callB call_len_seq (by rfl) T.len PySem.boot_len (pa_cons (pv 3) pa_nil))) pa_nil)) (pv 1) (nomark _))))), ?_⟩
    refine ⟨_, rfl, a, own, rfl, hA, hT, hlen, fun H1 D ls s1 hD hL hll hk => ?_⟩
    refine ⟨_, rfl, n, 1, 10 ^ 30, rfl, h1, h2, ?_⟩
    refine ⟨_, rfl, D, rfl, ⟨_, SqL.of hL⟩, fun M hM => ?_⟩
    refine lc_list (K := K) (a := D) (xs := ls.map V.ref) (fun i H' => Same H1 H' ∧ H' M = some (.lst (((List.range i).map (fun c => ((kids own c).length : Int))).map V.int))) ⟨Same.laid hM, upd_same⟩
      (fun i H' _ ⟨s2, _⟩ => s2.seq (SqL.of hL)) ?_ ?_
    · rintro i y H' hi ⟨s2, hM2⟩
      rw [List.getElem?_map] at hi
      obtain ⟨l, hl, rfl⟩ := Option.map_eq_some_iff.mp hi
      have hil := (List.getElem?_eq_some_iff.mp hl).1
      refine ⟨rfl, _, rfl, l, _, rfl, .inl (SqL.of (s2 _ _ (hk i l hl))), _, hM2, line_big (by simp; omega), fun b o e => ?_, ?_⟩
      · rw [upd_ne (ne_of_none e hM)]
        exact s2 b o e
      · rw [upd_same, List.range_succ, List.map_append, List.map_append]
        simp
    · rintro H' ⟨s2, hM2⟩
      refine ⟨M, _, rfl, SqL.of hM2, by simp; omega, fun m hm hle => ⟨_, rfl, _, _, rfl, rfl, ?_⟩⟩
      have hb : m ≤ n := by
        obtain ⟨c, hc, rfl⟩ := List.mem_map.mp hm
        rw [List.mem_range, List.length_map] at hc
        exact hF c (by omega)
      show Q (.bl (decide (m ≤ n))) _
      rw [decide_eq_true hb]
      exact k _ (s1.trans s2)
end
end SH
/-! ## D4 -/
namespace SH
open PySem L2
/-! ### xs[i] read ahead of an augmented store -/
def rGetL (K : PySem.W.Frag) : V → V → Hp → VK → Prop := fun o i H Q => ∃ (p : Addr) (xs : List V) (j : Nat) (v : V), o = .ref p ∧ i = .int (j : Int) ∧ SqL K H p xs ∧ xs[j]? = some v ∧ Q v H
theorem pget_list {X : Cx} : PGet X (rGetL X.K) := by
  intro pins s σ H o i ov iv Q I r1 r2 h
  obtain ⟨p, xs, j, z, rfl, rfl, hq, he, q⟩ := h
  cases r1
  obtain ⟨t, rfl⟩ := r2
  obtain ⟨its, r, pl, hz⟩ := I.list hq
  obtain ⟨w, ew, rw'⟩ := r.get he
  have hl := r.length
  have hj := (List.getElem?_eq_some_iff.mp he).1
  have hn : sizeLine = 16777216 := PySem.sizeLine_eq
  have fin : EP X pins σ Q w s := ⟨z, H, I, rw', q⟩
  exact wpAny_getItem_list (x := w) pl.isList (by omega) (by omega) (by simpa using ew) fin

/-! ### a Work -/
def wf (num : Int) (lo lr : Addr) (ent : Int) (lw : Addr) : List (Str × V) := [("number", .int num), ("_owners", .ref lo), ("_order", .ref lr), ("_entered", .int ent), ("_waiting", .ref lw)]
structure WkT (K : PySem.W.Frag) (W : Addr) : Prop where
  cl : Cls K W
  num : NoAttr K W "number"
  own : NoAttr K W "_owners"
  ord : NoAttr K W "_order"
  ent : NoAttr K W "_entered"
  wait : NoAttr K W "_waiting"
/-- what is tracked outside D stays -/
def Keep (D : Addr → Prop) (H H' : Hp) : Prop := ∀ b o, H b = some o → ¬ D b → H' b = some o
/-- nothing old is taken into D -/
def Fresh (D D' : Addr → Prop) (H : Hp) : Prop := ∀ b, D' b → D b ∨ H b = none
theorem Keep.refl (D : Addr → Prop) (H : Hp) : Keep D H H := fun _ _ e _ => e
theorem Fresh.refl (D : Addr → Prop) (H : Hp) : Fresh D D H := fun _ h => .inl h
theorem Same.keep {D : Addr → Prop} {H H' : Hp} (s : Same H H') : Keep D H H' := fun b o e _ => s b o e
theorem Keep.free {D : Addr → Prop} {H H' : Hp} (k : Keep D H H') {b : Addr} (h : H' b = none) : D b ∨ H b = none := by
  by_cases d : D b
  · exact .inl d
  · right
    cases q : H b with
    | none => rfl
    | some o =>
      rw [k b o q d] at h
      cases h
theorem Keep.trans {D D' : Addr → Prop} {H H1 H2 : Hp} (a : Keep D H H1) (f : Fresh D D' H) (b : Keep D' H1 H2) : Keep D H H2 := fun c o e n => by
  refine b c o (a c o e n) (fun d => ?_)
  rcases f c d with q | q
  · exact n q
  · rw [e] at q
    cases q
theorem Fresh.trans {D D' D2 : Addr → Prop} {H H1 : Hp} (f : Fresh D D' H) (k : Keep D H H1) (g : Fresh D' D2 H1) : Fresh D D2 H := fun b d => by
  rcases g b d with q | q
  · exact f b q
  · exact k.free q
theorem Keep.write {D : Addr → Prop} {H : Hp} {a : Addr} {o : HO} (d : D a) : Keep D H (upd H a o) := fun b u e n => by
  rw [upd_ne (fun q => n (by rw [q]; exact d))]
  exact e
/-- the Work k stands at w, within D -/
structure WorkAt (W : Addr) (H : Hp) (D : Addr → Prop) (w : Addr) (k : Wk) (dx lo lr lw : Addr) : Prop where
  ob : H w = some (.ins W dx (wf k.num lo lr (k.ent : Int) lw))
  own : H lo = some (.lst (k.own.map nV))
  ord : H lr = some (.lst (k.ord.map nV))
  wait : H lw = some (.lst (k.wait.map nV))
  n1 : lo ≠ lw
  n2 : lr ≠ lw
  d0 : D w
  d1 : D lo
  d2 : D lr
  d3 : D lw
  tight : ∀ b, D b → b = w ∨ b = lo ∨ b = lr ∨ b = lw
theorem WorkAt.keep {W w dx lo lr lw : Addr} {H H' : Hp} {D : Addr → Prop} {k : Wk} (x : WorkAt W H D w k dx lo lr lw) (h : ∀ b o, D b → H b = some o → H' b = some o) : WorkAt W H' D w k dx lo lr lw :=
  ⟨h _ _ x.d0 x.ob, h _ _ x.d1 x.own, h _ _ x.d2 x.ord, h _ _ x.d3 x.wait, x.n1, x.n2, x.d0, x.d1, x.d2, x.d3, x.tight⟩
def WorkIn (W : Addr) (H : Hp) (D : Addr → Prop) (w : Addr) (k : Wk) : Prop := ∃ dx lo lr lw, WorkAt W H D w k dx lo lr lw
theorem WorkIn.keep {W w : Addr} {H H' : Hp} {D : Addr → Prop} {k : Wk} (x : WorkIn W H D w k) (h : ∀ b o, D b → H b = some o → H' b = some o) : WorkIn W H' D w k := by
  obtain ⟨dx, lo, lr, lw, y⟩ := x
  exact ⟨dx, lo, lr, lw, y.keep h⟩
theorem WorkIn.dom {W w : Addr} {H : Hp} {D : Addr → Prop} {k : Wk} (x : WorkIn W H D w k) {b : Addr} (d : D b) : H b ≠ none := by
  obtain ⟨dx, lo, lr, lw, y⟩ := x
  rcases y.tight b d with rfl | rfl | rfl | rfl
  · rw [y.ob]; simp
  · rw [y.own]; simp
  · rw [y.ord]; simp
  · rw [y.wait]; simp
theorem WorkIn.mem {W w : Addr} {H : Hp} {D : Addr → Prop} {k : Wk} (x : WorkIn W H D w k) : D w := by
  obtain ⟨dx, lo, lr, lw, y⟩ := x
  exact y.d0
def spWkInit (W : Addr) : Sp := fun vs H Q _ => ∃ (w dx a : Addr) (num : Int) (own : List Nat), vs = [.ref w, .int num, .ref a] ∧ H w = some (.ins W dx []) ∧ H a = some (.lst (own.map nV)) ∧ TreeOk own ∧ 1 ≤ own.length ∧ own.length ≤ 1999 ∧
  ∀ (H' : Hp) (k : Wk) (D : Addr → Prop), WorkIn W H' D w k → WInv k → k.num = num → k.own = own → k.ent = 1 → k.cnt = 0 → (∀ b o, H b = some o → b ≠ w → H' b = some o) → (∀ b, D b → b = w ∨ H b = none) → Q .non H'
def spWkOver (W : Addr) : Sp := fun vs H Q _ => ∃ (w : Addr) (D : Addr → Prop) (k : Wk), vs = [.ref w] ∧ WorkIn W H D w k ∧ WInv k ∧ Q (.bl (decide (k.ent = k.size))) H
def spWkEnter (W : Addr) : Sp := fun vs H Q _ => ∃ (w : Addr) (D : Addr → Prop) (k : Wk), vs = [.ref w] ∧ WorkIn W H D w k ∧ WInv k ∧ k.ent < k.size ∧
  ∀ (H' : Hp) (k' : Wk) (ended : List Nat) (p : Addr), WorkIn W H' D w k' → EntR k ended k' → (∀ c ∈ ended, c ≤ k.own.length) → ended.length ≤ 2000 → Keep D H H' → H p = none → H' p = some (.lst (ended.map nV)) → Q (.ref p) H'
section
variable {P : Program} {w : World} {K : PySem.W.Frag} {mg : Str → Option Value} {base : Heap} {W : Addr}
theorem scWkInit : FnScope ["self", "number", "tree", "children"] ["self", "number", "tree"] (defScope sWkInit) := ⟨rfl, rfl, rfl, by decide +kernel, rfl, by decide +kernel, by decide +kernel⟩
theorem ok_wkinit {f : Addr} {fd : FuncData} (F : Fun K "__init__" "Work.__init__" sWkInit f fd) (T : Glo K mg) (TW : WkT K W) (c1 : Cal P w K mg base CX0 4 "preorder" ["tree"] spPreorder) (c2 : Cal P w K mg base CX0 3 "children_of" ["tree"] spChildren) :
    FnOk P w K mg base CX0 5 f fd ["self", "number", "tree"] (spWkInit W) := by
  refine F.ok scWkInit (fun vs H Q E h => ?_) (fun cdv A outer s H vs Q E hr h => ?_)
  · obtain ⟨_, _, _, _, _, rfl, _⟩ := h
    rfl
  · obtain ⟨x, dx, a, num, own, rfl, hx, hA, hT, h1, h2, k⟩ := h
    refine ⟨_, pss_cons (ps_fld (pv 0) (pv 1) rfl) (pss_cons (ps_fld (pv 0) (pe_callTy call_list_of (by rfl) T.list (by decide +kernel) (pa_cons (pv 2) pa_nil)) rfl)
      (pss_cons (ps_fld (pv 0) (pe_cal c1 hr pass0 (pa_cons (pv 2) pa_nil)) rfl)
      (pss_cons (ps_fld (pv 0) pe_int rfl)
      (pss_one (ps_fld (pv 0) (pe_lc (te := tCB (rLen K) (tCons (tVar 3) tNil)) (own := [("children", 3)]) (g := gName 3) (by rfl) scWkInit.nd (pi_list (pe_cal c2 (hr.mono (by decide)) pass0 (pa_cons (pv 2) pa_nil)))
        (blkOk_by (own := [("children", 3)]) (N := ["self", "number", "tree", "children"]) (sc := defScope sWkInit) (by decide +kernel))
          (fun _ _ _ _ _ => pg_name (i := 3) scWkInit.nd rfl (Or.inl rfl)) (fun _ _ _ _ _ => pts_nil) (fun _ _ _ _ _ => pe_callB call_len_seq (by rfl) T.len PySem.boot_len (pa_cons (pv 3) pa_nil))) rfl))))), ?_⟩
    have hxa : x ≠ a := ne_of hx hA (by intro q; cases q)
    refine ⟨_, rfl, _, rfl, x, W, dx, _, rfl, hx, TW.cl, TW.num, (by show 0 < 1000; decide), ?_⟩
    have hA1 : upd H x (.ins W dx (putF "number" (.int num) [])) a = some (.lst (own.map nV)) := by rw [upd_ne hxa.symm]; exact hA
    refine ⟨_, rfl, a, _, rfl, .inl (SqL.of hA1), fun lo hlo => ?_⟩
    have hxlo : x ≠ lo := ne_of_none upd_same hlo
    have hlo0 : H lo = none := by rw [upd_ne hxlo.symm] at hlo; exact hlo
    refine ⟨_, rfl, x, W, dx, _, rfl, (by rw [upd_ne hxlo]; exact upd_same), TW.cl, TW.own, (by show 1 < 1000; decide), ?_⟩
    have kp1 : ∀ b o, H b = some o → b ≠ x → upd (upd (upd H x (.ins W dx (putF "number" (.int num) []))) lo (.lst (own.map nV))) x (.ins W dx (putF "_owners" (.ref lo) (putF "number" (.int num) []))) b = some o := fun b o e hb => by
      rw [upd_ne hb, upd_ne (ne_of_none e hlo0), upd_ne hb]
      exact e
    have lo1 : upd (upd (upd H x (.ins W dx (putF "number" (.int num) []))) lo (.lst (own.map nV))) x (.ins W dx (putF "_owners" (.ref lo) (putF "number" (.int num) []))) lo = some (.lst (own.map nV)) := by
      rw [upd_ne hxlo.symm, upd_same]
    have x1 : upd (upd (upd H x (.ins W dx (putF "number" (.int num) []))) lo (.lst (own.map nV))) x (.ins W dx (putF "_owners" (.ref lo) (putF "number" (.int num) []))) x = some (.ins W dx (putF "_owners" (.ref lo) (putF "number" (.int num) []))) := upd_same
    generalize upd (upd (upd H x (.ins W dx (putF "number" (.int num) []))) lo (.lst (own.map nV))) x (.ins W dx (putF "_owners" (.ref lo) (putF "number" (.int num) []))) = H1 at kp1 lo1 x1
    refine ⟨_, rfl, a, own, rfl, kp1 _ _ hA hxa.symm, hT, h2, fun H2 lr ord s2 hlr hord hP => ?_⟩
    have hxlr : x ≠ lr := ne_of_none x1 hlr
    have lr0 : H lr = none := by
      cases q : H lr with
      | none => rfl
      | some o => rw [kp1 _ _ q hxlr.symm] at hlr; cases hlr
    refine ⟨_, rfl, x, W, dx, _, rfl, s2 _ _ x1, TW.cl, TW.ord, (by show 2 < 1000; decide), ?_⟩
    refine ⟨_, rfl, x, W, dx, _, rfl, upd_same, TW.cl, TW.ent, (by show 3 < 1000; decide), ?_⟩
    rw [upd_upd]
    have kp3 : ∀ b o, H b = some o → b ≠ x → upd H2 x (.ins W dx (putF "_entered" (.int 1) (putF "_order" (.ref lr) (putF "_owners" (.ref lo) (putF "number" (.int num) []))))) b = some o := fun b o e hb => by
      rw [upd_ne hb]
      exact s2 _ _ (kp1 b o e hb)
    have lo3 : upd H2 x (.ins W dx (putF "_entered" (.int 1) (putF "_order" (.ref lr) (putF "_owners" (.ref lo) (putF "number" (.int num) []))))) lo = some (.lst (own.map nV)) := by
      rw [upd_ne hxlo.symm]
      exact s2 _ _ lo1
    have lr3 : upd H2 x (.ins W dx (putF "_entered" (.int 1) (putF "_order" (.ref lr) (putF "_owners" (.ref lo) (putF "number" (.int num) []))))) lr = some (.lst (ord.map nV)) := by
      rw [upd_ne hxlr.symm]
      exact hord
    have x3 : upd H2 x (.ins W dx (putF "_entered" (.int 1) (putF "_order" (.ref lr) (putF "_owners" (.ref lo) (putF "number" (.int num) []))))) x = some (.ins W dx (putF "_entered" (.int 1) (putF "_order" (.ref lr) (putF "_owners" (.ref lo) (putF "number" (.int num) []))))) := upd_same
    generalize upd H2 x (.ins W dx (putF "_entered" (.int 1) (putF "_order" (.ref lr) (putF "_owners" (.ref lo) (putF "number" (.int num) []))))) = H3 at kp3 lo3 lr3 x3
    refine ⟨_, rfl, a, own, rfl, kp3 _ _ hA hxa.symm, hT, h2, fun H4 D ls s4 hD hL hll hk => ?_⟩
    refine ⟨D, rfl, ⟨_, SqL.of hL⟩, fun M hM => ?_⟩
    have hxM : x ≠ M := ne_of_none (s4 _ _ x3) hM
    have hloM : lo ≠ M := ne_of_none (s4 _ _ lo3) hM
    have hlrM : lr ≠ M := ne_of_none (s4 _ _ lr3) hM
    have M0 : H M = none := by
      cases q : H M with
      | none => rfl
      | some o => rw [s4 _ _ (kp3 _ _ q hxM.symm)] at hM; cases hM
    refine lc_list (K := K) (a := D) (xs := ls.map V.ref) (fun i H' => Same H4 H' ∧ H' M = some (.lst (((List.range i).map (fun c => (kids own c).length)).map nV))) ⟨Same.laid hM, upd_same⟩
      (fun i H' _ ⟨s5, _⟩ => s5.seq (SqL.of hL)) ?_ ?_
    · rintro i y H' hi ⟨s5, hM5⟩
      rw [List.getElem?_map] at hi
      obtain ⟨l, hl, rfl⟩ := Option.map_eq_some_iff.mp hi
      have hil := (List.getElem?_eq_some_iff.mp hl).1
      refine ⟨rfl, _, rfl, l, _, rfl, .inl (SqL.of (s5 _ _ (hk i l hl))), _, hM5, line_big (by simp; omega), fun b o e => ?_, ?_⟩
      · rw [upd_ne (ne_of_none e hM)]
        exact s5 b o e
      · rw [upd_same, List.range_succ, List.map_append, List.map_append]
        simp [nV]
    · rintro H5 ⟨s5, hM5⟩
      rw [List.length_map, hll] at hM5
      have x5 := s5 _ _ (s4 _ _ x3)
      refine ⟨_, rfl, x, W, dx, _, rfl, x5, TW.cl, TW.wait, (by show 4 < 1000; decide), ?_⟩
      have fin := k (upd H5 x (.ins W dx (putF "_waiting" (.ref M) (putF "_entered" (.int 1) (putF "_order" (.ref lr) (putF "_owners" (.ref lo) (putF "number" (.int num) [])))))))
        ⟨num, own, ord, 1, (List.range (own.length + 1)).map (fun c => (kids own c).length), List.replicate (own.length + 1) false⟩ (fun b => b = x ∨ b = lo ∨ b = lr ∨ b = M)
      refine fin ⟨dx, lo, lr, M, upd_same, ?_, ?_, ?_, hloM, hlrM, .inl rfl, .inr (.inl rfl), .inr (.inr (.inl rfl)), .inr (.inr (.inr rfl)), fun b h => h⟩ (WIv.new hT h1 h2 hP) rfl rfl rfl ?_ ?_ ?_
      · rw [upd_ne hxlo.symm]
        exact s5 _ _ (s4 _ _ lo3)
      · rw [upd_ne hxlr.symm]
        exact s5 _ _ (s4 _ _ lr3)
      · rw [upd_ne hxM.symm]
        exact hM5
      · show (List.replicate (own.length + 1) false).count true = 0
        rw [List.count_replicate]
        rfl
      · intro b o e hb
        rw [upd_ne hb]
        exact s5 _ _ (s4 _ _ (kp3 b o e hb))
      · rintro b (rfl | rfl | rfl | rfl)
        · exact .inl rfl
        · exact .inr hlo0
        · exact .inr lr0
        · exact .inr M0
theorem scWkOver : FnScope ["self"] ["self"] (defScope sWkOver) := ⟨rfl, rfl, rfl, by decide +kernel, rfl, by decide +kernel, by decide +kernel⟩
theorem ok_wkover {f : Addr} {fd : FuncData} (F : Fun K "is_over" "Work.is_over" sWkOver f fd) (T : Glo K mg) (TW : WkT K W) : FnOk P w K mg base CX0 1 f fd ["self"] (spWkOver W) := by
  refine F.ok scWkOver (fun vs H Q E h => ?_) (fun cdv A outer s H vs Q E hr h => ?_)
  · obtain ⟨_, _, _, rfl, _⟩ := h
    rfl
  · obtain ⟨x, D, k, rfl, ⟨dx, lo, lr, lw, wk⟩, hi, q⟩ := h
    refine ⟨_, pss_one (ps_ret (pe_cmpR op_eq (pe_fld (pv 0) rfl) (pe_callB call_len_seq (by rfl) T.len PySem.boot_len (pa_cons (pe_fld (pv 0) rfl) pa_nil)) (nomark _))), ?_⟩
    refine ⟨_, rfl, x, W, dx, _, _, rfl, wk.ob, TW.cl, TW.ent, rfl, _, rfl, x, W, dx, _, _, rfl, wk.ob, TW.cl, TW.ord, rfl, lr, _, rfl, .inl (SqL.of wk.ord), rfl, ?_⟩
    have hl := hi.pre.len
    have e : decide (V.int (k.ent : Int) = V.int (((k.ord.map nV).length : Nat) : Int)) = decide (k.ent = k.size) := by
      rw [List.length_map, hl]
      show decide (V.int (k.ent : Int) = V.int ((k.size : Nat) : Int)) = _
      by_cases c : k.ent = k.size
      · rw [c]
        simp
      · rw [decide_eq_false c, decide_eq_false]
        intro z
        injection z with z
        omega
    show Q (.bl (decide (V.int (k.ent : Int) = V.int (((k.ord.map nV).length : Nat) : Int)))) H
    rw [e]
    exact q
end
end SH
/-! ## D5 -/
namespace SH
open PySem L2
theorem path_one (own : List Nat) (c : Nat) : Path own [c] := fun i a b h1 h2 => by simp at h2
theorem path_pre {own l : List Nat} {c : Nat} (P : Path own (l ++ [c])) : Path own l := fun i a b h1 h2 => by
  have h3 := (List.getElem?_eq_some_iff.mp h1).1
  have h4 := (List.getElem?_eq_some_iff.mp h2).1
  exact P i a b (by rw [List.getElem?_append_left h3]; exact h1) (by rw [List.getElem?_append_left h4]; exact h2)
theorem path_snoc {own l : List Nat} {c p : Nat} (P : Path own (l ++ [c + 1])) (h : own[c]? = some p) : Path own ((l ++ [c + 1]) ++ [p]) := fun i a b h1 h2 => by
  have hb := (List.getElem?_eq_some_iff.mp h2).1
  simp only [List.length_append, List.length_singleton] at hb
  rw [List.getElem?_append_left (by simp; omega)] at h1
  by_cases hi : i + 1 < (l ++ [c + 1]).length
  · rw [List.getElem?_append_left hi] at h2
    exact P i a b h1 h2
  · simp only [List.length_append, List.length_singleton] at hi
    have e : i = l.length := by omega
    subst e
    rw [List.getElem?_append_right (by simp)] at h2
    rw [List.getElem?_append_right (Nat.le_refl _)] at h1
    simp at h1 h2
    subst h1 h2
    exact ⟨c, rfl, h⟩
def cellAt (σ : L2.St) : Nat := match σ[1]? with
  | some (some (V.int c)) => c.toNat
  | _ => 0
section
variable {P : Program} {w : World} {K : PySem.W.Frag} {mg : Str → Option Value} {base : Heap} {W : Addr}
theorem scWkEnter : FnScope ["self", "cell", "ended"] ["self"] (defScope sWkEnter) := ⟨rfl, rfl, rfl, by decide +kernel, rfl, by decide +kernel, by decide +kernel⟩
theorem ok_wkenter {f : Addr} {fd : FuncData} (F : Fun K "enter" "Work.enter" sWkEnter f fd) (TW : WkT K W) : FnOk P w K mg base CX0 1 f fd ["self"] (spWkEnter W) := by
  refine F.ok scWkEnter (fun vs H Q E h => ?_) (fun cdv A outer s H vs Q E hr h => ?_)
  · obtain ⟨_, _, _, rfl, _⟩ := h
    rfl
  · obtain ⟨x, D, k, rfl, ⟨dx, lo, lr, lw, wk⟩, hi, hlt, q⟩ := h
    refine ⟨_, pss_cons (ps_set (i := 1) scWkEnter.nd rfl (.inl rfl) (pe_ix ix_list (pe_fld (pv 0) rfl) (pe_fld (pv 0) rfl) (fun _ _ => rfl)))
      (pss_cons (ps_fldaug (pv 0) pe_int in_add)
      (pss_cons (ps_set (i := 2) scWkEnter.nd rfl (.inl rfl) (pe_lst pa_nil))
      (pss_cons (ps_while PassesOwn.never (pt_cmpR op_eq (pe_ix ix_list (pe_fld (pv 0) rfl) (pv 1) (fun _ _ => rfl)) pe_int (nomark _))
        (pss_cons (ps_expr (pe_bm PySem.F.plainAttrs_list PySem.F.slot_list_append PySem.F.type_list_append mt_append (pv 2) (pa_cons (pv 1) pa_nil)))
        (pss_cons (ps_if (pt_cmpR op_eq (pv 1) pe_int (nomark _)) (pss_one ps_break) pss_nil)
        (pss_cons (ps_set (i := 1) scWkEnter.nd rfl (.inl rfl) (pe_ix ix_list (pe_fld (pv 0) rfl) (pe_op op_sub (pv 1) pe_int) (fun _ _ => rfl)))
        (pss_one (ps_augS (pe_fld (pv 0) rfl) (pv 1) pget_list pe_int ip_sub set_list))))))
      (pss_one (ps_ret (pv 2)))))), ?_⟩
    obtain ⟨num, own, ord, ent, wait, fm⟩ := k
    have hlt : ent < own.length + 1 := hlt
    have hi : WIv own ord ent wait fm none := hi
    have hol := hi.pre.len
    obtain ⟨c, hc⟩ : ∃ c, ord[ent]? = some c := ⟨ord[ent], List.getElem?_eq_getElem (by omega)⟩
    have I1 := hi.enter hc
    refine ⟨_, rfl, x, W, dx, _, _, rfl, wk.ob, TW.cl, TW.ord, rfl, _, rfl, x, W, dx, _, _, rfl, wk.ob, TW.cl, TW.ent, rfl, lr, _, _, _, rfl, rfl, SqL.of wk.ord, at_of (j := ent) rfl (nV_get hc), ?_⟩
    refine ⟨_, rfl, x, W, dx, _, _, rfl, wk.ob, TW.cl, TW.ent, rfl, _, _, rfl, rfl, dx, _, wk.ob, (by show 5 < 1000; decide), ?_⟩
    refine ⟨Nat.zero_le _, fun p hp => ?_⟩
    have wf1 : putF "_entered" (.int ((ent : Int) + 1)) (wf num lo lr (ent : Int) lw) = wf num lo lr ((ent + 1 : Nat) : Int) lw := rfl
    have hxp : x ≠ p := ne_of_none upd_same hp
    have p0 : H p = none := by rw [upd_ne hxp.symm] at hp; exact hp
    have W1 : WorkAt W (upd (upd H x (.ins W dx (putF "_entered" (.int ((ent : Int) + 1)) (wf num lo lr (ent : Int) lw)))) p (.lst [])) D x ⟨num, own, ord, ent + 1, wait, fm⟩ dx lo lr lw := by
      have n1 : lo ≠ x := ne_of wk.own wk.ob (by intro z; cases z)
      have n2 : lr ≠ x := ne_of wk.ord wk.ob (by intro z; cases z)
      have n3 : lw ≠ x := ne_of wk.wait wk.ob (by intro z; cases z)
      refine ⟨?_, ?_, ?_, ?_, wk.n1, wk.n2, wk.d0, wk.d1, wk.d2, wk.d3, wk.tight⟩
      · rw [upd_ne hxp, upd_same, wf1]
      · rw [upd_ne (ne_of_none wk.own p0), upd_ne n1]; exact wk.own
      · rw [upd_ne (ne_of_none wk.ord p0), upd_ne n2]; exact wk.ord
      · rw [upd_ne (ne_of_none wk.wait p0), upd_ne n3]; exact wk.wait
    have hc0 : c ≤ own.length := I1.pre.low c (List.mem_of_getElem? hc)
    have hone : ∀ d ∈ ([] : List Nat) ++ [c], d ≤ own.length := fun d hd => by
      have e : d = c := by simpa using hd
      rw [e]
      exact hc0
    refine while_by (fun σ H' => ∃ (c : Nat) (ended wait' : List Nat) (fm' : List Bool), σ = [some (.ref x), some (nV c), some (.ref p)] ∧ WorkAt W H' D x ⟨num, own, ord, ent + 1, wait', fm'⟩ dx lo lr lw ∧ H' p = some (.lst (ended.map nV)) ∧
        WIv own ord (ent + 1) wait' fm' (some c) ∧ fm'.count true = fm.count true + ended.length ∧ Path own (ended ++ [c]) ∧ (∀ d ∈ ended ++ [c], d ≤ own.length) ∧ Keep D H H')
      (fun σ _ => cellAt σ) ⟨c, [], wait, fm, rfl, W1, upd_same, I1, rfl, path_one own c, hone, fun b o e n => ?_⟩ ?_ ?_
    · rw [upd_ne (ne_of_none e p0), upd_ne (fun z => n (by rw [z]; exact wk.d0))]
      exact e
    · rintro σ H' ⟨c, ended, wait', fm', rfl, wk', hp', I, hcnt, hpath, hlow, hkeep⟩
      have hcl : c ≤ own.length := hlow c (by simp)
      have hwl := I.wl
      have hfl := I.fl
      have hcle := I.cnt_le
      have hlid := I.lid
      have hpD : p ≠ x ∧ p ≠ lo ∧ p ≠ lr ∧ p ≠ lw := ⟨hxp.symm, (ne_of_none wk.own p0).symm, (ne_of_none wk.ord p0).symm, (ne_of_none wk.wait p0).symm⟩
      obtain ⟨v, hv⟩ : ∃ v, wait'[c]? = some v := ⟨wait'[c], List.getElem?_eq_getElem (by omega)⟩
      refine ⟨_, rfl, x, W, dx, _, _, rfl, wk'.ob, TW.cl, TW.wait, rfl, _, rfl, lw, _, _, _, rfl, rfl, SqL.of wk'.wait, at_of (j := c) rfl (nV_get hv), rfl, _, rfl, ?_⟩
      have step : ∀ {v : Nat}, wait'[c]? = some v → v = 0 → ∀ (H2 : Hp), H2 = upd H' p (.lst (ended.map nV ++ [nV c])) → WorkAt W H2 D x ⟨num, own, ord, ent + 1, wait', fm'⟩ dx lo lr lw ∧ H2 p = some (.lst ((ended ++ [c]).map nV)) ∧ Keep D H H2 := by
        intro v _ _ H2 e
        subst e
        refine ⟨⟨?_, ?_, ?_, ?_, wk'.n1, wk'.n2, wk'.d0, wk'.d1, wk'.d2, wk'.d3, wk'.tight⟩, ?_, fun b o e n => ?_⟩
        · rw [upd_ne hpD.1.symm]; exact wk'.ob
        · rw [upd_ne hpD.2.1.symm]; exact wk'.own
        · rw [upd_ne hpD.2.2.1.symm]; exact wk'.ord
        · rw [upd_ne hpD.2.2.2.symm]; exact wk'.wait
        · rw [upd_same, List.map_append]; rfl
        · rw [upd_ne (ne_of_none e p0)]; exact hkeep b o e n
      refine ite2 (fun he => ?_) (fun he => ?_)
      · have hv0 : v = 0 := by
          have e := of_decide_eq_true he
          injection e with e
          omega
        subst hv0
        have hcell := (I.now c rfl).1
        obtain ⟨W2, hp2, k2⟩ := step hv rfl _ rfl
        refine ⟨_, rfl, .inl ⟨rfl, _, SqL.of hp'⟩, _, rfl, p, _, _, rfl, rfl, hp', line_big (by rw [List.length_map]; omega), ?_⟩
        refine ⟨_, rfl, rfl, _, rfl, ?_⟩
        refine ite2 (fun h0 => ?_) (fun h0 => ?_)
        · have hc0 : c = 0 := by
            have e := of_decide_eq_true h0
            injection e with e
            omega
          subst hc0
          have J := I.root hv
          refine ⟨_, rfl, q _ ⟨num, own, ord, ent + 1, wait', fm'.set 0 true⟩ (ended ++ [0]) p ⟨dx, lo, lr, lw, W2.ob, W2.own, W2.ord, W2.wait, W2.n1, W2.n2, W2.d0, W2.d1, W2.d2, W2.d3, W2.tight⟩
            ⟨hi, J, rfl, rfl, rfl, ?_, hpath⟩ hlow ?_ k2 p0 hp2⟩
          · show (fm'.set 0 true).count true = fm.count true + (ended ++ [0]).length
            rw [count_set hcell, hcnt, List.length_append]
            rfl
          · rw [List.length_append]
            simp
            have h9 := List.count_le_length (a := true) (l := fm'.set 0 true)
            rw [count_set hcell, List.length_set] at h9
            omega
        · obtain ⟨d, rfl⟩ : ∃ d, c = d + 1 := by
            cases c with
            | zero => exact absurd (decide_eq_true (show nV 0 = V.int 0 from rfl)) h0
            | succ d => exact ⟨d, rfl⟩
          obtain ⟨pr, hpr⟩ : ∃ pr, own[d]? = some pr := ⟨own[d], List.getElem?_eq_getElem (by omega)⟩
          obtain ⟨v2, hv2⟩ : ∃ v2, wait'[pr]? = some v2 := ⟨wait'[pr]'(by have := I.tree d pr hpr; omega), List.getElem?_eq_getElem _⟩
          have hprd := I.tree d pr hpr
          obtain ⟨J, hge⟩ := I.up hv hpr hv2
          refine ⟨_, rfl, x, W, dx, _, _, rfl, W2.ob, TW.cl, TW.own, rfl, _, rfl, _, _, rfl, rfl, lo, _, _, _, rfl, rfl, SqL.of W2.own, at_of (j := d) (by omega) (nV_get hpr), ?_⟩
          refine ⟨_, rfl, x, W, dx, _, _, rfl, W2.ob, TW.cl, TW.wait, rfl, _, rfl, lw, _, pr, _, rfl, rfl, SqL.of W2.wait, nV_get hv2, _, _, rfl, rfl, lw, _, _, pr, rfl, rfl, W2.wait, ?_, ?_⟩
          · show ixN ((wait'.map nV).length) (pr : Int) = some pr
            unfold ixN
            rw [List.length_map, if_pos (by omega), if_pos (by omega)]
            simp
          · have e1 : (wait'.map nV).set pr (.int ((v2 : Int) - 1)) = (wait'.set pr (v2 - 1)).map nV := by
              rw [List.map_set]
              unfold nV
              congr 2
              omega
            refine ⟨⟨pr, ended ++ [d + 1], wait'.set pr (v2 - 1), fm'.set (d + 1) true, rfl, ⟨?_, ?_, ?_, ?_, W2.n1, W2.n2, W2.d0, W2.d1, W2.d2, W2.d3, W2.tight⟩, ?_, J, ?_, path_snoc hpath hpr, ?_, ?_⟩, ?_⟩
            · rw [upd_ne (ne_of W2.ob W2.wait (by intro z; cases z))]; exact W2.ob
            · rw [upd_ne W2.n1]; exact W2.own
            · rw [upd_ne W2.n2]; exact W2.ord
            · rw [upd_same]
              exact congrArg (fun z => some (HO.lst z)) e1
            · rw [upd_ne hpD.2.2.2]; exact hp2
            · rw [count_set hcell, hcnt, List.length_append]
              rfl
            · intro z hz
              rcases List.mem_append.mp hz with hz | hz
              · exact hlow z hz
              · have e : z = pr := by simpa using hz
                omega
            · intro b o e n
              rw [upd_ne (fun z => n (by rw [z]; exact W2.d3))]
              exact k2 b o e n
            · show (pr : Int).toNat < ((d + 1 : Nat) : Int).toNat
              omega
      · have hv0 : v ≠ 0 := fun e => he (by rw [e]; exact decide_eq_true rfl)
        have J := I.stop hv hv0
        refine ⟨_, rfl, q H' ⟨num, own, ord, ent + 1, wait', fm'⟩ ended p ⟨dx, lo, lr, lw, wk'⟩ ⟨hi, J, rfl, rfl, rfl, hcnt, path_pre hpath⟩ (fun d hd => hlow d (List.mem_append_left _ hd)) (by omega) hkeep p0 hp'⟩
    · rintro σ H' Q1 Q2 h ⟨v, hv, a, C, d, fs, v1, e1, e2, e3, e4, e5, v2, e6, p1, xs, i, z, e7, e8, e9, e10, e11, k1, e12, q1⟩
      exact ⟨v, hv, a, C, d, fs, v1, e1, e2, e3, e4, e5, v2, e6, p1, xs, i, z, e7, e8, e9, e10, e11, k1, e12, h _ _ q1⟩
end
end SH
/-! ## D6 -/
namespace SH
open PySem L2
/-! ### settings -/
def sf (cells lim fields cuts : Int) : List (Str × V) := [("cells", .int cells), ("live", .int lim), ("fields", .int fields), ("cuts", .int cuts)]
structure SetT (K : PySem.W.Frag) (S : Addr) : Prop where
  cl : Cls K S
  cells : NoAttr K S "cells"
  live : NoAttr K S "live"
  fields : NoAttr K S "fields"
  cuts : NoAttr K S "cuts"
def SetAt (S : Addr) (H : Hp) (s : Addr) (cells lim fields cuts : Int) : Prop := ∃ dx, H s = some (.ins S dx (sf cells lim fields cuts))
def spSetInit (S : Addr) : Sp := fun vs H Q _ => ∃ (s dx : Addr) (cells lim fields cuts : Int), vs = [.ref s, .int cells, .int lim, .int fields, .int cuts] ∧ H s = some (.ins S dx []) ∧ 1 ≤ lim ∧ lim ≤ cells ∧ cells ≤ 10 ^ 30 ∧ 1 ≤ fields ∧ fields ≤ 10 ^ 30 ∧ 1 ≤ cuts ∧ cuts ≤ 10 ^ 30 ∧
  ∀ H' : Hp, SetAt S H' s cells lim fields cuts → (∀ b o, H b = some o → b ≠ s → H' b = some o) → Q .non H'
def spReach (S : Addr) : Sp := fun vs H Q _ => ∃ (s : Addr) (cells lim fields cuts : Int), vs = [.ref s] ∧ SetAt S H s cells lim fields cuts ∧ 0 ≤ cuts ∧ cuts < 2 ^ 64 ∧ Q (.int (cuts * (cells - lim + 1))) H
def spNever (S : Addr) : Sp := fun vs H Q _ => ∃ (s : Addr) (cells lim fields cuts : Int), vs = [.ref s] ∧ SetAt S H s cells lim fields cuts ∧ 0 ≤ cuts ∧ cuts < 2 ^ 64 ∧ Q (.bl (decide (lim ≤ cuts * (cells - lim + 1) + 1))) H
/-- a property of the class at C, kept -/
structure CalP (P : Program) (w : World) (K : PySem.W.Frag) (mg : Str → Option Value) (base : Heap) (CX : CXT) (k : Nat) (C : Addr) (f : Str) (sp : Sp) : Prop where
  ex : ∃ p g fd, PropOf K C f p g ∧ Binds K fd ["self"] [] ∧ FnOk P w K mg base CX k g fd ["self"] sp
structure Pf (K : PySem.W.Frag) (C : Addr) (f qual : Str) (st : Stmt) : Prop where
  ex : ∃ p g fd, Fun K f qual st g fd ∧ PropOf K C f p g ∧ Binds K fd ["self"] []
theorem Pf.cal {P : Program} {w : World} {K : PySem.W.Frag} {mg : Str → Option Value} {base : Heap} {CX : CXT} {k : Nat} {C : Addr} {m qual : Str} {st : Stmt} {sp : Sp} (d : Pf K C m qual st)
    (h : ∀ f fd, Fun K m qual st f fd → FnOk P w K mg base CX k f fd ["self"] sp) : CalP P w K mg base CX k C m sp := by
  obtain ⟨p, g, fd, F, e, b⟩ := d.ex
  exact ⟨p, g, fd, e, b, h g fd F⟩
theorem pe_calP {X : Cx} {CX : CXT} {k : Nat} {C : Addr} {f : Str} {sp : Sp} {E : XK} {e : Expr} {pos : Pos} {ta : TE} (he : PE X e ta) (c : Cls X.K C) (p : CalP X.prog X.w X.K X.mg X.base CX k C f sp) (hr : Room (k + 1) X.A) (hx : Passes CX X.nox E)
    (hab : attributeBase e f X.env (eval e X.env) = eval e X.env := by rfl) : PE X (.Attribute e f pos) (tProp C sp [] E ta) := by
  obtain ⟨p, g, fd, hp, b, F⟩ := p.ex
  exact pe_prop he c hp F hr b .nil hx hab
section
variable {P : Program} {w : World} {K : PySem.W.Frag} {mg : Str → Option Value} {base : Heap} {S : Addr}
theorem scSetInit : FnScope ["self", "cells", "live", "fields", "cuts"] ["self", "cells", "live", "fields", "cuts"] (defScope sSetInit) := ⟨rfl, rfl, rfl, by decide +kernel, rfl, by decide +kernel, by decide +kernel⟩
theorem ok_setinit {f : Addr} {fd : FuncData} (F : Fun K "__init__" "Setting.__init__" sSetInit f fd) (T : Glo K mg) (TS : SetT K S) (c1 : Cal P w K mg base CX0 2 "checked_number" ["value", "low", "high"] spChecked) :
    FnOk P w K mg base CX0 3 f fd ["self", "cells", "live", "fields", "cuts"] (spSetInit S) := by
  refine F.ok scSetInit (fun vs H Q E h => ?_) (fun cdv A outer s H vs Q E hr h => ?_)
  · obtain ⟨_, _, _, _, _, _, rfl, _⟩ := h
    rfl
  · obtain ⟨x, dx, cells, lim, fields, cuts, rfl, hx, h1, h2, h3, h4, h5, h6, h7, k⟩ := h
    obtain ⟨t0, g0⟩ := T.most
    refine ⟨_, pss_cons (ps_fld (pv 0) (pe_cal c1 hr pass0 (pa_cons (pv 1) (pa_cons pe_int (pa_cons (pe_glob (v := .int (10 ^ 30)) rfl g0 ⟨_, rfl⟩) pa_nil)))) rfl)
      (pss_cons (ps_fld (pv 0) (pe_cal c1 hr pass0 (pa_cons (pv 2) (pa_cons pe_int (pa_cons (pv 1) pa_nil)))) rfl)
      (pss_cons (ps_fld (pv 0) (pe_cal c1 hr pass0 (pa_cons (pv 3) (pa_cons pe_int (pa_cons (pe_glob (v := .int (10 ^ 30)) rfl g0 ⟨_, rfl⟩) pa_nil)))) rfl)
      (pss_one (ps_fld (pv 0) (pe_cal c1 hr pass0 (pa_cons (pv 4) (pa_cons pe_int (pa_cons (pe_glob (v := .int (10 ^ 30)) rfl g0 ⟨_, rfl⟩) pa_nil)))) rfl)))), ?_⟩
    refine ⟨_, rfl, cells, 1, 10 ^ 30, rfl, by omega, h3, _, rfl, x, S, dx, _, rfl, hx, TS.cl, TS.cells, (by show 0 < 1000; decide), ?_⟩
    refine ⟨_, rfl, _, rfl, lim, 1, cells, rfl, h1, h2, _, rfl, x, S, dx, _, rfl, upd_same, TS.cl, TS.live, (by show 1 < 1000; decide), ?_⟩
    refine ⟨_, rfl, fields, 1, 10 ^ 30, rfl, h4, h5, _, rfl, x, S, dx, _, rfl, upd_same, TS.cl, TS.fields, (by show 2 < 1000; decide), ?_⟩
    refine ⟨_, rfl, cuts, 1, 10 ^ 30, rfl, h6, h7, _, rfl, x, S, dx, _, rfl, upd_same, TS.cl, TS.cuts, (by show 3 < 1000; decide), ?_⟩
    refine k _ ⟨dx, upd_same⟩ fun b o e hb => ?_
    rw [upd_ne hb, upd_ne hb, upd_ne hb, upd_ne hb]
    exact e
theorem scReach : FnScope ["self"] ["self"] (defScope sSetReach) := ⟨rfl, rfl, rfl, by decide +kernel, rfl, by decide +kernel, by decide +kernel⟩
theorem ok_reach {f : Addr} {fd : FuncData} (F : Fun K "reach" "Setting.reach" sSetReach f fd) (TS : SetT K S) : FnOk P w K mg base CX0 1 f fd ["self"] (spReach S) := by
  refine F.ok scReach (fun vs H Q E h => ?_) (fun cdv A outer s H vs Q E hr h => ?_)
  · obtain ⟨_, _, _, _, _, rfl, _⟩ := h
    rfl
  · obtain ⟨x, cells, lim, fields, cuts, rfl, ⟨dx, hx⟩, h1, h2, k⟩ := h
    refine ⟨_, pss_one (ps_ret (pe_op op_mul (pe_fld (pv 0) rfl) (pe_op op_add (pe_op op_sub (pe_fld (pv 0) rfl) (pe_fld (pv 0) rfl)) pe_int))), ?_⟩
    exact ⟨_, rfl, x, S, dx, _, _, rfl, hx, TS.cl, TS.cuts, rfl, _, rfl, x, S, dx, _, _, rfl, hx, TS.cl, TS.cells, rfl, _, rfl, x, S, dx, _, _, rfl, hx, TS.cl, TS.live, rfl, _, _, rfl, rfl, _, _, rfl, rfl, _, _, rfl, rfl, .inl ⟨by omega, h2⟩, k⟩
theorem scNever : FnScope ["setting"] ["setting"] (defScope sNever) := ⟨rfl, rfl, rfl, by decide +kernel, rfl, by decide +kernel, by decide +kernel⟩
theorem ok_never {f : Addr} {fd : FuncData} (F : Fun K "children_never_stalls" "children_never_stalls" sNever f fd) (TS : SetT K S) (c1 : CalP P w K mg base CX0 1 S "reach" (spReach S)) : FnOk P w K mg base CX0 3 f fd ["setting"] (spNever S) := by
  refine F.ok scNever (fun vs H Q E h => ?_) (fun cdv A outer s H vs Q E hr h => ?_)
  · obtain ⟨_, _, _, _, _, rfl, _⟩ := h
    rfl
  · obtain ⟨x, cells, lim, fields, cuts, rfl, ⟨dx, hx⟩, h1, h2, k⟩ := h
    refine ⟨_, pss_one (ps_ret (pe_cmpR op_le (pe_fld (pv 0) rfl) (pe_op op_add (pe_calP (pv 0) TS.cl c1 hr pass0) pe_int) (nomark _))), ?_⟩
    exact ⟨_, rfl, x, S, dx, _, _, rfl, hx, TS.cl, TS.live, rfl, _, rfl, x, dx, _, rfl, hx, x, cells, lim, fields, cuts, rfl, ⟨dx, hx⟩, h1, h2, _, _, rfl, rfl, _, _, rfl, rfl, k⟩
end
end SH
/-! ## D7 -/
namespace SH
open PySem L2
/-! ### works, one behind the other, each in cells of its own -/
def WorksIn (W : Addr) (H : Hp) : (Addr → Prop) → List Addr → List Wk → Prop
  | D, [], [] => ∀ b, ¬ D b
  | D, w :: ws, k :: ks => ∃ D1 D2 : Addr → Prop, (∀ b, D b → D1 b ∨ D2 b) ∧ (∀ b, D1 b → D b) ∧ (∀ b, D2 b → D b) ∧ (∀ b, D1 b → ¬ D2 b) ∧ WorkIn W H D1 w k ∧ WorksIn W H D2 ws ks
  | _, _, _ => False
theorem WorksIn.keep {W : Addr} {H H' : Hp} : ∀ {ws : List Addr} {ks : List Wk} {D : Addr → Prop}, WorksIn W H D ws ks → (∀ b o, D b → H b = some o → H' b = some o) → WorksIn W H' D ws ks
  | [], [], _, x, _ => x
  | w :: ws, k :: ks, D, ⟨D1, D2, h1, h2, h3, h4, h5, h6⟩, q => ⟨D1, D2, h1, h2, h3, h4, h5.keep fun b o d e => q b o (h2 b d) e, WorksIn.keep h6 fun b o d e => q b o (h3 b d) e⟩
  | [], _ :: _, _, x, _ => x.elim
  | _ :: _, [], _, x, _ => x.elim
theorem WorksIn.dom {W : Addr} {H : Hp} : ∀ {ws : List Addr} {ks : List Wk} {D : Addr → Prop}, WorksIn W H D ws ks → ∀ {b : Addr}, D b → H b ≠ none
  | [], [], _, x, b, d => absurd d (x b)
  | w :: ws, k :: ks, D, ⟨D1, D2, h1, h2, h3, h4, h5, h6⟩, b, d => (h1 b d).elim (fun q => h5.dom q) (fun q => WorksIn.dom h6 q)
  | [], _ :: _, _, x, _, _ => x.elim
  | _ :: _, [], _, x, _, _ => x.elim
theorem WorksIn.len {W : Addr} {H : Hp} : ∀ {ws : List Addr} {ks : List Wk} {D : Addr → Prop}, WorksIn W H D ws ks → ws.length = ks.length
  | [], [], _, _ => rfl
  | _ :: _, _ :: _, _, ⟨_, _, _, _, _, _, _, h⟩ => by rw [List.length_cons, List.length_cons, WorksIn.len h]
  | [], _ :: _, _, x => x.elim
  | _ :: _, [], _, x => x.elim
theorem WorksIn.snoc {W : Addr} {H : Hp} {w : Addr} {k : Wk} {Dn : Addr → Prop} (hw : WorkIn W H Dn w k) : ∀ {ws : List Addr} {ks : List Wk} {D : Addr → Prop}, WorksIn W H D ws ks → (∀ b, D b → ¬ Dn b) → WorksIn W H (fun b => D b ∨ Dn b) (ws ++ [w]) (ks ++ [k])
  | [], [], D, x, _ => ⟨Dn, fun _ => False, fun b d => d.elim (fun q => absurd q (x b)) .inl, fun b d => .inr d, fun b d => d.elim, fun b d n => n, hw, fun b n => n⟩
  | v :: ws, l :: ks, D, ⟨D1, D2, h1, h2, h3, h4, h5, h6⟩, n =>
    ⟨D1, fun b => D2 b ∨ Dn b, fun b d => d.elim (fun q => (h1 b q).elim .inl fun z => .inr (.inl z)) fun z => .inr (.inr z), fun b d => .inl (h2 b d), fun b d => d.elim (fun q => .inl (h3 b q)) .inr,
      fun b d q => q.elim (h4 b d) (n b (h2 b d)), h5, WorksIn.snoc hw h6 fun b d => n b (h3 b d)⟩
  | [], _ :: _, _, x, _ => x.elim
  | _ :: _, [], _, x, _ => x.elim
/-! ### the heap -/
def cf (s : Addr) (free live begun drops : Int) (lw lf : Addr) : List (Str × V) :=
  [("setting", .ref s), ("_free", .int free), ("_live", .int live), ("_begun", .int begun), ("_drops", .int drops), ("_works", .ref lw), ("_freed", .ref lf)]
structure ChT (K : PySem.W.Frag) (C : Addr) : Prop where
  cl : Cls K C
  setting : NoAttr K C "setting"
  free : NoAttr K C "_free"
  live : NoAttr K C "_live"
  begun : NoAttr K C "_begun"
  drops : NoAttr K C "_drops"
  works : NoAttr K C "_works"
  freed : NoAttr K C "_freed"
/-- the three classes -/
structure Cs where
  C : Addr
  S : Addr
  W : Addr
def tupV (q : Int × Nat) : HO := .tup [.int q.1, nV q.2]
structure ChAt (c : Cs) (H : Hp) (D : Addr → Prop) (p : Addr) (st : CS) (dx s lw lf : Addr) (ws ts : List Addr) (Dw : Addr → Prop) : Prop where
  ob : H p = some (.ins c.C dx (cf s st.free st.live st.begun st.drops lw lf))
  set : SetAt c.S H s st.cells st.lim st.fields st.cuts
  lws : H lw = some (.lst (ws.map V.ref))
  lfs : H lf = some (.lst (ts.map V.ref))
  tl : ts.length = st.freed.length
  tup : ∀ (i : Nat) t q, ts[i]? = some t → st.freed[i]? = some q → H t = some (tupV q)
  wks : WorksIn c.W H Dw ws st.works
  d0 : D p
  d1 : D s
  d2 : D lw
  d3 : D lf
  d4 : ∀ t ∈ ts, D t
  d5 : ∀ b, Dw b → D b
  tight : ∀ b, D b → b = p ∨ b = s ∨ b = lw ∨ b = lf ∨ b ∈ ts ∨ Dw b
  n0 : ¬ Dw p
  n1 : ¬ Dw s
  n2 : ¬ Dw lw
  n3 : ¬ Dw lf
  n4 : ∀ t ∈ ts, ¬ Dw t
  ps : p ≠ s
  wf : lw ≠ lf
def ChIn (c : Cs) (H : Hp) (D : Addr → Prop) (p : Addr) (st : CS) : Prop := ∃ dx s lw lf ws ts Dw, ChAt c H D p st dx s lw lf ws ts Dw
section
variable {c : Cs} {H H' : Hp} {D : Addr → Prop} {p : Addr} {st : CS} {dx s lw lf : Addr} {ws ts : List Addr} {Dw : Addr → Prop}
theorem ChAt.tupAt (x : ChAt c H D p st dx s lw lf ws ts Dw) {t : Addr} (h : t ∈ ts) : ∃ q, H t = some (tupV q) := by
  obtain ⟨i, hi⟩ := List.getElem?_of_mem h
  have hl := (List.getElem?_eq_some_iff.mp hi).1
  exact ⟨_, x.tup i t _ hi (List.getElem?_eq_getElem (by rw [← x.tl]; exact hl))⟩
theorem ChAt.keep (x : ChAt c H D p st dx s lw lf ws ts Dw) (k : ∀ b o, D b → H b = some o → H' b = some o) : ChAt c H' D p st dx s lw lf ws ts Dw :=
  { x with
    ob := k _ _ x.d0 x.ob
    set := let ⟨d, e⟩ := x.set; ⟨d, k _ _ x.d1 e⟩
    lws := k _ _ x.d2 x.lws
    lfs := k _ _ x.d3 x.lfs
    tup := fun i t q h1 h2 => k _ _ (x.d4 t (List.mem_of_getElem? h1)) (x.tup i t q h1 h2)
    wks := x.wks.keep fun b o d e => k b o (x.d5 b d) e }
theorem ChIn.keep (x : ChIn c H D p st) (k : ∀ b o, D b → H b = some o → H' b = some o) : ChIn c H' D p st := by
  obtain ⟨_, _, _, _, _, _, _, y⟩ := x
  exact ⟨_, _, _, _, _, _, _, y.keep k⟩
theorem ChAt.dom (x : ChAt c H D p st dx s lw lf ws ts Dw) {b : Addr} (d : D b) : H b ≠ none := by
  rcases x.tight b d with rfl | rfl | rfl | rfl | h | h
  · rw [x.ob]; simp
  · obtain ⟨d, e⟩ := x.set
    rw [e]; simp
  · rw [x.lws]; simp
  · rw [x.lfs]; simp
  · obtain ⟨q, e⟩ := x.tupAt h
    rw [e]; simp
  · exact x.wks.dom h
theorem ChIn.dom (x : ChIn c H D p st) {b : Addr} (d : D b) : H b ≠ none := by
  obtain ⟨_, _, _, _, _, _, _, y⟩ := x
  exact y.dom d
theorem ChAt.nt (x : ChAt c H D p st dx s lw lf ws ts Dw) {t : Addr} (h : t ∈ ts) : t ≠ p ∧ t ≠ lw ∧ t ≠ lf ∧ t ≠ s := by
  obtain ⟨q, e⟩ := x.tupAt h
  obtain ⟨d, z⟩ := x.set
  exact ⟨ne_of e x.ob (by intro q; cases q), ne_of e x.lws (by intro q; cases q), ne_of e x.lfs (by intro q; cases q), ne_of e z (by intro q; cases q)⟩
theorem ChAt.np (x : ChAt c H D p st dx s lw lf ws ts Dw) : p ≠ lw ∧ p ≠ lf ∧ s ≠ lw ∧ s ≠ lf := by
  obtain ⟨d, z⟩ := x.set
  exact ⟨ne_of x.ob x.lws (by intro q; cases q), ne_of x.ob x.lfs (by intro q; cases q), ne_of z x.lws (by intro q; cases q), ne_of z x.lfs (by intro q; cases q)⟩
/-- a field of the object is stored -/
theorem ChAt.store (x : ChAt c H D p st dx s lw lf ws ts Dw) (free live begun drops : Int) {o : HO} (ho : o = .ins c.C dx (cf s free live begun drops lw lf)) :
    ChAt c (upd H p o) D p { st with free := free, live := live, begun := begun, drops := drops } dx s lw lf ws ts Dw := by
  obtain ⟨n1, n2, n3, n4⟩ := x.np
  obtain ⟨d, z⟩ := x.set
  exact { x with
    ob := by rw [upd_same, ho]
    set := ⟨d, by rw [upd_ne x.ps.symm]; exact z⟩
    lws := by rw [upd_ne n1.symm]; exact x.lws
    lfs := by rw [upd_ne n2.symm]; exact x.lfs
    tup := fun i t q h1 h2 => by rw [upd_ne (x.nt (List.mem_of_getElem? h1)).1]; exact x.tup i t q h1 h2
    wks := x.wks.keep fun b o d e => by
      rw [upd_ne (fun q => x.n0 (by rw [← q]; exact d))]
      exact e }
end
def spChInit (c : Cs) : Sp := fun vs H Q _ => ∃ (p dx s : Addr) (cells lim fields cuts : Int), vs = [.ref p, .ref s] ∧ H p = some (.ins c.C dx []) ∧ SetAt c.S H s cells lim fields cuts ∧ p ≠ s ∧ cells ≤ 2000 ∧
  ∀ (H' : Hp) (D : Addr → Prop), ChIn c H' D p ⟨cells, lim, fields, cuts, cells, 0, 0, 0, [], []⟩ → (∀ b o, H b = some o → b ≠ p → H' b = some o) → (∀ b, D b → b = p ∨ b = s ∨ H b = none) → Q .non H'
def spChFree (c : Cs) : Sp := fun vs H Q _ => ∃ (p : Addr) (D : Addr → Prop) (st : CS), vs = [.ref p] ∧ ChIn c H D p st ∧ Q (.int st.free) H
def spChLive (c : Cs) : Sp := fun vs H Q _ => ∃ (p : Addr) (D : Addr → Prop) (st : CS), vs = [.ref p] ∧ ChIn c H D p st ∧ Q (.int st.live) H
def spChFreed (c : Cs) : Sp := fun vs H Q _ => ∃ (p : Addr) (D : Addr → Prop) (st : CS), vs = [.ref p] ∧ ChIn c H D p st ∧
  ∀ (H' : Hp) (l : Addr) (ts : List Addr), Same H H' → H' l = some (.lst (ts.map V.ref)) → ts.length = st.freed.length → (∀ (i : Nat) t q, ts[i]? = some t → st.freed[i]? = some q → H' t = some (tupV q)) → Q (.ref l) H'
def spChNext (c : Cs) : Sp := fun vs H Q _ => ∃ (p : Addr) (D : Addr → Prop) (st : CS) (k : Wk) (r : List Wk), vs = [.ref p] ∧ ChIn c H D p st ∧ st.works = k :: r ∧ WInv k ∧ k.ent < k.size ∧ st.freed.length ≤ 50000 ∧
  ∀ (H' : Hp) (D' : Addr → Prop) (st' : CS), CutR st st' → ChIn c H' D' p st' → Keep D H H' → Fresh D D' H → Q .non H'
section
variable {P : Program} {w : World} {K : PySem.W.Frag} {mg : Str → Option Value} {base : Heap} {c : Cs}
theorem scChInit : FnScope ["self", "setting"] ["self", "setting"] (defScope sChInit) := ⟨rfl, rfl, rfl, by decide +kernel, rfl, by decide +kernel, by decide +kernel⟩
theorem ok_chinit {f : Addr} {fd : FuncData} (F : Fun K "__init__" "ChildrenHeap.__init__" sChInit f fd) (T : Glo K mg) (TC : ChT K c.C) (TS : SetT K c.S) : FnOk P w K mg base CX0 1 f fd ["self", "setting"] (spChInit c) := by
  refine F.ok scChInit (fun vs H Q E h => ?_) (fun cdv A outer s H vs Q E hr h => ?_)
  · obtain ⟨_, _, _, _, _, _, _, rfl, _⟩ := h
    rfl
  · obtain ⟨p, dx, s, cells, lim, fields, cuts, rfl, hp, ⟨ds, hs⟩, hps, hle, k⟩ := h
    obtain ⟨t0, g0⟩ := T.cellsMost
    refine ⟨_, pss_cons (ps_if (pt_cmpR op_gt (pe_fld (pv 1) rfl) (pe_glob (v := .int 2000) rfl g0 ⟨_, rfl⟩) (nomark _)) (pss_one ps_never) pss_nil)
      (pss_cons (ps_fld (pv 0) (pv 1) rfl) (pss_cons (ps_fld (pv 0) (pe_fld (pv 1) rfl) rfl) (pss_cons (ps_fld (pv 0) pe_int rfl) (pss_cons (ps_fld (pv 0) pe_int rfl) (pss_cons (ps_fld (pv 0) pe_int rfl)
      (pss_cons (ps_fld (pv 0) (pe_lst pa_nil) rfl) (pss_one (ps_fld (pv 0) (pe_lst pa_nil) rfl)))))))), ?_⟩
    refine ⟨_, rfl, s, c.S, ds, _, _, rfl, hs, TS.cl, TS.cells, rfl, _, _, rfl, rfl, _, rfl, ?_⟩
    rw [decide_eq_false (by omega)]
    refine iteF ?_
    have hs1 : ∀ (o : HO), upd H p o s = some (.ins c.S ds (sf cells lim fields cuts)) := fun o => by rw [upd_ne hps.symm]; exact hs
    refine ⟨_, rfl, _, rfl, p, c.C, dx, _, rfl, hp, TC.cl, TC.setting, (by show 0 < 1000; decide), ?_⟩
    refine ⟨_, rfl, s, c.S, ds, _, _, rfl, hs1 _, TS.cl, TS.cells, rfl, _, rfl, p, c.C, dx, _, rfl, upd_same, TC.cl, TC.free, (by show 1 < 1000; decide), ?_⟩
    refine ⟨_, rfl, p, c.C, dx, _, rfl, upd_same, TC.cl, TC.live, (by show 2 < 1000; decide), ?_⟩
    refine ⟨_, rfl, p, c.C, dx, _, rfl, upd_same, TC.cl, TC.begun, (by show 3 < 1000; decide), ?_⟩
    refine ⟨_, rfl, p, c.C, dx, _, rfl, upd_same, TC.cl, TC.drops, (by show 4 < 1000; decide), ?_⟩
    rw [upd_upd, upd_upd, upd_upd, upd_upd]
    refine ⟨Nat.zero_le _, fun lw hlw => ?_⟩
    have plw : p ≠ lw := ne_of_none upd_same hlw
    have lw0 : H lw = none := by rw [upd_ne plw.symm] at hlw; exact hlw
    refine ⟨_, rfl, p, c.C, dx, _, rfl, (by rw [upd_ne plw]; exact upd_same), TC.cl, TC.works, (by show 5 < 1000; decide), ?_⟩
    refine ⟨Nat.zero_le _, fun lf hlf => ?_⟩
    have plf : p ≠ lf := ne_of_none upd_same hlf
    rw [upd_ne plf.symm] at hlf
    have wlf : lw ≠ lf := ne_of_none upd_same hlf
    rw [upd_ne wlf.symm, upd_ne plf.symm] at hlf
    refine ⟨_, rfl, p, c.C, dx, _, rfl, (by rw [upd_ne plf]; exact upd_same), TC.cl, TC.freed, (by show 6 < 1000; decide), ?_⟩
    have slw : s ≠ lw := ne_of_none hs lw0
    have slf : s ≠ lf := ne_of_none hs hlf
    refine k _ (fun b => b = p ∨ b = s ∨ b = lw ∨ b = lf) ⟨dx, s, lw, lf, [], [], fun _ => False, upd_same, ⟨ds, ?_⟩, ?_, ?_, rfl, fun i t q h _ => by simp at h, fun b n => n, .inl rfl, .inr (.inl rfl), .inr (.inr (.inl rfl)), .inr (.inr (.inr rfl)),
      fun t h => absurd h List.not_mem_nil, fun b d => d.elim, fun b d => ?_, fun n => n, fun n => n, fun n => n, fun n => n, fun t h => absurd h List.not_mem_nil, hps, wlf⟩ ?_ ?_
    · rw [upd_ne hps.symm, upd_ne slf, upd_ne hps.symm, upd_ne slw, upd_ne hps.symm]
      exact hs
    · rw [upd_ne plw.symm, upd_ne wlf, upd_ne plw.symm, upd_same]
      rfl
    · rw [upd_ne plf.symm, upd_same]
      rfl
    · rcases d with d | d | d | d
      · exact .inl d
      · exact .inr (.inl d)
      · exact .inr (.inr (.inl d))
      · exact .inr (.inr (.inr (.inl d)))
    · intro b o e hb
      rw [upd_ne hb, upd_ne (ne_of_none e hlf), upd_ne hb, upd_ne (ne_of_none e lw0), upd_ne hb]
      exact e
    · rintro b (rfl | rfl | rfl | rfl)
      · exact .inl rfl
      · exact .inr (.inl rfl)
      · exact .inr (.inr lw0)
      · exact .inr (.inr hlf)
theorem scChFree : FnScope ["self"] ["self"] (defScope sChFree) := ⟨rfl, rfl, rfl, by decide +kernel, rfl, by decide +kernel, by decide +kernel⟩
theorem ok_chfree {f : Addr} {fd : FuncData} (F : Fun K "free_count" "ChildrenHeap.free_count" sChFree f fd) (TC : ChT K c.C) : FnOk P w K mg base CX0 1 f fd ["self"] (spChFree c) := by
  refine F.ok scChFree (fun vs H Q E h => ?_) (fun cdv A outer s H vs Q E hr h => ?_)
  · obtain ⟨_, _, _, rfl, _⟩ := h
    rfl
  · obtain ⟨p, D, st, rfl, ⟨dx, s, lw, lf, ws, ts, Dw, x⟩, k⟩ := h
    exact ⟨_, pss_one (ps_ret (pe_fld (pv 0) rfl)), _, rfl, p, c.C, dx, _, _, rfl, x.ob, TC.cl, TC.free, rfl, k⟩
theorem scChLive : FnScope ["self"] ["self"] (defScope sChLive) := ⟨rfl, rfl, rfl, by decide +kernel, rfl, by decide +kernel, by decide +kernel⟩
theorem ok_chlive {f : Addr} {fd : FuncData} (F : Fun K "live_count" "ChildrenHeap.live_count" sChLive f fd) (TC : ChT K c.C) : FnOk P w K mg base CX0 1 f fd ["self"] (spChLive c) := by
  refine F.ok scChLive (fun vs H Q E h => ?_) (fun cdv A outer s H vs Q E hr h => ?_)
  · obtain ⟨_, _, _, rfl, _⟩ := h
    rfl
  · obtain ⟨p, D, st, rfl, ⟨dx, s, lw, lf, ws, ts, Dw, x⟩, k⟩ := h
    exact ⟨_, pss_one (ps_ret (pe_fld (pv 0) rfl)), _, rfl, p, c.C, dx, _, _, rfl, x.ob, TC.cl, TC.live, rfl, k⟩
theorem scChFreed : FnScope ["self"] ["self"] (defScope sChFreed) := ⟨rfl, rfl, rfl, by decide +kernel, rfl, by decide +kernel, by decide +kernel⟩
theorem ok_chfreed {f : Addr} {fd : FuncData} (F : Fun K "freed" "ChildrenHeap.freed" sChFreed f fd) (T : Glo K mg) (TC : ChT K c.C) : FnOk P w K mg base CX0 1 f fd ["self"] (spChFreed c) := by
  refine F.ok scChFreed (fun vs H Q E h => ?_) (fun cdv A outer s H vs Q E hr h => ?_)
  · obtain ⟨_, _, _, rfl, _⟩ := h
    rfl
  · obtain ⟨p, D, st, rfl, ⟨dx, s, lw, lf, ws, ts, Dw, x⟩, k⟩ := h
    refine ⟨_, pss_one (ps_ret (pe_callTy call_list_of (by rfl) T.list (by decide +kernel) (pa_cons (pe_fld (pv 0) rfl) pa_nil))), ?_⟩
    refine ⟨_, rfl, p, c.C, dx, _, _, rfl, x.ob, TC.cl, TC.freed, rfl, lf, _, rfl, .inl (SqL.of x.lfs), fun l hl => ?_⟩
    have s1 : Same H (upd H l (.lst (ts.map V.ref))) := Same.laid hl
    exact k _ l ts s1 upd_same x.tl fun i t q h1 h2 => s1 _ _ (x.tup i t q h1 h2)
end
end SH
/-! ## D8 -/
namespace SH
open PySem L2
section
variable {P : Program} {w : World} {K : PySem.W.Frag} {mg : Str → Option Value} {base : Heap} {c : Cs}
theorem scChNext : FnScope ["self", "work", "ended", "cell"] ["self"] (defScope sChNext) := ⟨rfl, rfl, rfl, by decide +kernel, rfl, by decide +kernel, by decide +kernel⟩
theorem ok_chnext {f : Addr} {fd : FuncData} (F : Fun K "_enter_next" "ChildrenHeap._enter_next" sChNext f fd) (T : Glo K mg) (TC : ChT K c.C) (TW : WkT K c.W) (c1 : CalM P w K mg base CX0 1 c.W "enter" ["self"] (spWkEnter c.W))
    (c2 : CalM P w K mg base CX0 1 c.W "is_over" ["self"] (spWkOver c.W)) : FnOk P w K mg base CX0 2 f fd ["self"] (spChNext c) := by
  refine F.ok scChNext (fun vs H Q E h => ?_) (fun cdv A outer s H vs Q E hr h => ?_)
  · obtain ⟨_, _, _, _, _, rfl, _⟩ := h
    rfl
  · obtain ⟨p, D, st, k, r, rfl, ⟨dx, s, lw, lf, ws, ts, Dw, x⟩, hw, hi, hlt, hfl, q⟩ := h
    refine ⟨_, pss_cons (ps_set (i := 1) scChNext.nd rfl (.inl rfl) (pe_ix ix_list (pe_fld (pv 0) rfl) pe_int (fun _ _ => rfl)))
      (pss_cons (ps_set (i := 2) scChNext.nd rfl (.inl rfl) (pe_calM0 (pv 1) TW.cl c1 hr pass0))
      (pss_cons (ps_for PassesOwn.never rfl (pi_list (pv 2)) (pg_name (i := 3) scChNext.nd rfl (.inl rfl))
        (pss_one (ps_expr (pe_bm PySem.F.plainAttrs_list PySem.F.slot_list_append PySem.F.type_list_append mt_append (pe_fld (pv 0) rfl) (pa_cons (pe_tup (pa_cons (pe_fld (pv 1) rfl) (pa_cons (pv 3) pa_nil))) pa_nil)))))
      (pss_cons (ps_fldaug (pv 0) (pe_callB call_len_seq (by rfl) T.len PySem.boot_len (pa_cons (pv 2) pa_nil)) in_add)
      (pss_one (ps_if (pt_val (pe_calM0 (pv 1) TW.cl c2 hr pass0)) (pss_one (ps_expr (pe_bm PySem.F.plainAttrs_list PySem.F.slot_list_pop PySem.F.type_list_pop mt_popAt (pe_fld (pv 0) rfl) (pa_cons pe_int pa_nil)))) pss_nil))))), ?_⟩
    have hwk := x.wks
    have hwl := hwk.len
    rw [hw] at hwk hwl
    cases ws with
    | nil => exact absurd hwl (by simp)
    | cons w0 ws =>
    obtain ⟨D1, D2, hD, hD1, hD2, hDD, hk, hrest⟩ := hwk
    have hk' := hk
    obtain ⟨dx1, lo, lr, lwt, wk⟩ := hk'
    refine ⟨_, rfl, p, c.C, dx, _, _, rfl, x.ob, TC.cl, TC.works, rfl, lw, _, 0, .ref w0, rfl, rfl, SqL.of x.lws, at_of (j := 0) rfl rfl, ?_⟩
    refine ⟨_, rfl, w0, dx1, _, rfl, wk.ob, rfl, w0, D1, k, rfl, hk, hi, hlt, fun H1 k1 ended e0 hk1 hE hlow hlen2 keep1 he0 hed => ?_⟩
    -- what is not the work's stays
    have out : ∀ b o, H b = some o → ¬ D1 b → H1 b = some o := keep1
    have nD1 : ¬ D1 p ∧ ¬ D1 s ∧ ¬ D1 lw ∧ ¬ D1 lf := ⟨fun z => x.n0 (hD1 _ z), fun z => x.n1 (hD1 _ z), fun z => x.n2 (hD1 _ z), fun z => x.n3 (hD1 _ z)⟩
    have ob1 := out _ _ x.ob nD1.1
    have lws1 := out _ _ x.lws nD1.2.2.1
    have lfs1 := out _ _ x.lfs nD1.2.2.2
    obtain ⟨np1, np2, np3, np4⟩ := x.np
    obtain ⟨dx1', lo1, lr1, lwt1, wk1⟩ := id hk1
    have elf : e0 ≠ lf := (ne_of_none x.lfs he0).symm
    have wlf : w0 ≠ lf := fun z => x.n3 (hD1 _ (by rw [← z]; exact wk.d0))
    refine ⟨_, rfl, e0, rfl, ⟨_, SqL.of hed⟩, for_list (K := K) (a := e0) (xs := ended.map nV) (fun i σ H' => ∃ (v3 : Option V) (nt : List Addr), σ = [some (.ref p), some (.ref w0), some (.ref e0), v3] ∧ nt.length = i ∧
        H' lf = some (.lst ((ts ++ nt).map V.ref)) ∧ (∀ (j : Nat) t d, nt[j]? = some t → ended[j]? = some d → H' t = some (tupV (k.num, d))) ∧ (∀ t ∈ nt, H1 t = none) ∧ (∀ b o, H1 b = some o → b ≠ lf → H' b = some o))
      ⟨none, [], rfl, rfl, by rw [List.append_nil]; exact lfs1, fun j t d h _ => by simp at h, fun t h => absurd h List.not_mem_nil, fun b o e _ => e⟩ (fun i σ H' _ ⟨_, _, _, _, _, _, _, h7⟩ => SqL.of (h7 _ _ hed elf)) ?_ ?_⟩
    · rintro i y σ H' hy ⟨v3, nt, rfl, hnl, hlf, htup, hnew, hkp⟩
      obtain ⟨d, hd, rfl⟩ := nV_of hy
      have hil := (List.getElem?_eq_some_iff.mp hd).1
      refine ⟨_, rfl, p, c.C, dx, _, _, rfl, hkp _ _ ob1 np2, TC.cl, TC.freed, rfl, .inl ⟨rfl, _, SqL.of hlf⟩, _, rfl, w0, c.W, dx1', _, _, rfl, hkp _ _ wk1.ob wlf, TW.cl, TW.num, rfl, _, rfl, (by show 2 ≤ sizeLine; decide), fun t ht => ?_⟩
      have tlf : t ≠ lf := (ne_of_none hlf ht).symm
      refine ⟨lf, _, _, rfl, rfl, by rw [upd_ne tlf.symm]; exact hlf, line_big ?_, ?_⟩
      · rw [List.length_map, List.length_append, x.tl]
        omega
      · have t0 : H1 t = none := by
          cases z : H1 t with
          | none => rfl
          | some o =>
            rw [hkp _ _ z tlf] at ht
            cases ht
        refine ⟨_, nt ++ [t], rfl, by rw [List.length_append, hnl]; rfl, ?_, fun j u d' h1 h2 => ?_, fun u hu => ?_, fun b o e hb => ?_⟩
        · rw [upd_same, ← List.append_assoc, List.map_append (l₁ := ts ++ nt)]
          rfl
        · by_cases hj : j < nt.length
          · rw [List.getElem?_append_left hj] at h1
            have z := htup j u d' h1 h2
            have un : u ≠ t := ne_of_none z ht
            have ul : u ≠ lf := ne_of z hlf (by intro q; cases q)
            rw [upd_ne ul, upd_ne un]
            exact z
          · rw [List.getElem?_append_right (by omega)] at h1
            have hj2 := (List.getElem?_eq_some_iff.mp h1).1
            simp at hj2
            have e : j = i := by omega
            subst e
            rw [hnl, Nat.sub_self] at h1
            simp at h1
            subst h1
            rw [hd] at h2
            cases h2
            rw [upd_ne tlf, upd_same, hE.num]
            rfl
        · rcases List.mem_append.mp hu with hu | hu
          · exact hnew u hu
          · have e : u = t := by simpa using hu
            rw [e]
            exact t0
        · rw [upd_ne hb, upd_ne (ne_of_none (hkp b o e hb) ht)]
          exact hkp b o e hb
    · rintro σ H' ⟨v3, nt, rfl, hnl, hlf, htup, hnew, hkp⟩
      rw [List.length_map] at hnl
      have ob2 := hkp _ _ ob1 np2
      refine ⟨_, rfl, p, c.C, dx, _, _, rfl, ob2, TC.cl, TC.free, rfl, _, rfl, e0, _, rfl, .inl (SqL.of (hkp _ _ hed elf)), _, _, rfl, rfl, dx, _, ob2, (by show 7 < 1000; decide), ?_⟩
      rw [List.length_map]
      have wp : w0 ≠ p := fun z => x.n0 (hD1 _ (by rw [← z]; exact wk.d0))
      -- the state behind the cut
      have H3D1 : ∀ b o, D1 b → H1 b = some o → upd H' p (.ins c.C dx (putF "_free" (.int (st.free + (ended.length : Int))) (cf s st.free st.live st.begun st.drops lw lf))) b = some o := fun b o d e => by
        have n1 : b ≠ p := fun z => nD1.1 (by rw [← z]; exact d)
        have n2 : b ≠ lf := fun z => nD1.2.2.2 (by rw [← z]; exact d)
        rw [upd_ne n1]
        exact hkp b o e n2
      have hk3 := hk1.keep H3D1
      refine ⟨_, rfl, w0, dx1', _, rfl, H3D1 _ _ wk1.d0 wk1.ob, rfl, w0, D1, k1, rfl, hk3, hE.i', _, rfl, ?_⟩
      have setAt : ∃ ds, H s = some (.ins c.S ds (sf st.cells st.lim st.fields st.cuts)) := x.set
      obtain ⟨ds, hset⟩ := setAt
      have mk : ∀ (Dx : Addr → Prop) (wx : List Addr) (kx : List Wk) (lst : HO), lst = .lst (wx.map V.ref) → (∀ b, Dx b → Dw b) → WorksIn c.W (upd H' p (.ins c.C dx (putF "_free" (.int (st.free + (ended.length : Int))) (cf s st.free st.live st.begun st.drops lw lf)))) Dx wx kx →
          ChIn c (upd (upd H' p (.ins c.C dx (putF "_free" (.int (st.free + (ended.length : Int))) (cf s st.free st.live st.begun st.drops lw lf)))) lw lst) (fun b => b = p ∨ b = s ∨ b = lw ∨ b = lf ∨ b ∈ ts ++ nt ∨ Dx b) p
            { st with free := st.free + (ended.length : Int), works := kx, freed := st.freed ++ ended.map (fun d => (k.num, d)) } := by
        intro Dx wx kx lst hl hsub hwx
        subst hl
        have ntp : ∀ t ∈ nt, t ≠ p ∧ t ≠ lw ∧ t ≠ lf ∧ ¬ Dw t := fun t ht => by
          have z := hnew t ht
          refine ⟨(ne_of_none ob1 z).symm, (ne_of_none lws1 z).symm, (ne_of_none lfs1 z).symm, fun d => ?_⟩
          rcases hD t d with d | d
          · exact hk1.dom d z
          · have := hrest.dom d
            cases e : H t with
            | none => exact this e
            | some o =>
              rw [out t o e (fun y => hDD t y d)] at z
              cases z
        refine ⟨dx, s, lw, lf, wx, ts ++ nt, Dx, ⟨?_, ⟨ds, ?_⟩, upd_same, ?_, ?_, ?_, ?_, .inl rfl, .inr (.inl rfl), .inr (.inr (.inl rfl)), .inr (.inr (.inr (.inl rfl))), fun t h => .inr (.inr (.inr (.inr (.inl h)))), fun b d => .inr (.inr (.inr (.inr (.inr d)))), fun b d => d,
          fun d => x.n0 (hsub _ d), fun d => x.n1 (hsub _ d), fun d => x.n2 (hsub _ d), fun d => x.n3 (hsub _ d), fun t ht d => ?_, x.ps, x.wf⟩⟩
        · rw [upd_ne np1, upd_same]
          rfl
        · rw [upd_ne np3, upd_ne x.ps.symm]
          exact hkp _ _ (out _ _ hset nD1.2.1) np4
        · rw [upd_ne x.wf.symm, upd_ne np2.symm]
          exact hlf
        · rw [List.length_append, x.tl, List.length_append, List.length_map, hnl]
        · intro i t qd h1 h2
          by_cases hi1 : i < ts.length
          · rw [List.getElem?_append_left hi1] at h1
            rw [List.getElem?_append_left (by rw [← x.tl]; exact hi1)] at h2
            have htm := List.mem_of_getElem? h1
            obtain ⟨m1, m2, m3, m4⟩ := x.nt htm
            rw [upd_ne m2, upd_ne m1]
            exact hkp _ _ (out _ _ (x.tup i t qd h1 h2) (fun y => x.n4 t htm (hD1 _ y))) m3
          · rw [List.getElem?_append_right (by omega)] at h1
            rw [List.getElem?_append_right (by rw [← x.tl]; omega), ← x.tl, List.getElem?_map] at h2
            obtain ⟨d, hd, rfl⟩ := Option.map_eq_some_iff.mp h2
            have z := ntp t (List.mem_of_getElem? h1)
            rw [upd_ne z.2.1, upd_ne z.1]
            exact htup _ t d h1 hd
        · refine hwx.keep fun b o d e => ?_
          rw [upd_ne (fun z => x.n2 (by rw [← z]; exact hsub _ d))]
          exact e
        · rcases List.mem_append.mp ht with ht | ht
          · exact x.n4 t ht (hsub _ d)
          · exact (ntp t ht).2.2.2 (hsub _ d)
      have fin : ∀ (Dx : Addr → Prop) (wx : List Addr) (kx : List Wk) (lst : HO), lst = .lst (wx.map V.ref) → (∀ b, Dx b → Dw b) → WorksIn c.W (upd H' p (.ins c.C dx (putF "_free" (.int (st.free + (ended.length : Int))) (cf s st.free st.live st.begun st.drops lw lf)))) Dx wx kx →
          kx = (if k1.ent = k1.size then r else k1 :: r) → Q .non (upd (upd H' p (.ins c.C dx (putF "_free" (.int (st.free + (ended.length : Int))) (cf s st.free st.live st.begun st.drops lw lf)))) lw lst) := by
        intro Dx wx kx lst hl hsub hwx hkx
        refine q _ _ _ ⟨k, k1, r, ended, hw, hE, hlow, rfl⟩ (by rw [← hkx]; exact mk Dx wx kx lst hl hsub hwx) (fun b o e n => ?_) (fun b d => ?_)
        · have m1 : b ≠ p := fun z => n (by rw [z]; exact x.d0)
          have m2 : b ≠ lw := fun z => n (by rw [z]; exact x.d2)
          have m3 : b ≠ lf := fun z => n (by rw [z]; exact x.d3)
          rw [upd_ne m2, upd_ne m1]
          exact hkp _ _ (out b o e (fun y => n (x.d5 _ (hD1 _ y)))) m3
        · rcases d with rfl | rfl | rfl | rfl | d | d
          · exact .inl x.d0
          · exact .inl x.d1
          · exact .inl x.d2
          · exact .inl x.d3
          · rcases List.mem_append.mp d with d | d
            · exact .inl (x.d4 b d)
            · have z := hnew b d
              cases e : H b with
              | none => exact .inr rfl
              | some o =>
                by_cases y : D1 b
                · exact .inl (x.d5 _ (hD1 _ y))
                · rw [out b o e y] at z
                  cases z
          · exact .inl (x.d5 _ (hsub _ d))
      have rest3 : WorksIn c.W (upd H' p (.ins c.C dx (putF "_free" (.int (st.free + (ended.length : Int))) (cf s st.free st.live st.begun st.drops lw lf)))) D2 ws r := hrest.keep fun b o d e => by
        have n1 : b ≠ p := fun z => x.n0 (by rw [← z]; exact hD2 _ d)
        have n2 : b ≠ lf := fun z => x.n3 (by rw [← z]; exact hD2 _ d)
        rw [upd_ne n1]
        exact hkp b o (out b o e (fun y => hDD b y d)) n2
      have lw3 : upd H' p (.ins c.C dx (putF "_free" (.int (st.free + (ended.length : Int))) (cf s st.free st.live st.begun st.drops lw lf))) lw = some (.lst ((w0 :: ws).map V.ref)) := by
        rw [upd_ne np1.symm]
        exact hkp _ _ lws1 x.wf
      refine ite2 (fun hov => ?_) (fun hov => ?_)
      · have hov := of_decide_eq_true hov
        refine ⟨_, rfl, p, c.C, dx, _, _, rfl, upd_same, TC.cl, TC.works, rfl, .inl ⟨rfl, _, SqL.of lw3⟩, lw, _, 0, 0, .ref w0, rfl, rfl, lw3, (by decide), (by decide), (by rw [List.map_cons, List.length_cons]; exact seqIndex_of (by decide) (by omega)), rfl, ?_⟩
        exact fin D2 ws r _ rfl hD2 rest3 (by rw [if_pos hov])
      · have hov : ¬ k1.ent = k1.size := fun z => hov (decide_eq_true z)
        have e : upd (upd H' p (.ins c.C dx (putF "_free" (.int (st.free + (ended.length : Int))) (cf s st.free st.live st.begun st.drops lw lf)))) lw (.lst ((w0 :: ws).map V.ref)) =
            upd H' p (.ins c.C dx (putF "_free" (.int (st.free + (ended.length : Int))) (cf s st.free st.live st.begun st.drops lw lf))) := by
          funext b
          by_cases hb : b = lw
          · rw [hb, upd_same, lw3]
          · rw [upd_ne hb]
        have z := fin Dw (w0 :: ws) (k1 :: r) _ rfl (fun b d => d) ⟨D1, D2, hD, hD1, hD2, hDD, hk3, rest3⟩ (by rw [if_neg hov])
        rw [e] at z
        exact z
end
end SH
/-! ## E1 -/
/-! super().__init__(e) within the __init__ of an own class over ValueError. -/
namespace SH
open PySem L2 PyProof.Rows
/-- what the written part says of the class at C, of its __init__ at f (its code object at cda, the cell of __class__ at cc) -/
structure SupT (K : PySem.W.Frag) (C f cda cc : Addr) (fd : FuncData) (file : Str) : Prop where
  oex : OexC K C
  lk : ∃ oc od osl, K.lookup f = some ⟨oc, od, .func fd, osl⟩
  code : ∃ ccl cdd vs ccs tf, K.lookup cda = some ⟨ccl, cdd, .fields vs, ccs⟩ ∧ vs[2]? = some (.str file tf)
  cell : ∃ cl cld csl, K.lookup cc = some ⟨cl, cld, .cell (some (.ref C)), csl⟩
  own : PySem.W.mroIn K C (.ref C) = some true
  stat : PySem.W.nsIn K PySem.cStatics "thirdparty.any" = some none
  sup : PySem.W.ks_superIn K C C "__init__" = some (some (.builtin "ValueError.__init__"))
  sub : PySem.W.subIn K (.ref C) (.type "ValueError") = some true
section
variable {X : Cx} {pins : List (Addr × Obj)} {σ : L2.St} {H : Hp} {s : Shared} {a C f cda cc : Addr} {fd : FuncData} {file : Str} {p0 p1 p2 p3 : Pos} {e : Expr} {ta : TA} {body : List Stmt} {pl : Sem Bool} {Q : Hp → Prop}
theorem super_step (T : SupT X.K C f cda cc fd file) (I : Inv X pins σ H s) (hN : X.N[0]? = some ("self" : Str)) (hself : σ[0]? = some (some (.ref a))) (ea : H a = some (exo a C none))
    (hks : X.env.kindOf "super" = some .globalImplicit) (hkc : X.env.kindOf "__class__" = some .free) (hka : X.env.kindOf "self" = some .local) (hfu : X.env.func = some f) (hco : X.env.code = .ref cda) (hcl : X.env.cells.lookup ("__class__" : Str) = some cc)
    (hm : X.mg "super" = none) {ar : Arg} (hp : (fd.params.posonlyargs ++ fd.params.args).head? = some ar) (har : ar.arg = "self") (hfile : ((X.prog.main.file : Str) == file) = true) (htop : (X.prog.main.scope.names.lookup ("super" : Str)).isSome = false)
    (ha : PA X [e] ta) (q : ta σ H fun vs H1 => vs.length ≤ 1000 ∧ H1 a = some (exo a C none) ∧ Q H1)
    (hst : starEach [e] X.env = (false, eval e X.env) :: starEach [] X.env)
    (he : eval (.Call (.Attribute (.Call (.Name "super" p0) [] [] p1) "__init__" p2) [e] [] p3) X.env = (do
      let ov ← attributeBase (.Call (.Name "super" p0) [] [] p1) "__init__" X.env (eval (.Call (.Name "super" p0) [] [] p1) X.env)
      standAt p2.atName
      let (f, first) ← holding [ov] (getMethod ov "__init__" pl)
      callWith p3 f first (backTo p3 (starEach [e] X.env)) [])) :
    _root_.PySem.wpAt (model X.prog X.w) X.A (.func body X.env) (eval (.Call (.Attribute (.Call (.Name "super" p0) [] [] p1) "__init__" p2) [e] [] p3) X.env) (fun _ s' => ∃ H1, Inv X pins σ H1 s' ∧ Q H1) X.xe s := by
  obtain ⟨oc, od, osl, lk⟩ := T.lk
  obtain ⟨ccl, cdd, vs, ccs, tf, hcode, hvs⟩ := T.code
  obtain ⟨cl, cld, csl, hcell⟩ := T.cell
  obtain ⟨nm, qn, N, bs, bm, sn, sub, ab, col, dd, k0, k1, k2, k3, k5, hC, hbm⟩ := T.oex.cls
  obtain ⟨mb, hb1, hb2⟩ := I.mod.blt
  obtain ⟨m, hn, hl⟩ := I.loc
  obtain ⟨u0, r0, look⟩ := hl 0 "self" (.ref a) hN hself (.inl hka)
  obtain rfl : u0 = Value.ref a := r0
  have hma : m "self" = some (.ref a) := by
    rcases look with ⟨_, h⟩ | ⟨h, _⟩
    · exact h
    · rw [hka] at h
      rcases h with h | h <;> cases h
  obtain ⟨t1, hx⟩ := exo_at I.hok ea
  have hcls : PySem.W.clsIn X.K C = some { name := nm, bases := bs, mro := .ref C :: bm, ns := N, qualname := qn, hasDict := true, slotNames := sn, subclasses := sub, abstract := ab, collection := col, hasDel := false } := by unfold PySem.W.clsIn; rw [hC] <;> rfl
  refine ks_wpAt_MethodCall ?_ he
  refine ks_wpAt_super_base hks hkc (by decide) hfu (I.kIn _ _ lk) rfl hp hco (I.kIn _ _ hcode) rfl hvs hfile htop ?_
  refine PySem.W.ks_loadName_global I.ok.kind hks (PySem.Calls.loadGlobal_builtin (env := X.env) (by rw [I.ok.glob]; exact I.mod.glob.keeps I.bk) hm (by rw [I.ok.blt]; exact hb1.keeps I.bk) ((hb2 _ (by decide)).trans (by decide +kernel)) ⟨rfl, ?_⟩)
  refine wpAny_loadName_free I.ok.kind hkc hcl ⟨_, I.kIn _ _ hcell, rfl⟩ ?_
  rw [har]
  refine wpAny_loadName_local I.ok.kind hka hn hma ?_
  have IK := I.kIn
  obtain ⟨hh, g, d, t, os⟩ := s
  have hD := IK _ _ hC
  refine ks_wpAny_isType_cls hD rfl ⟨rfl, ?_⟩
  refine ks_wpAny_call_super hD rfl hx rfl (fun c e => by cases e) (PySem.W.looks_mroIn IK T.own) (fun h' eso k => ?_)
  have I1 : Inv X pins σ H ⟨h', g, d, t, os⟩ := I.kept (t' := t) k
  have hx1 := k _ _ hx
  have Ix : PySem.W.InstAt h' a { cls := .ref C, dict := none, data := .fields #[.ref t1, .none, .none, .none, .bool false, .none] } C none := ⟨hx1, rfl, rfl, trivial⟩
  have hsup := T.sup
  unfold PySem.W.ks_superIn at hsup
  rw [hcls] at hsup
  refine PySem.W.kxs_getMethod PySem.W.kxs_ValueError eso (PySem.W.looks_opaque I1.kIn T.stat) (fun A Q E s k q => wpAny_bind ((PySem.W.looks_clsIn I1.kIn hcls) A _ E s k (wpAny_pure q))) rfl I1.kIn hsup (Ix.type.andThen (PySem.W.looks_subIn I1.kIn T.sub)) (PySem.W.ks_ne I1.kIn Ix hcls) (by decide) ?_
  have kp2 : ∀ b o, h'.get? b = some o → (h'.push (PySem.W.kxs_mw "ValueError.__init__" a)).get? b = some o := fun b o q => Heap.get?_push_of_some _ q
  have I2 : Inv X pins σ H ⟨h'.push (PySem.W.kxs_mw "ValueError.__init__" a), g, d, t + 1, os⟩ := I1.kept (t' := t + 1) kp2
  have I3 : Inv X (pins ++ [(h'.objs.size, PySem.W.kxs_mw "ValueError.__init__" a)]) σ H ⟨h'.push (PySem.W.kxs_mw "ValueError.__init__" a), g, d, t + 1, os⟩ := I2.pins_of fun p hp => by
    rcases List.mem_append.mp hp with z | z
    · exact I2.pin p (List.mem_append_right _ z)
    · have z' : p = (h'.objs.size, PySem.W.kxs_mw "ValueError.__init__" a) := by simpa using z
      subst z'
      exact ⟨Heap.get?_push_at rfl rfl, I1.hok.fresh (Nat.le_refl _), Nat.ne_of_gt I1.lt, I1.nofs (Nat.le_refl _), fun v y => by cases y⟩
  show wpAny _ _ (callWith p3 (.ref h'.objs.size) [] (backTo p3 (starEach [e] X.env)) []) _ _ _
  have main : wpAny (model X.prog X.w) X.A (spliced (backTo p3 (starEach [e] X.env))) (fun vs s₁ => PySem.W.KxsAt "ValueError.__init__" h'.objs.size a s₁.heap ∧ wpAny (model X.prog X.w) X.A (call (.ref h'.objs.size) vs) (fun _ s' => ∃ H1, Inv X pins σ H1 s' ∧ Q H1) X.xe s₁) X.xe
      ⟨h'.push (PySem.W.kxs_mw "ValueError.__init__" a), g, d, t + 1, os⟩ := by
    refine thn (ha.run p3 _ _ σ H _ I3 q) fun us s1 ⟨ws, H1, I4, r1, hlen, ea1, q1⟩ => ?_
    have hu := (I4.pin (h'.objs.size, PySem.W.kxs_mw "ValueError.__init__" a) (List.mem_append_right _ (List.mem_append_right _ (by simp)))).1
    refine ⟨hu, ?_⟩
    obtain ⟨t2, hx2⟩ := exo_at I4.hok ea1
    have hC4 := I4.kIn _ _ hC
    obtain ⟨h4, g4, d4, t4, os4⟩ := s1
    refine wpAny_call (codeAny_of_tree ?_)
    show wpAny _ X.A.in1 (callAny (.ref h'.objs.size) ⟨us, []⟩) _ _ _
    simp only [callAny]
    refine wpAny_bind (wpAny_load hu ?_)
    simp only [PySem.W.kxs_mw, show (Value.type "method-wrapper" == Value.type "method" || Value.type "method-wrapper" == Value.type "builtin_function_or_method" || Value.type "method-wrapper" == Value.type "method-wrapper") = true by decide, if_true]
    refine PySem.W.KFB.if_so (by decide) ?_
    refine wpAny_bind (PySem.W.check_bound_init F.excBase_ValueError.toExcCallFacts hC4 hx2 rfl ?_)
    refine wpAny_bind (wpAny_pure (wpAny_pure ?_))
    refine ⟨plainId_quiet F.excBase_ValueError.init.plain _, codeAny_builtin F.excBase_ValueError.initEntry ?_⟩
    have hus : us.length ≤ sizeLine := by
      rw [← Paired.length r1, sizeLine_eq]
      omega
    refine PySem.W.exc_init_tree (cls := .ref C) (t0 := t2) (dv := none) (c2 := .none) (c3 := .none) (b4 := .bool false) hx2 hus fun h5 k5' e5 _ => ?_
    have J := I4.write (t' := t4) (x := a) (e := a) (o := exo a C none) (by rw [ea1]; exact True.intro) (.inl rfl) k5' ⟨_, e5⟩ (exo_ok e5)
    have eu : upd H1 a (exo a C none) = H1 := by
      funext b
      by_cases hb : b = a
      · rw [hb, upd_same, ea1]
      · rw [upd_ne hb]
    rw [eu] at J
    exact ⟨H1, J.unpinned, q1⟩
  refine PySem.W.kxs_callWith (i := "ValueError.__init__") (x := a) (by rw [hst]; rfl) ?_
  rw [hst] at main ⊢
  exact PySem.Calls.evalArgs_plain main
end
end SH
/-! ## E2 -/
namespace SH
open PySem L2 PyProof.Rows
/-! ### shown -/
def spShown : Sp := fun vs H Q _ => ∃ n : Int, vs = [.int n] ∧ 0 ≤ n ∧ n < 10 ^ 18 ∧ ∀ y : Str, y.length ≤ 1921 → Q (.str y) H
section
variable {P : Program} {w : World} {K : PySem.W.Frag} {mg : Str → Option Value} {base : Heap}
theorem scShown : FnScope ["value"] ["value"] (defScope sShown) := ⟨rfl, rfl, rfl, by decide +kernel, rfl, by decide +kernel, by decide +kernel⟩
theorem small_log2 {n : Int} (h0 : 0 ≤ n) (h : n < 10 ^ 18) : n.natAbs.log2 < 1920 := by
  have h1 : n.natAbs < 2 ^ 64 := by omega
  have := PySem.Flt.log2_lt_of (k := 64) (by decide) h1
  omega
theorem ok_shown {f : Addr} {fd : FuncData} (F : Fun K "shown" "shown" sShown f fd) (T : Glo K mg) : FnOk P w K mg base CX0 1 f fd ["value"] spShown := by
  refine F.ok scShown (fun vs H Q E h => ?_) (fun cdv A outer s H vs Q E hr h => ?_)
  · obtain ⟨n, rfl, _⟩ := h
    rfl
  · obtain ⟨n, rfl, h0, h1, k⟩ := h
    obtain ⟨t0, g0⟩ := T.large
    refine ⟨_, pss_cons (ps_if (PW.pt (pw_and (pt_val (pe_callB call_isi (by rfl) T.isinstance (by decide +kernel) (pa_cons (pv 0) (pa_cons (pe_bltn (v := .ty "int") (by rfl) T.int (by decide +kernel) rfl) pa_nil))))
        (pw_and1 (pt_chain op_lt op_lt (pe_un un_neg (pe_glob (v := .int (10 ^ 40)) rfl g0 ⟨_, rfl⟩)) (pv 0) (pe_glob (v := .int (10 ^ 40)) rfl g0 ⟨_, rfl⟩)))))
        (pss_one (ps_ret (pe_callTy call_str_int (by rfl) T.str (by decide +kernel) (pa_cons (pv 0) pa_nil)))) pss_nil)
      (pss_cons ps_never (pss_one (ps_ret pe_str))), ?_⟩
    refine ⟨_, rfl, _, _, _, _, true, rfl, .ty _, .base (.int _), kit_ty (by decide +kernel), true, rfl, iteT ?_⟩
    refine ⟨_, rfl, _, rfl, _, _, rfl, rfl, _, rfl, ?_⟩
    rw [decide_eq_true (by omega)]
    refine iteT ⟨_, _, rfl, rfl, _, rfl, ?_⟩
    rw [decide_eq_true (by omega)]
    exact iteT ⟨_, rfl, n, rfl, small_log2 h0 h1, k _ (int_text_len_1921 (small_log2 h0 h1))⟩
end
/-! ### Stalled.__init__ -/
/-- the context of a body that closes over __class__ -/
def cxS (CX : CXT) (P : Program) (w : World) (K : PySem.W.Frag) (mg : Str → Option Value) (base : Heap) (N : List Str) (env : Env) (A : Around) (outer : List Env) (s : Shared) (H : Hp) (E : XK) : Cx where
  prog := P
  w := w
  K := K
  mg := mg
  base := base
  A := A.deeper env
  N := N
  s_0 := s
  H_0 := H
  env := env
  outer := outer
  stack := env :: outer
  ex := []
  calm := true
  fn := fun _ => false
  pn := []
  xe := fun e s' => wpAny (model P w) (A.deeper env) (leaving env e) (fun _ s'' => CX outer H s E e s'') (fun e' s'' => CX outer H s E e' s'') s'
def spStInit (C : Addr) : Sp := fun vs H Q _ => ∃ (a : Addr) (n : Int), vs = [.ref a, .int n] ∧ H a = some (exo a C none) ∧ 0 ≤ n ∧ n < 10 ^ 18 ∧
  ∀ dx : Addr, H dx = none → dx ≠ a → Q .non (upd (upd H dx (exd dx [("allocation", .int n)])) a (exo a C (some dx)))
abbrev stFn (kV doc pm : Value) (an : Option Addr) (cda : Addr) (ct : Value) (cc : Addr) : FuncData := PySem.W.ksFn "__init__" "Stalled.__init__" (defArgs sStalled) (defBody sStalled) (defScope sStalled) .none kV doc pm an (.ref cda) ct cc
theorem stalled_init {P : Program} {w : World} {K : PySem.W.Frag} {mg : Str → Option Value} {base : Heap} {C f cda cc : Addr} {kV doc pm ct : Value} {an : Option Addr} (T : Glo K mg)
    (hfile : ((P.main.file : Str) == ("/claim/cut.py" : Str)) = true) (htop : (P.main.scope.names.lookup ("super" : Str)).isSome = false)
    (TS : SupT K C f cda cc (stFn kV doc pm an cda ct cc) "/claim/cut.py") (hcd : PySem.W.codeIn K (.ref cda) "Stalled.__init__" = true) (hno : PySem.W.findIn K (.ref C) "allocation" = some none)
    (c1 : Cal P w K mg base CX0 1 "shown" ["value"] spShown) : FnOk P w K mg base CX0 2 f (stFn kV doc pm an cda ct cc) ["self", "allocation"] (spStInit C) := by
  refine ⟨fun vs H Q E h => ?_, fun A outer s H args us vs Q E hr e0 hb r hsp => ?_⟩
  · obtain ⟨a, n, rfl, _⟩ := h
    rfl
  obtain ⟨a, n, rfl, ea, h0, h1, k⟩ := hsp
  obtain ⟨oc, od, osl, lk⟩ := TS.lk
  obtain ⟨cl, cld, csl, hcell⟩ := TS.cell
  have KX : K.In s.heap := e0.mod.kin.keeps fun b o e => (e0.bs b o e).1
  have lim : s.heap.NoLimit := e0.mod.nolimit.keeps fun b o e => (e0.bs b o e).1
  cases r with
  | @cons _ u0 _ us1 r0 r1 =>
  cases r1 with
  | @cons _ u1 _ us2 r1 r2 =>
  cases r2
  have hnc : ∀ x ∈ (defScope sStalled).names, x.2 ≠ .cell := by decide +kernel
  refine ks_codeAny_call_defAt (fd := stFn kV doc pm an cda ct cc) (body := defBody sStalled) (binds := [("self", u0), ("allocation", u1)]) hr.depth (KX _ _ lk) rfl lim (PySem.W.codeRec_of KX hcd) rfl hb hnc (fun y hy => ?_) (fun h₁ hns hk => ?_) rfl rfl rfl
  · rcases List.mem_cons.mp hy with rfl | hy
    · rfl
    · have e : y = (("allocation" : Str), u1) := by simpa using hy
      subst e
      rfl
  -- the frame
  have noA : ∀ b : Addr, b ∉ ([] : List Addr) := fun b z => absurd z List.not_mem_nil
  have I : Inv (cxS CX0 P w K mg base ["self", "allocation"] (callEnv (stFn kV doc pm an cda ct cc) s.heap.objs.size f) A outer s H E) [] [some (.ref a), some (.int n)] H { s with heap := h₁, toks := s.toks + 2 } := by
    refine ⟨⟨e0.mod, rfl, rfl, rfl, Nat.le_refl _, fun y z c q1 q2 => ?_, fun y hy => ?_, fun y c q _ => absurd (show false = true from q) Bool.false_ne_true, fun _ => hr.hd, Around.frames_deeper e0.frames, .inr ⟨rfl, rfl⟩, fun b z => absurd z (noA b), e0.bs, e0.bsz, fun b _ _ => noA b, fun b z => absurd z (noA b), e0.funs, e0.frf⟩,
      rfl, e0.bare, Un.kept hk, ⟨_, hns, fun i y v q1 q2 q3 => ?_⟩, fun y c q => ?_, e0.hok.fresh (Nat.le_refl _), fun y c q => ?_, fun p hp => absurd (show p ∈ ([] : List (Addr × Obj)) from hp) List.not_mem_nil, e0.hok.kept hk, rfl⟩
    · have z1 := PySem.mem_of_lookup (show List.lookup y [(("__class__" : Str), cc)] = some c from q1)
      have z2 := PySem.mem_of_lookup (show List.lookup z [(("__class__" : Str), cc)] = some c from q2)
      rw [List.mem_singleton] at z1 z2
      injection z1 with z1 _
      injection z2 with z2 _
      rw [z1, z2]
    · refine ⟨cc, ?_⟩
      have hy' : (defScope sStalled).names.lookup y = some .cell ∨ (defScope sStalled).names.lookup y = some .free := hy
      have key : ∀ x ∈ (defScope sStalled).names, x.2 = .cell ∨ x.2 = .free → x.1 = ("__class__" : Str) := by decide +kernel
      have e : y = "__class__" := by
        rcases hy' with q | q
        · exact key _ (PySem.mem_of_lookup q) (.inl rfl)
        · exact key _ (PySem.mem_of_lookup q) (.inr rfl)
      subst e
      rfl
    · match i, q1, q2 with
      | 0, q1, q2 =>
        cases q1
        cases q2
        exact ⟨u0, r0, .inl ⟨rfl, rfl⟩⟩
      | 1, q1, q2 =>
        cases q1
        cases q2
        exact ⟨u1, r1, .inl ⟨rfl, rfl⟩⟩
      | i + 2, q1, q2 => simp at q2
    · have z1 := PySem.mem_of_lookup (show List.lookup y [(("__class__" : Str), cc)] = some c from q)
      rw [List.mem_singleton] at z1
      injection z1 with _ z1
      rw [z1]
      exact ⟨_, _, hk _ _ (KX _ _ hcell), rfl⟩
    · have z1 := PySem.mem_of_lookup (show List.lookup y [(("__class__" : Str), cc)] = some c from q)
      rw [List.mem_singleton] at z1
      injection z1 with _ z1
      rw [z1]
      exact (e0.bs _ _ (e0.mod.kin _ _ hcell)).2
  have hr1 : Room 1 (A.deeper (callEnv (stFn kV doc pm an cda ct cc) s.heap.objs.size f)) := hr.deeper _
  show _root_.PySem.wpAt (model P w) (A.deeper (callEnv (stFn kV doc pm an cda ct cc) s.heap.objs.size f)) (.func (defBody sStalled) (callEnv (stFn kV doc pm an cda ct cc) s.heap.objs.size f)) (execs (defBody sStalled) (callEnv (stFn kV doc pm an cda ct cc) s.heap.objs.size f))
    (fun fl s' => CE outer P w H s Q (match fl with | .ret v => v | _ => .none) s') (cxS CX0 P w K mg base ["self", "allocation"] (callEnv (stFn kV doc pm an cda ct cc) s.heap.objs.size f) A outer s H E).xe _
  refine ks_wpAt_execs_cons (ks_wpAt_Expr_any (ks_wpAt_mono (super_step (X := cxS CX0 P w K mg base ["self", "allocation"] (callEnv (stFn kV doc pm an cda ct cc) s.heap.objs.size f) A outer s H E) (Q := fun H1 => H1 = H) TS I rfl rfl ea rfl rfl rfl rfl rfl rfl T.super rfl rfl hfile htop
    (pa_cons (pe_joined (PJ.cons pe_str (PJ.cons (pe_fmt (pe_cal c1 hr1 pass0 (pa_cons (pv 1) pa_nil))) (PJ.cons pe_str PJ.nil)))) pa_nil) ?rd rfl rfl) (fun _ s' hs => ?_) (fun _ _ z => z)))
  case rd =>
    have hz : sizeLine = 16777216 := PySem.sizeLine_eq
    have l0 : (Str.empty ++ ("allocation " : Str)).length ≤ 100 := by decide +kernel
    have l1 : (" stalls" : Str).length ≤ 100 := by decide +kernel
    refine ⟨("allocation " : Str), rfl, ?_, ?_⟩
    · omega
    · refine ⟨_, rfl, n, rfl, h0, h1, fun y hy => ?_⟩
      refine .inl ⟨y, rfl, by omega, y, rfl, ?_, (" stalls" : Str), rfl, ?_, ?_⟩
      · rw [PySem.Str.length_append]
        omega
      · rw [PySem.Str.length_append, PySem.Str.length_append]
        omega
      · exact ⟨by show 1 ≤ 1000; decide, ea, rfl⟩
  · obtain ⟨H1, I1, e1⟩ := hs
    subst e1
    refine wpAt_of_wpAny (thn ((pss_one (ps_ost (X := cxS CX0 P w K mg base ["self", "allocation"] (callEnv (stFn kV doc pm an cda ct cc) s.heap.objs.size f) A outer s H1 E) (pv 0) (pv 1))).run [] s' _ H1 { nx := fun _ H' => Q .non H', rt := Q } I1 ?_) (fun fl s2 h2 => ?_))
    · exact ⟨_, rfl, _, rfl, a, C, rfl, TS.oex, hno, .inl ⟨ea, k⟩⟩
    · cases fl with
      | next =>
        obtain ⟨σ', H', J, q⟩ := h2
        exact ⟨.non, H', J.os, J.bare, J.base, J.hok, rfl, q⟩
      | ret u =>
        obtain ⟨v, σ', H', J, rv, q⟩ := h2
        exact ⟨v, H', J.os, J.bare, J.base, J.hok, rv, q⟩
      | brk => exact h2.elim fun _ h => h.elim fun _ h => h.2.elim
      | cont => exact h2.elim fun _ h => h.elim fun _ h => h.2.elim
end SH
/-! ## E3 -/
/-! Raising an own error where nothing is handled, with the knowledge that its context is None; a method that may raise, called in a try; a def that may raise. -/
namespace SH
open PySem L2 PyProof.Rows
section
variable {X : Cx} {x m : Str} {C fI : Addr} {k : Nat} {fd : FuncData} {ps : List Str} {sp : Sp} {e o : Expr} {es : List Expr} {ta : TA} {te : TE} {p pos apos : Pos}
theorem pmk_ctx (T : OexC X.K C) (iC : PySem.W.findIn X.K (.ref C) "__init__" = some (some (.ref fI))) (tI : PySem.W.typeIn X.K (.ref fI) = some (.type "function")) (F1 : FnOk X.prog X.w X.K X.mg X.base CX0 k fI fd ps sp)
    (hr : Room (k + 1) X.A) (hb : Binds X.K fd ps []) (hm : X.mg x = some (.ref C)) (ha : PA X (e :: es) ta) (hg : Gl X x := by rfl)
    (hdb : (x == ("__debug__" : Str)) = false := by decide) (he : starEach (e :: es) X.env = (false, eval e X.env) :: starEach es X.env := by rfl) (hpl : (backTo pos (starEach es X.env)).any (·.1) = false := by rfl) :
    L2N.PMk X (.Call (.Name x p) (e :: es) [] pos) (tMkO C sp [] ta) := by
  intro pins s σ H Q I h
  obtain ⟨nm, qn, N, bs, bm, sn, sub, ab, col, dd, k0, k1, k2, k3, k5, hC, hbm⟩ := T.cls
  refine wpAny_Call_Name_kw (ld_glob I hg hm (PySem.W.callWith_K (h₀ := X.base) I.ok.mod.kin T.kC (thn (ha.run pos pins s σ H _ I h) fun us s1 hh => ?_) he hpl) hdb)
  obtain ⟨vs, H1, I1, r1, hz, q1⟩ := hh
  refine ⟨I1.kIn, ?_⟩
  show wpAny _ _ (call (.ref C) us) _ _ _
  obtain ⟨hp, g, dr, tk, os⟩ := s1
  -- the new error stands behind its argument tuple
  have hsz : hp.objs.size ≤ hp.objs.size + 1 := Nat.le_add_right _ _
  have sp1 := q1 (hp.objs.size + 1) (I1.hok.fresh hsz)
  rw [List.append_nil] at sp1
  have up : ∀ b o, hp.get? b = some o → ((hp.push (PySem.W.kdv_tup us)).push (PySem.HandSPX.excO C hp.objs.size)).get? b = some o := fun b o y => Heap.get?_push_of_some _ (Heap.get?_push_of_some _ y)
  have at_ : ((hp.push (PySem.W.kdv_tup us)).push (PySem.HandSPX.excO C hp.objs.size)).get? (hp.objs.size + 1) = some (PySem.HandSPX.excO C hp.objs.size) := by heap_get
  have I2 := I1.laid (t' := tk) (a := hp.objs.size + 1) (o := exo (hp.objs.size + 1) C none) up hsz (exo_ok at_)
  have rel : Vals (V.ref (hp.objs.size + 1) :: vs) (Value.ref (hp.objs.size + 1) :: us) := .cons rfl r1
  have many := rel.length
  rw [F1.len _ _ _ _ sp1] at many
  have bd := hb _ (Value.ref (hp.objs.size + 1) :: us) I2.kIn (by rw [List.append_nil]; exact many.symm)
  rw [List.append_nil] at bd
  have hus : us.length ≤ sizeLine := by
    rw [← Paired.length r1, sizeLine_eq]
    omega
  have run := F1.run _ X.stack _ _ ⟨Value.ref (hp.objs.size + 1) :: us, []⟩ (Value.ref (hp.objs.size + 1) :: us) _ _ (fun _ _ _ => False) (hr.make C us []) (I2.env0.make C us []) bd rel sp1
  refine wpAny_call (PySem.HandSPX.call_own F.excBase_ValueError (fun Y => PySem.HandSPX.refsVE_contains Y bm hbm) (I1.kIn _ _ hC) (PySem.W.looks_findIn I1.kIn iC) (fun self => PySem.W.bind_fn I1.kIn self tI) hus (codeAny_mono run fun r s' y => ?_))
  cases r with
  | error er => exact False.elim y
  | ok fl =>
    cases fl with
    | next => exact False.elim y
    | brk => exact False.elim y
    | cont => exact False.elim y
    | ret u =>
      obtain ⟨v, H2, os2, bare2, un2, hok2, rv, ev, d, fs, ea, ed, hd1, q2⟩ := y
      subst ev
      obtain ⟨h2, g2, d2, t2, os'⟩ := s'
      obtain ⟨t0, G, J, kG, ge, hoe, na⟩ := mk_end0 (d2 := d2) (t2 := t2) I1 hsz up un2 hok2 os2 bare2 ea ed hd1
      exact ⟨rv, hp.objs.size + 1, _, _, ⟨G, g2, d2, t2, os'⟩, _, .ref C, some d, rfl, J, kG, ge, hoe, ⟨rfl, rfl, fun ws hw => by cases hw; rfl⟩, rfl, rfl, na, rfl, bare2, raises_own T.exC T.tyC, q2⟩
/-- o.m(), what it lets out wished for at the caller's slots -/
def tMeth0S (C : Addr) (m : Str) (sp : Sp) (E : L2.St → XK) (te : TE) : TE := fun σ H Q => te σ H fun x H1 => ∃ a dx fs, x = .ref a ∧ H1 a = some (.ins C dx fs) ∧ fs.lookup m = none ∧ sp [x] H1 Q (E σ)
theorem pe_meth0S {CX : CXT} {E : L2.St → XK} {pl : Sem Bool} (ho : PE X o te) (cl : Cls X.K C) (c : CalM X.prog X.w X.K X.mg X.base CX k C m ps sp) (hr : Room k X.A) (hx : ∀ σ, PassesAt CX X σ (E σ))
    (ht : eval (.Call (.Attribute o m apos) [] [] pos) X.env = (do
      let ov ← eval o X.env
      standAt apos.atName
      let (f, first) ← holding [ov] (getMethod ov m pl)
      callWith pos f first (backTo pos (starEach [] X.env)) (backToKw pos (keywordEach [] X.env))) := by rfl) :
    PE X (.Call (.Attribute o m apos) [] [] pos) (tMeth0S C m sp E te) := by
  obtain ⟨f, fd, hm, b, F⟩ := c.ex
  refine ⟨fun pins s σ H Q I h => PySem.W.methodCall_KW (pl := pl) (thn (ho.run pins s σ H _ I h) fun u s1 hh => ?_) ht⟩
  obtain ⟨y, H1, I1, ry, a, dx, fs, rfl, ea, l, q⟩ := hh
  obtain rfl : u = Value.ref a := ry
  exact getmeth_ok I1 ea cl hm l (PySem.W.callWith_K0 (first := [.ref a]) I1.kIn hm.kp (run_fnS (us := [.ref a]) (vs := [.ref a]) F hr b (hx σ) I1 (.cons rfl .nil) q))
end
/-- a def that may raise where nothing is handled -/
theorem Fun_okN {P : Program} {w : World} {K : PySem.W.Frag} {mg : Str → Option Value} {base : Heap} {x qual : Str} {st : Stmt} {f : Addr} {fd : FuncData} {N ps : List Str} {k : Nat} {sp : Sp} (F : Fun K x qual st f fd) (S : FnScope N ps (defScope st))
    (len : ∀ vs H Q E, sp vs H Q E → vs.length = ps.length)
    (hbody : ∀ (cdv : Value) (A : Around) (outer : List Env) (s : Shared) (H : Hp) (vs : List V) (Q : VK) (E : XK), Room k (A.deeper (envOfC qual (defScope st) s.heap.objs.size f cdv)) → sp vs H Q E →
      ∃ t, PSs (cxOf (L2N.CX P w) P w K mg base N qual (defScope st) f cdv A outer s H E) (defBody st) t ∧ t { nx := fun _ H' => Q .non H', rt := Q } (L2.start N vs) H) : FnOk P w K mg base (L2N.CX P w) (k + 1) f fd ps sp := by
  obtain ⟨oc, od, kV, doc, pm, an, cdv, ct, osl, rfl, lk, hcd⟩ := F.ex
  exact fn_of lk hcd S len fun A outer s H vs Q E hr h => hbody cdv A outer s H vs Q E hr h
end SH
/-! ## D9 -/
namespace SH
open PySem L2
theorem CutR.begun {a b : CS} (h : CutR a b) (n : Int) : CutR { a with begun := n } { b with begun := n } := by
  obtain ⟨k, k', r, ended, hw, E, hl, rfl⟩ := h.cut
  exact ⟨k, k', r, ended, hw, E, hl, rfl⟩
theorem PS_nox {X : Cx} {st : Stmt} {t : TS} (h : PS X.nox st t) : PS X st t := ⟨fun pins s σ H D I hw =>
  wpAny_mono (h.run pins s σ H D (I.wish _) hw) (fun f s' q => SP.unwish q) fun _ _ z => z.elim⟩
/-- the error class, as the raise of Stalled needs it -/
structure StT (P : Program) (w : World) (K : PySem.W.Frag) (mg : Str → Option Value) (base : Heap) (N : Addr) : Prop where
  oex : OexC K N
  at_ : mg "Stalled" = some (.ref N)
  fn : ∃ f fd, PySem.W.findIn K (.ref N) "__init__" = some (some (.ref f)) ∧ PySem.W.typeIn K (.ref f) = some (.type "function") ∧ Binds K fd ["self", "allocation"] [] ∧ FnOk P w K mg base CX0 2 f fd ["self", "allocation"] (spStInit N)
def xdf (n : Int) : List (Str × V) := [("allocation", .int n)]
def spChMake (c : Cs) (N : Addr) : Sp := fun vs H Q E => ∃ (p : Addr) (D : Addr → Prop) (st : CS), vs = [.ref p] ∧ ChIn c H D p st ∧ st.live ≠ st.lim ∧ 0 ≤ st.begun ∧ st.begun ≤ 10 ^ 17 ∧ 0 ≤ st.cuts ∧
  (∀ (j : Nat) st1, CutsR j st st1 → (j : Int) < st.cuts → st1.freed.length ≤ 50000 ∧ ∀ k r, st1.works = k :: r → WInv k ∧ k.ent < k.size) ∧
  ∀ (j : Nat) st1 (H' : Hp) (D' : Addr → Prop), CutsR j st st1 → ((j : Int) = st.cuts ∨ ((j : Int) ≤ st.cuts ∧ st1.works = [])) → Keep D H H' → Fresh D D' H →
    (st1.free ≠ 0 → ChIn c H' D' p { st1 with free := st1.free - 1, live := st1.live + 1, begun := st.begun + 1 } → Q (.int (st.begun + 1)) H') ∧
    (st1.free = 0 → ∀ d, ChIn c H' D' p { st1 with begun := st.begun + 1 } → H' d = some (.xd (xdf (st.begun + 1))) → E (.ref N) (some d) H')
section
variable {P : Program} {w : World} {K : PySem.W.Frag} {mg : Str → Option Value} {base : Heap} {c : Cs} {N : Addr}
theorem scChMake : FnScope ["self", "cuts"] ["self"] (defScope sChMake) := ⟨rfl, rfl, rfl, by decide +kernel, rfl, by decide +kernel, by decide +kernel⟩
theorem ok_chmake {f : Addr} {fd : FuncData} (F : Fun K "make" "ChildrenHeap.make" sChMake f fd) (T : Glo K mg) (TC : ChT K c.C) (TS : SetT K c.S) (TN : StT P w K mg base N) (c1 : CalM P w K mg base CX0 2 c.C "_enter_next" ["self"] (spChNext c)) :
    FnOk P w K mg base (L2N.CX P w) 4 f fd ["self"] (spChMake c N) := by
  obtain ⟨fN, fdN, iN, tN, bN, FN⟩ := TN.fn
  refine Fun_okN F scChMake (fun vs H Q E h => ?_) (fun cdv A outer s H vs Q E hr h => ?_)
  · obtain ⟨_, _, _, rfl, _⟩ := h
    rfl
  · obtain ⟨p, D, st, rfl, ⟨dx, s, lw, lf, ws, ts, Dw, x⟩, hlive, hb0, hb1, hc0, hpre, hpost⟩ := h
    have hr2 : Room 2 (A.deeper (PyProof.Rows.envOfC "ChildrenHeap.make" (defScope sChMake) _ f cdv)) := hr.mono (by decide)
    refine ⟨_, pss_cons (ps_if (pt_cmpR op_eq (pe_fld (pv 0) rfl) (pe_fld (pe_fld (pv 0) rfl) rfl) (nomark _)) (pss_one ps_never) pss_nil)
      (pss_cons (ps_fldaug (pv 0) pe_int in_add)
      (pss_cons (ps_set (i := 1) scChMake.nd rfl (.inl rfl) pe_int)
      (pss_cons (PS_nox (ps_while PassesOwn.never (PW.pt (pw_and (pt_cmpR op_lt (pv 1) (pe_fld (pe_fld (pv 0) rfl) rfl) (nomark _)) (pw_and1 (pt_cmpR op_gt (pe_callB call_len_seq (by rfl) T.len PySem.boot_len (pa_cons (pe_fld (pv 0) rfl) pa_nil)) pe_int (nomark _)))))
        (pss_cons (ps_expr (pe_calM0 (pv 0) TC.cl c1 hr2 pass0)) (pss_one (ps_aug (i := 1) scChMake.nd rfl (.inl rfl) pe_int ip_add)))))
      (pss_cons (ps_if (pt_cmpR op_eq (pe_fld (pv 0) rfl) pe_int (nomark _)) (pss_one (L2N.ps_raise rfl (L2N.takes_of rfl rfl rfl rfl) (pmk_ctx TN.oex iN tN FN hr bN TN.at_ (pa_cons (pe_fld (pv 0) rfl) pa_nil)))) pss_nil)
      (pss_cons (ps_fldaug (pv 0) pe_int in_sub) (pss_cons (ps_fldaug (pv 0) pe_int in_add) (pss_one (ps_ret (pe_fld (pv 0) rfl))))))))), ?_⟩
    obtain ⟨ds, hset⟩ := x.set
    refine ⟨_, rfl, p, c.C, dx, _, _, rfl, x.ob, TC.cl, TC.live, rfl, _, rfl, p, c.C, dx, _, _, rfl, x.ob, TC.cl, TC.setting, rfl, s, c.S, ds, _, _, rfl, hset, TS.cl, TS.live, rfl, rfl, _, rfl, ?_⟩
    rw [decide_eq_false (fun z => hlive (by injection z))]
    refine iteF ?_
    refine ⟨_, rfl, p, c.C, dx, _, _, rfl, x.ob, TC.cl, TC.begun, rfl, _, _, rfl, rfl, dx, _, x.ob, (by show 7 < 1000; decide), ?_⟩
    have x1 := x.store st.free st.live (st.begun + 1) st.drops (o := .ins c.C dx (putF "_begun" (.int (st.begun + 1)) (cf s st.free st.live st.begun st.drops lw lf))) rfl
    have kp1 : Keep D H (upd H p (.ins c.C dx (putF "_begun" (.int (st.begun + 1)) (cf s st.free st.live st.begun st.drops lw lf)))) := Keep.write x.d0
    generalize upd H p (.ins c.C dx (putF "_begun" (.int (st.begun + 1)) (cf s st.free st.live st.begun st.drops lw lf))) = H1 at x1 kp1
    refine while_by (fun σ H' => ∃ (j : Nat) (st1 : CS) (D' : Addr → Prop), σ = [some (.ref p), some (.int (j : Int))] ∧ CutsR j st st1 ∧ (j : Int) ≤ st.cuts ∧ ChIn c H' D' p { st1 with begun := st.begun + 1 } ∧ Keep D H H' ∧ Fresh D D' H)
      (fun σ _ => st.cuts.toNat - cellAt σ) ⟨0, st, D, rfl, .nil st, hc0, ⟨_, _, _, _, _, _, _, x1⟩, kp1, Fresh.refl _ _⟩ ?_ ?_
    · rintro σ H' ⟨j, st1, D', rfl, hC, hj, hin, hk, hf⟩
      obtain ⟨e1, e2, e3, e4, e5, e6, e7⟩ := hC.same
      obtain ⟨dx', s', lw', lf', ws', ts', Dw', y⟩ := id hin
      obtain ⟨ds', hset'⟩ := y.set
      refine ⟨_, rfl, _, rfl, p, c.C, dx', _, _, rfl, y.ob, TC.cl, TC.setting, rfl, s', c.S, ds', _, _, rfl, hset', TS.cl, TS.cuts, rfl, _, _, rfl, rfl, _, rfl, ?_⟩
      -- behind the loop
      have after : ((j : Int) = st.cuts ∨ ((j : Int) ≤ st.cuts ∧ st1.works = [])) → (tSeq (tIfS (tTest (tOp rEq (tFld K (tVar 0) "_free") (tC (.int 0)))) (fun _ σ H => tMkO N (spStInit N) [] (tCons (tFld K (tVar 0) "_begun") tNil) σ H fun cls d H' => E cls d H') tNext)
          (tSeq (sFldAug K (tVar 0) (tC (.int 1)) rSub "_free") (tSeq (sFldAug K (tVar 0) (tC (.int 1)) rAdd "_live") (tRet (tFld K (tVar 0) "_begun"))))) { nx := fun _ H' => Q .non H', rt := Q } [some (.ref p), some (.int (j : Int))] H' := by
        intro hend
        refine ⟨_, rfl, p, c.C, dx', _, _, rfl, y.ob, TC.cl, TC.free, rfl, rfl, _, rfl, ?_⟩
        refine ite2 (fun h0 => ?_) (fun h0 => ?_)
        · have hz : st1.free = 0 := by
            have e := of_decide_eq_true h0
            injection e
          refine ⟨_, rfl, p, c.C, dx', _, _, rfl, y.ob, TC.cl, TC.begun, rfl, (by show 1 ≤ 1000; decide), fun a ha => ?_⟩
          refine ⟨a, st.begun + 1, rfl, upd_same, by omega, by omega, fun d hd hda => ?_⟩
          have hd0 : H' d = none := by rw [upd_ne hda] at hd; exact hd
          refine ⟨rfl, d, xdf (st.begun + 1), upd_same, by rw [upd_ne hda, upd_same]; rfl, hd0, ?_⟩
          have sm : Same H' (upd (del (upd (upd (upd H' a (exo a N none)) d (exd d [("allocation", .int (st.begun + 1))])) a (exo a N (some d))) a) d (.xd (xdf (st.begun + 1)))) := fun b o e => by
            have na : b ≠ a := ne_of_none e ha
            have nd : b ≠ d := ne_of_none e hd0
            rw [upd_ne nd, del_ne na, upd_ne na, upd_ne nd, upd_ne na]
            exact e
          exact (hpost j st1 _ D' hC hend (fun b o e n => sm _ _ (hk b o e n)) hf).2 hz d (hin.keep fun b o _ e => sm b o e) upd_same
        · have hz : st1.free ≠ 0 := fun e => h0 (by rw [e]; exact decide_eq_true rfl)
          refine ⟨_, rfl, p, c.C, dx', _, _, rfl, y.ob, TC.cl, TC.free, rfl, _, _, rfl, rfl, dx', _, y.ob, (by show 7 < 1000; decide), ?_⟩
          refine ⟨_, rfl, p, c.C, dx', _, _, rfl, upd_same, TC.cl, TC.live, rfl, _, _, rfl, rfl, dx', _, upd_same, (by show 7 < 1000; decide), ?_⟩
          refine ⟨_, rfl, p, c.C, dx', _, _, rfl, upd_same, TC.cl, TC.begun, rfl, ?_⟩
          rw [upd_upd]
          have y2 := y.store (st1.free - 1) (st1.live + 1) (st.begun + 1) st1.drops (o := .ins c.C dx' (putF "_live" (.int (st1.live + 1)) (putF "_free" (.int (st1.free - 1)) (cf s' st1.free st1.live (st.begun + 1) st1.drops lw' lf')))) rfl
          exact (hpost j st1 _ D' hC hend (hk.trans hf (Keep.write y.d0)) hf).1 hz ⟨_, _, _, _, _, _, _, y2⟩
      have ec : ({ st1 with begun := st.begun + 1 } : CS).cuts = st.cuts := e4
      rw [ec]
      refine ite2 (fun hlt => ?_) (fun hlt => ?_)
      · have hlt := of_decide_eq_true hlt
        refine ⟨_, rfl, p, c.C, dx', _, _, rfl, y.ob, TC.cl, TC.works, rfl, lw', _, rfl, .inl (SqL.of y.lws), _, _, rfl, rfl, _, rfl, ?_⟩
        have hwl := y.wks.len
        refine ite2 (fun hgt => ?_) (fun hgt => ?_)
        · have hgt := of_decide_eq_true hgt
          rw [List.length_map, hwl] at hgt
          have hgt : (0 : Int) < ((st1.works.length : Nat) : Int) := hgt
          obtain ⟨hfl, hinv⟩ := hpre j st1 hC hlt
          cases hw : st1.works with
          | nil => rw [hw] at hgt; exact absurd hgt (by decide)
          | cons k r =>
            obtain ⟨hk1, hk2⟩ := hinv k r hw
            refine ⟨_, rfl, p, dx', _, rfl, y.ob, rfl, p, D', { st1 with begun := st.begun + 1 }, k, r, rfl, hin, hw, hk1, hk2, hfl, fun H2 D2 st2 hcut hin2 hk3 hf3 => ?_⟩
            refine ⟨_, rfl, _, _, rfl, rfl, ?_⟩
            have hs := hcut.same
            have hcut' : CutR st1 { st2 with begun := st1.begun } := hcut.begun st1.begun
            have e2 : ({ ({ st2 with begun := st1.begun } : CS) with begun := st.begun + 1 } : CS) = st2 := by
              have : st2.begun = st.begun + 1 := hs.2.2.2.2.2.1
              cases st2
              simp only at this
              subst this
              rfl
            refine ⟨⟨j + 1, { st2 with begun := st1.begun }, D2, rfl, hC.snoc hcut', by omega, ?_, hk.trans hf hk3, hf.trans hk hf3⟩, ?_⟩
            · rw [e2]
              exact hin2
            · show st.cuts.toNat - ((j : Int) + 1).toNat < st.cuts.toNat - (j : Int).toNat
              omega
        · have hw : st1.works = [] := by
            cases hw : st1.works with
            | nil => rfl
            | cons k r =>
              exfalso
              apply hgt
              apply decide_eq_true
              rw [List.length_map, hwl]
              show (0 : Int) < ((st1.works.length : Nat) : Int)
              rw [hw, List.length_cons]
              omega
          exact after (.inr ⟨hj, hw⟩)
      · have hge : ¬ (j : Int) < st.cuts := fun z => hlt (decide_eq_true z)
        exact after (.inl (by omega))
    · rintro σ H' Q1 Q2 h ⟨v, hv, v2, hv2, a, C, d, fs, v1, q1, q2, q3, q4, q5, a', C', d', fs', v1', q1', q2', q3', q4', q5', i, j, q6, q7, k, q8, q9⟩
      refine ⟨v, hv, v2, hv2, a, C, d, fs, v1, q1, q2, q3, q4, q5, a', C', d', fs', v1', q1', q2', q3', q4', q5', i, j, q6, q7, k, q8, ?_⟩
      cases k with
      | false =>
        have q9 : Q1 false H' := q9
        show Q2 false H'
        exact h _ _ q9
      | true =>
        obtain ⟨v, hv, a, C, d, fs, v1, q1, q2, q3, q4, q5, p1, ys, q6, q7, i, j, q8, q9, k, q10, q11⟩ := q9
        exact ⟨v, hv, a, C, d, fs, v1, q1, q2, q3, q4, q5, p1, ys, q6, q7, i, j, q8, q9, k, q10, h _ _ q11⟩
end
end SH
/-! ## D10 -/
namespace SH
open PySem L2
section
variable {c : Cs} {H H' : Hp} {D : Addr → Prop} {p : Addr} {st : CS} {dx s lw lf : Addr} {ws ts : List Addr} {Dw : Addr → Prop}
theorem ChAt.push (x : ChAt c H D p st dx s lw lf ws ts Dw) {w : Addr} {k : Wk} {Dk : Addr → Prop} (hw : WorkIn c.W H' Dk w k) (sm : Same H H') (hfr : ∀ b, Dk b → H b = none) {o : HO} (ho : o = .lst ((ws ++ [w]).map V.ref)) :
    ChAt c (upd H' lw o) (fun b => D b ∨ Dk b) p { st with works := st.works ++ [k] } dx s lw lf (ws ++ [w]) ts (fun b => Dw b ∨ Dk b) := by
  subst ho
  obtain ⟨n1, n2, n3, n4⟩ := x.np
  obtain ⟨d, z⟩ := x.set
  have nk : ∀ b, D b → ¬ Dk b := fun b db kb => x.dom db (hfr b kb)
  have nlw : ∀ b, Dk b → b ≠ lw := fun b kb e => nk lw x.d2 (by rw [← e]; exact kb)
  exact {
    ob := by rw [upd_ne n1]; exact sm _ _ x.ob
    set := ⟨d, by rw [upd_ne n3]; exact sm _ _ z⟩
    lws := upd_same
    lfs := by rw [upd_ne x.wf.symm]; exact sm _ _ x.lfs
    tl := x.tl
    tup := fun i t q h1 h2 => by rw [upd_ne (x.nt (List.mem_of_getElem? h1)).2.1]; exact sm _ _ (x.tup i t q h1 h2)
    wks := by
      refine WorksIn.snoc (hw.keep fun b o kb e => ?_) (x.wks.keep fun b o db e => ?_) (fun b db => nk b (x.d5 b db))
      · rw [upd_ne (nlw b kb)]; exact e
      · rw [upd_ne (fun q => x.n2 (by rw [← q]; exact db))]; exact sm _ _ e
    d0 := .inl x.d0
    d1 := .inl x.d1
    d2 := .inl x.d2
    d3 := .inl x.d3
    d4 := fun t h => .inl (x.d4 t h)
    d5 := fun b h => h.elim (fun q => .inl (x.d5 b q)) .inr
    tight := fun b h => by
      rcases h with h | h
      · rcases x.tight b h with h | h | h | h | h | h
        · exact .inl h
        · exact .inr (.inl h)
        · exact .inr (.inr (.inl h))
        · exact .inr (.inr (.inr (.inl h)))
        · exact .inr (.inr (.inr (.inr (.inl h))))
        · exact .inr (.inr (.inr (.inr (.inr (.inl h)))))
      · exact .inr (.inr (.inr (.inr (.inr (.inr h)))))
    n0 := fun h => h.elim x.n0 (nk _ x.d0)
    n1 := fun h => h.elim x.n1 (nk _ x.d1)
    n2 := fun h => h.elim x.n2 (nk _ x.d2)
    n3 := fun h => h.elim x.n3 (nk _ x.d3)
    n4 := fun t ht h => h.elim (x.n4 t ht) (nk _ (x.d4 t ht))
    ps := x.ps
    wf := x.wf }
theorem ChAt.free1 (x : ChAt c H D p st dx s lw lf ws ts Dw) {t : Addr} {q : Int × Nat} (ht : H t = none) {o : HO} (ho : o = .lst ((ts ++ [t]).map V.ref)) :
    ChAt c (upd (upd H t (tupV q)) lf o) (fun b => D b ∨ b = t) p { st with freed := st.freed ++ [q] } dx s lw lf ws (ts ++ [t]) Dw := by
  subst ho
  obtain ⟨n1, n2, n3, n4⟩ := x.np
  obtain ⟨d, z⟩ := x.set
  have nt : ∀ b, D b → b ≠ t := fun b db e => x.dom db (by rw [e]; exact ht)
  have tlf : t ≠ lf := (nt _ x.d3).symm
  exact {
    ob := by rw [upd_ne n2, upd_ne (nt _ x.d0)]; exact x.ob
    set := ⟨d, by rw [upd_ne n4, upd_ne (nt _ x.d1)]; exact z⟩
    lws := by rw [upd_ne x.wf, upd_ne (nt _ x.d2)]; exact x.lws
    lfs := upd_same
    tl := by
      show (ts ++ [t]).length = (st.freed ++ [q]).length
      rw [List.length_append, List.length_append, x.tl]
      rfl
    tup := fun i u r h1 h2 => by
      have h2 : (st.freed ++ [q])[i]? = some r := h2
      by_cases hi : i < ts.length
      · rw [List.getElem?_append_left hi] at h1
        rw [List.getElem?_append_left (by rw [← x.tl]; exact hi)] at h2
        have hm := List.mem_of_getElem? h1
        rw [upd_ne (x.nt hm).2.2.1, upd_ne (nt _ (x.d4 u hm))]
        exact x.tup i u r h1 h2
      · rw [List.getElem?_append_right (by omega)] at h1
        rw [List.getElem?_append_right (by rw [← x.tl]; omega), ← x.tl] at h2
        have h3 := (List.getElem?_eq_some_iff.mp h1).1
        simp at h3
        have e : i - ts.length = 0 := by omega
        rw [e] at h1 h2
        simp at h1 h2
        subst h1 h2
        rw [upd_ne tlf, upd_same]
    wks := x.wks.keep fun b o db e => by
      rw [upd_ne (fun y => x.n3 (by rw [← y]; exact db)), upd_ne (nt _ (x.d5 b db))]
      exact e
    d0 := .inl x.d0
    d1 := .inl x.d1
    d2 := .inl x.d2
    d3 := .inl x.d3
    d4 := fun u h => by
      rcases List.mem_append.mp h with h | h
      · exact .inl (x.d4 u h)
      · exact .inr (by simpa using h)
    d5 := fun b h => .inl (x.d5 b h)
    tight := fun b h => by
      rcases h with h | h
      · rcases x.tight b h with h | h | h | h | h | h
        · exact .inl h
        · exact .inr (.inl h)
        · exact .inr (.inr (.inl h))
        · exact .inr (.inr (.inr (.inl h)))
        · exact .inr (.inr (.inr (.inr (.inl (List.mem_append_left _ h)))))
        · exact .inr (.inr (.inr (.inr (.inr h))))
      · exact .inr (.inr (.inr (.inr (.inl (by rw [h]; simp)))))
    n0 := x.n0
    n1 := x.n1
    n2 := x.n2
    n3 := x.n3
    n4 := fun u h => by
      rcases List.mem_append.mp h with h | h
      · exact x.n4 u h
      · have e : u = t := by simpa using h
        rw [e]
        exact fun y => nt t (x.d5 t y) rfl
    ps := x.ps
    wf := x.wf }
end
def spChDrop (c : Cs) : Sp := fun vs H Q _ => ∃ (p a : Addr) (D : Addr → Prop) (st : CS) (own : List Nat), vs = [.ref p, .ref a] ∧ ChIn c H D p st ∧ H a = some (.lst (own.map nV)) ∧ ¬ D a ∧ TreeOk own ∧ own.length ≤ 1999 ∧ ((own.length + 1 : Nat) : Int) ≤ st.live ∧
  1 ≤ st.fields ∧ st.fields ≤ 10 ^ 30 ∧ Fits own st.fields ∧ st.freed.length ≤ 50000 ∧ st.works.length ≤ 50000 ∧ ∀ (H' : Hp) (D' : Addr → Prop), Keep D H H' → Fresh D D' H →
    (own = [] → ChIn c H' D' p { st with free := st.free + 1, live := st.live - 1, drops := st.drops + 1, freed := st.freed ++ [(st.drops, 0)] } → Q (.int st.drops) H') ∧
    (own ≠ [] → ∀ k, WInv k → k.own = own → k.ent = 1 → k.cnt = 0 → k.num = st.drops → ChIn c H' D' p { st with live := st.live - k.size, drops := st.drops + 1, works := st.works ++ [k] } → Q (.int st.drops) H')
section
variable {P : Program} {w : World} {K : PySem.W.Frag} {mg : Str → Option Value} {base : Heap} {c : Cs}
theorem scChDrop : FnScope ["self", "tree", "many", "number"] ["self", "tree"] (defScope sChDrop) := ⟨rfl, rfl, rfl, by decide +kernel, rfl, by decide +kernel, by decide +kernel⟩
theorem ok_chdrop {f : Addr} {fd : FuncData} (F : Fun K "drop" "ChildrenHeap.drop" sChDrop f fd) (T : Glo K mg) (TC : ChT K c.C) (TS : SetT K c.S) (c1 : Cal P w K mg base CX0 2 "check_tree" ["tree"] spCheckTree) (c2 : Cal P w K mg base CX0 4 "fits_fields" ["tree", "fields"] spFits)
    (c3 : CalK P w K mg base CX0 5 c.W "Work" ["self", "number", "tree"] (spWkInit c.W)) : FnOk P w K mg base CX0 7 f fd ["self", "tree"] (spChDrop c) := by
  refine F.ok scChDrop (fun vs H Q E h => ?_) (fun cdv A outer s H vs Q E hr h => ?_)
  · obtain ⟨_, _, _, _, _, rfl, _⟩ := h
    rfl
  · obtain ⟨p, a, D, st, own, rfl, ⟨dx, s, lw, lf, ws, ts, Dw, x⟩, hA, hnD, hT, hlen, hlive, hf1, hf2, hfit, hfl, hwk, hpost⟩ := h
    have hr2 : Room 2 (A.deeper (PyProof.Rows.envOfC "ChildrenHeap.drop" (defScope sChDrop) _ f cdv)) := hr.mono (by decide)
    have hr4 : Room 4 (A.deeper (PyProof.Rows.envOfC "ChildrenHeap.drop" (defScope sChDrop) _ f cdv)) := hr.mono (by decide)
    refine ⟨_, pss_cons (ps_expr (pe_cal c1 hr2 pass0 (pa_cons (pv 1) pa_nil)))
      (pss_cons (ps_set (i := 2) scChDrop.nd rfl (.inl rfl) (pe_op op_add (pe_callB call_len_seq (by rfl) T.len PySem.boot_len (pa_cons (pv 1) pa_nil)) pe_int))
      (pss_cons (ps_if (PW.pt (pw_or (pt_cmpR op_gt (pv 2) (pe_fld (pv 0) rfl) (nomark _)) (pw_or1 (pt_not (pt_val (pe_cal c2 hr4 pass0 (pa_cons (pv 1) (pa_cons (pe_fld (pe_fld (pv 0) rfl) rfl) pa_nil)))))))) (pss_one ps_never) pss_nil)
      (pss_cons (ps_set (i := 3) scChDrop.nd rfl (.inl rfl) (pe_fld (pv 0) rfl))
      (pss_cons (ps_fldaug (pv 0) pe_int in_add)
      (pss_cons (ps_fldaug (pv 0) (pv 2) in_sub)
      (pss_cons (ps_if (pt_cmpR op_eq (pv 2) pe_int (nomark _))
        (pss_cons (ps_fldaug (pv 0) pe_int in_add) (pss_one (ps_expr (pe_bm PySem.F.plainAttrs_list PySem.F.slot_list_append PySem.F.type_list_append mt_append (pe_fld (pv 0) rfl) (pa_cons (pe_tup (pa_cons (pv 3) (pa_cons pe_int pa_nil))) pa_nil)))))
        (pss_one (ps_expr (pe_bm PySem.F.plainAttrs_list PySem.F.slot_list_append PySem.F.type_list_append mt_append (pe_fld (pv 0) rfl) (pa_cons (pe_calK c3 hr pass0 (pa_cons (pv 3) (pa_cons (pv 1) pa_nil))) pa_nil)))))
      (pss_one (ps_ret (pv 3))))))))), ?_⟩
    refine ⟨_, rfl, a, own, rfl, hA, hT, hlen, fun H1 s1 => ?_⟩
    have hA1 := s1 _ _ hA
    have x1 := x.keep fun b o _ e => s1 b o e
    refine ⟨_, rfl, a, _, rfl, .inl (SqL.of hA1), _, _, rfl, rfl, ?_⟩
    rw [List.length_map]
    obtain ⟨ds, hset⟩ := x1.set
    refine ⟨_, rfl, _, rfl, p, c.C, dx, _, _, rfl, x1.ob, TC.cl, TC.live, rfl, _, _, rfl, rfl, _, rfl, ?_⟩
    rw [decide_eq_false (by omega)]
    refine iteF ?_
    refine ⟨_, rfl, _, rfl, p, c.C, dx, _, _, rfl, x1.ob, TC.cl, TC.setting, rfl, s, c.S, ds, _, _, rfl, hset, TS.cl, TS.fields, rfl, a, own, st.fields, rfl, hA1, hT, hlen, hf1, hf2, hfit, fun H2 s2 => ⟨true, rfl, iteF ?_⟩⟩
    have x2 := x1.keep fun b o _ e => s2 b o e
    have hA2 := s2 _ _ hA1
    have kp2 : Keep D H H2 := fun b o e _ => s2 _ _ (s1 _ _ e)
    refine ⟨_, rfl, p, c.C, dx, _, _, rfl, x2.ob, TC.cl, TC.drops, rfl, ?_⟩
    refine ⟨_, rfl, p, c.C, dx, _, _, rfl, x2.ob, TC.cl, TC.drops, rfl, _, _, rfl, rfl, dx, _, x2.ob, (by show 7 < 1000; decide), ?_⟩
    refine ⟨_, rfl, p, c.C, dx, _, _, rfl, upd_same, TC.cl, TC.live, rfl, _, rfl, _, _, rfl, rfl, dx, _, upd_same, (by show 7 < 1000; decide), ?_⟩
    rw [upd_upd]
    have x3 := x2.store st.free (st.live - ((own.length : Int) + 1)) st.begun (st.drops + 1) (o := .ins c.C dx (putF "_live" (.int (st.live - ((own.length : Int) + 1))) (putF "_drops" (.int (st.drops + 1)) (cf s st.free st.live st.begun st.drops lw lf)))) rfl
    have kp3 : Keep D H (upd H2 p (.ins c.C dx (putF "_live" (.int (st.live - ((own.length : Int) + 1))) (putF "_drops" (.int (st.drops + 1)) (cf s st.free st.live st.begun st.drops lw lf))))) := kp2.trans (Fresh.refl _ _) (Keep.write x2.d0)
    have hA3 : upd H2 p (.ins c.C dx (putF "_live" (.int (st.live - ((own.length : Int) + 1))) (putF "_drops" (.int (st.drops + 1)) (cf s st.free st.live st.begun st.drops lw lf)))) a = some (.lst (own.map nV)) := kp3 _ _ hA hnD
    generalize upd H2 p (.ins c.C dx (putF "_live" (.int (st.live - ((own.length : Int) + 1))) (putF "_drops" (.int (st.drops + 1)) (cf s st.free st.live st.begun st.drops lw lf)))) = H3 at x3 kp3 hA3
    refine ⟨_, rfl, rfl, _, rfl, ?_⟩
    refine ite2 (fun h1 => ?_) (fun h1 => ?_)
    · have ho : own = [] := by
        have e := of_decide_eq_true h1
        injection e with e
        exact List.eq_nil_of_length_eq_zero (by omega)
      subst ho
      refine ⟨_, rfl, p, c.C, dx, _, _, rfl, x3.ob, TC.cl, TC.free, rfl, _, _, rfl, rfl, dx, _, x3.ob, (by show 7 < 1000; decide), ?_⟩
      have x4 := x3.store (st.free + 1) (st.live - (((([] : List Nat).length : Nat) : Int) + 1)) st.begun (st.drops + 1) (o := .ins c.C dx (putF "_free" (.int (st.free + 1)) (cf s st.free (st.live - (((([] : List Nat).length : Nat) : Int) + 1)) st.begun (st.drops + 1) lw lf))) rfl
      have kp4 : Keep D H (upd H3 p (.ins c.C dx (putF "_free" (.int (st.free + 1)) (cf s st.free (st.live - (((([] : List Nat).length : Nat) : Int) + 1)) st.begun (st.drops + 1) lw lf)))) := kp3.trans (Fresh.refl _ _) (Keep.write x3.d0)
      refine ⟨_, rfl, p, c.C, dx, _, _, rfl, upd_same, TC.cl, TC.freed, rfl, .inl ⟨rfl, _, SqL.of x4.lfs⟩, _, rfl, (by show 2 ≤ sizeLine; decide), fun t ht => ?_⟩
      have tl : lf ≠ t := ne_of_none x4.lfs ht
      refine ⟨lf, _, _, rfl, rfl, by rw [upd_ne tl]; exact x4.lfs, line_big (by rw [List.length_map, x.tl]; omega), ?_⟩
      have x5 := x4.free1 (q := (st.drops, 0)) ht (o := .lst (ts.map V.ref ++ [.ref t])) (by rw [List.map_append]; rfl)
      have dt : Keep D H (upd (upd (upd H3 p (.ins c.C dx (putF "_free" (.int (st.free + 1)) (cf s st.free (st.live - (((([] : List Nat).length : Nat) : Int) + 1)) st.begun (st.drops + 1) lw lf)))) t (tupV (st.drops, 0))) lf (.lst (ts.map V.ref ++ [.ref t]))) := fun b o e n => by
        rw [upd_ne (fun z => n (by rw [z]; exact x.d3)), upd_ne (ne_of_none (kp4 b o e n) ht)]
        exact kp4 b o e n
      have ft : Fresh D (fun b => D b ∨ b = t) H := fun b d => by
        rcases d with d | d
        · exact .inl d
        · rw [d]
          exact kp4.free ht
      exact ⟨_, rfl, (hpost _ _ dt ft).1 rfl ⟨_, _, _, _, _, _, _, x5⟩⟩
    · have hne : own ≠ [] := fun e => h1 (by rw [e]; exact decide_eq_true rfl)
      have hpos : 1 ≤ own.length := by
        cases own with
        | nil => exact absurd rfl hne
        | cons b t => rw [List.length_cons]; omega
      refine ⟨_, rfl, p, c.C, dx, _, _, rfl, x3.ob, TC.cl, TC.works, rfl, .inl ⟨rfl, _, SqL.of x3.lws⟩, _, rfl, _, rfl, fun wv dw hwv hdw hne2 => ?_⟩
      have awv : a ≠ wv := ne_of_none hA3 hwv
      have adw : a ≠ dw := ne_of_none hA3 hdw
      refine ⟨wv, dw, a, st.drops, own, rfl, upd_same, by rw [upd_ne awv, upd_ne adw]; exact hA3, hT, hpos, hlen, fun H4 k Dk hwk2 hi hnum hown hent hcnt hkp hfr => ⟨rfl, ?_⟩⟩
      have sm : Same H3 H4 := fun b o e => hkp b o (by rw [upd_ne (ne_of_none e hwv), upd_ne (ne_of_none e hdw)]; exact e) (ne_of_none e hwv)
      have hfr3 : ∀ b, Dk b → H3 b = none := fun b kb => by
        rcases hfr b kb with e | e
        · rw [e]; exact hwv
        · cases q : H3 b with
          | none => rfl
          | some o =>
            rw [upd_ne (ne_of_none q hwv), upd_ne (ne_of_none q hdw), q] at e
            cases e
      refine ⟨lw, _, _, rfl, rfl, sm _ _ x3.lws, line_big (by rw [List.length_map, x.wks.len]; omega), ?_⟩
      have x5 := x3.push hwk2 sm hfr3 (o := .lst (ws.map V.ref ++ [.ref wv])) (by rw [List.map_append]; rfl)
      have dt : Keep D H (upd H4 lw (.lst (ws.map V.ref ++ [.ref wv]))) := fun b o e n => by
        rw [upd_ne (fun z => n (by rw [z]; exact x.d2))]
        exact sm _ _ (kp3 b o e n)
      have ft : Fresh D (fun b => D b ∨ Dk b) H := fun b d => by
        rcases d with d | d
        · exact .inl d
        · exact kp3.free (hfr3 b d)
      have sz : ((k.size : Nat) : Int) = (own.length : Int) + 1 := by
        unfold Wk.size
        rw [hown]
        omega
      refine ⟨_, rfl, (hpost _ _ dt ft).2 hne k hi hown hent hcnt hnum ?_⟩
      rw [sz]
      exact ⟨_, _, _, _, _, _, _, x5⟩
end
end SH
/-! ## L1 -/
namespace SH
open PySem L2
/-! ### the box of the draws -/
def boxL (cc : Addr) (pos rest mix cnt : Int) : List V := [.ref cc, .int pos, .int rest, .int mix, .int cnt]
structure BoxAt (H : Hp) (b cc : Addr) : Prop where
  ex : ∃ (ns : List Int) (pos rest mix cnt : Int), H b = some (.lst (boxL cc pos rest mix cnt)) ∧ H cc = some (.lst (ns.map V.int)) ∧ ns.length ≤ 63 ∧ 0 ≤ pos
  ne : b ≠ cc
theorem BoxAt.keep {H H' : Hp} {b cc : Addr} (x : BoxAt H b cc) (k : ∀ a o, (a = b ∨ a = cc) → H a = some o → H' a = some o) : BoxAt H' b cc := by
  obtain ⟨⟨ns, pos, rest, mix, cnt, h1, h2, h3⟩, ne⟩ := x
  exact ⟨⟨ns, pos, rest, mix, cnt, k _ _ (.inl rfl) h1, k _ _ (.inr rfl) h2, h3⟩, ne⟩
theorem BoxAt.there {H : Hp} {b cc : Addr} (x : BoxAt H b cc) : H b ≠ none ∧ H cc ≠ none := by
  obtain ⟨⟨ns, pos, rest, mix, cnt, h1, h2, h3⟩, ne⟩ := x
  exact ⟨by rw [h1]; simp, by rw [h2]; simp⟩
def spBox (K : PySem.W.Frag) : Sp := fun vs H Q _ => ∃ (a : Addr) (ns : List Int), vs = [.ref a] ∧ SqL K H a (ns.map V.int) ∧ ns.length ≤ 63 ∧ ∀ (H' : Hp) (b cc : Addr), Same H H' → H b = none → H cc = none → BoxAt H' b cc → Q (.ref b) H'
def spDraw : Sp := fun vs H Q _ => ∃ (b cc : Addr) (size : Int), vs = [.ref b, .int size] ∧ BoxAt H b cc ∧ 0 < size ∧ size < 1073741824 ∧ ∀ (r : Int) (x : HO), 0 ≤ r → r < size → BoxAt (upd H b x) b cc → Q (.int r) (upd H b x)
def spWhole : Sp := fun vs H Q _ => ∃ n : Int, vs = [.int n] ∧ Q (.bl true) H
def rInt1 : List V → Hp → VK → Prop := fun xs H Q => (∃ i, xs = [.int i] ∧ Q (.int i) H) ∨ ∃ k, xs = [.bl k] ∧ Q (.int (if k then 1 else 0)) H
section
variable {P : Program} {w : World} {K : PySem.W.Frag} {mg : Str → Option Value} {base : Heap}
theorem scBox : FnScope ["_law_script", "_law_cell"] ["_law_script"] (defScope sBox) := ⟨rfl, rfl, rfl, by decide +kernel, rfl, by decide +kernel, by decide +kernel⟩
theorem ok_box {f : Addr} {fd : FuncData} (F : Fun K "_law_box" "_law_box" sBox f fd) (T : Glo K mg) : FnOk P w K mg base CX0 1 f fd ["_law_script"] (spBox K) := by
  refine F.ok scBox (fun vs H Q E h => ?_) (fun cdv A outer s H vs Q E hr h => ?_)
  · obtain ⟨_, _, rfl, _⟩ := h
    rfl
  · obtain ⟨a, ns, rfl, hA, hlen, k⟩ := h
    refine ⟨_, pss_one (ps_ret (pe_lst (pa_cons (pe_lc (te := tCB rInt1 (tCons (tVar 1) tNil)) (own := [("_law_cell", 1)]) (g := gName 1) (by rfl) scBox.nd (pi_list (pe_slice sl_list (pv 0) po_none (po_some pe_int)))
        (blkOk_by (own := [("_law_cell", 1)]) (N := ["_law_script", "_law_cell"]) (sc := defScope sBox) (by decide +kernel)) (fun _ _ _ _ _ => pg_name (i := 1) scBox.nd rfl (Or.inl rfl)) (fun _ _ _ _ _ => pts_nil)
        (fun _ _ _ _ _ => pe_callTy call_int1 (by rfl) T.int (by decide +kernel) (pa_cons (pv 1) pa_nil))) (pa_cons pe_int (pa_cons pe_int (pa_cons pe_int (pa_cons pe_int pa_nil))))))), ?_⟩
    refine ⟨_, rfl, 63, rfl, a, _, rfl, hA, fun p hp => ?_⟩
    obtain ⟨ms, hms, hml⟩ : ∃ ms : List Int, cutV (ns.map V.int) none (some 63) = ms.map V.int ∧ ms.length ≤ 63 := by
      unfold cutV
      rw [← List.map_drop, ← List.map_take]
      refine ⟨_, rfl, ?_⟩
      rw [List.length_take, List.length_drop]
      omega
    rw [hms]
    refine ⟨p, rfl, ⟨_, SqL.of upd_same⟩, fun D hD => ?_⟩
    have s1 : Same H (upd H p (.lst (ms.map V.int))) := Same.laid hp
    refine lc_list (K := K) (a := p) (xs := ms.map V.int) (fun i H' => Same (upd H p (.lst (ms.map V.int))) H' ∧ H' D = some (.lst ((ms.take i).map V.int))) ⟨Same.laid hD, by rw [upd_same]; rfl⟩ (fun i H' _ ⟨s2, _⟩ => s2.seq (SqL.of upd_same)) ?_ ?_
    · rintro i y H' hi ⟨s2, hD2⟩
      rw [List.getElem?_map] at hi
      obtain ⟨n, hn, rfl⟩ := Option.map_eq_some_iff.mp hi
      refine ⟨rfl, _, rfl, .inl ⟨n, rfl, _, hD2, line_big (by rw [List.length_map, List.length_take]; omega), fun b o e => ?_, ?_⟩⟩
      · rw [upd_ne (ne_of_none e hD)]
        exact s2 b o e
      · rw [upd_same, List.take_add_one, hn, List.map_append]
        rfl
    · rintro H' ⟨s2, hD2⟩
      rw [List.length_map, List.take_length] at hD2
      refine ⟨(by show 5 ≤ sizeLine; decide), fun q hq => ?_⟩
      have hDq : D ≠ q := ne_of_none hD2 hq
      refine k _ q D (s1.trans (s2.trans (Same.laid hq))) (s1.free (s2.free hq)) (s1.free hD) ⟨⟨ms, 0, 0, 0, 0, upd_same, by rw [upd_ne hDq]; exact hD2, hml, Int.le_refl _⟩, hDq.symm⟩
theorem scWhole : FnScope ["_law_value"] ["_law_value"] (defScope sWhole) := ⟨rfl, rfl, rfl, by decide +kernel, rfl, by decide +kernel, by decide +kernel⟩
theorem ok_whole {f : Addr} {fd : FuncData} (F : Fun K "_law_whole" "_law_whole" sWhole f fd) (T : Glo K mg) : FnOk P w K mg base CX0 1 f fd ["_law_value"] spWhole := by
  refine F.ok scWhole (fun vs H Q E h => ?_) (fun cdv A outer s H vs Q E hr h => ?_)
  · obtain ⟨n, rfl, _⟩ := h
    rfl
  · obtain ⟨n, rfl, k⟩ := h
    refine ⟨_, pss_one (ps_ret (pe_and (pe_callB call_isi (by rfl) T.isinstance (by decide +kernel) (pa_cons (pv 0) (pa_cons (pe_bltn (v := .ty "int") (by rfl) T.int (by decide +kernel) rfl) pa_nil)))
      (pe_one (pe_not (pe_callB call_isi (by rfl) T.isinstance (by decide +kernel) (pa_cons (pv 0) (pa_cons (pe_bltn (v := .ty "bool") (by rfl) T.bool (by decide +kernel) rfl) pa_nil))))))), ?_⟩
    refine ⟨_, rfl, _, _, _, _, true, rfl, .ty _, .base (.int _), kit_ty (by decide +kernel), true, rfl, iteT ?_⟩
    exact ⟨_, rfl, _, _, _, _, false, rfl, .ty _, .base (.int _), kit_ty (by decide +kernel), false, rfl, k⟩
/-- the same where an error is being handled -/
theorem ok_wholeH {f : Addr} {fd : FuncData} (F : Fun K "_law_whole" "_law_whole" sWhole f fd) (T : Glo K mg) : L2H.FnH P w K mg base CX0 1 f fd ["_law_value"] spWhole := by
  obtain ⟨oc, od, kV, doc, pm, an, cdv, ct, osl, rfl, lk, hcd⟩ := F.ex
  refine L2H.fn_ofH (k := 0) lk hcd scWhole (fun vs H Q E h => ?_) (fun A outer s H vs Q E p hot hr h => ?_)
  · obtain ⟨n, rfl, _⟩ := h
    rfl
  · obtain ⟨n, rfl, k⟩ := h
    refine ⟨_, pss_one (ps_ret (pe_and (pe_callB call_isi (by rfl) T.isinstance (by decide +kernel) (pa_cons (pv 0) (pa_cons (pe_bltn (v := .ty "int") (by rfl) T.int (by decide +kernel) rfl) pa_nil)))
      (pe_one (pe_not (pe_callB call_isi (by rfl) T.isinstance (by decide +kernel) (pa_cons (pv 0) (pa_cons (pe_bltn (v := .ty "bool") (by rfl) T.bool (by decide +kernel) rfl) pa_nil))))))), ?_⟩
    refine ⟨_, rfl, _, _, _, _, true, rfl, .ty _, .base (.int _), kit_ty (by decide +kernel), true, rfl, iteT ?_⟩
    exact ⟨_, rfl, _, _, _, _, false, rfl, .ty _, .base (.int _), kit_ty (by decide +kernel), false, rfl, k⟩
theorem scDraw : FnScope ["_law_box_here", "_law_size", "_law_cell", "_law_drawn", "_law_mixed"] ["_law_box_here", "_law_size"] (defScope sDraw) := ⟨rfl, rfl, rfl, by decide +kernel, rfl, by decide +kernel, by decide +kernel⟩
theorem ok_draw {f : Addr} {fd : FuncData} (F : Fun K "_law_draw" "_law_draw" sDraw f fd) (T : Glo K mg) : FnOk P w K mg base CX0 1 f fd ["_law_box_here", "_law_size"] spDraw := by
  refine F.ok scDraw (fun vs H Q E h => ?_) (fun cdv A outer s H vs Q E hr h => ?_)
  · obtain ⟨_, _, _, rfl, _⟩ := h
    rfl
  · obtain ⟨b, cc, size, rfl, ⟨⟨ns, pos, rest, mix, cnt, hb, hc, hlen, hpos⟩, hne⟩, h0, h1, k⟩ := h
    refine ⟨_, pss_cons (ps_asg (pe_op op_add (pe_ix ix_list (pv 0) pe_int (fun _ _ => rfl)) pe_int) (pg_sub (pv 0) pe_int set_list))
      (pss_cons (ps_asg (pe_op op_mod (pe_callTy call_int1 (by rfl) T.int (by decide +kernel) (pa_cons (pe_op op_add (pe_op op_add (pe_op op_mul (pe_ix ix_list (pv 0) pe_int (fun _ _ => rfl)) pe_int) (pe_op op_mul (pe_ix ix_list (pv 0) pe_int (fun _ _ => rfl)) pe_int)) pe_int) pa_nil)) pe_int) (pg_sub (pv 0) pe_int set_list))
      (C8.pss_cut (ps_if (PW.pt (pw_and (pt_cmpR op_eq (pe_ix ix_list (pv 0) pe_int (fun _ _ => rfl)) pe_int (nomark _)) (pw_and1 (pt_cmpR op_lt (pe_ix ix_list (pv 0) pe_int (fun _ _ => rfl)) (pe_callB call_len_seq (by rfl) T.len PySem.boot_len (pa_cons (pe_ix ix_list (pv 0) pe_int (fun _ _ => rfl)) pa_nil)) (nomark _)))))
        (pss_cons (ps_set (i := 2) scDraw.nd rfl (.inl rfl) (pe_ix ix_list (pe_ix ix_list (pv 0) pe_int (fun _ _ => rfl)) (pe_ix ix_list (pv 0) pe_int (fun _ _ => rfl)) (fun _ _ => rfl)))
        (pss_cons (ps_asg (pe_op op_add (pe_ix ix_list (pv 0) pe_int (fun _ _ => rfl)) pe_int) (pg_sub (pv 0) pe_int set_list))
        (pss_cons (ps_asg (pe_op op_mod (pe_callTy call_int1 (by rfl) T.int (by decide +kernel) (pa_cons (pe_op op_add (pe_op op_mul (pe_ix ix_list (pv 0) pe_int (fun _ _ => rfl)) pe_int) (pe_op op_mul (pv 2) pe_int)) pa_nil)) pe_int) (pg_sub (pv 0) pe_int set_list))
        (pss_one (ps_if (pt_cmpR op_ge (pv 2) (pe_op op_pow pe_int pe_int) (nomark _)) (pss_one (ps_asg (pv 2) (pg_sub (pv 0) pe_int set_list))) pss_nil))))) pss_nil)
      (pss_cons (ps_if (pt_cmpR op_gt (pe_ix ix_list (pv 0) pe_int (fun _ _ => rfl)) pe_int (nomark _))
        (pss_cons (ps_set (i := 3) scDraw.nd rfl (.inl rfl) (pe_op op_mod (pe_callTy call_int1 (by rfl) T.int (by decide +kernel) (pa_cons (pe_ix ix_list (pv 0) pe_int (fun _ _ => rfl)) pa_nil)) (pv 1)))
        (pss_cons (ps_asg (pe_op op_fdiv (pe_ix ix_list (pv 0) pe_int (fun _ _ => rfl)) (pv 1)) (pg_sub (pv 0) pe_int set_list))
        (pss_one (ps_ret (pv 3))))) pss_nil)
      (pss_cons (ps_set (i := 4) scDraw.nd rfl (.inl rfl) (pe_op op_mod (pe_callTy call_int1 (by rfl) T.int (by decide +kernel) (pa_cons (pe_op op_add (pe_op op_mul (pe_ix ix_list (pv 0) pe_int (fun _ _ => rfl)) pe_int) (pe_op op_fdiv (pe_ix ix_list (pv 0) pe_int (fun _ _ => rfl)) pe_int)) pa_nil)) pe_int))
      (pss_one (ps_ret (pe_op op_mod (pe_op op_mod (pe_callTy call_int1 (by rfl) T.int (by decide +kernel) (pa_cons (pe_op op_add (pe_op op_add (pe_op op_mul (pv 4) (pv 4)) (pe_op op_fdiv (pv 4) pe_int)) (pe_ix ix_list (pv 0) pe_int (fun _ _ => rfl))) pa_nil)) pe_int) (pv 1)))))))), ?_⟩
    have ix0 : ∀ {l : List V} {v : V} (j : Nat), l[j]? = some v → atI l (j : Int) = some v := fun j h => atI_nat h
    refine ⟨_, rfl, b, _, 4, _, rfl, rfl, SqL.of hb, ix0 4 rfl, _, _, rfl, rfl, _, rfl, b, _, 4, 4, rfl, rfl, hb, rfl, ?_⟩
    refine ⟨_, rfl, b, _, 3, _, rfl, rfl, SqL.of upd_same, ix0 3 rfl, _, _, rfl, rfl, .inr ⟨by decide, by decide⟩, _, rfl, b, _, 4, _, rfl, rfl, SqL.of upd_same, ix0 4 rfl, _, _, rfl, rfl, .inr ⟨by decide, by decide⟩, _, _, rfl, rfl, _, _, rfl, rfl, .inl ⟨_, rfl, _, _, rfl, rfl, (by show (0 : Int) < 2147483647; decide), _, rfl, b, _, 3, 3, rfl, rfl, upd_same, rfl, ?_⟩⟩
    rw [upd_upd]
    have hset : ∀ (p2 r2 m2 c2 : Int) (o : HO), o = .lst (boxL cc p2 r2 m2 c2) → 0 ≤ p2 → BoxAt (upd H b o) b cc := fun p2 r2 m2 c2 o ho hp2 => by
      subst ho
      exact ⟨⟨ns, p2, r2, m2, c2, upd_same, by rw [upd_ne hne.symm]; exact hc, hlen, hp2⟩, hne⟩
    refine ⟨fun σ' H' => ∃ (v2 : Option V) (p2 r2 m2 c2 : Int), σ' = [some (.ref b), some (.int size), v2, none, none] ∧ H' = upd H b (.lst (boxL cc p2 r2 m2 c2)) ∧ 0 ≤ p2, ?_, ?_⟩
    · -- if the number at hand is used up and there is a further cell
      refine ⟨_, rfl, b, _, 2, _, rfl, rfl, SqL.of upd_same, ix0 2 rfl, rfl, _, rfl, ?_⟩
      refine ite2 (fun _ => ?_) (fun _ => ?_)
      · have hc1 : ∀ o, upd H b o cc = some (.lst (ns.map V.int)) := fun o => by rw [upd_ne hne.symm]; exact hc
        refine ⟨_, rfl, b, _, 1, _, rfl, rfl, SqL.of upd_same, ix0 1 rfl, _, rfl, b, _, 0, _, rfl, rfl, SqL.of upd_same, ix0 0 rfl, cc, _, rfl, .inl (SqL.of (hc1 _)), _, _, rfl, rfl, _, rfl, ?_⟩
        refine ite2 (fun hlt => ?_) (fun hlt => ?_)
        · have hlt := of_decide_eq_true hlt
          rw [List.length_map] at hlt
          obtain ⟨j, hj⟩ : ∃ j : Nat, pos = (j : Int) := ⟨pos.toNat, by omega⟩
          obtain ⟨n, hn⟩ : ∃ n, ns[j]? = some n := ⟨ns[j]'(by omega), List.getElem?_eq_getElem _⟩
          refine ⟨_, rfl, b, _, 0, _, rfl, rfl, SqL.of upd_same, ix0 0 rfl, _, rfl, b, _, 1, _, rfl, rfl, SqL.of upd_same, ix0 1 rfl, cc, _, _, _, rfl, rfl, SqL.of (hc1 _), at_of (j := j) (v := .int n) hj (by rw [List.getElem?_map, hn]; rfl), ?_⟩
          refine ⟨_, rfl, b, _, 1, _, rfl, rfl, SqL.of upd_same, ix0 1 rfl, _, _, rfl, rfl, _, rfl, b, _, 1, 1, rfl, rfl, upd_same, rfl, ?_⟩
          rw [upd_upd]
          refine ⟨_, rfl, b, _, 3, _, rfl, rfl, SqL.of upd_same, ix0 3 rfl, _, _, rfl, rfl, .inr ⟨by decide, by decide⟩, _, rfl, _, _, rfl, rfl, .inr ⟨by decide, by decide⟩, _, _, rfl, rfl, .inl ⟨_, rfl, _, _, rfl, rfl, (by show (0 : Int) < 2147483647; decide), _, rfl, b, _, 3, 3, rfl, rfl, upd_same, rfl, ?_⟩⟩
          rw [upd_upd]
          refine ⟨_, rfl, _, _, rfl, rfl, ⟨by decide, by decide, by decide⟩, _, _, rfl, rfl, _, rfl, ?_⟩
          refine ite2 (fun _ => ?_) (fun _ => ?_)
          · refine ⟨_, rfl, _, rfl, b, _, 2, 2, rfl, rfl, upd_same, rfl, ?_⟩
            rw [upd_upd]
            exact ⟨_, _, _, _, _, rfl, rfl, by omega⟩
          · exact ⟨_, _, _, _, _, rfl, rfl, by omega⟩
        · exact ⟨_, _, _, _, _, rfl, rfl, hpos⟩
      · exact ⟨_, _, _, _, _, rfl, rfl, hpos⟩
    · rintro σ' H' ⟨v2, p2, r2, m2, c2, rfl, rfl, hp2⟩
      refine ⟨_, rfl, b, _, 2, _, rfl, rfl, SqL.of upd_same, ix0 2 rfl, _, _, rfl, rfl, _, rfl, ?_⟩
      refine ite2 (fun _ => ?_) (fun _ => ?_)
      · refine ⟨_, rfl, b, _, 2, _, rfl, rfl, SqL.of upd_same, ix0 2 rfl, .inl ⟨_, rfl, _, rfl, _, _, rfl, rfl, h0, ?_⟩⟩
        refine ⟨_, rfl, b, _, 2, _, rfl, rfl, SqL.of upd_same, ix0 2 rfl, _, rfl, _, _, rfl, rfl, ⟨h0, h1⟩, _, rfl, b, _, 2, 2, rfl, rfl, upd_same, rfl, ?_⟩
        rw [upd_upd]
        exact ⟨_, rfl, k _ _ (Int.emod_nonneg _ (by omega)) (Int.emod_lt_of_pos _ h0) (hset p2 (r2 / size) m2 c2 _ rfl hp2)⟩
      · refine ⟨_, rfl, b, _, 3, _, rfl, rfl, SqL.of upd_same, ix0 3 rfl, _, _, rfl, rfl, .inr ⟨by decide, by decide⟩, _, rfl, b, _, 3, _, rfl, rfl, SqL.of upd_same, ix0 3 rfl, _, _, rfl, rfl, ⟨by decide, by decide⟩, _, _, rfl, rfl, .inl ⟨_, rfl, _, _, rfl, rfl, (by show (0 : Int) < 998244353; decide), ?_⟩⟩
        have m0 := Int.emod_nonneg (m2 * 104729 + m2 / 977) (show (998244353 : Int) ≠ 0 by decide)
        have m1 := Int.emod_lt_of_pos (m2 * 104729 + m2 / 977) (show (0 : Int) < 998244353 by decide)
        refine ⟨_, rfl, _, rfl, _, _, rfl, rfl, .inl ⟨by omega, by omega⟩, _, rfl, _, _, rfl, rfl, ⟨by decide, by decide⟩, _, _, rfl, rfl, _, rfl, b, _, 4, _, rfl, rfl, SqL.of upd_same, ix0 4 rfl, _, _, rfl, rfl, .inl ⟨_, rfl, _, _, rfl, rfl, (by show (0 : Int) < 1000000007; decide), _, rfl, _, _, rfl, rfl, h0, ?_⟩⟩
        exact k _ _ (Int.emod_nonneg _ (by omega)) (Int.emod_lt_of_pos _ h0) (hset p2 r2 m2 c2 _ rfl hp2)
end
end SH
/-! ## L2a -/
namespace SH
open PySem L2
/-- reading item i of a list or a tuple of ints -/
def NumsAt (K : PySem.W.Frag) (H : Hp) (q : Addr) (cells lim fields cuts : Int) : Prop := SqL K H q [.int cells, .int lim, .int fields, .int cuts] ∨ SqT K H q [.int cells, .int lim, .int fields, .int cuts]
def spDigits : Sp := fun vs H Q _ => ∃ (b cc : Addr), vs = [.ref b, .int 14] ∧ BoxAt H b cc ∧ ∀ (r : Int) (x : HO), 0 ≤ r → r < 10 ^ 14 → BoxAt (upd H b x) b cc → Q (.int r) (upd H b x)
def spWidth : Sp := fun vs H Q _ => ∃ (b cc : Addr), vs = [.ref b] ∧ BoxAt H b cc ∧ ∀ (r : Int) (x : HO), 1 ≤ r → r ≤ 10 ^ 30 → BoxAt (upd H b x) b cc → Q (.int r) (upd H b x)
def spSays (K : PySem.W.Frag) : Sp := fun vs H Q _ => ∃ (q : Addr) (cells lim fields cuts : Int) (due : Bool), vs = [.ref q, .bl due] ∧ NumsAt K H q cells lim fields cuts ∧ 1 ≤ lim ∧ lim ≤ cells ∧ cells ≤ 10 ^ 30 ∧ 1 ≤ fields ∧ fields ≤ 10 ^ 30 ∧ 1 ≤ cuts ∧ cuts ≤ 10 ^ 18 ∧
  due = decide (lim ≤ cuts * (cells - lim + 1) + 1) ∧ ∀ H', Same H H' → Q (.bl true) H'
section
variable {P : Program} {w : World} {K : PySem.W.Frag} {mg : Str → Option Value} {base : Heap}
theorem scDigits : FnScope ["_law_box_here", "_law_most", "_law_number_here", "_law_turn"] ["_law_box_here", "_law_most"] (defScope sDigits) := ⟨rfl, rfl, rfl, by decide +kernel, rfl, by decide +kernel, by decide +kernel⟩
theorem ok_digits {f : Addr} {fd : FuncData} (F : Fun K "_law_digits" "_law_digits" sDigits f fd) (T : Glo K mg) (c1 : Cal P w K mg base CX0 1 "_law_draw" ["_law_box_here", "_law_size"] spDraw) : FnOk P w K mg base CX0 2 f fd ["_law_box_here", "_law_most"] spDigits := by
  refine F.ok scDigits (fun vs H Q E h => ?_) (fun cdv A outer s H vs Q E hr h => ?_)
  · obtain ⟨_, _, rfl, _⟩ := h
    rfl
  · obtain ⟨b, cc, rfl, hB, k⟩ := h
    refine ⟨_, pss_cons (ps_set (i := 2) scDigits.nd rfl (.inl rfl) pe_int)
      (pss_cons (ps_for PassesOwn.never rfl (pi_range1 (by rfl) T.range (pa_cons (pe_op op_add pe_int (pe_cal c1 hr pass0 (pa_cons (pv 0) (pa_cons (pv 1) pa_nil)))) pa_nil)) (pg_name (i := 3) scDigits.nd rfl (.inl rfl))
        (pss_one (ps_set (i := 2) scDigits.nd rfl (.inl rfl) (pe_op op_add (pe_op op_mul (pv 2) pe_int) (pe_cal c1 hr pass0 (pa_cons (pv 0) (pa_cons pe_int pa_nil)))))))
      (pss_one (ps_ret (pv 2)))), ?_⟩
    refine ⟨_, rfl, _, rfl, b, cc, 14, rfl, hB, (by decide), (by decide), fun r x hr0 hr1 hB1 => ?_⟩
    refine ⟨_, _, rfl, rfl, _, rfl, (by omega), (by omega), ?_⟩
    refine for_range (lo := 0) (n := _) (fun i σ H' => ∃ (v3 : Option V) (m : Int) (x : HO), σ = [some (.ref b), some (.int 14), some (.int m), v3] ∧ H' = upd H b x ∧ BoxAt H' b cc ∧ 0 ≤ m ∧ m < 10 ^ i) ⟨none, 0, x, rfl, rfl, hB1, by omega, by decide⟩ ?_ ?_
    · rintro i σ H' hi ⟨v3, m, x, rfl, rfl, hB2, hm0, hm1⟩
      refine ⟨_, rfl, _, _, rfl, rfl, .inr ⟨by decide, by decide⟩, _, rfl, b, cc, 10, rfl, hB2, (by decide), (by decide), fun d y hd0 hd1 hB3 => ?_⟩
      rw [upd_upd] at hB3 ⊢
      refine ⟨_, _, rfl, rfl, _, _, y, rfl, rfl, hB3, by omega, ?_⟩
      rw [Int.pow_succ]
      omega
    · rintro σ H' ⟨v3, m, x, rfl, rfl, hB2, hm0, hm1⟩
      refine ⟨_, rfl, k m x hm0 (Int.lt_of_lt_of_le hm1 ?_) hB2⟩
      have h14 : (1 + r).toNat ≤ 14 := by omega
      have : (10 : Nat) ^ (1 + r).toNat ≤ 10 ^ 14 := Nat.pow_le_pow_right (by decide) h14
      have h2 : (10 : Int) ^ (1 + r).toNat = (((10 : Nat) ^ (1 + r).toNat : Nat) : Int) := by
        rw [Int.natCast_pow]
        rfl
      rw [h2]
      omega
theorem scWidth : FnScope ["_law_box_here"] ["_law_box_here"] (defScope sWidth) := ⟨rfl, rfl, rfl, by decide +kernel, rfl, by decide +kernel, by decide +kernel⟩
theorem ok_width {f : Addr} {fd : FuncData} (F : Fun K "_law_width" "_law_width" sWidth f fd) (c1 : Cal P w K mg base CX0 1 "_law_draw" ["_law_box_here", "_law_size"] spDraw) : FnOk P w K mg base CX0 2 f fd ["_law_box_here"] spWidth := by
  refine F.ok scWidth (fun vs H Q E h => ?_) (fun cdv A outer s H vs Q E hr h => ?_)
  · obtain ⟨_, _, rfl, _⟩ := h
    rfl
  · obtain ⟨b, cc, rfl, hB, k⟩ := h
    refine ⟨_, pss_cons (ps_if (pt_cmpR op_eq (pe_cal c1 hr pass0 (pa_cons (pv 0) (pa_cons pe_int pa_nil))) pe_int (nomark _))
        (pss_one (ps_ret (pe_op op_sub (pe_op op_pow pe_int pe_int) (pe_cal c1 hr pass0 (pa_cons (pv 0) (pa_cons pe_int pa_nil)))))) pss_nil)
      (pss_one (ps_ret (pe_op op_add pe_int (pe_cal c1 hr pass0 (pa_cons (pv 0) (pa_cons pe_int pa_nil)))))), ?_⟩
    refine ⟨_, rfl, b, cc, 3, rfl, hB, (by decide), (by decide), fun r x hr0 hr1 hB1 => ⟨rfl, _, rfl, ?_⟩⟩
    refine ite2 (fun _ => ?_) (fun _ => ?_)
    · refine ⟨_, _, rfl, rfl, ⟨by decide, by decide, by decide⟩, _, rfl, b, cc, 9, rfl, hB1, (by decide), (by decide), fun d y hd0 hd1 hB2 => ?_⟩
      rw [upd_upd] at hB2 ⊢
      have e : (10 : Int) ^ (30 : Int).toNat = 10 ^ 30 := by decide
      exact ⟨_, _, rfl, rfl, k _ _ (by rw [e]; omega) (by rw [e]; omega) hB2⟩
    · refine ⟨_, rfl, b, cc, 4, rfl, hB1, (by decide), (by decide), fun d y hd0 hd1 hB2 => ?_⟩
      rw [upd_upd] at hB2 ⊢
      exact ⟨_, _, rfl, rfl, k _ _ (by omega) (by omega) hB2⟩
theorem NumsAt.ix {H : Hp} {q : Addr} {a b c d : Int} (h : NumsAt K H q a b c d) {Q : VK} (j : Nat) {z : Int} (hz : z = (j : Int)) {v : V} (hv : ([.int a, .int b, .int c, .int d] : List V)[j]? = some v) (k : Q v H) : rIx K (.ref q) (.int z) H Q :=
  h.elim (fun y => .inl ⟨q, _, _, _, rfl, rfl, y, at_of hz hv, k⟩) (fun y => .inr (.inl ⟨q, _, _, _, rfl, rfl, y, at_of hz hv, k⟩))
theorem scSays : FnScope ["_law_numbers", "_law_due", "_law_told"] ["_law_numbers", "_law_due"] (defScope sSays) := ⟨rfl, rfl, rfl, by decide +kernel, rfl, by decide +kernel, by decide +kernel⟩
theorem ok_says {S : Addr} {f : Addr} {fd : FuncData} (F : Fun K "_law_says" "_law_says" sSays f fd) (T : Glo K mg) (c1 : Cal P w K mg base CX0 3 "children_never_stalls" ["setting"] (spNever S)) (c2 : CalK P w K mg base CX0 3 S "Setting" ["self", "cells", "live", "fields", "cuts"] (spSetInit S)) :
    FnOk P w K mg base CX0 5 f fd ["_law_numbers", "_law_due"] (spSays K) := by
  refine F.ok scSays (fun vs H Q E h => ?_) (fun cdv A outer s H vs Q E hr h => ?_)
  · obtain ⟨_, _, _, _, _, _, rfl, _⟩ := h
    rfl
  · obtain ⟨q, cells, lim, fields, cuts, due, rfl, hq, h1, h2, h3, h4, h5, h6, h7, hdue, k⟩ := h
    refine ⟨_, pss_cons (ps_set (i := 2) scSays.nd rfl (.inl rfl) (pe_cal c1 (hr.mono (by decide)) pass0 (pa_cons (pe_calK c2 hr pass0 (pa_cons (pe_ix ix_seq (pv 0) pe_int (fun _ _ => rfl)) (pa_cons (pe_ix ix_seq (pv 0) pe_int (fun _ _ => rfl))
        (pa_cons (pe_ix ix_seq (pv 0) pe_int (fun _ _ => rfl)) (pa_cons (pe_ix ix_seq (pv 0) pe_int (fun _ _ => rfl)) pa_nil))))) pa_nil)))
      (pss_one (ps_ret (pe_and (pe_callB call_isi (by rfl) T.isinstance (by decide +kernel) (pa_cons (pv 2) (pa_cons (pe_bltn (v := .ty "bool") (by rfl) T.bool (by decide +kernel) rfl) pa_nil))) (pe_one (pe_cmpR op_eq (pv 2) (pv 1) (nomark _)))))), ?_⟩
    refine ⟨_, rfl, hq.ix 0 rfl rfl ⟨_, rfl, hq.ix 1 rfl rfl ⟨_, rfl, hq.ix 2 rfl rfl ⟨_, rfl, hq.ix 3 rfl rfl (fun x dx hx hdx hne => ?_)⟩⟩⟩⟩
    refine ⟨x, dx, cells, lim, fields, cuts, rfl, upd_same, h1, h2, h3, h4, h5, h6, by omega, fun H1 hset hk => ⟨rfl, x, cells, lim, fields, cuts, rfl, hset, by omega, by omega, ?_⟩⟩
    refine ⟨_, rfl, _, _, _, _, true, rfl, .ty _, .base (.bl _), kit_ty (by decide +kernel), true, rfl, iteT ⟨_, rfl, _, rfl, rfl, ?_⟩⟩
    have e : decide (V.bl (decide (lim ≤ cuts * (cells - lim + 1) + 1)) = V.bl due) = true := decide_eq_true (by rw [hdue])
    show Q (.bl (decide (V.bl (decide (lim ≤ cuts * (cells - lim + 1) + 1)) = V.bl due))) H1
    rw [e]
    refine k H1 fun b o eb => hk b o ?_ (ne_of_none eb hx)
    rw [upd_ne (ne_of_none eb hx), upd_ne (ne_of_none eb hdx)]
    exact eb
theorem scGreat : FnScope ["_law_box_here", "_law_speed", "_law_spare", "_law_edge", "_law_limit", "_law_total"] ["_law_box_here"] (defScope sGreat) := ⟨rfl, rfl, rfl, by decide +kernel, rfl, by decide +kernel, by decide +kernel⟩
def spGreat : Sp := fun vs H Q _ => ∃ (b cc : Addr), vs = [.ref b] ∧ BoxAt H b cc ∧ ∀ H' : Hp, Q (.bl true) H'
def spSmall : Sp := fun vs H Q _ => ∃ (b cc : Addr), vs = [.ref b] ∧ BoxAt H b cc ∧ ∀ (x : HO) (q : Addr) (cells lim fields cuts : Int), BoxAt (upd H b x) b cc → upd H b x q = none → 1 ≤ cuts → cuts ≤ 60 → lim ≤ cells → cells - lim ≤ 12 → 1 ≤ lim →
  lim ≤ cuts * (cells - lim + 1) + 4 → 1 ≤ fields → fields ≤ 10 ^ 30 → Q (.ref q) (upd (upd H b x) q (.lst [.int cells, .int lim, .int fields, .int cuts]))
theorem ok_great {f : Addr} {fd : FuncData} (F : Fun K "_law_great" "_law_great" sGreat f fd) (T : Glo K mg) (c1 : Cal P w K mg base CX0 1 "_law_draw" ["_law_box_here", "_law_size"] spDraw) (c2 : Cal P w K mg base CX0 2 "_law_digits" ["_law_box_here", "_law_most"] spDigits)
    (c3 : Cal P w K mg base CX0 2 "_law_width" ["_law_box_here"] spWidth) (c4 : Cal P w K mg base CX0 5 "_law_says" ["_law_numbers", "_law_due"] (spSays K)) : FnOk P w K mg base CX0 6 f fd ["_law_box_here"] spGreat := by
  refine F.ok scGreat (fun vs H Q E h => ?_) (fun cdv A outer s H vs Q E hr h => ?_)
  · obtain ⟨_, _, rfl, _⟩ := h
    rfl
  · obtain ⟨b, cc, rfl, hB, k⟩ := h
    have r1 : Room 1 (A.deeper (PyProof.Rows.envOfC "_law_great" (defScope sGreat) _ f cdv)) := hr.mono (by decide)
    have r2 : Room 2 (A.deeper (PyProof.Rows.envOfC "_law_great" (defScope sGreat) _ f cdv)) := hr.mono (by decide)
    refine ⟨_, pss_cons (ps_set (i := 1) scGreat.nd rfl (.inl rfl) (pe_op op_add pe_int (pe_cal c2 r2 pass0 (pa_cons (pv 0) (pa_cons pe_int pa_nil)))))
      (pss_cons (ps_set (i := 2) scGreat.nd rfl (.inl rfl) (pe_cal c2 r2 pass0 (pa_cons (pv 0) (pa_cons pe_int pa_nil))))
      (pss_cons (ps_set (i := 3) scGreat.nd rfl (.inl rfl) (pe_op op_add (pe_op op_mul (pv 1) (pe_op op_add (pv 2) pe_int)) pe_int))
      (pss_cons (ps_set (i := 4) scGreat.nd rfl (.inl rfl) (pe_callB (call_max2 rfl) (by rfl) T.max (by decide +kernel) (pa_cons pe_int (pa_cons (pe_op op_sub (pe_op op_add (pv 3) (pe_cal c1 r1 pass0 (pa_cons (pv 0) (pa_cons pe_int pa_nil)))) pe_int) pa_nil))))
      (pss_cons (ps_set (i := 5) scGreat.nd rfl (.inl rfl) (pe_op op_add (pv 4) (pv 2)))
      (pss_cons (ps_if (pt_not (pt_val (pe_cal c4 hr pass0 (pa_cons (pe_tup (pa_cons (pv 5) (pa_cons (pv 4) (pa_cons (pe_cal c3 r2 pass0 (pa_cons (pv 0) pa_nil)) (pa_cons (pv 1) pa_nil))))) (pa_cons (pe_cmpR op_le (pv 4) (pv 3) (nomark _)) pa_nil))))) (pss_one (ps_ret pe_bl)) pss_nil)
      (pss_one (ps_ret (pe_cal c4 hr pass0 (pa_cons (pe_tup (pa_cons (pv 5) (pa_cons (pv 4) (pa_cons pe_int (pa_cons (pv 1) pa_nil))))) (pa_cons (pe_cmpR op_le (pv 4) (pv 3) (nomark _)) pa_nil)))))))))), ?_⟩
    refine ⟨_, rfl, b, cc, rfl, hB, fun u x hu0 hu1 hB1 => ⟨_, _, rfl, rfl, ?_⟩⟩
    refine ⟨_, rfl, b, cc, rfl, hB1, fun sp y hs0 hs1 hB2 => ?_⟩
    rw [upd_upd] at hB2 ⊢
    refine ⟨_, rfl, _, rfl, _, _, rfl, rfl, _, _, rfl, rfl, .inl ⟨by omega, by omega⟩, _, _, rfl, rfl, ?_⟩
    refine ⟨_, rfl, _, rfl, b, cc, 5, rfl, hB2, (by decide), (by decide), fun d z hd0 hd1 hB3 => ⟨_, _, rfl, rfl, _, _, rfl, rfl, _, _, rfl, ?_⟩⟩
    rw [upd_upd] at hB3 ⊢
    -- the bounds
    have hm0 : 0 ≤ (1 + u) * (sp + 1) := Int.mul_nonneg (by omega) (by omega)
    have hm1 : (1 + u) * (sp + 1) ≤ 10 ^ 14 * 10 ^ 14 := Int.mul_le_mul (by omega) (by omega) (by omega) (by decide)
    generalize hE : (1 + u) * (sp + 1) = E0 at hm0 hm1 ⊢
    obtain ⟨L, hL, hL0, hL1⟩ : ∃ L : Int, (if E0 + 1 + d - 2 > 1 then E0 + 1 + d - 2 else 1) = L ∧ 1 ≤ L ∧ L ≤ E0 + 4 := by
      refine ⟨_, rfl, ?_, ?_⟩ <;> split <;> omega
    rw [hL]
    have ed : decide (L ≤ E0 + 1) = decide (L ≤ (1 + u) * (L + sp - L + 1) + 1) := by
      have e1 : L + sp - L = sp := by omega
      rw [e1, hE]
    refine ⟨_, rfl, _, rfl, _, _, rfl, rfl, ?_⟩
    refine ⟨_, rfl, _, rfl, _, rfl, b, cc, rfl, hB3, fun wd v hw0 hw1 hB4 => ⟨_, rfl, (by show 4 ≤ sizeLine; decide), fun p hp => ?_⟩⟩
    rw [upd_upd] at hB4 hp ⊢
    refine ⟨_, rfl, _, rfl, _, _, rfl, rfl, p, L + sp, L, wd, 1 + u, _, rfl, .inr (SqT.of upd_same), hL0, by omega, by omega, hw0, hw1, by omega, by omega, ed, fun H1 s1 => ⟨true, rfl, iteF ?_⟩⟩
    refine ⟨_, rfl, _, rfl, _, rfl, (by show 4 ≤ sizeLine; decide), fun p2 hp2 => ?_⟩
    refine ⟨_, rfl, _, rfl, _, _, rfl, rfl, p2, L + sp, L, 1, 1 + u, _, rfl, .inr (SqT.of upd_same), hL0, by omega, by omega, by omega, by omega, by omega, by omega, ed, fun H2 s2 => k H2⟩
theorem scSmall : FnScope ["_law_box_here", "_law_speed", "_law_spare", "_law_edge", "_law_limit"] ["_law_box_here"] (defScope sSmall) := ⟨rfl, rfl, rfl, by decide +kernel, rfl, by decide +kernel, by decide +kernel⟩
theorem ok_small {f : Addr} {fd : FuncData} (F : Fun K "_law_small" "_law_small" sSmall f fd) (T : Glo K mg) (c1 : Cal P w K mg base CX0 1 "_law_draw" ["_law_box_here", "_law_size"] spDraw) (c3 : Cal P w K mg base CX0 2 "_law_width" ["_law_box_here"] spWidth) :
    FnOk P w K mg base CX0 3 f fd ["_law_box_here"] spSmall := by
  refine F.ok scSmall (fun vs H Q E h => ?_) (fun cdv A outer s H vs Q E hr h => ?_)
  · obtain ⟨_, _, rfl, _⟩ := h
    rfl
  · obtain ⟨b, cc, rfl, hB, k⟩ := h
    have r1 : Room 1 (A.deeper (PyProof.Rows.envOfC "_law_small" (defScope sSmall) _ f cdv)) := hr.mono (by decide)
    refine ⟨_, pss_cons (ps_set (i := 1) scSmall.nd rfl (.inl rfl) (pe_op op_add pe_int (pe_cal c1 r1 pass0 (pa_cons (pv 0) (pa_cons pe_int pa_nil)))))
      (pss_cons (ps_set (i := 2) scSmall.nd rfl (.inl rfl) (pe_cal c1 r1 pass0 (pa_cons (pv 0) (pa_cons pe_int pa_nil))))
      (C8.pss_cut (ps_if (pt_cmpR op_eq (pe_cal c1 r1 pass0 (pa_cons (pv 0) (pa_cons pe_int pa_nil))) pe_int (nomark _))
        (pss_cons (ps_set (i := 1) scSmall.nd rfl (.inl rfl) (pe_op op_add pe_int (pe_cal c1 r1 pass0 (pa_cons (pv 0) (pa_cons pe_int pa_nil)))))
        (pss_one (ps_set (i := 2) scSmall.nd rfl (.inl rfl) (pe_cal c1 r1 pass0 (pa_cons (pv 0) (pa_cons pe_int pa_nil)))))) pss_nil)
      (pss_cons (ps_set (i := 3) scSmall.nd rfl (.inl rfl) (pe_op op_add (pe_op op_mul (pv 1) (pe_op op_add (pv 2) pe_int)) pe_int))
      (pss_cons (ps_set (i := 4) scSmall.nd rfl (.inl rfl) (pe_callB (call_max2 rfl) (by rfl) T.max (by decide +kernel) (pa_cons pe_int (pa_cons (pe_op op_sub (pe_op op_add (pv 3) (pe_cal c1 r1 pass0 (pa_cons (pv 0) (pa_cons pe_int pa_nil)))) pe_int) pa_nil))))
      (C8.pss_cut (ps_if (pt_cmpR op_eq (pe_cal c1 r1 pass0 (pa_cons (pv 0) (pa_cons pe_int pa_nil))) pe_int (nomark _)) (pss_one (ps_set (i := 4) scSmall.nd rfl (.inl rfl) (pe_op op_add pe_int (pe_cal c1 r1 pass0 (pa_cons (pv 0) (pa_cons (pv 3) pa_nil)))))) pss_nil)
      (pss_one (ps_ret (pe_lst (pa_cons (pe_op op_add (pv 4) (pv 2)) (pa_cons (pv 4) (pa_cons (pe_cal c3 hr pass0 (pa_cons (pv 0) pa_nil)) (pa_cons (pv 1) pa_nil)))))))))))), ?_⟩
    refine ⟨_, rfl, b, cc, 6, rfl, hB, (by decide), (by decide), fun u x hu0 hu1 hB1 => ⟨_, _, rfl, rfl, ?_⟩⟩
    refine ⟨_, rfl, b, cc, 8, rfl, hB1, (by decide), (by decide), fun sp y hs0 hs1 hB2 => ?_⟩
    rw [upd_upd] at hB2 ⊢
    refine ⟨fun σ' H' => ∃ (u sp : Int) (x : HO), σ' = [some (.ref b), some (.int u), some (.int sp), none, none] ∧ H' = upd H b x ∧ BoxAt H' b cc ∧ 1 ≤ u ∧ u ≤ 60 ∧ 0 ≤ sp ∧ sp ≤ 12, ?_, ?_⟩
    · refine ⟨_, rfl, b, cc, 8, rfl, hB2, (by decide), (by decide), fun g z hg0 hg1 hB3 => ⟨rfl, _, rfl, ?_⟩⟩
      rw [upd_upd] at hB3 ⊢
      refine ite2 (fun _ => ?_) (fun _ => ⟨_, _, _, rfl, rfl, hB3, by omega, by omega, hs0, by omega⟩)
      refine ⟨_, rfl, b, cc, 60, rfl, hB3, (by decide), (by decide), fun u x hu0 hu1 hB4 => ⟨_, _, rfl, rfl, ?_⟩⟩
      rw [upd_upd] at hB4 ⊢
      refine ⟨_, rfl, b, cc, 13, rfl, hB4, (by decide), (by decide), fun sp y hs0 hs1 hB5 => ?_⟩
      rw [upd_upd] at hB5 ⊢
      exact ⟨_, _, _, rfl, rfl, hB5, by omega, by omega, hs0, by omega⟩
    · rintro σ' H' ⟨u, sp, x, rfl, rfl, hB3, hu0, hu1, hs0, hs1⟩
      refine ⟨_, rfl, _, rfl, _, _, rfl, rfl, _, _, rfl, rfl, .inl ⟨by omega, by omega⟩, _, _, rfl, rfl, ?_⟩
      refine ⟨_, rfl, _, rfl, b, cc, 7, rfl, hB3, (by decide), (by decide), fun d z hd0 hd1 hB4 => ⟨_, _, rfl, rfl, _, _, rfl, rfl, _, _, rfl, ?_⟩⟩
      rw [upd_upd] at hB4 ⊢
      have hm0 : 0 ≤ u * (sp + 1) := Int.mul_nonneg (by omega) (by omega)
      have hm1 : u * (sp + 1) ≤ 60 * 13 := Int.mul_le_mul (by omega) (by omega) (by omega) (by decide)
      generalize hE : u * (sp + 1) = E0 at hm0 hm1 ⊢
      refine ⟨fun σ' H' => ∃ (L : Int) (x : HO), σ' = [some (.ref b), some (.int u), some (.int sp), some (.int (E0 + 1)), some (.int L)] ∧ H' = upd H b x ∧ BoxAt H' b cc ∧ 1 ≤ L ∧ L ≤ E0 + 4, ?_, ?_⟩
      · refine ⟨_, rfl, b, cc, 4, rfl, hB4, (by decide), (by decide), fun g z hg0 hg1 hB5 => ⟨rfl, _, rfl, ?_⟩⟩
        rw [upd_upd] at hB5 ⊢
        refine ite2 (fun _ => ?_) (fun _ => ⟨_, _, rfl, rfl, hB5, by split <;> omega, by split <;> omega⟩)
        refine ⟨_, rfl, _, rfl, b, cc, E0 + 1, rfl, hB5, by omega, by omega, fun l x hl0 hl1 hB6 => ⟨_, _, rfl, rfl, ?_⟩⟩
        rw [upd_upd] at hB6 ⊢
        exact ⟨_, _, rfl, rfl, hB6, by omega, by omega⟩
      · rintro σ' H' ⟨L, x, rfl, rfl, hB5, hL0, hL1⟩
        refine ⟨_, rfl, _, rfl, _, _, rfl, rfl, _, rfl, _, rfl, b, cc, rfl, hB5, fun wd v hw0 hw1 hB6 => ⟨_, rfl, (by show 4 ≤ sizeLine; decide), fun p hp => ?_⟩⟩
        rw [upd_upd] at hB6 hp ⊢
        have e1 : L + sp - L = sp := by omega
        exact k v p (L + sp) L wd u hB6 hp hu0 hu1 (by omega) (by omega) hL0 (by rw [e1, hE]; exact hL1) hw0 hw1
end
end SH
/-! ## L2b -/
namespace SH
open PySem L2
/-- a def that is called where an error is being handled -/
structure CalH (P : Program) (w : World) (K : PySem.W.Frag) (mg : Str → Option Value) (base : Heap) (CX : CXT) (k : Nat) (x : Str) (ps : List Str) (sp : Sp) : Prop where
  ex : ∃ f fd, mg x = some (.ref f) ∧ PySem.W.keepIn K (.ref f) = true ∧ Binds K fd ps [] ∧ L2H.FnH P w K mg base CX k f fd ps sp
theorem Df.calH {P : Program} {w : World} {K : PySem.W.Frag} {mg : Str → Option Value} {base : Heap} {CX : CXT} {k : Nat} {x qual : Str} {st : Stmt} {ps : List Str} {sp : Sp} (d : Df K mg x qual st ps) (h : ∀ f fd, Fun K x qual st f fd → L2H.FnH P w K mg base CX k f fd ps sp) : CalH P w K mg base CX k x ps sp := by
  obtain ⟨f, fd, F, e, b⟩ := d.ex
  exact ⟨f, fd, e, F.kp, b, h f fd F⟩
theorem pe_calH {X : Cx} {CX : CXT} {k : Nat} {x : Str} {ps : List Str} {sp : Sp} {E : L2.St → XK} {e : Expr} {es : List Expr} {t : TA} {p pos : Pos} (c : CalH X.prog X.w X.K X.mg X.base CX k x ps sp) (hr : L2H.RoomH k X.A) (hc : L2H.HotC X) (hx : ∀ σ, PassesAt CX X σ (E σ)) (ha : PA X (e :: es) t) (hg : Gl X x := by rfl)
    (hdb : (x == ("__debug__" : Str)) = false := by decide) (he : starEach (e :: es) X.env = (false, eval e X.env) :: starEach es X.env := by rfl) (hpl : (backTo pos (starEach es X.env)).any (·.1) = false := by rfl) : PE X (.Call (.Name x p) (e :: es) [] pos) (tCallS sp E t) := by
  obtain ⟨f, fd, m, kp, b, F⟩ := c.ex
  exact L2H.pe_callH F hr hc hg m kp b hx ha hdb he hpl
def outHO (made : Bool) (n : Int) : HO := .tup [.str (if made then "made" else "stalled"), .int n]
theorem outHO_dp {K : PySem.W.Frag} {H : Hp} {q : Addr} {b : Bool} {n : Int} (h : H q = some (outHO b n)) : Dp K H (.ref q) (.tuple [.str (if b then "made" else "stalled"), .int n]) := .tup (SqT.of h) (.cons (.str _) (.cons (.int _) .nil))
theorem out_shaped (b : Bool) (n : Int) : SeqAt.shaped (.tuple [.str (if b then "made" else "stalled"), .int n]) = true := by
  have e : PyData.strOk (if b then "made" else "stalled") = true := by cases b <;> decide +kernel
  simp [SeqAt.shaped, PyData.canLay0, PyData.canLayAll0, PyData.depth, PyData.depthAll, e]
theorem out_eqv (b : Bool) (n : Int) : PyData.eqv (.tuple [.str (if b then "made" else "stalled"), .int n]) (.tuple [.str (if b then "made" else "stalled"), .int n]) = true := SeqAt.eqv_refl _ (SeqAt.canLay_of_shaped (out_shaped b n))
/-- the classes of the errors, as the law catches them -/
structure StX (K : PySem.W.Frag) (N : Addr) : Prop where
  xf : XfC K N
  no : PySem.W.findIn K (.ref N) "allocation" = some none
  te : PySem.W.exmOne K (.ref N) (.ref N) = some true
def MakePre (st : CS) : Prop := st.live ≠ st.lim ∧ 0 ≤ st.begun ∧ st.begun ≤ 10 ^ 17 ∧ 0 ≤ st.cuts ∧
  (∀ (j : Nat) st1, CutsR j st st1 → (j : Int) < st.cuts → st1.freed.length ≤ 50000 ∧ ∀ k r, st1.works = k :: r → WInv k ∧ k.ent < k.size)
def MakeEnd (st : CS) (j : Nat) (st1 : CS) : Prop := CutsR j st st1 ∧ ((j : Int) = st.cuts ∨ ((j : Int) ≤ st.cuts ∧ st1.works = []))
def spNumber (c : Cs) : Sp := fun vs H Q _ => ∃ (p : Addr) (D : Addr → Prop) (st : CS), vs = [.ref p] ∧ ChIn c H D p st ∧ MakePre st ∧
  ∀ (j : Nat) st1 (H' : Hp) (D' : Addr → Prop) (q : Addr), MakeEnd st j st1 → Keep D H H' → Fresh D D' H → ¬ D' q →
    (st1.free ≠ 0 → ChIn c H' D' p { st1 with free := st1.free - 1, live := st1.live + 1, begun := st.begun + 1 } → H' q = some (outHO true (st.begun + 1)) → Q (.ref q) H') ∧
    (st1.free = 0 → ChIn c H' D' p { st1 with begun := st.begun + 1 } → H' q = some (outHO false (st.begun + 1)) → Q (.ref q) H')
section
variable {P : Program} {w : World} {K : PySem.W.Frag} {mg : Str → Option Value} {base : Heap} {c : Cs} {N : Addr}
theorem takesN0 {X : Cx} : L2N.Takes X (fun _ _ _ _ => False) := fun u s' ⟨_, _, _, _, _, _, _, _, _, _, _, _, _, _, _, _, w⟩ => w.elim
theorem scNumber : FnScope ["_law_heap", "_law_number_here", "raised"] ["_law_heap"] (defScope sNumber) := ⟨rfl, rfl, rfl, by decide +kernel, rfl, by decide +kernel, by decide +kernel⟩
def t_numSuite (N : Addr) : Addr → Value → Option Addr → TS := fun a cls d =>
  tSeq (tIfS (tNot (tB (tCallS spWhole (fun _ _ _ _ => False) (tCons (tXf a cls d N "allocation" (tVar 2)) tNil)))) (tRet (tC .non)) tNext)
    (tRet (tTup (tCons (tC (.str "stalled")) (tCons (tXf a cls d N "allocation" (tVar 2)) tNil))))
theorem ok_number {f : Addr} {fd : FuncData} (F : Fun K "_law_number" "_law_number" sNumber f fd) (T : Glo K mg) (TC : ChT K c.C) (TN : StT P w K mg base N) (TX : StX K N)
    (c1 : CalM P w K mg base (L2N.CX P w) 4 c.C "make" ["self"] (spChMake c N)) (c2 : Cal P w K mg base CX0 1 "_law_whole" ["_law_value"] spWhole) (c3 : CalH P w K mg base CX0 1 "_law_whole" ["_law_value"] spWhole) :
    FnOk P w K mg base CX0 5 f fd ["_law_heap"] (spNumber c) := by
  refine F.ok scNumber (fun vs H Q E h => ?_) (fun cdv A outer s H vs Q E hr h => ?_)
  · obtain ⟨_, _, _, rfl, _⟩ := h
    rfl
  · obtain ⟨p, D, st, rfl, hin, ⟨hlive, hb0, hb1, hc0, hpre⟩, k⟩ := h
    have hr1 := hr.mono (show 1 ≤ 4 by decide)
    refine ⟨_, pss_cons (L2N.ps_try_as (i := 2) (tb := fun W => tAsg (tMeth0S c.C "make" (spChMake c N) (WE W) (tVar 0)) (gName 1)) (ts := t_numSuite N) (Wout := fun _ _ _ _ => False) rfl rfl scNumber.nd rfl rfl ⟨rfl, by decide, .inl TN.at_⟩ takesN0
        (fun W pn xe tk _ => pss_one (ps_set (i := 1) scNumber.nd rfl (.inl rfl) (pe_meth0S (pv 0) TC.cl c1 hr (fun σ => L2N.passAt tk σ))))
        (fun a oe cls d pn hz hf => pss_cons (ps_if (pt_not (pt_val (pe_calH c3 ⟨hr1.dp, hr1.un⟩ (by
            obtain ⟨vs, hd⟩ := hf
            exact ⟨(a, oe), ⟨rfl, vs, hd, hz.2.2 vs hd⟩, List.mem_cons_self⟩) (fun σ _ _ _ _ _ _ x => x.elim) (pa_cons (pe_xf TX.xf TX.no hz.zc hf (pv 2)) pa_nil)))) (pss_one (ps_ret pe_non)) pss_nil)
          (pss_one (ps_ret (pe_tup (pa_cons pe_str (pa_cons (pe_xf TX.xf TX.no hz.zc hf (pv 2)) pa_nil)))))))
      (pss_cons (ps_if (pt_not (pt_val (pe_cal c2 hr1 pass0 (pa_cons (pv 1) pa_nil)))) (pss_one (ps_ret pe_non)) pss_nil)
      (pss_one (ps_ret (pe_tup (pa_cons pe_str (pa_cons (pv 1) pa_nil)))))), ?_⟩
    obtain ⟨dx, s, lw, lf, ws, ts, Dw, x⟩ := id hin
    refine ⟨_, rfl, p, dx, _, rfl, x.ob, rfl, p, D, st, rfl, hin, hlive, hb0, hb1, hc0, hpre, fun j st1 H' D' hC hend hk hf => ⟨fun hz hin' => ?_, fun hz d hin' hd => ?_⟩⟩
    · refine ⟨_, rfl, _, rfl, true, rfl, iteF ⟨_, rfl, (by show 2 ≤ sizeLine; decide), fun q hq => ?_⟩⟩
      exact (k j st1 _ D' q ⟨hC, hend⟩ (fun b o e n => by rw [upd_ne (ne_of_none (hk b o e n) hq)]; exact hk b o e n) hf (fun dq => hin'.dom dq hq)).1 hz (hin'.keep fun b o _ e => by rw [upd_ne (ne_of_none e hq)]; exact e) upd_same
    · refine ⟨true, TX.te, fun _ a0 _ => ?_, fun q => Bool.noConfusion q⟩
      refine ⟨_, rfl, rfl, rfl, d, _, _, rfl, hd, rfl, _, rfl, true, rfl, iteF ?_⟩
      refine ⟨_, rfl, rfl, rfl, d, _, _, rfl, hd, rfl, (by show 2 ≤ sizeLine; decide), fun q hq => ?_⟩
      exact (k j st1 _ D' q ⟨hC, hend⟩ (fun b o e n => by rw [upd_ne (ne_of_none (hk b o e n) hq)]; exact hk b o e n) hf (fun dq => hin'.dom dq hq)).2 hz (hin'.keep fun b o _ e => by rw [upd_ne (ne_of_none e hq)]; exact e) upd_same
end
end SH
/-! ## L2c -/
namespace SH
open PySem L2
def madeCS (s1 : CS) (b : Int) : CS := { s1 with free := s1.free - 1, live := s1.live + 1, begun := b }
def spServed (c : Cs) : Sp := fun vs H Q _ => ∃ (p : Addr) (D : Addr → Prop) (st : CS) (count : Int) (I : Nat → CS → Prop), vs = [.ref p, .int (st.begun + 1), .int count] ∧ ChIn c H D p st ∧ 0 ≤ count ∧ count ≤ 10 ^ 6 ∧ I 0 st ∧
  (∀ (k : Nat) s, (k : Int) < count → I k s → s.begun = st.begun + k ∧ MakePre s ∧ ∀ (j : Nat) s1, MakeEnd s j s1 → s1.free ≠ 0 ∧ I (k + 1) (madeCS s1 (s.begun + 1))) ∧
  ∀ (H' : Hp) (D' : Addr → Prop) s', Keep D H H' → Fresh D D' H → ChIn c H' D' p s' → I count.toNat s' → Q (.bl true) H'
section
variable {P : Program} {w : World} {K : PySem.W.Frag} {mg : Str → Option Value} {base : Heap} {c : Cs}
theorem scServed : FnScope ["_law_heap", "_law_first", "_law_count", "_law_k"] ["_law_heap", "_law_first", "_law_count"] (defScope sServed) := ⟨rfl, rfl, rfl, by decide +kernel, rfl, by decide +kernel, by decide +kernel⟩
theorem ok_served {f : Addr} {fd : FuncData} (F : Fun K "_law_served" "_law_served" sServed f fd) (T : Glo K mg) (c1 : Cal P w K mg base CX0 5 "_law_number" ["_law_heap"] (spNumber c)) :
    FnOk P w K mg base CX0 6 f fd ["_law_heap", "_law_first", "_law_count"] (spServed c) := by
  refine F.ok scServed (fun vs H Q E h => ?_) (fun cdv A outer s H vs Q E hr h => ?_)
  · obtain ⟨_, _, _, _, _, rfl, _⟩ := h
    rfl
  · obtain ⟨p, D, st, count, I, rfl, hin, hc0, hc1, h0, hstep, k⟩ := h
    have hu : (A.deeper (PyProof.Rows.envOfC "_law_served" (defScope sServed) s.heap.objs.size f cdv)).units + 64 < PySem.cLine := by
      have := hr.un
      omega
    refine ⟨_, pss_cons (ps_for PassesOwn.never rfl (pi_range1 (by rfl) T.range (pa_cons (pv 2) pa_nil)) (pg_name (i := 3) scServed.nd rfl (.inl rfl))
        (pss_one (ps_if (pt_cmpR (op_neD hu) (pe_cal c1 hr pass0 (pa_cons (pv 0) pa_nil)) (pe_tup (pa_cons pe_str (pa_cons (pe_op op_add (pv 1) (pv 3)) pa_nil))) (nomark _)) (pss_one (ps_ret pe_bl)) pss_nil)))
      (pss_one (ps_ret pe_bl)), ?_⟩
    refine ⟨_, rfl, _, rfl, (by omega), (by omega), ?_⟩
    refine for_range (lo := 0) (n := _) (fun i σ H' => ∃ (v3 : Option V) (s : CS) (D' : Addr → Prop), σ = [some (.ref p), some (.int (st.begun + 1)), some (.int count), v3] ∧ ChIn c H' D' p s ∧ I i s ∧ Keep D H H' ∧ Fresh D D' H) ⟨none, st, D, rfl, hin, h0, Keep.refl _ _, Fresh.refl _ _⟩ ?_ ?_
    · rintro i σ H' hi ⟨v3, s, D', rfl, hin', hI, hk, hf⟩
      obtain ⟨hb, hpre, hnext⟩ := hstep i s (by omega) hI
      refine ⟨_, rfl, p, D', s, rfl, hin', hpre, fun j st1 H2 D2 q hend hk2 hf2 hq => ⟨fun hz hin2 e2 => ?_, fun hz _ _ => absurd hz (hnext j st1 hend).1⟩⟩
      refine ⟨_, rfl, _, rfl, _, _, rfl, rfl, (by show 2 ≤ sizeLine; decide), fun q2 hq2 => ?_⟩
      have en : s.begun + 1 = st.begun + 1 + (0 + (i : Int)) := by omega
      rw [en] at e2
      have e3 : (upd H2 q2 (outHO true (st.begun + 1 + (0 + (i : Int))))) q = some (outHO true (st.begun + 1 + (0 + (i : Int)))) := by
        rw [upd_ne (ne_of_none e2 hq2)]
        exact e2
      refine ⟨_, _, outHO_dp e3, outHO_dp upd_same, out_shaped true _, out_shaped true _, _, rfl, ?_⟩
      rw [out_eqv]
      refine iteF ⟨some (.int (0 + (i : Int))), _, D2, rfl, hin2.keep fun b o _ e => ?_, (hnext j st1 hend).2, hk.trans hf (hk2.trans hf2 fun b o e _ => ?_), hf.trans hk hf2⟩
      · rw [upd_ne (ne_of_none e hq2)]; exact e
      · rw [upd_ne (ne_of_none e hq2)]; exact e
    · rintro σ H' ⟨v3, s, D', rfl, hin', hI, hk, hf⟩
      have en : (count - 0).toNat = count.toNat := by omega
      exact k H' D' s hk hf hin' (by simpa using hI)
end
end SH
/-! ## L3a -/
namespace SH
open PySem L2
/-! ### the random tree, in plain Lean -/
theorem ixN_nat {n j : Nat} (hj : j < n) : ixN n (j : Int) = some j := by
  unfold ixN
  rw [if_pos (by omega), if_pos (by omega)]
  simp
def cntL (own : List Nat) (n : Nat) : List V := (List.range n).map fun c => nV (kids own c).length
theorem kids_top {own : List Nat} (T : TreeOk own) {c : Nat} (h : own.length ≤ c) : kids own c = [] := by
  unfold kids kidsTo
  rw [List.map_eq_nil_iff, List.filter_eq_nil_iff]
  intro j hj e
  have hj := List.mem_range.mp hj
  have e : own[j]? = some c := by simpa using e
  have := T j c e
  omega
theorem cntL_get {own : List Nat} {n c : Nat} (h : c < n) : (cntL own n)[c]? = some (nV (kids own c).length) := by
  unfold cntL
  rw [List.getElem?_map, List.getElem?_range h]
  rfl
theorem cntL_len (own : List Nat) (n : Nat) : (cntL own n).length = n := by simp [cntL]
theorem cntL_set {own : List Nat} {n c : Nat} (h : c < n) : (cntL own n).set c (nV ((kids own c).length + 1)) = cntL (own ++ [c]) n := by
  apply List.ext_getElem?
  intro i
  by_cases hi : i < n
  · rw [cntL_get hi, List.getElem?_set, kids_snoc]
    by_cases e : c = i
    · subst e
      rw [if_pos rfl, if_pos (by rw [cntL_len]; exact hi), if_pos rfl, List.length_append]
      rfl
    · rw [if_neg e, if_neg e, cntL_get hi]
  · rw [List.getElem?_eq_none (by rw [List.length_set, cntL_len]; omega), List.getElem?_eq_none (by rw [cntL_len]; omega)]
theorem fits_snoc {own : List Nat} {x : Nat} {f : Int} (T : TreeOk own) (F : Fits own f) (hf : 1 ≤ f) (hx : x ≤ own.length) (h : ((kids own x).length : Int) < f) : Fits (own ++ [x]) f := fun c hc => by
  rw [kids_snoc]
  by_cases e : x = c
  · subst e
    rw [if_pos rfl, List.length_append]
    simp only [List.length_singleton]
    omega
  · rw [if_neg e]
    by_cases hl : c ≤ own.length
    · exact F c hl
    · rw [kids_top T (by omega)]
      show (0 : Int) ≤ f
      omega
theorem cntL_nil (n : Nat) : cntL [] n = (List.range n).map fun _ => V.int 0 := by
  unfold cntL
  apply List.map_congr_left
  intro c _
  rw [kids_top treeOk_nil (Nat.zero_le _)]
  rfl
def spTreeOf : Sp := fun vs H Q _ => ∃ (b cc : Addr) (size width : Int), vs = [.ref b, .int size, .int width] ∧ BoxAt H b cc ∧ 1 ≤ size ∧ size ≤ 2000 ∧ 1 ≤ width ∧
  ∀ (H' : Hp) (r : Addr) (own : List Nat), own.length + 1 = size.toNat → TreeOk own → Fits own width → H' r = some (.lst (own.map nV)) → H r = none → BoxAt H' b cc → (∀ a o, a ≠ b → H a = some o → H' a = some o) → Q (.ref r) H'
section
variable {P : Program} {w : World} {K : PySem.W.Frag} {mg : Str → Option Value} {base : Heap}
abbrev nAny : List Str := ["_law_box_here", "_law_size", "_law_width_here", "_law_owners", "_law_kids", "_law_k", "_law_pick", "_law_turn"]
theorem scAny : FnScope nAny ["_law_box_here", "_law_size", "_law_width_here"] (defScope sAnyTree) := ⟨rfl, rfl, rfl, by decide +kernel, rfl, by decide +kernel, by decide +kernel⟩
theorem ok_any {f : Addr} {fd : FuncData} (F : Fun K "_law_any_tree" "_law_any_tree" sAnyTree f fd) (T : Glo K mg) (c1 : Cal P w K mg base CX0 1 "_law_draw" ["_law_box_here", "_law_size"] spDraw) :
    FnOk P w K mg base CX0 2 f fd ["_law_box_here", "_law_size", "_law_width_here"] spTreeOf := by
  refine F.ok scAny (fun vs H Q E h => ?_) (fun cdv A outer s H vs Q E hr h => ?_)
  · obtain ⟨_, _, _, _, rfl, _⟩ := h
    rfl
  · obtain ⟨b, cc, size, width, rfl, hB, hs1, hs2, hw1, k⟩ := h
    refine ⟨_, pss_cons (ps_set (i := 3) scAny.nd rfl (.inl rfl) (pe_lst pa_nil))
      (pss_cons (ps_setLc (i := 4) (te := tC (.int 0)) (own := [("_law_k", 5)]) (g := gName 5) (by rfl) scAny.nd rfl rfl (by rfl) (pi_range1 (by rfl) T.range (pa_cons (pv 1) pa_nil))
        (blkOk_by (own := [("_law_k", 5)]) (N := nAny) (sc := defScope sAnyTree) (by decide +kernel)) (fun _ _ _ _ _ => pg_name (i := 5) scAny.nd rfl (Or.inl rfl)) (fun _ _ _ _ _ => pts_nil) (fun _ _ _ _ _ => pe_int))
      (pss_cons (ps_for PassesOwn.never rfl (pi_range1 (by rfl) T.range (pa_cons (pe_op op_sub (pv 1) pe_int) pa_nil)) (pg_name (i := 5) scAny.nd rfl (.inl rfl))
        (pss_cons (ps_set (i := 6) scAny.nd rfl (.inl rfl) (pe_cal c1 hr pass0 (pa_cons (pv 0) (pa_cons (pe_op op_add (pv 5) pe_int) pa_nil))))
        (C8.pss_cut (ps_for PassesOwn.never rfl (pi_range1 (by rfl) T.range (pa_cons (pe_op op_add (pv 5) pe_int) pa_nil)) (pg_name (i := 7) scAny.nd rfl (.inl rfl))
          (pss_cons (ps_if (pt_cmpR op_lt (pe_ix ix_list (pv 4) (pv 6) (fun _ _ => rfl)) (pv 2) (nomark _)) (pss_one ps_break) pss_nil)
          (pss_one (ps_set (i := 6) scAny.nd rfl (.inl rfl) (pe_op op_mod (pe_callTy call_int1 (by rfl) T.int (by decide +kernel) (pa_cons (pe_op op_add (pv 6) pe_int) pa_nil)) (pe_op op_add (pv 5) pe_int))))))
        (pss_cons (ps_asg (pe_op op_add (pe_ix ix_list (pv 4) (pv 6) (fun _ _ => rfl)) pe_int) (pg_sub (pv 4) (pv 6) set_list))
        (pss_one (ps_expr (pe_bm PySem.F.plainAttrs_list PySem.F.slot_list_append PySem.F.type_list_append mt_append (pv 3) (pa_cons (pv 6) pa_nil))))))))
      (pss_one (ps_ret (pv 3))))), ?_⟩
    obtain ⟨n, rfl⟩ : ∃ n : Nat, size = (n : Int) := ⟨size.toNat, by omega⟩
    have hb := hB.there
    refine ⟨Nat.zero_le _, fun O hO => ⟨_, rfl, _, rfl, (by omega), (by omega), fun C hC => ?_⟩⟩
    have hOC : O ≠ C := ne_of_none upd_same hC
    have hC0 : H C = none := by rw [upd_ne hOC.symm] at hC; exact hC
    refine lc_range (lo := 0) (n := _) (fun i H' => ∃ x, H' = upd (upd H O (.lst [])) C x ∧ H' C = some (.lst ((List.range i).map fun _ => V.int 0))) ⟨_, rfl, upd_same⟩ ?_ ?_
    · rintro i H' hi ⟨x, rfl, hx⟩
      refine ⟨rfl, _, hx, line_big (by rw [List.length_map, List.length_range]; omega), _, upd_upd, ?_⟩
      rw [upd_same, List.range_succ, List.map_append]
      rfl
    · rintro H' ⟨x, rfl, hx⟩
      have en : (n : Int).toNat = n := by omega
      rw [en, ← cntL_nil] at hx
      refine ⟨_, rfl, _, _, rfl, rfl, _, rfl, (by omega), (by omega), ?_⟩
      have nO : ∀ a o, H a = some o → a ≠ O := fun a o e => ne_of_none e hO
      have nC : ∀ a o, H a = some o → a ≠ C := fun a o e => ne_of_none e hC0
      have hB1 : BoxAt (upd (upd H O (.lst [])) C x) b cc := hB.keep fun a o _ e => by rw [upd_ne (nC a o e), upd_ne (nO a o e)]; exact e
      have bO : b ≠ O := fun e => hb.1 (by rw [e]; exact hO)
      have bC : b ≠ C := fun e => hb.1 (by rw [e]; exact hC0)
      have cO : cc ≠ O := fun e => hb.2 (by rw [e]; exact hO)
      have cC : cc ≠ C := fun e => hb.2 (by rw [e]; exact hC0)
      refine for_range (lo := 0) (n := _) (fun i σ H' => ∃ (v5 v6 v7 : Option V) (own : List Nat), σ = [some (.ref b), some (.int n), some (.int width), some (.ref O), some (.ref C), v5, v6, v7] ∧ own.length = i ∧ TreeOk own ∧ Fits own width ∧ H' O = some (.lst (own.map nV)) ∧
          H' C = some (.lst (cntL own n)) ∧ BoxAt H' b cc ∧ ∀ a o, a ≠ b → H a = some o → H' a = some o)
        ⟨none, none, none, [], rfl, rfl, treeOk_nil, fun c hc => by rw [kids_top treeOk_nil (Nat.zero_le _)]; show (0 : Int) ≤ width; omega, by rw [upd_ne hOC]; exact upd_same, hx, hB1, fun a o _ e => by rw [upd_ne (nC a o e), upd_ne (nO a o e)]; exact e⟩ ?_ ?_
      · rintro i σ H1 hi ⟨v5, v6, v7, own, rfl, hl, hT, hF, hO1, hC1, hB1, hk⟩
        have hin : i + 1 < n := by omega
        refine ⟨_, rfl, _, rfl, _, _, rfl, rfl, b, cc, _, rfl, hB1, (by omega), (by omega), fun r y hr0 hr1 hB2 => ?_⟩
        obtain ⟨r, rfl⟩ : ∃ m : Nat, r = (m : Int) := ⟨r.toNat, by omega⟩
        have hO2 : upd H1 b y O = some (.lst (own.map nV)) := by rw [upd_ne bO.symm]; exact hO1
        have hC2 : upd H1 b y C = some (.lst (cntL own n)) := by rw [upd_ne bC.symm]; exact hC1
        have hk2 : ∀ a o, a ≠ b → H a = some o → upd H1 b y a = some o := fun a o na e => by rw [upd_ne na]; exact hk a o na e
        generalize upd H1 b y = H2 at hO2 hC2 hB2 hk2
        refine ⟨fun σ' H' => ∃ (m : Nat) (v7 : Option V), σ' = [some (.ref b), some (.int n), some (.int width), some (.ref O), some (.ref C), some (.int (0 + (i : Int))), some (nV m), v7] ∧ H' = H2 ∧ m ≤ i ∧ ((kids own m).length : Int) < width, ?_, ?_⟩
        · refine ⟨_, rfl, _, _, rfl, rfl, _, rfl, (by omega), (by omega), ?_⟩
          refine for_range (lo := 0) (n := _) (fun t σ H' => ∃ (m : Nat) (v7 : Option V), σ = [some (.ref b), some (.int n), some (.int width), some (.ref O), some (.ref C), some (.int (0 + (i : Int))), some (nV m), v7] ∧ H' = H2 ∧ m ≤ i ∧ t ≤ m) ⟨r, _, rfl, rfl, by omega, Nat.zero_le _⟩ ?_ ?_
          · rintro t σ H' ht ⟨m, v7, rfl, rfl, hm, htm⟩
            refine ⟨_, rfl, _, rfl, C, _, _, _, rfl, rfl, SqL.of hC2, at_of (j := m) rfl (cntL_get (by omega)), _, rfl, _, _, rfl, rfl, _, rfl, ?_⟩
            refine ite2 (fun hlt => ?_) (fun hge => ?_)
            · have hlt := of_decide_eq_true hlt
              exact ⟨m, _, rfl, rfl, hm, hlt⟩
            · have hge : ¬ ((kids own m).length : Int) < width := fun z => hge (decide_eq_true z)
              have hmi : m ≠ i := fun e => by
                rw [e, kids_top hT (by omega)] at hge
                exact hge (by show (0 : Int) < width; omega)
              refine ⟨_, rfl, _, _, rfl, rfl, .inl ⟨_, rfl, _, rfl, _, _, rfl, rfl, _, _, rfl, rfl, (by show (0 : Int) < 0 + (i : Int) + 1; omega), m + 1, some (.int (0 + (t : Int))), ?_, rfl, by omega, by omega⟩⟩
              have e : ((m : Int) + 1) % (0 + (i : Int) + 1) = ((m + 1 : Nat) : Int) := by
                rw [Int.emod_eq_of_lt (by omega) (by omega)]
                omega
              show [some (V.ref b), some (.int n), some (.int width), some (.ref O), some (.ref C), some (.int (0 + (i : Int))), some (.int (((m : Int) + 1) % (0 + (i : Int) + 1))), some (.int (0 + (t : Int)))] = _
              rw [e]
              rfl
          · rintro σ H' ⟨m, v7, rfl, rfl, hm, htm⟩
            omega
        · rintro σ' H' ⟨m, v7, rfl, rfl, hm, hlt⟩
          have hmn : m < n := by omega
          refine ⟨_, rfl, _, rfl, C, _, _, _, rfl, rfl, SqL.of hC2, at_of (j := m) rfl (cntL_get hmn), _, _, rfl, rfl, _, rfl, _, rfl, C, _, _, m, rfl, rfl, hC2, ?_, ?_⟩
          · rw [cntL_len]
            exact ixN_nat hmn
          · have e : (cntL own n).set m (V.int (((kids own m).length : Int) + 1)) = cntL (own ++ [m]) n := cntL_set hmn
            rw [e]
            have hO3 : upd H' C (.lst (cntL (own ++ [m]) n)) O = some (.lst (own.map nV)) := by rw [upd_ne hOC]; exact hO2
            refine ⟨_, rfl, .inl ⟨rfl, _, SqL.of hO3⟩, _, rfl, O, _, _, rfl, rfl, hO3, line_big (by rw [List.length_map]; omega), ?_⟩
            refine ⟨_, _, _, own ++ [m], rfl, by rw [List.length_append]; simp; omega, treeOk_snoc hT (by omega), fits_snoc hT hF hw1 (by omega) hlt, by rw [upd_same, List.map_append]; rfl, ?_, ?_, fun a o na e => ?_⟩
            · rw [upd_ne hOC.symm, upd_same]
            · exact hB2.keep fun a o ha e => by
                rcases ha with rfl | rfl
                · rw [upd_ne bO, upd_ne bC]; exact e
                · rw [upd_ne cO, upd_ne cC]; exact e
            · rw [upd_ne (nO a o e), upd_ne (nC a o e)]
              exact hk2 a o na e
      · rintro σ H1 ⟨v5, v6, v7, own, rfl, hl, hT, hF, hO1, hC1, hB1, hk⟩
        exact ⟨_, rfl, k H1 O own (by omega) hT hF hO1 hO hB1 hk⟩
end
end SH
/-! ## L3b -/
namespace SH
open PySem L2
section
variable {P : Program} {w : World} {K : PySem.W.Frag} {mg : Str → Option Value} {base : Heap}
abbrev nTree : List Str := ["_law_box_here", "_law_size", "_law_width_here", "_law_form", "_law_wide", "_law_k"]
theorem scTree : FnScope nTree ["_law_box_here", "_law_size", "_law_width_here"] (defScope sTree) := ⟨rfl, rfl, rfl, by decide +kernel, rfl, by decide +kernel, by decide +kernel⟩
theorem ok_tree {f : Addr} {fd : FuncData} (F : Fun K "_law_tree" "_law_tree" sTree f fd) (T : Glo K mg) (c1 : Cal P w K mg base CX0 1 "_law_draw" ["_law_box_here", "_law_size"] spDraw)
    (c2 : Cal P w K mg base CX0 2 "_law_any_tree" ["_law_box_here", "_law_size", "_law_width_here"] spTreeOf) : FnOk P w K mg base CX0 3 f fd ["_law_box_here", "_law_size", "_law_width_here"] spTreeOf := by
  refine F.ok scTree (fun vs H Q E h => ?_) (fun cdv A outer s H vs Q E hr h => ?_)
  · obtain ⟨_, _, _, _, rfl, _⟩ := h
    rfl
  · obtain ⟨b, cc, size, width, rfl, hB, hs1, hs2, hw1, k⟩ := h
    have hr1 := hr.mono (show 1 ≤ 2 by decide)
    refine ⟨_, pss_cons (ps_set (i := 3) scTree.nd rfl (.inl rfl) (pe_cal c1 hr1 pass0 (pa_cons (pv 0) (pa_cons pe_int pa_nil))))
      (pss_cons (ps_if (pt_cmpR op_lt (pv 3) pe_int (nomark _)) (pss_one (ps_ret (pe_lc (te := tVar 5) (own := [("_law_k", 5)]) (g := gName 5) (by rfl) scTree.nd (pi_range1 (by rfl) T.range (pa_cons (pe_op op_sub (pv 1) pe_int) pa_nil))
        (blkOk_by (own := [("_law_k", 5)]) (N := nTree) (sc := defScope sTree) (by decide +kernel)) (fun _ _ _ _ _ => pg_name (i := 5) scTree.nd rfl (Or.inl rfl)) (fun _ _ _ _ _ => pts_nil) (fun _ _ _ _ _ => pv 5)))) pss_nil)
      (pss_cons (ps_if (PW.pt (pw_or (pt_cmpR op_eq (pv 3) pe_int (nomark _)) (pw_or1 (pt_cmpR op_gt (pv 1) pe_int (nomark _)))))
        (pss_cons (ps_set (i := 4) scTree.nd rfl (.inr rfl) (pe_callB (call_min2 rfl) (by rfl) T.min (by decide +kernel) (pa_cons (pv 2) (pa_cons (pe_op op_add pe_int (pe_cal c1 hr1 pass0 (pa_cons (pv 0) (pa_cons pe_int pa_nil)))) pa_nil))))
        (pss_one (ps_ret (pe_lc (te := tOp (rI (fun _ j => 0 < j ∧ j < 1073741824) fun i j => .int (i / j)) (tVar 5) (tVar 4)) (own := [("_law_k", 5)]) (g := gName 5) (by rfl) scTree.nd (pi_range1 (by rfl) T.range (pa_cons (pe_op op_sub (pv 1) pe_int) pa_nil))
        (blkOk_by (own := [("_law_k", 5)]) (N := nTree) (sc := defScope sTree) (by decide +kernel)) (fun _ _ _ _ _ => pg_name (i := 5) scTree.nd rfl (Or.inl rfl)) (fun _ _ _ _ _ => pts_nil) (fun _ _ _ _ _ => pe_op op_fdiv (pv 5) (pv 4)))))) pss_nil)
      (pss_one (ps_ret (pe_cal c2 hr pass0 (pa_cons (pv 0) (pa_cons (pv 1) (pa_cons (pv 2) pa_nil)))))))), ?_⟩
    obtain ⟨n, rfl⟩ : ∃ n : Nat, size = (n : Int) := ⟨size.toNat, by omega⟩
    refine ⟨_, rfl, b, cc, 5, rfl, hB, (by decide), (by decide), fun r y hr0 hr1 hB1 => ?_⟩
    have hk1 : ∀ a o, a ≠ b → H a = some o → upd H b y a = some o := fun a o na e => by rw [upd_ne na]; exact e
    have hfree : ∀ {z : HO} {a}, upd H b z a = none → H a = none := fun {z a} e => by
      by_cases q : a = b
      · rw [q, upd_same] at e; cases e
      · rw [upd_ne q] at e; exact e
    -- the list of a comprehension is handed back
    have fin : ∀ (z : HO) (D : Addr) (x : HO) (own : List Nat), BoxAt (upd H b z) b cc → upd H b z D = none → upd (upd H b z) D x D = some (.lst (own.map nV)) → own.length + 1 = n → TreeOk own → Fits own width → Q (.ref D) (upd (upd H b z) D x) := fun z D x own hBz hD hx hl hT hF =>
      k _ D own (by omega) hT hF hx (hfree hD) (hBz.keep fun a o _ e => by rw [upd_ne (ne_of_none e hD)]; exact e) (fun a o na e => by rw [upd_ne (ne_of_none e (hfree hD)), upd_ne na]; exact e)
    refine ⟨_, rfl, _, _, rfl, rfl, _, rfl, ?_⟩
    refine ite2 (fun _ => ?_) (fun _ => ?_)
    · refine ⟨_, rfl, _, _, rfl, rfl, _, rfl, (by omega), (by omega), fun D hD => ?_⟩
      refine lc_range (lo := 0) (n := _) (fun i H' => ∃ x, H' = upd (upd H b y) D x ∧ H' D = some (.lst ((List.range i).map nV))) ⟨_, rfl, upd_same⟩ ?_ ?_
      · rintro i H' hi ⟨x, rfl, hx⟩
        refine ⟨rfl, _, rfl, _, hx, line_big (by rw [List.length_map, List.length_range]; omega), _, upd_upd, ?_⟩
        rw [upd_same, List.range_succ, List.map_append]
        have e : V.int (0 + (i : Int)) = nV i := by unfold nV; rw [Int.zero_add]
        rw [e]
        rfl
      · rintro H' ⟨x, rfl, hx⟩
        exact fin y D x _ hB1 hD hx (by rw [List.length_range]; omega) (treeOk_chain _) (fits_chain _ hw1)
    · have rest : (tSeq (tAsg (tCB (fun xs H Q => ∃ i j, xs = [.int i, .int j] ∧ Q (.int (if j < i then j else i)) H) (tCons (tVar 2) (tCons (tOp (rI0 fun i j => .int (i + j)) (tC (.int 1)) (tCall spDraw [] E0 (tCons (tVar 0) (tCons (tC (.int 4)) tNil)))) tNil))) (gName 4))
          (tRet (tLc (iRng1 (tCons (tOp (rI0 fun i j => .int (i - j)) (tVar 1) (tC (.int 1))) tNil)) (gName 5) tYes (tOp (rI (fun _ j => 0 < j ∧ j < 1073741824) fun i j => .int (i / j)) (tVar 5) (tVar 4)) [5]))) { nx := fun _ H' => Q .non H', rt := Q } [some (.ref b), some (.int n), some (.int width), some (.int r), none, none] (upd H b y) := by
        refine ⟨_, rfl, _, rfl, b, cc, 4, rfl, hB1, (by decide), (by decide), fun u z hu0 hu1 hB2 => ⟨_, _, rfl, rfl, _, _, rfl, ?_⟩⟩
        rw [upd_upd] at hB2 ⊢
        obtain ⟨wd, hwd, hwd0, hwdw, hwd5⟩ : ∃ wd : Nat, (if 1 + u < width then 1 + u else width) = (wd : Int) ∧ 0 < wd ∧ (wd : Int) ≤ width ∧ wd < 5 := by
          refine ⟨(if 1 + u < width then 1 + u else width).toNat, ?_, ?_, ?_, ?_⟩ <;> split <;> omega
        rw [hwd]
        refine ⟨_, rfl, _, _, rfl, rfl, _, rfl, (by omega), (by omega), fun D hD => ?_⟩
        refine lc_range (lo := 0) (n := _) (fun i H' => ∃ x, H' = upd (upd H b z) D x ∧ H' D = some (.lst ((divT i wd).map nV))) ⟨_, rfl, upd_same⟩ ?_ ?_
        · rintro i H' hi ⟨x, rfl, hx⟩
          refine ⟨rfl, _, rfl, _, rfl, _, _, rfl, rfl, ⟨(by show (0 : Int) < (wd : Int); omega), (by show (wd : Int) < 1073741824; omega)⟩, _, hx, line_big (by rw [List.length_map, div_len]; omega), _, upd_upd, ?_⟩
          rw [upd_same]
          have e : (fun i j : Int => V.int (i / j)) (0 + (i : Int)) (wd : Int) = nV (i / wd) := by unfold nV; rw [Int.zero_add]; rfl
          unfold divT
          rw [e, List.range_succ, List.map_append, List.map_append]
          rfl
        · rintro H' ⟨x, rfl, hx⟩
          exact fin z D x _ hB2 hD hx (by rw [div_len]; omega) (treeOk_div _ _) (fits_div _ _ hwd0 hwdw)
      refine ⟨_, rfl, rfl, _, rfl, ?_⟩
      refine ite2 (fun _ => rest) (fun _ => ?_)
      refine ⟨_, rfl, _, _, rfl, rfl, _, rfl, ?_⟩
      refine ite2 (fun _ => rest) (fun hle => ?_)
      refine ⟨_, rfl, _, rfl, _, rfl, b, cc, n, width, rfl, hB1, hs1, hs2, hw1, fun H2 q own hl hT hF hq hn hB2 hk2 => ?_⟩
      exact k H2 q own hl hT hF hq (hfree hn) hB2 (fun a o na e => hk2 a o na (hk1 a o na e))
end
end SH
/-! ## L4a -/
namespace SH
open PySem L2
theorem CutsR.works_le {n : Nat} {s s' : CS} (C : CutsR n s s') : s'.works.length ≤ s.works.length := by
  induction C with
  | nil => exact Nat.le_refl _
  | snoc h q ih =>
    obtain ⟨k, k', r, ended, hw, _, _, rfl⟩ := q.cut
    refine Nat.le_trans ?_ ih
    dsimp only
    rw [hw]
    split
    · simp
    · simp
structure Sv (cells lim fields cuts live begun : Int) (wl : Nat) (s : CS) : Prop where
  good : Good s s.cuts
  e1 : s.cells = cells
  e2 : s.lim = lim
  e3 : s.fields = fields
  e4 : s.cuts = cuts
  e5 : s.live = live
  e6 : s.begun = begun
  wl : s.works.length ≤ wl
section
variable {cells lim fields cuts live begun : Int} {wl : Nat} {s : CS}
theorem Sv.freed (S : Sv cells lim fields cuts live begun wl s) : (s.freed.length : Int) ≤ begun := by
  have h1 := S.good.book
  have h2 := S.good.l0
  have h3 := owed_nonneg (l := s.works) (fun x hx => (S.good.inv x hx).1)
  have := S.e6
  omega
theorem Sv.make (S : Sv cells lim fields cuts live begun wl s) (hl : live < lim) (hb : begun ≤ 2000) : MakePre s ∧ ∀ (j : Nat) s1, MakeEnd s j s1 → s1.free ≠ 0 ∧ Sv cells lim fields cuts (live + 1) (begun + 1) wl (madeCS s1 (s.begun + 1)) := by
  obtain ⟨G, e1, e2, e3, e4, e5, e6, w⟩ := S
  have hc := G.c1
  have hbegun : 0 ≤ s.begun := by
    have h1 := G.book
    have h2 := G.l0
    have h3 := owed_nonneg (l := s.works) (fun x hx => (G.inv x hx).1)
    omega
  have cutG : ∀ (j : Nat) s1, CutsR j s s1 → Good s1 (s.cuts - j) := fun j s1 C => by
    have e : s.cuts = s.cuts - (j : Int) + (j : Int) := by omega
    exact Good.cuts C (e ▸ G)
  refine ⟨⟨by omega, hbegun, by omega, by omega, fun j st1 C hj => ?_⟩, fun j s1 E => ?_⟩
  · have G1 := cutG j st1 C
    have hs := C.same
    have h1 := G1.book
    have h2 := G1.l0
    have h3 := owed_nonneg (l := st1.works) (fun x hx => (G1.inv x hx).1)
    refine ⟨by omega, fun k r hw => ?_⟩
    have h4 := G1.inv k (by rw [hw]; exact List.mem_cons_self)
    exact ⟨h4.1, h4.2.2⟩
  · obtain ⟨C, hend⟩ := E
    have G1 := cutG j s1 C
    have hs := C.same
    obtain ⟨h1, G2⟩ := G1.serves (by omega) (by
      rcases hend with h | h
      · exact .inl (by omega)
      · exact .inr h.2) (by omega)
    refine ⟨by omega, ?_⟩
    have e : madeCS s1 (s.begun + 1) = { s1 with free := s1.free - 1, live := s1.live + 1, begun := s1.begun + 1 } := by
      unfold madeCS
      rw [hs.2.2.2.2.2.1]
    rw [e]
    exact ⟨G2, by dsimp only; omega, by dsimp only; omega, by dsimp only; omega, by dsimp only; omega, by dsimp only; omega, by dsimp only; omega, Nat.le_trans C.works_le w⟩
theorem Sv.drop1 (S : Sv cells lim fields cuts live begun wl s) (h : 1 ≤ live) : Sv cells lim fields cuts (live - 1) begun (wl + 1) { s with free := s.free + 1, live := s.live - 1, drops := s.drops + 1, freed := s.freed ++ [(s.drops, 0)] } := by
  obtain ⟨G, e1, e2, e3, e4, e5, e6, w⟩ := S
  exact ⟨G.drop1 (by omega), e1, e2, e3, e4, by dsimp only; omega, e6, by dsimp only; omega⟩
theorem Sv.dropN {k : Wk} (S : Sv cells lim fields cuts live begun wl s) (h : (k.size : Int) ≤ live) (hk : WInv k) (he : k.ent = 1) (hz : k.cnt = 0) : Sv cells lim fields cuts (live - k.size) begun (wl + 1) { s with live := s.live - k.size, drops := s.drops + 1, works := s.works ++ [k] } := by
  obtain ⟨G, e1, e2, e3, e4, e5, e6, w⟩ := S
  exact ⟨G.dropN (by omega) hk he hz, e1, e2, e3, e4, by dsimp only; omega, e6, by dsimp only; rw [List.length_append, List.length_singleton]; omega⟩
theorem Sv.more {wl' : Nat} (S : Sv cells lim fields cuts live begun wl s) (h : wl ≤ wl') : Sv cells lim fields cuts live begun wl' s := ⟨S.good, S.e1, S.e2, S.e3, S.e4, S.e5, S.e6, Nat.le_trans S.wl h⟩
end
end SH
/-! ## L4b -/
namespace SH
open PySem L2
/-- a test that writes nothing: its truth is told once -/
theorem pt_pure {X : Cx} {e : Expr} {t : TT} (h : PT X e t) : PT X e (fun σ H Q => ∃ c : Bool, t σ H (fun c' H' => c' = c ∧ H' = H) ∧ Q c H) := by
  refine ⟨fun pins s σ H Q I hw => ?_⟩
  obtain ⟨c, hw, q⟩ := hw
  refine thn (h.run pins s σ H _ I hw) fun c' s' hs => ?_
  obtain ⟨H1, I1, e1, e2⟩ := hs
  subst e1 e2
  exact ⟨_, I1, q⟩
theorem made_heap {c : Cs} {t : TA} {σ : L2.St} {H : Hp} {Q : VK} {cells lim fields cuts : Int} (ht : ∀ R : List V → Hp → Prop, R [.int cells, .int lim, .int fields, .int cuts] H → t σ H R) (h1 : 1 ≤ lim) (h2 : lim ≤ cells) (h3 : cells ≤ 2000) (h4 : 1 ≤ fields) (h5 : fields ≤ 10 ^ 30) (h6 : 1 ≤ cuts) (h7 : cuts ≤ 10 ^ 18)
    (k : ∀ (H2 : Hp) (D : Addr → Prop) (p : Addr), ChIn c H2 D p ⟨cells, lim, fields, cuts, cells, 0, 0, 0, [], []⟩ → (∀ a o, H a = some o → H2 a = some o) → (∀ a, D a → H a = none) → Q (.ref p) H2) :
    tMake c.C (spChInit c) [] E0 (tCons (tMake c.S (spSetInit c.S) [] E0 t) tNil) σ H Q := by
  refine ht _ (fun x dx hx hdx hne => ?_)
  refine ⟨x, dx, cells, lim, fields, cuts, rfl, upd_same, h1, h2, by omega, h4, h5, h6, by omega, fun H1 hset hk => ⟨rfl, ?_⟩⟩
  have s1 : ∀ a o, H a = some o → H1 a = some o := fun a o e => hk a o (by rw [upd_ne (ne_of_none e hx), upd_ne (ne_of_none e hdx)]; exact e) (ne_of_none e hx)
  have free1 : ∀ a, H1 a = none → H a = none := fun a e => by
    cases q : H a with
    | none => rfl
    | some o => rw [s1 a o q] at e; cases e
  refine fun p dp hp hdp hpe => ?_
  obtain ⟨ds, hs⟩ := hset
  have hxp : x ≠ p := ne_of_none hs hp
  have hxd : x ≠ dp := ne_of_none hs hdp
  refine ⟨p, dp, x, cells, lim, fields, cuts, rfl, upd_same, ⟨ds, by rw [upd_ne hxp, upd_ne hxd]; exact hs⟩, hxp.symm, h3, fun H2 D hin hk2 hD => ⟨rfl, k H2 D p hin (fun a o e => ?_) (fun a da => ?_)⟩⟩
  · have e1 := s1 a o e
    exact hk2 a o (by rw [upd_ne (ne_of_none e1 hp), upd_ne (ne_of_none e1 hdp)]; exact e1) (ne_of_none e1 hp)
  · rcases hD a da with rfl | rfl | e
    · exact free1 _ hp
    · exact hx
    · by_cases q : a = p
      · subst q; exact free1 _ hp
      · rw [upd_ne q] at e
        by_cases q2 : a = dp
        · subst q2; exact free1 _ hdp
        · rw [upd_ne q2] at e; exact free1 _ e
theorem made_asg {c : Cs} {t : TA} {σ : L2.St} {H : Hp} {u : TS} {D0 : Ends} {i : Nat} {cells lim fields cuts : Int} (ht : ∀ R : List V → Hp → Prop, R [.int cells, .int lim, .int fields, .int cuts] H → t σ H R) (h1 : 1 ≤ lim) (h2 : lim ≤ cells) (h3 : cells ≤ 2000) (h4 : 1 ≤ fields) (h5 : fields ≤ 10 ^ 30) (h6 : 1 ≤ cuts) (h7 : cuts ≤ 10 ^ 18)
    (k : ∀ (H2 : Hp) (D : Addr → Prop) (p : Addr), ChIn c H2 D p ⟨cells, lim, fields, cuts, cells, 0, 0, 0, [], []⟩ → (∀ a o, H a = some o → H2 a = some o) → (∀ a, D a → H a = none) → u D0 (σ.set i (some (.ref p))) H2) :
    tSeq (tAsg (tMake c.C (spChInit c) [] E0 (tCons (tMake c.S (spSetInit c.S) [] E0 t) tNil)) (gName i)) u D0 σ H := by
  unfold tSeq tAsg
  exact made_heap ht h1 h2 h3 h4 h5 h6 h7 fun H2 D p a b d => k H2 D p a b d
/-- a heap of the law's beside the box -/
structure Ft (c : Cs) (H : Hp) (b cc p : Addr) (H' : Hp) (D : Addr → Prop) (st : CS) : Prop where
  hin : ChIn c H' D p st
  box : BoxAt H' b cc
  fr : ∀ a o, a ≠ b → H a = some o → H' a = some o
  nd : ∀ a, D a → H a = none
section
variable {c : Cs} {H H' H2 : Hp} {b cc p : Addr} {D D2 : Addr → Prop} {st st2 : CS}
theorem Ft.draw (x : Ft c H b cc p H' D st) (hb : H b ≠ none) {o : HO} (h : BoxAt (upd H' b o) b cc) : Ft c H b cc p (upd H' b o) D st :=
  ⟨x.hin.keep fun a o da e => by rw [upd_ne (fun z => hb (by rw [← z]; exact x.nd a da))]; exact e, h, fun a o na e => by rw [upd_ne na]; exact x.fr a o na e, x.nd⟩
theorem Ft.same (x : Ft c H b cc p H' D st) (hb : H b ≠ none) (h : BoxAt H2 b cc) (k : ∀ a o, a ≠ b → H' a = some o → H2 a = some o) : Ft c H b cc p H2 D st :=
  ⟨x.hin.keep fun a o da e => k a o (fun z => hb (by rw [← z]; exact x.nd a da)) e, h, fun a o na e => k a o na (x.fr a o na e), x.nd⟩
theorem Ft.step (x : Ft c H b cc p H' D st) (hb : H b ≠ none) (hc : H cc ≠ none) (k : Keep D H' H2) (f : Fresh D D2 H') (h : ChIn c H2 D2 p st2) : Ft c H b cc p H2 D2 st2 := by
  refine ⟨h, x.box.keep fun a o ha e => k a o e fun da => ?_, fun a o na e => k a o (x.fr a o na e) fun da => ?_, fun a da => ?_⟩
  · have := x.nd a da
    rcases ha with rfl | rfl
    · exact hb this
    · exact hc this
  · rw [x.nd a da] at e; cases e
  · rcases f a da with q | q
    · exact x.nd a q
    · cases e : H a with
      | none => rfl
      | some o =>
        exfalso
        by_cases z : a = b
        · subst z
          exact x.box.there.1 q
        · rw [x.fr a o z e] at q; cases q
end
def spSurvives : Sp := fun vs H Q _ => ∃ (b cc q : Addr) (cells lim fields cuts : Int), vs = [.ref b, .ref q] ∧ BoxAt H b cc ∧ H q = some (.lst [.int cells, .int lim, .int fields, .int cuts]) ∧ q ≠ b ∧ 1 ≤ lim ∧ lim ≤ cells ∧ cells ≤ 2000 ∧ 1 ≤ fields ∧ fields ≤ 10 ^ 30 ∧ 1 ≤ cuts ∧ cuts ≤ 10 ^ 6 ∧
  lim ≤ cuts * (cells - lim + 1) + 1 ∧ ∀ H', (∀ a o, a ≠ b → H a = some o → H' a = some o) → BoxAt H' b cc → Q (.bl true) H'
section
variable {P : Program} {w : World} {K : PySem.W.Frag} {mg : Str → Option Value} {base : Heap} {c : Cs}
abbrev nSurv : List Str := ["_law_box_here", "_law_numbers", "_law_heap", "_law_held", "_law_turns", "_law_steps", "_law_step", "_law_kind", "_law_count", "_law_size"]
theorem scSurv : FnScope nSurv ["_law_box_here", "_law_numbers"] (defScope sSurvives) := ⟨rfl, rfl, rfl, by decide +kernel, rfl, by decide +kernel, by decide +kernel⟩
theorem ok_survives {f : Addr} {fd : FuncData} (F : Fun K "_law_survives" "_law_survives" sSurvives f fd) (T : Glo K mg) (TC : ChT K c.C)
    (cd : Cal P w K mg base CX0 1 "_law_draw" ["_law_box_here", "_law_size"] spDraw) (cw : Cal P w K mg base CX0 1 "_law_whole" ["_law_value"] spWhole) (ct : Cal P w K mg base CX0 3 "_law_tree" ["_law_box_here", "_law_size", "_law_width_here"] spTreeOf)
    (cs : Cal P w K mg base CX0 6 "_law_served" ["_law_heap", "_law_first", "_law_count"] (spServed c)) (ck : CalK P w K mg base CX0 1 c.C "ChildrenHeap" ["self", "setting"] (spChInit c)) (ckS : CalK P w K mg base CX0 3 c.S "Setting" ["self", "cells", "live", "fields", "cuts"] (spSetInit c.S))
    (cm : CalM P w K mg base CX0 7 c.C "drop" ["self", "tree"] (spChDrop c)) (cl : CalP P w K mg base CX0 1 c.C "live_count" (spChLive c)) :
    FnOk P w K mg base CX0 8 f fd ["_law_box_here", "_law_numbers"] spSurvives := by
  refine F.ok scSurv (fun vs H Q E h => ?_) (fun cdv A outer s H vs Q E hr h => ?_)
  · obtain ⟨_, _, _, _, _, _, _, rfl, _⟩ := h
    rfl
  · obtain ⟨b, cc, q, cells, lim, fields, cuts, rfl, hB, hq, hqb, h1, h2, h3, h4, h5, h6, h7, hthr, k⟩ := h
    have r1 := hr.mono (show 1 ≤ 7 by decide)
    have r2 := hr.mono (show 1 + 1 ≤ 7 by decide)
    have r3 := hr.mono (show 3 ≤ 7 by decide)
    have r4 := hr.mono (show 3 + 1 ≤ 7 by decide)
    have r6 := hr.mono (show 6 ≤ 7 by decide)
    refine ⟨_, pss_cons (ps_set (i := 2) scSurv.nd rfl (.inl rfl) (pe_calK ck r2 pass0 (pa_cons (pe_calK ckS r4 pass0 (pa_cons (pe_ix ix_seq (pv 1) pe_int (fun _ _ => rfl)) (pa_cons (pe_ix ix_seq (pv 1) pe_int (fun _ _ => rfl))
        (pa_cons (pe_ix ix_seq (pv 1) pe_int (fun _ _ => rfl)) (pa_cons (pe_ix ix_seq (pv 1) pe_int (fun _ _ => rfl)) pa_nil))))) pa_nil)))
      (pss_cons (ps_set (i := 3) scSurv.nd rfl (.inl rfl) pe_int)
      (pss_cons (ps_set (i := 4) scSurv.nd rfl (.inl rfl) pe_int)
      (pss_cons (ps_set (i := 5) scSurv.nd rfl (.inl rfl) (pe_op op_add pe_int (pe_cal cd r1 pass0 (pa_cons (pv 0) (pa_cons pe_int pa_nil)))))
      (C8.pss_cut (ps_if (pt_cmpR op_eq (pe_cal cd r1 pass0 (pa_cons (pv 0) (pa_cons pe_int pa_nil))) pe_int (nomark _)) (pss_one (ps_set (i := 5) scSurv.nd rfl (.inl rfl) (pe_op op_add (pv 5) (pe_cal cd r1 pass0 (pa_cons (pv 0) (pa_cons pe_int pa_nil)))))) pss_nil)
      (pss_cons (ps_for PassesOwn.never rfl (pi_range1 (by rfl) T.range (pa_cons (pv 5) pa_nil)) (pg_name (i := 6) scSurv.nd rfl (.inl rfl))
        (pss_cons (ps_set (i := 7) scSurv.nd rfl (.inl rfl) (pe_cal cd r1 pass0 (pa_cons (pv 0) (pa_cons pe_int pa_nil))))
        (pss_one (ps_if (pt_pure (PW.pt (pw_or (pt_cmpR op_lt (pv 7) pe_int (nomark _)) (pw_or1 (pt_cmpR op_eq (pv 3) pe_int (nomark _))))))
          (pss_cons (ps_set (i := 8) scSurv.nd rfl (.inl rfl) (pe_op op_sub (pe_ix ix_seq (pv 1) pe_int (fun _ _ => rfl)) (pv 3)))
          (C8.pss_cut (ps_if (pt_cmpR op_eq (pv 7) pe_int (nomark _)) (pss_one (ps_set (i := 8) scSurv.nd rfl (.inl rfl) (pe_callB (call_min2 rfl) (by rfl) T.min (by decide +kernel)
            (pa_cons (pv 8) (pa_cons (pe_op op_add pe_int (pe_cal cd r1 pass0 (pa_cons (pv 0) (pa_cons (pe_op op_add (pe_op op_sub (pe_ix ix_seq (pv 1) pe_int (fun _ _ => rfl)) (pe_ix ix_seq (pv 1) pe_int (fun _ _ => rfl))) pe_int) pa_nil)))) pa_nil))))) pss_nil)
          (pss_cons (ps_set (i := 8) scSurv.nd rfl (.inl rfl) (pe_callB (call_min2 rfl) (by rfl) T.min (by decide +kernel) (pa_cons (pv 8) (pa_cons (pe_op op_sub pe_int (pv 4)) pa_nil))))
          (pss_cons (ps_if (pt_not (pt_val (pe_cal cs r6 pass0 (pa_cons (pv 2) (pa_cons (pe_op op_add (pv 4) pe_int) (pa_cons (pv 8) pa_nil)))))) (pss_one (ps_ret pe_bl)) pss_nil)
          (pss_cons (ps_set (i := 4) scSurv.nd rfl (.inl rfl) (pe_op op_add (pv 4) (pv 8)))
          (pss_one (ps_set (i := 3) scSurv.nd rfl (.inl rfl) (pe_op op_add (pv 3) (pv 8)))))))))
          (pss_cons (ps_set (i := 9) scSurv.nd rfl (.inl rfl) (pv 3))
          (C8.pss_cut (ps_if (pt_cmpR op_eq (pv 7) pe_int (nomark _)) (pss_one (ps_set (i := 9) scSurv.nd rfl (.inl rfl) (pe_op op_add pe_int (pe_cal cd r1 pass0 (pa_cons (pv 0) (pa_cons (pv 3) pa_nil)))))) pss_nil)
          (pss_cons (ps_expr (pe_calM (pv 2) TC.cl cm hr pass0 (pa_cons (pe_cal ct r3 pass0 (pa_cons (pv 0) (pa_cons (pv 9) (pa_cons (pe_ix ix_seq (pv 1) pe_int (fun _ _ => rfl)) pa_nil)))) pa_nil)))
          (pss_one (ps_set (i := 3) scSurv.nd rfl (.inl rfl) (pe_op op_sub (pv 3) (pv 9)))))))))))
      (pss_one (ps_ret (pe_and (pe_cmpR op_eq (pe_calP (pv 2) TC.cl cl r2 pass0) (pv 3) (nomark _)) (pe_one (pe_cal cw r1 pass0 (pa_cons (pe_calP (pv 2) TC.cl cl r2 pass0) pa_nil))))))))))), ?_⟩
    have hb := hB.there.1
    have hcc := hB.there.2
    have hN : ∀ {H' : Hp}, (∀ a o, a ≠ b → H a = some o → H' a = some o) → NumsAt K H' q cells lim fields cuts := fun fr => .inl (SqL.of (fr q _ hqb hq))
    have hN0 : NumsAt K H q cells lim fields cuts := .inl (SqL.of hq)
    refine made_asg (fun R hR => ⟨_, rfl, hN0.ix 0 rfl rfl ⟨_, rfl, hN0.ix 1 rfl rfl ⟨_, rfl, hN0.ix 2 rfl rfl ⟨_, rfl, hN0.ix 3 rfl rfl hR⟩⟩⟩⟩) h1 h2 h3 h4 h5 h6 (by omega) (fun H2 D p hin hs hD => ?_)
    have ft0 : Ft c H b cc p H2 D ⟨cells, lim, fields, cuts, cells, 0, 0, 0, [], []⟩ := ⟨hin, hB.keep fun a o _ e => hs a o e, fun a o _ e => hs a o e, hD⟩
    have sv0 : Sv cells lim fields cuts 0 0 0 ⟨cells, lim, fields, cuts, cells, 0, 0, 0, [], []⟩ := ⟨Good.start h6 h2 h1 hthr, rfl, rfl, rfl, rfl, rfl, rfl, Nat.le_refl _⟩
    generalize (⟨cells, lim, fields, cuts, cells, 0, 0, 0, [], []⟩ : CS) = st0 at ft0 sv0
    clear hin hs hD
    refine ⟨_, rfl, b, cc, 10, rfl, ft0.box, (by decide), (by decide), fun u x hu0 hu1 hB1 => ⟨_, _, rfl, rfl, ?_⟩⟩
    have ft1 := ft0.draw hb hB1
    clear hB1 ft0
    generalize upd H2 b x = H3 at ft1
    refine ⟨fun σ' H' => ∃ n : Int, σ' = [some (.ref b), some (.ref q), some (.ref p), some (.int 0), some (.int 0), some (.int n), none, none, none, none] ∧ Ft c H b cc p H' D st0 ∧ 0 ≤ n ∧ n ≤ 100, ?_, ?_⟩
    · refine ⟨_, rfl, b, cc, 3, rfl, ft1.box, (by decide), (by decide), fun g z hg0 hg1 hB2 => ⟨rfl, _, rfl, ?_⟩⟩
      have ft2 := ft1.draw hb hB2
      refine ite2 (fun _ => ?_) (fun _ => ⟨_, rfl, ft2, by omega, by omega⟩)
      exact ⟨_, rfl, _, rfl, b, cc, 31, rfl, hB2, (by decide), (by decide), fun l y hl0 hl1 hB3 => ⟨_, _, rfl, rfl, _, rfl, ft2.draw hb hB3, by omega, by omega⟩⟩
    · rintro σ' H4 ⟨n, rfl, ft2, hn0, hn1⟩
      clear ft1
      refine ⟨_, rfl, _, rfl, (by omega), (by omega), ?_⟩
      refine for_range (lo := 0) (n := _) (fun i σ H' => ∃ (v6 v7 v8 v9 : Option V) (D : Addr → Prop) (st : CS) (live begun : Int), σ = [some (.ref b), some (.ref q), some (.ref p), some (.int live), some (.int begun), some (.int n), v6, v7, v8, v9] ∧ Ft c H b cc p H' D st ∧ Sv cells lim fields cuts live begun i st ∧ begun ≤ 1500)
        ⟨none, none, none, none, D, st0, 0, 0, rfl, ft2, sv0, by decide⟩ ?_ ?_
      · rintro i σ H' hi ⟨v6, v7, v8, v9, D, st, live, begun, rfl, ft, sv, hbg⟩
        have hl0 := sv.good.l0
        have hl1 := sv.good.l1
        have he5 := sv.e5
        have he2 := sv.e2
        refine ⟨_, rfl, b, cc, 5, rfl, ft.box, (by decide), (by decide), fun kind x hk0 hk1 hB1 => ?_⟩
        have ft1 := ft.draw hb hB1
        generalize upd H' b x = H5 at ft1
        clear hB1 ft
        refine ⟨decide (kind < 3) || decide (V.int live = V.int 0), ⟨_, rfl, _, _, rfl, rfl, _, rfl, ?_⟩, ?_⟩
        · refine ite2 (fun h => ⟨by rw [h]; rfl, rfl⟩) (fun h => ⟨_, rfl, rfl, _, rfl, ?_, rfl⟩)
          rw [show decide (kind < 3) = false by simpa using h]
          rfl
        refine ite2 (fun hc => ?_) (fun hc => ?_)
        · refine ⟨_, rfl, (hN ft1.fr).ix 1 rfl rfl ⟨_, rfl, _, _, rfl, rfl, ?_⟩⟩
          refine ⟨fun σ' H' => ∃ m : Int, σ' = [some (.ref b), some (.ref q), some (.ref p), some (.int live), some (.int begun), some (.int n), some (.int (0 + (i : Int))), some (.int kind), some (.int m), v9] ∧ Ft c H b cc p H' D st ∧ 0 ≤ m ∧ m ≤ lim - live, ?_, ?_⟩
          · refine ⟨_, rfl, rfl, _, rfl, ?_⟩
            refine ite2 (fun _ => ?_) (fun _ => ⟨_, rfl, ft1, by omega, by omega⟩)
            refine ⟨_, rfl, _, rfl, _, rfl, (hN ft1.fr).ix 0 rfl rfl ⟨_, rfl, (hN ft1.fr).ix 1 rfl rfl ⟨_, _, rfl, rfl, _, _, rfl, rfl, b, cc, _, rfl, ft1.box, (by omega), (by omega), fun r x hr0 hr1 hB2 => ⟨_, _, rfl, rfl, _, _, rfl, _, rfl, ft1.draw hb hB2, ?_, ?_⟩⟩⟩⟩
            · split <;> omega
            · split <;> omega
          · rintro σ' H6 ⟨m, rfl, ft2, hm0, hm1⟩
            refine ⟨_, rfl, _, rfl, _, _, rfl, rfl, _, _, rfl, ?_⟩
            obtain ⟨C, hC, hC0, hC1, hC2⟩ : ∃ C : Int, (if 1500 - begun < m then 1500 - begun else m) = C ∧ 0 ≤ C ∧ C ≤ lim - live ∧ begun + C ≤ 1500 := ⟨_, rfl, by split <;> omega, by split <;> omega, by split <;> omega⟩
            rw [hC]
            refine ⟨_, rfl, _, rfl, _, _, rfl, rfl, _, rfl, p, D, st, C, fun k s => Sv cells lim fields cuts (live + k) (begun + k) i s, by rw [sv.e6]; rfl, ft2.hin, hC0, by omega, by simpa using sv, fun kk s hk S => ?_, fun H7 D7 s7 k7 f7 hin7 hI7 => ?_⟩
            · obtain ⟨m1, m2⟩ := S.make (by omega) (by omega)
              refine ⟨by rw [S.e6, sv.e6], m1, fun j s1 E => ⟨(m2 j s1 E).1, ?_⟩⟩
              have e1 : live + ((kk + 1 : Nat) : Int) = live + kk + 1 := by omega
              have e2 : begun + ((kk + 1 : Nat) : Int) = begun + kk + 1 := by omega
              show Sv cells lim fields cuts (live + ((kk + 1 : Nat) : Int)) (begun + ((kk + 1 : Nat) : Int)) i _
              rw [e1, e2]
              exact (m2 j s1 E).2
            · refine ⟨true, rfl, iteF ?_⟩
              have ft3 := ft2.step hb hcc k7 f7 hin7
              have e1 : live + (C.toNat : Int) = live + C := by omega
              have e2 : begun + (C.toNat : Int) = begun + C := by omega
              have hI7 : Sv cells lim fields cuts (live + (C.toNat : Int)) (begun + (C.toNat : Int)) i s7 := hI7
              rw [e1, e2] at hI7
              exact ⟨_, rfl, _, rfl, _, _, rfl, rfl, _, rfl, _, rfl, _, _, rfl, rfl, _, _, _, _, D7, s7, _, _, rfl, ft3, hI7.more (by omega), hC2⟩
        · have hc1 : ¬ kind < 3 ∧ live ≠ 0 := by
            refine ⟨fun z => hc ?_, fun z => hc ?_⟩
            · rw [decide_eq_true z]; rfl
            · rw [show decide (V.int live = V.int 0) = true from decide_eq_true (by rw [z])]
              exact Bool.or_true _
          refine ⟨_, rfl, ?_⟩
          refine ⟨fun σ' H' => ∃ z : Int, σ' = [some (.ref b), some (.ref q), some (.ref p), some (.int live), some (.int begun), some (.int n), some (.int (0 + (i : Int))), some (.int kind), v8, some (.int z)] ∧ Ft c H b cc p H' D st ∧ 1 ≤ z ∧ z ≤ live, ?_, ?_⟩
          · refine ⟨_, rfl, rfl, _, rfl, ?_⟩
            refine ite2 (fun _ => ?_) (fun _ => ⟨_, rfl, ft1, by omega, by omega⟩)
            exact ⟨_, rfl, _, rfl, b, cc, live, rfl, ft1.box, (by omega), (by omega), fun r x hr0 hr1 hB2 => ⟨_, _, rfl, rfl, _, rfl, ft1.draw hb hB2, by omega, by omega⟩⟩
          · rintro σ' H6 ⟨z, rfl, ft2, hz0, hz1⟩
            obtain ⟨dx, s0, lw, lf, ws, ts, Dw, y⟩ := id ft2.hin
            have hfr := sv.freed
            have hwl := sv.wl
            refine ⟨_, rfl, p, dx, _, rfl, y.ob, rfl, _, rfl, _, rfl, _, rfl, (hN ft2.fr).ix 2 rfl rfl ⟨b, cc, z, fields, rfl, ft2.box, hz0, by omega, h4, fun H7 r own hol hT hF hr7 hn7 hB7 hk7 => ?_⟩⟩
            have ft3 := ft2.same hb hB7 hk7
            have hnD : ¬ D r := fun d => ft2.hin.dom d hn7
            refine ⟨p, r, D, st, own, rfl, ft3.hin, hr7, hnD, hT, by omega, by omega, by rw [sv.e3]; exact h4, by rw [sv.e3]; exact h5, by rw [sv.e3]; exact hF, by omega, by omega, fun H8 D8 k8 f8 => ⟨fun e hin8 => ?_, fun e kk hk1 hk2 hk3 hk4 hk5 hin8 => ?_⟩⟩
            · have hz : z = 1 := by
                rw [e] at hol
                simp at hol
                omega
              refine ⟨_, rfl, _, rfl, _, _, rfl, rfl, _, _, _, _, D8, _, _, _, rfl, ft3.step hb hcc k8 f8 hin8, ?_, hbg⟩
              rw [hz]
              exact sv.drop1 (by omega)
            · have hz : z = kk.size := by
                unfold Wk.size
                rw [hk2]
                omega
              refine ⟨_, rfl, _, rfl, _, _, rfl, rfl, _, _, _, _, D8, _, _, _, rfl, ft3.step hb hcc k8 f8 hin8, ?_, hbg⟩
              rw [hz]
              exact sv.dropN (by omega) hk1 hk3 hk4
      · rintro σ H' ⟨v6, v7, v8, v9, D, st, live, begun, rfl, ft, sv, hbg⟩
        obtain ⟨dx, s0, lw, lf, ws, ts, Dw, y⟩ := id ft.hin
        refine ⟨_, rfl, p, dx, _, rfl, y.ob, p, D, st, rfl, ft.hin, _, rfl, rfl, _, rfl, ?_⟩
        rw [show decide (V.int st.live = V.int live) = true from decide_eq_true (by rw [sv.e5])]
        refine iteT ⟨_, rfl, p, dx, _, rfl, y.ob, p, D, st, rfl, ft.hin, st.live, rfl, k H' ft.fr ft.box⟩
end
end SH
/-! ## L5a -/
namespace SH
open PySem L2
/-- the heap has one work, a chain of n + 1 cells, e of them entered -/
structure Chn (lim cuts : Int) (n e : Nat) (free live begun : Int) (s : CS) : Prop where
  chain : ChainAt s n e 0
  e2 : s.lim = lim
  e4 : s.cuts = cuts
  e5 : s.free = free
  e6 : s.live = live
  e7 : s.begun = begun
  e8 : s.freed = []
section
variable {lim cuts free live begun : Int} {n e m : Nat} {s s1 : CS}
theorem ChainAt.head {num : Int} (C : ChainAt s n e num) (h : e ≤ n) : s.works ≠ [] ∧ ∀ k r, s.works = k :: r → WInv k ∧ k.ent < k.size := by
  obtain ⟨k, hw, hi, ho, hent, hnum, hz⟩ := C.w
  refine ⟨by rw [hw]; simp, fun k' r hw' => ?_⟩
  rw [hw] at hw'
  cases hw'
  refine ⟨hi, ?_⟩
  unfold Wk.size
  rw [ho, List.length_range, hent]
  omega
theorem Chn.go (C : Chn lim cuts n e free live begun s) {j : Nat} (q : CutsR j s s1) (h : e + j ≤ n) : Chn lim cuts n (e + j) free live begun s1 := by
  obtain ⟨c1, c2, c3⟩ := C.chain.cuts q h
  have hs := q.same
  exact ⟨c1, hs.2.1.trans C.e2, hs.2.2.2.1.trans C.e4, c2.trans C.e5, hs.2.2.2.2.1.trans C.e6, hs.2.2.2.2.2.1.trans C.e7, c3.trans C.e8⟩
theorem Chn.pre (C : Chn lim cuts n e free live begun s) (hm : cuts = (m : Int)) (h : e + m ≤ n + 1) (hl : live ≠ lim) (hb : 0 ≤ begun) (hb1 : begun ≤ 10 ^ 17) : MakePre s := by
  refine ⟨by rw [C.e6, C.e2]; exact hl, by rw [C.e7]; exact hb, by rw [C.e7]; exact hb1, by rw [C.e4]; omega, fun j st1 q hj => ?_⟩
  rw [C.e4] at hj
  have C1 := C.go q (by omega)
  exact ⟨by rw [C1.e8]; exact Nat.zero_le _, (C1.chain.head (by omega)).2⟩
theorem Chn.fin (C : Chn lim cuts n e free live begun s) (hm : cuts = (m : Int)) (h : e + m ≤ n) {j : Nat} (E : MakeEnd s j s1) : Chn lim cuts n (e + m) free live begun s1 := by
  obtain ⟨q, he⟩ := E
  rw [C.e4] at he
  have hj : j ≤ m := by
    rcases he with h | h
    · omega
    · omega
  have C1 := C.go q (by omega)
  have hjm : j = m := by
    rcases he with h | h
    · omega
    · exact absurd h.2 (C1.chain.head (by omega)).1
  rw [← hjm]
  exact C1
/-- cuts at the chain's last cell -/
theorem last_cuts {num : Int} {j : Nat} (q : CutsR j s s1) (C : ChainAt s n n num) : (j = 0 ∧ s1 = s) ∨ (j = 1 ∧ s1.works = [] ∧ s1.free = s.free + n + 1 ∧ s1.freed = s.freed ++ (List.range (n + 1)).map (fun i => (num, n - i))) := by
  induction q with
  | nil => exact .inl ⟨rfl, rfl⟩
  | snoc h q ih =>
    rcases ih C with ⟨h1, h2⟩ | ⟨h1, h2, h3, h4⟩
    · subst h1 h2
      obtain ⟨a1, a2, a3⟩ := C.last q
      exact .inr ⟨rfl, a1, a2, a3⟩
    · exfalso
      obtain ⟨k, k', r, ended, hw, _⟩ := q.cut
      rw [h2] at hw
      cases hw
structure Done (lim cuts : Int) (free live begun : Int) (fr : List (Int × Nat)) (s : CS) : Prop where
  w : s.works = []
  e2 : s.lim = lim
  e4 : s.cuts = cuts
  e5 : s.free = free
  e6 : s.live = live
  e7 : s.begun = begun
  e8 : s.freed = fr
/-- a tree of n + 1 cells is cut to its end -/
theorem Chn.last (C : Chn lim cuts n e free live begun s) (hm : cuts = ((m + 1 : Nat) : Int)) (h : e + m = n) {j : Nat} (E : MakeEnd s j s1) : Done lim cuts (free + n + 1) live begun ((List.range (n + 1)).map (fun i => ((0 : Int), n - i))) s1 := by
  obtain ⟨q, he⟩ := E
  rw [C.e4] at he
  have hs := q.same
  by_cases hj : j ≤ m
  · exfalso
    have C1 := C.go q (by omega)
    rcases he with h | h
    · omega
    · exact (C1.chain.head (by omega)).1 h.2
  · obtain ⟨i, rfl⟩ : ∃ i, j = i + 1 := ⟨j - 1, by omega⟩
    cases q with
    | snoc q0 q1 =>
      rename_i b
      have hi : i = m := by
        rcases he with h | h
        · omega
        · omega
      subst hi
      have C1 := C.go q0 (by omega)
      rw [h] at C1
      obtain ⟨a1, a2, a3⟩ := C1.chain.last q1
      exact ⟨a1, hs.2.1.trans C.e2, hs.2.2.2.1.trans C.e4, by rw [a2, C1.e5], hs.2.2.2.2.1.trans C.e6, hs.2.2.2.2.2.1.trans C.e7, by rw [a3, C1.e8]; rfl⟩
/-- an allocation that stands at the chain's last cell -/
theorem Chn.pre1 (C : Chn lim cuts n n free live begun s) (hn : n ≤ 2000) (hc : 0 ≤ cuts) (hl : live ≠ lim) (hb : 0 ≤ begun) (hb1 : begun ≤ 10 ^ 17) : MakePre s := by
  refine ⟨by rw [C.e6, C.e2]; exact hl, by rw [C.e7]; exact hb, by rw [C.e7]; exact hb1, by rw [C.e4]; exact hc, fun j st1 q hj => ?_⟩
  rcases last_cuts q C.chain with ⟨_, e⟩ | ⟨_, w, f, g⟩
  · rw [e]
    exact ⟨by rw [C.e8]; exact Nat.zero_le _, (C.chain.head (Nat.le_refl _)).2⟩
  · refine ⟨by rw [g, C.e8, List.nil_append, List.length_map, List.length_range]; omega, fun k r hw => ?_⟩
    rw [w] at hw
    cases hw
theorem Chn.last1 (C : Chn lim cuts n n free live begun s) (hc : 1 ≤ cuts) {j : Nat} (E : MakeEnd s j s1) : Done lim cuts (free + n + 1) live begun ((List.range (n + 1)).map (fun i => ((0 : Int), n - i))) s1 := by
  obtain ⟨q, he⟩ := E
  rw [C.e4] at he
  have hs := q.same
  rcases last_cuts q C.chain with ⟨h0, e⟩ | ⟨_, w, f, g⟩
  · exfalso
    subst h0 e
    rcases he with h | h
    · omega
    · exact (C.chain.head (Nat.le_refl _)).1 h.2
  · exact ⟨w, hs.2.1.trans C.e2, hs.2.2.2.1.trans C.e4, by rw [f, C.e5], hs.2.2.2.2.1.trans C.e6, hs.2.2.2.2.2.1.trans C.e7, by rw [g, C.e8]; rfl⟩
theorem Done.pre {fr : List (Int × Nat)} (C : Done lim cuts free live begun fr s) (hc : 0 ≤ cuts) (hl : live ≠ lim) (hb : 0 ≤ begun) (hb1 : begun ≤ 10 ^ 17) (hf : fr.length ≤ 50000) : MakePre s := by
  refine ⟨by rw [C.e6, C.e2]; exact hl, by rw [C.e7]; exact hb, by rw [C.e7]; exact hb1, by rw [C.e4]; exact hc, fun j st1 q hj => ?_⟩
  obtain ⟨_, rfl⟩ := q.stop C.w
  refine ⟨by rw [C.e8]; exact hf, fun k r hw => ?_⟩
  rw [C.w] at hw
  cases hw
theorem Done.fin {fr : List (Int × Nat)} (C : Done lim cuts free live begun fr s) {j : Nat} (E : MakeEnd s j s1) : s1 = s := (E.1.stop C.w).2
end
theorem dpAll_tups {K : PySem.W.Frag} {H : Hp} : ∀ (ts : List Addr) (fs : List (Int × Nat)), ts.length = fs.length → (∀ (i : Nat) t q, ts[i]? = some t → fs[i]? = some q → H t = some (tupV q)) → DpAll K H (ts.map V.ref) (fs.map fun q => PyData.tuple [.int q.1, .int (q.2 : Int)])
  | [], [], _, _ => .nil
  | [], _ :: _, h, _ => by cases h
  | _ :: _, [], h, _ => by cases h
  | t :: ts, q :: fs, h, k => .cons (.tup (SqT.of (k 0 t q rfl rfl)) (.cons (.int _) (.cons (.int _) .nil))) (dpAll_tups ts fs (by simpa using h) fun i t' q' h1 h2 => k (i + 1) t' q' h1 h2)
theorem tups_lay : ∀ fs : List (Int × Nat), PyData.canLayAll0 (fs.map fun q => PyData.tuple [.int q.1, .int (q.2 : Int)]) = true ∧ PyData.depthAll (fs.map fun q => PyData.tuple [.int q.1, .int (q.2 : Int)]) ≤ 5
  | [] => ⟨rfl, by simp [PyData.depthAll]⟩
  | q :: fs => by
    obtain ⟨h1, h2⟩ := tups_lay fs
    constructor
    · simp only [List.map_cons, PyData.canLayAll0, PyData.canLay0, h1, Bool.and_true, Bool.and_self]
    · simp only [List.map_cons, PyData.depthAll, PyData.depth]
      simp
      omega
theorem tups_shaped (fs : List (Int × Nat)) : SeqAt.shaped (.list (fs.map fun q => PyData.tuple [.int q.1, .int (q.2 : Int)])) = true := by
  obtain ⟨h1, h2⟩ := tups_lay fs
  unfold SeqAt.shaped
  rw [Bool.and_eq_true]
  refine ⟨by simp only [PyData.canLay0]; exact h1, decide_eq_true ?_⟩
  simp only [PyData.depth]
  omega
end SH
/-! ## L5b -/
namespace SH
open PySem L2
theorem Chn.of_drop {lim cuts free live begun : Int} {n : Nat} {s : CS} {k : Wk} (h : Done lim cuts free live begun [] s) (hd : s.drops = 0) (hk : WInv k) (ho : k.own = List.range n) (he : k.ent = 1) (hz : k.cnt = 0) (hn : k.num = s.drops) :
    Chn lim cuts n 1 free (live - ((n + 1 : Nat) : Int)) begun { s with live := s.live - k.size, drops := s.drops + 1, works := s.works ++ [k] } := by
  have hs : k.size = n + 1 := by
    unfold Wk.size
    rw [ho, List.length_range]
  refine ⟨⟨k, by dsimp only; rw [h.w]; rfl, hk, ho, he, by rw [hn, hd], hz⟩, h.e2, h.e4, h.e5, ?_, h.e7, h.e8⟩
  dsimp only
  rw [h.e6, hs]
theorem Done.as {lim cuts f l b f' l' b' : Int} {fr : List (Int × Nat)} {s : CS} (h : Done lim cuts f l b fr s) (h1 : f = f') (h2 : l = l') (h3 : b = b') : Done lim cuts f' l' b' fr s := by
  subst h1 h2 h3
  exact h
theorem Chn.as {lim cuts f l b f' l' b' : Int} {n e e' : Nat} {s : CS} (h : Chn lim cuts n e f l b s) (h0 : e = e') (h1 : f = f') (h2 : l = l') (h3 : b = b') : Chn lim cuts n e' f' l' b' s := by
  subst h0 h1 h2 h3
  exact h
theorem Done.made {lim cuts f l b b' : Int} {fr : List (Int × Nat)} {s : CS} (h : Done lim cuts f l b fr s) (hb : b' = b + 1) : Done lim cuts (f - 1) (l + 1) (b + 1) fr (madeCS s b') :=
  ⟨h.w, h.e2, h.e4, by show s.free - 1 = f - 1; rw [h.e5], by show s.live + 1 = l + 1; rw [h.e6], hb, h.e8⟩
theorem Chn.made {lim cuts f l b b' : Int} {n e : Nat} {s : CS} (h : Chn lim cuts n e f l b s) (hb : b' = b + 1) : Chn lim cuts n e (f - 1) (l + 1) (b + 1) (madeCS s b') :=
  ⟨⟨h.chain.w⟩, h.e2, h.e4, by show s.free - 1 = f - 1; rw [h.e5], by show s.live + 1 = l + 1; rw [h.e6], hb, h.e8⟩
theorem Chn.stall {lim cuts f l b b' : Int} {n e : Nat} {s : CS} (h : Chn lim cuts n e f l b s) (hb : b' = b + 1) : Chn lim cuts n e f l (b + 1) { s with begun := b' } :=
  ⟨⟨h.chain.w⟩, h.e2, h.e4, h.e5, h.e6, hb, h.e8⟩
theorem ne_false {a b : Int} (h : a = b) : V.bl (!decide (V.int a = V.int b)) = V.bl false := by
  subst h
  simp
theorem nil_shaped : SeqAt.shaped (.list []) = true := tups_shaped []
theorem nil_eqv : PyData.eqv (.list []) (.list []) = true := SeqAt.eqv_refl _ (SeqAt.canLay_of_shaped nil_shaped)
/-- two heaps side by side -/
structure Tw (c : Cs) (H : Hp) (p1 p2 : Addr) (H' : Hp) (D1 D2 : Addr → Prop) (s1 s2 : CS) : Prop where
  a : ChIn c H' D1 p1 s1
  b : ChIn c H' D2 p2 s2
  dj : ∀ x, D1 x → ¬ D2 x
  fr : Same H H'
  n1 : ∀ x, D1 x → H x = none
  n2 : ∀ x, D2 x → H x = none
section
variable {c : Cs} {H H' H2 : Hp} {p1 p2 : Addr} {D1 D2 D1' : Addr → Prop} {s1 s2 s1' : CS}
theorem Tw.swap (x : Tw c H p1 p2 H' D1 D2 s1 s2) : Tw c H p2 p1 H' D2 D1 s2 s1 := ⟨x.b, x.a, fun y h2 h1 => x.dj y h1 h2, x.fr, x.n2, x.n1⟩
theorem Tw.same (x : Tw c H p1 p2 H' D1 D2 s1 s2) (s : Same H' H2) : Tw c H p1 p2 H2 D1 D2 s1 s2 := ⟨x.a.keep fun b o _ e => s b o e, x.b.keep fun b o _ e => s b o e, x.dj, x.fr.trans s, x.n1, x.n2⟩
theorem Tw.step (x : Tw c H p1 p2 H' D1 D2 s1 s2) (k : Keep D1 H' H2) (f : Fresh D1 D1' H') (h : ChIn c H2 D1' p1 s1') : Tw c H p1 p2 H2 D1' D2 s1' s2 := by
  refine ⟨h, x.b.keep fun b o db e => k b o e fun z => x.dj b z db, fun y h1 h2 => ?_, fun a o e => k a o (x.fr a o e) fun z => ?_, fun y hy => ?_, x.n2⟩
  · rcases f y h1 with z | z
    · exact x.dj y z h2
    · exact x.b.dom h2 z
  · rw [x.n1 a z] at e; cases e
  · rcases f y hy with z | z
    · exact x.n1 y z
    · exact x.fr.free z
end
abbrev rSubI : R2 := rI0 fun i j => .int (i - j)
theorem lc_chain {a0 a1 a2 a4 a5 : Option V} {many d : Int} {n : Nat} {H : Hp} {Q : VK} (hn : many - d = (n : Int)) (hb : n ≤ 2000) (k : ∀ (D : Addr) (x : HO), H D = none → upd H D x D = some (.lst ((List.range n).map nV)) → Q (.ref D) (upd H D x)) :
    tLc (iRng1 (tCons (tOp rSubI (tVar 3) (tC (.int d))) tNil)) (gName 6) tYes (tVar 6) [6] [a0, a1, a2, some (.int many), a4, a5, none] H Q := by
  refine ⟨_, rfl, _, _, rfl, rfl, _, rfl, ?_, ?_, fun D hD => ?_⟩
  · show -(2 ^ 62 : Int) ≤ many - d
    omega
  · show many - d < 2 ^ 62
    omega
  refine lc_range (lo := 0) (n := _) (fun i H' => ∃ x, H' = upd H D x ∧ H' D = some (.lst ((List.range i).map nV))) ⟨_, rfl, upd_same⟩ ?_ ?_
  · rintro i H' hi ⟨x, rfl, hx⟩
    have hi : i < (many - d).toNat := hi
    refine ⟨rfl, _, rfl, _, hx, line_big (by rw [List.length_map, List.length_range]; omega), _, upd_upd, ?_⟩
    rw [upd_same, List.range_succ, List.map_append]
    have e : V.int (0 + (i : Int)) = nV i := by unfold nV; rw [Int.zero_add]
    rw [e]
    rfl
  · rintro H' ⟨x, rfl, hx⟩
    have hx : upd H D x D = some (.lst ((List.range (many - d).toNat).map nV)) := hx
    have e : (many - d).toNat = n := by omega
    rw [e] at hx
    exact k D x hD hx
/-- [(0, many - 1 - k) for k in range(many)] -/
theorem lc_pairs {a0 a1 a2 a4 a5 : Option V} {many : Int} {n : Nat} {H : Hp} {Q : VK} (hm : many = (n : Int) + 1) (hb : n ≤ 2000)
    (k : ∀ (D : Addr) (ts : List Addr) (H' : Hp), Same H H' → ts.length = n + 1 → H' D = some (.lst (ts.map V.ref)) → (∀ (i : Nat) t q, ts[i]? = some t → ((List.range (n + 1)).map fun i => ((0 : Int), n - i))[i]? = some q → H' t = some (tupV q)) → Q (.ref D) H') :
    tLc (iRng1 (tCons (tVar 3) tNil)) (gName 6) tYes (tTup (tCons (tC (.int 0)) (tCons (tOp rSubI (tOp rSubI (tVar 3) (tC (.int 1))) (tVar 6)) tNil))) [6] [a0, a1, a2, some (.int many), a4, a5, none] H Q := by
  subst hm
  refine ⟨_, rfl, _, rfl, ?_, ?_, fun D hD => ?_⟩
  · omega
  · omega
  refine lc_range (lo := 0) (n := _) (fun i H' => ∃ ts : List Addr, ts.length = i ∧ Same H H' ∧ H' D = some (.lst (ts.map V.ref)) ∧ ∀ (j : Nat) t, ts[j]? = some t → H' t = some (tupV (0, n - j))) ⟨[], rfl, Same.laid hD, upd_same, fun j t h => by cases h⟩ ?_ ?_
  · rintro i H' hi ⟨ts, hl, sm, hD', ht⟩
    refine ⟨rfl, _, rfl, _, _, rfl, rfl, _, rfl, _, _, rfl, rfl, (by show 2 ≤ sizeLine; decide), fun p hp => ?_⟩
    have hDp : D ≠ p := ne_of_none hD' hp
    refine ⟨_, by rw [upd_ne hDp]; exact hD', line_big (by rw [List.length_map]; omega), ts ++ [p], by rw [List.length_append, hl]; rfl, fun a o e => ?_, by rw [upd_same, List.map_append]; rfl, fun j t h => ?_⟩
    · rw [upd_ne (ne_of_none e hD), upd_ne (ne_of_none (sm a o e) hp)]
      exact sm a o e
    · by_cases hj : j < ts.length
      · rw [List.getElem?_append_left hj] at h
        have h1 := ht j t h
        have n1 : t ≠ D := ne_of h1 hD' (by intro q; cases q)
        rw [upd_ne n1, upd_ne (ne_of_none h1 hp)]
        exact h1
      · rw [List.getElem?_append_right (by omega)] at h
        have h3 := (List.getElem?_eq_some_iff.mp h).1
        simp at h3
        have e0 : j - ts.length = 0 := by omega
        rw [e0] at h
        simp at h
        subst h
        rw [upd_ne hDp.symm, upd_same]
        have ej : j = i := by omega
        subst ej
        have e1 : (n : Int) + 1 - 1 - (0 + (j : Int)) = ((n - j : Nat) : Int) := by omega
        show some (HO.tup [.int 0, .int ((n : Int) + 1 - 1 - (0 + (j : Int)))]) = _
        rw [e1]
        rfl
  · rintro H' ⟨ts, hl, sm, hD', ht⟩
    have hl : ts.length = ((n : Int) + 1).toNat := hl
    refine k D ts H' sm (by omega) hD' fun i t q h1 h2 => ?_
    rw [List.getElem?_map] at h2
    have hi := (List.getElem?_eq_some_iff.mp h1).1
    rw [List.getElem?_range (by omega)] at h2
    cases h2
    exact ht i t h1
def spStalls : Sp := fun vs H Q _ => ∃ (q : Addr) (cells lim fields cuts : Int), vs = [.ref q] ∧ H q = some (.lst [.int cells, .int lim, .int fields, .int cuts]) ∧ 1 ≤ lim ∧ lim ≤ cells ∧ cells ≤ 2000 ∧ 1 ≤ fields ∧ fields ≤ 10 ^ 30 ∧ 1 ≤ cuts ∧ cuts ≤ 10 ^ 6 ∧
  cuts * (cells - lim + 1) + 1 < lim ∧ ∀ H', Same H H' → Q (.bl true) H'
section
variable {P : Program} {w : World} {K : PySem.W.Frag} {mg : Str → Option Value} {base : Heap} {c : Cs}
abbrev nStal : List Str := ["_law_numbers", "_law_limit", "_law_spare", "_law_many", "_law_heap", "_law_other", "_law_k"]
theorem scStal : FnScope nStal ["_law_numbers"] (defScope sStalls) := ⟨rfl, rfl, rfl, by decide +kernel, rfl, by decide +kernel, by decide +kernel⟩
theorem ok_stalls {f : Addr} {fd : FuncData} (F : Fun K "_law_stalls" "_law_stalls" sStalls f fd) (T : Glo K mg) (TC : ChT K c.C)
    (cn : Cal P w K mg base CX0 5 "_law_number" ["_law_heap"] (spNumber c))
    (cs : Cal P w K mg base CX0 6 "_law_served" ["_law_heap", "_law_first", "_law_count"] (spServed c)) (ck : CalK P w K mg base CX0 1 c.C "ChildrenHeap" ["self", "setting"] (spChInit c)) (ckS : CalK P w K mg base CX0 3 c.S "Setting" ["self", "cells", "live", "fields", "cuts"] (spSetInit c.S))
    (cm : CalM P w K mg base CX0 7 c.C "drop" ["self", "tree"] (spChDrop c)) (cl : CalP P w K mg base CX0 1 c.C "live_count" (spChLive c)) (cf : CalP P w K mg base CX0 1 c.C "free_count" (spChFree c)) (cfr : CalM P w K mg base CX0 1 c.C "freed" ["self"] (spChFreed c)) :
    FnOk P w K mg base CX0 8 f fd ["_law_numbers"] spStalls := by
  refine F.ok scStal (fun vs H Q E h => ?_) (fun cdv A outer s H vs Q E hr h => ?_)
  · obtain ⟨_, _, _, _, _, rfl, _⟩ := h
    rfl
  · obtain ⟨q, cells, lim, fields, cuts, rfl, hq, h1, h2, h3, h4, h5, h6, h7, hthr, k⟩ := h
    have hu : (A.deeper (PyProof.Rows.envOfC "_law_stalls" (defScope sStalls) s.heap.objs.size f cdv)).units + 64 < PySem.cLine := by
      have := hr.un
      omega
    have r1 := hr.mono (show 1 ≤ 7 by decide)
    have r2 := hr.mono (show 1 + 1 ≤ 7 by decide)
    have r4 := hr.mono (show 3 + 1 ≤ 7 by decide)
    have r5 := hr.mono (show 5 ≤ 7 by decide)
    have r6 := hr.mono (show 6 ≤ 7 by decide)
    refine ⟨_, pss_cons (ps_set (i := 1) scStal.nd rfl (.inl rfl) (pe_ix ix_seq (pv 0) pe_int (fun _ _ => rfl)))
      (pss_cons (ps_set (i := 2) scStal.nd rfl (.inl rfl) (pe_op op_sub (pe_ix ix_seq (pv 0) pe_int (fun _ _ => rfl)) (pv 1)))
      (C8.pss_cut (ps_set (i := 3) scStal.nd rfl (.inr rfl) (pe_op op_add (pe_op op_mul (pe_ix ix_seq (pv 0) pe_int (fun _ _ => rfl)) (pe_op op_add (pv 2) pe_int)) pe_int))
      (pss_cons (ps_set (i := 4) scStal.nd rfl (.inl rfl) (pe_calK ck r2 pass0 (pa_cons (pe_calK ckS r4 pass0 (pa_cons (pe_ix ix_seq (pv 0) pe_int (fun _ _ => rfl)) (pa_cons (pv 1) (pa_cons (pe_ix ix_seq (pv 0) pe_int (fun _ _ => rfl)) (pa_cons (pe_ix ix_seq (pv 0) pe_int (fun _ _ => rfl)) pa_nil))))) pa_nil)))
      (pss_cons (ps_set (i := 5) scStal.nd rfl (.inl rfl) (pe_calK ck r2 pass0 (pa_cons (pe_calK ckS r4 pass0 (pa_cons (pe_ix ix_seq (pv 0) pe_int (fun _ _ => rfl)) (pa_cons (pv 1) (pa_cons (pe_ix ix_seq (pv 0) pe_int (fun _ _ => rfl)) (pa_cons (pe_ix ix_seq (pv 0) pe_int (fun _ _ => rfl)) pa_nil))))) pa_nil)))
      (pss_cons (ps_if (PW.pt (pw_or (pt_not (pt_val (pe_cal cs r6 pass0 (pa_cons (pv 4) (pa_cons pe_int (pa_cons (pv 1) pa_nil)))))) (pw_or1 (pt_not (pt_val (pe_cal cs r6 pass0 (pa_cons (pv 5) (pa_cons pe_int (pa_cons (pv 1) pa_nil))))))))) (pss_one (ps_ret pe_bl)) pss_nil)
      (pss_cons (ps_expr (pe_calM (pv 4) TC.cl cm hr pass0 (pa_cons (pe_lc (te := tVar 6) (own := [("_law_k", 6)]) (g := gName 6) (by rfl) scStal.nd (pi_range1 (by rfl) T.range (pa_cons (pe_op op_sub (pv 3) pe_int) pa_nil))
        (blkOk_by (own := [("_law_k", 6)]) (N := nStal) (sc := defScope sStalls) (by decide +kernel)) (fun _ _ _ _ _ => pg_name (i := 6) scStal.nd rfl (Or.inl rfl)) (fun _ _ _ _ _ => pts_nil) (fun _ _ _ _ _ => pv 6)) pa_nil)))
      (pss_cons (ps_expr (pe_calM (pv 5) TC.cl cm hr pass0 (pa_cons (pe_lc (te := tVar 6) (own := [("_law_k", 6)]) (g := gName 6) (by rfl) scStal.nd (pi_range1 (by rfl) T.range (pa_cons (pe_op op_sub (pv 3) pe_int) pa_nil))
        (blkOk_by (own := [("_law_k", 6)]) (N := nStal) (sc := defScope sStalls) (by decide +kernel)) (fun _ _ _ _ _ => pg_name (i := 6) scStal.nd rfl (Or.inl rfl)) (fun _ _ _ _ _ => pts_nil) (fun _ _ _ _ _ => pv 6)) pa_nil)))
      (pss_cons (ps_if (PW.pt (pw_or (pt_not (pt_val (pe_cal cs r6 pass0 (pa_cons (pv 4) (pa_cons (pe_op op_add (pv 1) pe_int) (pa_cons (pv 2) pa_nil)))))) (pw_or1 (pt_not (pt_val (pe_cal cs r6 pass0 (pa_cons (pv 5) (pa_cons (pe_op op_add (pv 1) pe_int) (pa_cons (pe_op op_add (pv 2) pe_int) pa_nil))))))))) (pss_one (ps_ret pe_bl)) pss_nil)
      (pss_cons (ps_if (pt_cmpR (op_neD hu) (pe_cal cn r5 pass0 (pa_cons (pv 4) pa_nil)) (pe_tup (pa_cons pe_str (pa_cons (pe_op op_add (pe_op op_add (pv 1) (pv 2)) pe_int) pa_nil))) (nomark _)) (pss_one (ps_ret pe_bl)) pss_nil)
      (pss_cons (ps_if (PW.pt (pw_or (pt_cmpR op_ne (pe_calP (pv 4) TC.cl cf r2 pass0) pe_int (nomark _)) (pw_or (pt_cmpR op_ne (pe_calP (pv 4) TC.cl cl r2 pass0) (pe_op op_add (pe_op op_sub (pv 1) (pv 3)) (pv 2)) (nomark _)) (pw_or1 (pt_cmpR (op_neD hu) (pe_calM0 (pv 4) TC.cl cfr r1 pass0) (pe_lst pa_nil) (nomark _)))))) (pss_one (ps_ret pe_bl)) pss_nil)
      (pss_cons (ps_if (PW.pt (pw_or (pt_cmpR op_ne (pe_calP (pv 5) TC.cl cf r2 pass0) (pe_op op_sub (pv 3) pe_int) (nomark _)) (pw_or1 (pt_cmpR op_ne (pe_calP (pv 5) TC.cl cl r2 pass0) (pe_op op_add (pe_op op_add (pe_op op_sub (pv 1) (pv 3)) (pv 2)) pe_int) (nomark _))))) (pss_one (ps_ret pe_bl)) pss_nil)
      (pss_cons (ps_if (PW.pt (pw_or (pt_cmpR (op_neD hu) (pe_cal cn r5 pass0 (pa_cons (pv 4) pa_nil)) (pe_tup (pa_cons pe_str (pa_cons (pe_op op_add (pe_op op_add (pv 1) (pv 2)) pe_int) pa_nil))) (nomark _)) (pw_or1 (pt_cmpR op_ne (pe_calP (pv 4) TC.cl cf r2 pass0) (pe_op op_sub (pv 3) pe_int) (nomark _))))) (pss_one (ps_ret pe_bl)) pss_nil)
      (pss_one (ps_ret (pe_cmpR (op_eqD hu) (pe_calM0 (pv 4) TC.cl cfr r1 pass0) (pe_lc (te := tTup (tCons (tC (.int 0)) (tCons (tOp rSubI (tOp rSubI (tVar 3) (tC (.int 1))) (tVar 6)) tNil))) (own := [("_law_k", 6)]) (g := gName 6) (by rfl) scStal.nd (pi_range1 (by rfl) T.range (pa_cons (pv 3) pa_nil))
        (blkOk_by (own := [("_law_k", 6)]) (N := nStal) (sc := defScope sStalls) (by decide +kernel)) (fun _ _ _ _ _ => pg_name (i := 6) scStal.nd rfl (Or.inl rfl)) (fun _ _ _ _ _ => pts_nil) (fun _ _ _ _ _ => pe_tup (pa_cons pe_int (pa_cons (pe_op op_sub (pe_op op_sub (pv 3) pe_int) (pv 6)) pa_nil)))) (nomark _)))))))))))))))), ?_⟩
    obtain ⟨m, hm⟩ : ∃ m : Nat, cuts = ((m + 1 : Nat) : Int) := ⟨(cuts - 1).toNat, by omega⟩
    obtain ⟨sp, hsp⟩ : ∃ sp : Nat, cells - lim = (sp : Int) := ⟨(cells - lim).toNat, by omega⟩
    obtain ⟨E0, hE, hkey, hE2⟩ : ∃ E0 : Nat, cuts * (cells - lim + 1) = (E0 : Int) ∧ (∀ k : Nat, k ≤ sp → (k + 1) * (m + 1) ≤ E0) ∧ (sp + 1) * (m + 1) = E0 := by
      refine ⟨(sp + 1) * (m + 1), ?_, fun k hk => Nat.mul_le_mul_right _ (by omega), rfl⟩
      rw [hm, show cells - lim + 1 = ((sp + 1 : Nat) : Int) by omega, ← Int.natCast_mul, Nat.mul_comm]
    have hE1 : 1 ≤ E0 := by
      have := hkey 0 (Nat.zero_le _)
      omega
    have hspE : sp + 1 ≤ E0 := by
      rw [← hE2]
      exact Nat.le_mul_of_pos_right _ (by omega)
    rw [hE] at hthr
    have hN0 : NumsAt K H q cells lim fields cuts := .inl (SqL.of hq)
    refine ⟨_, rfl, hN0.ix 1 rfl rfl ⟨_, rfl, hN0.ix 0 rfl rfl ⟨_, rfl, _, _, rfl, rfl, ?_⟩⟩⟩
    refine ⟨fun σ' H' => σ' = [some (.ref q), some (.int lim), some (.int (sp : Int)), some (.int ((E0 : Int) + 2)), none, none, none] ∧ H' = H, ?_, ?_⟩
    · refine ⟨_, rfl, hN0.ix 3 rfl rfl ⟨_, rfl, _, _, rfl, rfl, _, _, rfl, rfl, .inl ⟨by omega, by omega⟩, _, _, rfl, rfl, ?_, rfl⟩⟩
      show [some (V.ref q), some (V.int lim), some (V.int (cells - lim)), some (V.int (cuts * (cells - lim + 1) + 2)), none, none, none] = _
      rw [hE, hsp]
    rintro σ' H0 ⟨rfl, rfl⟩
    refine made_asg (fun R hR => ⟨_, rfl, hN0.ix 0 rfl rfl ⟨_, rfl, _, rfl, hN0.ix 2 rfl rfl ⟨_, rfl, hN0.ix 3 rfl rfl hR⟩⟩⟩) h1 h2 h3 h4 h5 h6 (by omega) (fun H1 Da p1 hin1 hs1 hD1 => ?_)
    have hN1 : NumsAt K H1 q cells lim fields cuts := .inl (SqL.of (hs1 _ _ hq))
    refine made_asg (fun R hR => ⟨_, rfl, hN1.ix 0 rfl rfl ⟨_, rfl, _, rfl, hN1.ix 2 rfl rfl ⟨_, rfl, hN1.ix 3 rfl rfl hR⟩⟩⟩) h1 h2 h3 h4 h5 h6 (by omega) (fun H2 Db p2 hin2 hs2 hD2 => ?_)
    have tw : Tw c H0 p1 p2 H2 Da Db ⟨cells, lim, fields, cuts, cells, 0, 0, 0, [], []⟩ ⟨cells, lim, fields, cuts, cells, 0, 0, 0, [], []⟩ :=
      ⟨hin1.keep fun b o _ e => hs2 b o e, hin2, fun x d1 d2 => hin1.dom d1 (hD2 x d2), fun b o e => hs2 b o (hs1 b o e), hD1, fun x d => Same.free (fun b o e => hs1 b o e) (hD2 x d)⟩
    have i0 : Done lim cuts (cells - ((0 : Nat) : Int)) ((0 : Nat) : Int) ((0 : Nat) : Int) [] ⟨cells, lim, fields, cuts, cells, 0, 0, 0, [], []⟩ ∧ (⟨cells, lim, fields, cuts, cells, 0, 0, 0, [], []⟩ : CS).fields = fields ∧ (⟨cells, lim, fields, cuts, cells, 0, 0, 0, [], []⟩ : CS).drops = 0 :=
      ⟨⟨rfl, rfl, rfl, by show cells = cells - ((0 : Nat) : Int); omega, rfl, rfl, rfl⟩, rfl, rfl⟩
    have hb0 : (⟨cells, lim, fields, cuts, cells, 0, 0, 0, [], []⟩ : CS).begun = 0 := rfl
    generalize (⟨cells, lim, fields, cuts, cells, 0, 0, 0, [], []⟩ : CS) = st0 at tw i0 hb0
    clear hin1 hs1 hD1 hin2 hs2 hD2 hN1
    have step0 : ∀ (kk : Nat) (s : CS), (kk : Int) < lim → (Done lim cuts (cells - (kk : Int)) (kk : Int) (kk : Int) [] s ∧ s.fields = fields ∧ s.drops = 0) → s.begun = st0.begun + kk ∧ MakePre s ∧
        ∀ (j : Nat) s1, MakeEnd s j s1 → s1.free ≠ 0 ∧ (Done lim cuts (cells - ((kk + 1 : Nat) : Int)) ((kk + 1 : Nat) : Int) ((kk + 1 : Nat) : Int) [] (madeCS s1 (s.begun + 1)) ∧ (madeCS s1 (s.begun + 1)).fields = fields ∧ (madeCS s1 (s.begun + 1)).drops = 0) := fun kk s hk ⟨C, cf, cdr⟩ => by
      refine ⟨by rw [C.e7, hb0]; omega, C.pre (by omega) (by omega) (by omega) (by omega) (Nat.zero_le _), fun j s1 E => ?_⟩
      have e := C.fin E
      subst e
      exact ⟨by rw [C.e5]; omega, (C.made (by rw [C.e7])).as (by omega) (by omega) (by omega), cf, cdr⟩
    refine ⟨_, rfl, _, rfl, p1, Da, st0, lim, fun kk s => Done lim cuts (cells - (kk : Int)) (kk : Int) (kk : Int) [] s ∧ s.fields = fields ∧ s.drops = 0, by rw [hb0]; rfl, tw.a, by omega, by omega, i0, step0, fun H3 D3 s3 k3 f3 hin3 hI3 => ⟨true, rfl, iteF ?_⟩⟩
    have tw3 := tw.step k3 f3 hin3
    refine ⟨_, rfl, _, rfl, p2, Db, st0, lim, fun kk s => Done lim cuts (cells - (kk : Int)) (kk : Int) (kk : Int) [] s ∧ s.fields = fields ∧ s.drops = 0, by rw [hb0]; rfl, tw3.b, by omega, by omega, i0, step0, fun H4 D4 s4 k4 f4 hin4 hI4 => ⟨true, rfl, iteF ?_⟩⟩
    have tw4 := (tw3.swap.step k4 f4 hin4).swap
    clear tw tw3 i0 step0 k3 f3 hin3 k4 f4 hin4
    obtain ⟨C3, cf3, cd3⟩ := hI3
    obtain ⟨C4, cf4, cd4⟩ := hI4
    have C3 := C3.as (f' := (sp : Int)) (l' := lim) (b' := lim) (by omega) (by omega) (by omega)
    have C4 := C4.as (f' := (sp : Int)) (l' := lim) (b' := lim) (by omega) (by omega) (by omega)
    obtain ⟨dx3, _, _, _, _, _, _, y3⟩ := id tw4.a
    refine ⟨_, rfl, p1, dx3, _, rfl, y3.ob, rfl, lc_chain (n := E0 + 1) (by omega) (by omega) fun L x hL hx => ?_⟩
    have tw5 := tw4.same (Same.laid (o := x) hL)
    have hl1 : (List.range (E0 + 1)).length = E0 + 1 := List.length_range
    refine ⟨p1, L, D3, s3, List.range (E0 + 1), rfl, tw5.a, hx, fun d => tw4.a.dom d hL, treeOk_chain _, by omega, by rw [C3.e6]; omega, by omega, by omega, by rw [cf3]; exact fits_chain _ h4, by rw [C3.e8]; exact Nat.zero_le _, by rw [C3.w]; exact Nat.zero_le _,
      fun H5 D5 k5 f5 => ⟨fun e => by rw [e] at hl1; simp at hl1, fun _ kk hk1 hk2 hk3 hk4 hk5 hin5 => ?_⟩⟩
    have c5 := (Chn.of_drop C3 cd3 hk1 hk2 hk3 hk4 hk5).as rfl rfl (show lim - ((E0 + 1 + 1 : Nat) : Int) = lim - ((E0 : Int) + 2) by omega) rfl
    have tw6 := tw5.step k5 f5 hin5
    generalize ({ s3 with live := s3.live - kk.size, drops := s3.drops + 1, works := s3.works ++ [kk] } : CS) = s5 at c5 tw6
    clear tw5 tw4 hin5 k5 f5 y3 hk1 hk2 hk3 hk4 hk5 hx hl1
    obtain ⟨dx4, _, _, _, _, _, _, y4⟩ := id tw6.b
    refine ⟨_, rfl, p2, dx4, _, rfl, y4.ob, rfl, lc_chain (n := E0) (by omega) (by omega) fun L x hL hx => ?_⟩
    have tw7 := tw6.same (Same.laid (o := x) hL)
    have hl1 : (List.range E0).length = E0 := List.length_range
    refine ⟨p2, L, D4, s4, List.range E0, rfl, tw7.b, hx, fun d => tw6.b.dom d hL, treeOk_chain _, by omega, by rw [C4.e6]; omega, by omega, by omega, by rw [cf4]; exact fits_chain _ h4, by rw [C4.e8]; exact Nat.zero_le _, by rw [C4.w]; exact Nat.zero_le _,
      fun H6 D6 k6 f6 => ⟨fun e => by rw [e] at hl1; simp at hl1; omega, fun _ kk hk1 hk2 hk3 hk4 hk5 hin6 => ?_⟩⟩
    have c6 := (Chn.of_drop C4 cd4 hk1 hk2 hk3 hk4 hk5).as rfl rfl (show lim - ((E0 + 1 : Nat) : Int) = lim - ((E0 : Int) + 1) by omega) rfl
    have tw8 := (tw7.swap.step k6 f6 hin6).swap
    generalize ({ s4 with live := s4.live - kk.size, drops := s4.drops + 1, works := s4.works ++ [kk] } : CS) = s6 at c6 tw8
    clear tw7 tw6 hin6 k6 f6 y4 hk1 hk2 hk3 hk4 hk5 hx hl1
    have step1 : ∀ (kk : Nat) (s : CS), (kk : Int) < (sp : Int) → Chn lim cuts (E0 + 1) (1 + kk * (m + 1)) ((sp : Int) - kk) (lim - ((E0 : Int) + 2) + kk) (lim + kk) s → s.begun = s5.begun + kk ∧ MakePre s ∧
        ∀ (j : Nat) s1, MakeEnd s j s1 → s1.free ≠ 0 ∧ Chn lim cuts (E0 + 1) (1 + (kk + 1) * (m + 1)) ((sp : Int) - ((kk + 1 : Nat) : Int)) (lim - ((E0 : Int) + 2) + ((kk + 1 : Nat) : Int)) (lim + ((kk + 1 : Nat) : Int)) (madeCS s1 (s.begun + 1)) := fun kk s hk C => by
      have hkk := hkey kk (by omega)
      have hs := Nat.succ_mul kk (m + 1)
      have hs : (kk + 1) * (m + 1) = kk * (m + 1) + (m + 1) := hs
      refine ⟨by rw [C.e7, c5.e7], C.pre (m := m + 1) hm (by omega) (by omega) (by omega) (by omega), fun j s1 E => ?_⟩
      have C1 := C.fin (m := m + 1) hm (by omega) E
      exact ⟨by rw [C1.e5]; omega, (C1.made (by rw [C.e7])).as (by omega) (by omega) (by omega) (by omega)⟩
    refine ⟨_, rfl, _, rfl, _, _, rfl, rfl, _, rfl, p1, D5, s5, sp, fun kk s => Chn lim cuts (E0 + 1) (1 + kk * (m + 1)) ((sp : Int) - kk) (lim - ((E0 : Int) + 2) + kk) (lim + kk) s, by rw [c5.e7]; rfl, tw8.a, by omega, by omega,
      c5.as (by omega) (by omega) (by omega) (by omega), step1, fun H7 D7 s7 k7 f7 hin7 hI7 => ⟨true, rfl, iteF ?_⟩⟩
    have tw9 := tw8.step k7 f7 hin7
    have c7 : Chn lim cuts (E0 + 1) (1 + ((sp : Int).toNat) * (m + 1)) ((sp : Int) - ((sp : Int).toNat : Int)) (lim - ((E0 : Int) + 2) + ((sp : Int).toNat : Int)) (lim + ((sp : Int).toNat : Int)) s7 := hI7
    have esp : (sp : Int).toNat = sp := by omega
    rw [esp] at c7
    have c7 := c7.as rfl (show (sp : Int) - sp = 0 by omega) rfl rfl
    clear hI7 step1 tw8 k7 f7 hin7 c5
    have step2 : ∀ (kk : Nat) (s : CS), (kk : Int) < (sp : Int) + 1 → ((kk ≤ sp ∧ Chn lim cuts E0 (1 + kk * (m + 1)) ((sp : Int) - kk) (lim - ((E0 : Int) + 1) + kk) (lim + kk) s) ∨ (kk = sp + 1 ∧ Done lim cuts E0 (lim - ((E0 : Int) + 1) + (sp : Int) + 1) (lim + (sp : Int) + 1) ((List.range (E0 + 1)).map (fun i => ((0 : Int), E0 - i))) s)) → s.begun = s6.begun + kk ∧ MakePre s ∧
        ∀ (j : Nat) s1, MakeEnd s j s1 → s1.free ≠ 0 ∧ ((kk + 1 ≤ sp ∧ Chn lim cuts E0 (1 + (kk + 1) * (m + 1)) ((sp : Int) - ((kk + 1 : Nat) : Int)) (lim - ((E0 : Int) + 1) + ((kk + 1 : Nat) : Int)) (lim + ((kk + 1 : Nat) : Int)) (madeCS s1 (s.begun + 1))) ∨
          (kk + 1 = sp + 1 ∧ Done lim cuts E0 (lim - ((E0 : Int) + 1) + (sp : Int) + 1) (lim + (sp : Int) + 1) ((List.range (E0 + 1)).map (fun i => ((0 : Int), E0 - i))) (madeCS s1 (s.begun + 1)))) := fun kk s hk hC => by
      rcases hC with ⟨hks, C⟩ | ⟨hks, _⟩
      · have hs : (kk + 1) * (m + 1) = kk * (m + 1) + (m + 1) := Nat.succ_mul kk (m + 1)
        have hkk := hkey kk hks
        refine ⟨by rw [C.e7, c6.e7], C.pre (m := m + 1) hm (by omega) (by omega) (by omega) (by omega), fun j s1 E => ?_⟩
        by_cases hlast : kk = sp
        · subst hlast
          have C1 := C.last (m := m) hm (by omega) E
          exact ⟨by rw [C1.e5]; omega, .inr ⟨rfl, (C1.made (by rw [C.e7])).as (by omega) (by omega) (by omega)⟩⟩
        · have hk2 := hkey (kk + 1) (by omega)
          have hs2 : (kk + 1 + 1) * (m + 1) = (kk + 1) * (m + 1) + (m + 1) := Nat.succ_mul (kk + 1) (m + 1)
          have C1 := C.fin (m := m + 1) hm (by omega) E
          exact ⟨by rw [C1.e5]; omega, .inl ⟨by omega, (C1.made (by rw [C.e7])).as (by omega) (by omega) (by omega) (by omega)⟩⟩
      · omega
    refine ⟨_, rfl, _, rfl, _, _, rfl, rfl, _, rfl, _, _, rfl, rfl, p2, D6, s6, (sp : Int) + 1, fun kk s => (kk ≤ sp ∧ Chn lim cuts E0 (1 + kk * (m + 1)) ((sp : Int) - kk) (lim - ((E0 : Int) + 1) + kk) (lim + kk) s) ∨ (kk = sp + 1 ∧ Done lim cuts E0 (lim - ((E0 : Int) + 1) + (sp : Int) + 1) (lim + (sp : Int) + 1) ((List.range (E0 + 1)).map (fun i => ((0 : Int), E0 - i))) s),
      by rw [c6.e7]; rfl, tw9.b, by omega, by omega, .inl ⟨Nat.zero_le _, c6.as (by omega) (by omega) (by omega) (by omega)⟩, step2, fun H8 D8 s8 k8 f8 hin8 hI8 => ⟨true, rfl, iteF ?_⟩⟩
    have tw10 := (tw9.swap.step k8 f8 hin8).swap
    have c8 : Done lim cuts E0 (lim - ((E0 : Int) + 1) + (sp : Int) + 1) (lim + (sp : Int) + 1) ((List.range (E0 + 1)).map (fun i => ((0 : Int), E0 - i))) s8 := by
      rcases hI8 with ⟨h, _⟩ | ⟨_, h⟩
      · exfalso
        omega
      · exact h
    clear hI8 step2 tw9 k8 f8 hin8 c6
    -- the first number stalls
    have hs : (sp + 1) * (m + 1) = sp * (m + 1) + (m + 1) := Nat.succ_mul sp (m + 1)
    refine ⟨_, rfl, p1, D7, s7, rfl, tw10.a, c7.pre (m := m + 1) hm (by omega) (by omega) (by omega) (by omega), fun j st1 H9 D9 qo hend k9 f9 hqo => ⟨fun hz _ _ => ?_, fun hz hin9 e9 => ?_⟩⟩
    · exact absurd (c7.fin (m := m + 1) hm (by omega) hend).e5 hz
    have c9 := ((c7.fin (m := m + 1) hm (by omega) hend).stall (b' := s7.begun + 1) (by rw [c7.e7])).as (e' := E0 + 1) (f' := 0) (l' := lim - ((E0 : Int) + 2) + sp) (b' := lim + sp + 1) (by omega) rfl rfl rfl
    have tw11 := tw10.step k9 f9 hin9
    generalize ({ st1 with begun := s7.begun + 1 } : CS) = s9 at c9 tw11
    have eb : s7.begun + 1 = lim + sp + 1 := by rw [c7.e7]
    rw [eb] at e9
    clear tw10 k9 f9 hin9 hend hz c7 eb hqo
    refine ⟨_, rfl, _, rfl, _, _, rfl, rfl, _, _, rfl, rfl, (by show 2 ≤ sizeLine; decide), fun q2 hq2 => ?_⟩
    have e9' : (upd H9 q2 (outHO false (lim + sp + 1))) qo = some (outHO false (lim + sp + 1)) := by
      rw [upd_ne (ne_of_none e9 hq2)]
      exact e9
    refine ⟨_, _, outHO_dp e9', outHO_dp upd_same, out_shaped false _, out_shaped false _, _, rfl, ?_⟩
    rw [out_eqv]
    refine iteF ?_
    have tw12 := tw11.same (Same.laid (o := outHO false (lim + sp + 1)) hq2)
    clear tw11 e9 e9' hq2
    obtain ⟨dx9, _, _, _, _, _, _, y9⟩ := id tw12.a
    refine ⟨_, rfl, p1, dx9, _, rfl, y9.ob, p1, D9, s9, rfl, tw12.a, rfl, false, ne_false c9.e5, iteF ?_⟩
    refine ⟨_, rfl, p1, dx9, _, rfl, y9.ob, p1, D9, s9, rfl, tw12.a, _, rfl, _, rfl, _, _, rfl, rfl, _, rfl, _, _, rfl, rfl, rfl, false, ne_false c9.e6, iteF ?_⟩
    refine ⟨_, rfl, p1, dx9, _, rfl, y9.ob, rfl, p1, D9, s9, rfl, tw12.a, fun H10 l ts sm hl htl _ => ⟨Nat.zero_le _, fun q3 hq3 => ?_⟩⟩
    have hts : ts = [] := List.eq_nil_of_length_eq_zero (by rw [htl, c9.e8]; rfl)
    rw [hts] at hl
    refine ⟨_, _, .lst (SqL.of (show (upd H10 q3 (.lst [])) l = some (.lst []) by rw [upd_ne (ne_of_none hl hq3)]; exact hl)) .nil, .lst (SqL.of upd_same) .nil, nil_shaped, nil_shaped, false, by rw [nil_eqv]; rfl, iteF ?_⟩
    have tw13 := (tw12.same sm).same (Same.laid (o := .lst []) hq3)
    clear tw12 sm hl htl hts hq3 y9
    -- the other heap
    obtain ⟨dx8, _, _, _, _, _, _, y8⟩ := id tw13.b
    refine ⟨_, rfl, p2, dx8, _, rfl, y8.ob, p2, D8, s8, rfl, tw13.b, _, rfl, _, _, rfl, rfl, rfl, false, ne_false (by rw [c8.e5]; omega), iteF ?_⟩
    refine ⟨_, rfl, p2, dx8, _, rfl, y8.ob, p2, D8, s8, rfl, tw13.b, _, rfl, _, rfl, _, _, rfl, rfl, _, rfl, _, _, rfl, rfl, _, _, rfl, rfl, rfl, false, ne_false (by rw [c8.e6]; omega), iteF ?_⟩
    -- the second number is made
    refine ⟨_, rfl, p1, D9, s9, rfl, tw13.a, c9.pre1 (by omega) (by omega) (by omega) (by omega) (by omega), fun j st1 H11 D11 qo hend k11 f11 hqo => ⟨fun hz hin11 e11 => ?_, fun hz _ _ => ?_⟩⟩
    · have c11 := ((c9.last1 (by omega) hend).made (b' := s9.begun + 1) (by rw [c9.e7])).as (f' := (E0 : Int) + 1) (l' := lim - ((E0 : Int) + 2) + sp + 1) (b' := lim + sp + 2) (by omega) (by omega) (by omega)
      have tw14 := tw13.step (s1' := madeCS st1 (s9.begun + 1)) k11 f11 hin11
      generalize madeCS st1 (s9.begun + 1) = s11 at c11 tw14
      have eb : s9.begun + 1 = lim + sp + 2 := by rw [c9.e7]; omega
      rw [eb] at e11
      clear tw13 k11 f11 hin11 hend hz eb hqo
      refine ⟨_, rfl, _, rfl, _, _, rfl, rfl, _, _, rfl, rfl, (by show 2 ≤ sizeLine; decide), fun q2 hq2 => ?_⟩
      have e11' : (upd H11 q2 (outHO true (lim + sp + 2))) qo = some (outHO true (lim + sp + 2)) := by
        rw [upd_ne (ne_of_none e11 hq2)]
        exact e11
      refine ⟨_, _, outHO_dp e11', outHO_dp upd_same, out_shaped true _, out_shaped true _, false, by rw [out_eqv]; rfl, iteF ?_⟩
      have tw15 := tw14.same (Same.laid (o := outHO true (lim + sp + 2)) hq2)
      obtain ⟨dx11, _, _, _, _, _, _, y11⟩ := id tw15.a
      refine ⟨_, rfl, p1, dx11, _, rfl, y11.ob, p1, D11, s11, rfl, tw15.a, _, rfl, _, _, rfl, rfl, rfl, false, ne_false (by rw [c11.e5]; omega), iteF ?_⟩
      -- what was freed
      refine ⟨_, rfl, p1, dx11, _, rfl, y11.ob, rfl, p1, D11, s11, rfl, tw15.a, fun H12 l ts sm hl htl htt => lc_pairs (n := E0 + 1) (by omega) (by omega) fun L ts2 H13 sm2 hl2 hL2 ht2 => ?_⟩
      rw [c11.e8] at htl htt
      refine ⟨_, _, .lst (SqL.of (sm2 _ _ hl)) (dpAll_tups ts ((List.range (E0 + 1 + 1)).map (fun i => ((0 : Int), E0 + 1 - i))) htl fun i t q' g1 g2 => sm2 _ _ (htt i t q' g1 g2)),
        .lst (SqL.of hL2) (dpAll_tups ts2 ((List.range (E0 + 1 + 1)).map (fun i => ((0 : Int), E0 + 1 - i))) (by rw [hl2, List.length_map, List.length_range]) ht2), tups_shaped _, tups_shaped _, ?_⟩
      rw [SeqAt.eqv_refl _ (SeqAt.canLay_of_shaped (tups_shaped _))]
      exact k H13 ((tw15.same sm).same sm2).fr
    · have c11 := c9.last1 (by omega) hend
      have := c11.e5
      omega
end
end SH
/-! ## L6 -/
namespace SH
open PySem L2
def spLaw (K : PySem.W.Frag) : Sp := fun vs H Q _ => ∃ (a : Addr) (ns : List Int), vs = [.ref a] ∧ SqL K H a (ns.map V.int) ∧ ns.length ≤ 63 ∧ ∀ H', Q (.bl true) H'
section
variable {P : Program} {w : World} {K : PySem.W.Frag} {mg : Str → Option Value} {base : Heap}
theorem scLaw : FnScope ["_law_script", "_law_box_here", "_law_numbers", "_law_due", "_law_good"] ["_law_script"] (defScope sLaw) := ⟨rfl, rfl, rfl, by decide +kernel, rfl, by decide +kernel, by decide +kernel⟩
theorem ok_law {f : Addr} {fd : FuncData} (F : Fun K "law" "law" sLaw f fd) (c1 : Cal P w K mg base CX0 1 "_law_box" ["_law_script"] (spBox K)) (c2 : Cal P w K mg base CX0 3 "_law_small" ["_law_box_here"] spSmall) (c3 : Cal P w K mg base CX0 5 "_law_says" ["_law_numbers", "_law_due"] (spSays K))
    (c4 : Cal P w K mg base CX0 2 "_law_width" ["_law_box_here"] spWidth) (c5 : Cal P w K mg base CX0 8 "_law_survives" ["_law_box_here", "_law_numbers"] spSurvives) (c6 : Cal P w K mg base CX0 8 "_law_stalls" ["_law_numbers"] spStalls) (c7 : Cal P w K mg base CX0 6 "_law_great" ["_law_box_here"] spGreat) :
    FnOk P w K mg base CX0 9 f fd ["_law_script"] (spLaw K) := by
  refine F.ok scLaw (fun vs H Q E h => ?_) (fun cdv A outer s H vs Q E hr h => ?_)
  · obtain ⟨_, _, rfl, _⟩ := h
    rfl
  · obtain ⟨a, ns, rfl, hA, hlen, k⟩ := h
    have r1 := hr.mono (show 1 ≤ 8 by decide)
    have r2 := hr.mono (show 2 ≤ 8 by decide)
    have r3 := hr.mono (show 3 ≤ 8 by decide)
    have r5 := hr.mono (show 5 ≤ 8 by decide)
    have r6 := hr.mono (show 6 ≤ 8 by decide)
    refine ⟨_, pss_cons (ps_set (i := 1) scLaw.nd rfl (.inl rfl) (pe_cal c1 r1 pass0 (pa_cons (pv 0) pa_nil)))
      (pss_cons (ps_set (i := 2) scLaw.nd rfl (.inl rfl) (pe_cal c2 r3 pass0 (pa_cons (pv 1) pa_nil)))
      (pss_cons (ps_set (i := 3) scLaw.nd rfl (.inl rfl) (pe_cmpR op_le (pe_ix ix_seq (pv 2) pe_int (fun _ _ => rfl)) (pe_op op_add (pe_op op_mul (pe_ix ix_seq (pv 2) pe_int (fun _ _ => rfl)) (pe_op op_add (pe_op op_sub (pe_ix ix_seq (pv 2) pe_int (fun _ _ => rfl)) (pe_ix ix_seq (pv 2) pe_int (fun _ _ => rfl))) pe_int)) pe_int) (nomark _)))
      (pss_cons (ps_if (pt_not (pt_val (pe_cal c3 r5 pass0 (pa_cons (pv 2) (pa_cons (pv 3) pa_nil))))) (pss_one (ps_ret pe_bl)) pss_nil)
      (pss_cons (ps_if (pt_not (pt_val (pe_cal c3 r5 pass0 (pa_cons (pe_tup (pa_cons (pe_ix ix_seq (pv 2) pe_int (fun _ _ => rfl)) (pa_cons (pe_ix ix_seq (pv 2) pe_int (fun _ _ => rfl)) (pa_cons (pe_cal c4 r2 pass0 (pa_cons (pv 1) pa_nil)) (pa_cons (pe_ix ix_seq (pv 2) pe_int (fun _ _ => rfl)) pa_nil))))) (pa_cons (pv 3) pa_nil))))) (pss_one (ps_ret pe_bl)) pss_nil)
      (pss_cons (ps_set (i := 4) scLaw.nd rfl (.inl rfl) pe_bl)
      (C8.pss_cut (ps_if (pt_val (pv 3)) (pss_one (ps_set (i := 4) scLaw.nd rfl (.inl rfl) (pe_cal c5 hr pass0 (pa_cons (pv 1) (pa_cons (pv 2) pa_nil))))) (pss_one (ps_set (i := 4) scLaw.nd rfl (.inl rfl) (pe_cal c6 hr pass0 (pa_cons (pv 2) pa_nil)))))
      (pss_one (ps_ret (pe_and (pv 4) (pe_one (pe_cal c7 r6 pass0 (pa_cons (pv 1) pa_nil)))))))))))), ?_⟩
    refine ⟨_, rfl, a, ns, rfl, hA, hlen, fun H1 b cc s1 hb hc hB => ?_⟩
    refine ⟨_, rfl, b, cc, rfl, hB, fun x q cells lim fields cuts hB1 hq0 u1 u2 u3 u4 u5 u6 u7 u8 => ?_⟩
    have hqb : q ≠ b := fun e => by
      rw [e, upd_same] at hq0
      cases hq0
    have hB2 : BoxAt (upd (upd H1 b x) q (.lst [.int cells, .int lim, .int fields, .int cuts])) b cc := hB1.keep fun a o _ e => by rw [upd_ne (ne_of_none e hq0)]; exact e
    have hq : (upd (upd H1 b x) q (.lst [.int cells, .int lim, .int fields, .int cuts])) q = some (.lst [.int cells, .int lim, .int fields, .int cuts]) := upd_same
    generalize upd (upd H1 b x) q (.lst [.int cells, .int lim, .int fields, .int cuts]) = H2 at hB2 hq
    clear hB1 hq0 hB hb hc s1
    have hN : NumsAt K H2 q cells lim fields cuts := .inl (SqL.of hq)
    have hm1 : cuts * (cells - lim + 1) ≤ 60 * 13 := Int.mul_le_mul (by omega) (by omega) (by omega) (by decide)
    refine ⟨_, rfl, hN.ix 1 rfl rfl ⟨_, rfl, hN.ix 3 rfl rfl ⟨_, rfl, hN.ix 0 rfl rfl ⟨_, rfl, hN.ix 1 rfl rfl ⟨_, _, rfl, rfl, _, _, rfl, rfl, _, _, rfl, rfl, .inl ⟨by omega, by omega⟩, _, _, rfl, rfl, _, _, rfl, rfl, ?_⟩⟩⟩⟩⟩
    obtain ⟨due, hdue⟩ : ∃ due : Bool, decide (lim ≤ cuts * (cells - lim + 1) + 1) = due := ⟨_, rfl⟩
    rw [show (fun i j : Int => V.bl (decide (i ≤ j))) lim (cuts * (cells - lim + 1) + 1) = V.bl due from congrArg V.bl hdue]
    refine ⟨_, rfl, _, rfl, q, cells, lim, fields, cuts, due, rfl, hN, u5, u3, by omega, u7, u8, u1, by omega, hdue.symm, fun H3 s3 => ⟨true, rfl, iteF ?_⟩⟩
    have hq3 := s3 _ _ hq
    have hB3 := hB2.keep fun a o _ e => s3 a o e
    have hN3 : NumsAt K H3 q cells lim fields cuts := .inl (SqL.of hq3)
    refine ⟨_, rfl, hN3.ix 0 rfl rfl ⟨_, rfl, hN3.ix 1 rfl rfl ⟨_, rfl, b, cc, rfl, hB3, fun wd y w0 w1 hB4 => ?_⟩⟩⟩
    have hq4 : upd H3 b y q = some (.lst [.int cells, .int lim, .int fields, .int cuts]) := by
      rw [upd_ne hqb]
      exact hq3
    generalize upd H3 b y = H4 at hq4 hB4
    have hN4 : NumsAt K H4 q cells lim fields cuts := .inl (SqL.of hq4)
    refine ⟨_, rfl, hN4.ix 3 rfl rfl ⟨(by show 4 ≤ sizeLine; decide), fun t ht => ⟨_, rfl, t, cells, lim, wd, cuts, due, rfl, .inr (SqT.of upd_same), u5, u3, by omega, w0, w1, u1, by omega, hdue.symm, fun H5 s5 => ⟨true, rfl, iteF ?_⟩⟩⟩⟩
    have s45 : Same H4 H5 := (Same.laid ht).trans s5
    have hq5 := s45 _ _ hq4
    have hB5 := hB4.keep fun a o _ e => s45 a o e
    refine ⟨fun σ' H' => σ' = [some (.ref a), some (.ref b), some (.ref q), some (.bl due), some (.bl true)] ∧ BoxAt H' b cc, ?_, ?_⟩
    · refine ⟨_, rfl, due, rfl, ?_⟩
      refine ite2 (fun hd => ?_) (fun hd => ?_)
      · rw [hd] at hdue
        have hthr := of_decide_eq_true hdue
        exact ⟨_, rfl, _, rfl, b, cc, q, cells, lim, fields, cuts, rfl, hB5, hq5, hqb, u5, u3, by omega, u7, u8, u1, by omega, hthr, fun H6 _ hB6 => ⟨rfl, hB6⟩⟩
      · have hthr : ¬ lim ≤ cuts * (cells - lim + 1) + 1 := fun z => hd (hdue.symm.trans (decide_eq_true z))
        exact ⟨_, rfl, q, cells, lim, fields, cuts, rfl, hq5, u5, u3, by omega, u7, u8, u1, by omega, by omega, fun H6 s6 => ⟨rfl, hB5.keep fun a o _ e => s6 a o e⟩⟩
    · rintro σ' H6 ⟨rfl, hB6⟩
      exact ⟨_, rfl, true, rfl, iteT ⟨_, rfl, b, cc, rfl, hB6, fun H' => k H'⟩⟩
end
end SH
/-! ## End1 -/
namespace SH
open PySem L2
/-! ### what the top has written, word by word -/
def D0 (K : PySem.W.Frag) (mg : Str → Option Value) (x : Str) (st : Stmt) : Prop := ∃ f fd, Fun K x x st f fd ∧ mg x = some (.ref f)
def M0 (K : PySem.W.Frag) (C : Addr) (m qual : Str) (st : Stmt) : Prop := ∃ f fd, Fun K m qual st f fd ∧ Meth K C m f
def I0 (K : PySem.W.Frag) (C : Addr) (qual : Str) (st : Stmt) : Prop := ∃ f fd, Fun K "__init__" qual st f fd ∧ Mk K C f
def Q0 (K : PySem.W.Frag) (C : Addr) (m qual : Str) (st : Stmt) : Prop := ∃ p g fd, Fun K m qual st g fd ∧ PropOf K C m p g
section
variable {K : PySem.W.Frag} {h : Heap} {mg : Str → Option Value} {C f p : Addr} {x m qual : Str} {st : Stmt} {oc kV doc pm cdv ct : Value} {od an : Option Addr} {osl : Array (Option Value)} {rest : List Value}
theorem d0 (X : K.In h) (G : h.Ns mainGlobals mg) (a : PySem.W.nsIn K mainGlobals x = some (some (.ref f))) (l : K.lookup f = some ⟨oc, od, .func (PySem.W.fnOf x x (defArgs st) (defBody st) (defScope st) .none kV doc pm an cdv ct), osl⟩)
    (c : PySem.W.codeIn K cdv x = true) (k : PySem.W.keepIn K (.ref f) = true) : D0 K mg x st := ⟨f, _, fun_mk l c k, PySem.W.mg_of X G a⟩
theorem m0 (a : PySem.W.findIn K (.ref C) m = some (some (.ref f))) (i : PySem.W.isFn K (.ref f) = true) (l : K.lookup f = some ⟨oc, od, .func (PySem.W.fnOf m qual (defArgs st) (defBody st) (defScope st) .none kV doc pm an cdv ct), osl⟩)
    (c : PySem.W.codeIn K cdv qual = true) (k : PySem.W.keepIn K (.ref f) = true) : M0 K C m qual st := ⟨f, _, fun_mk l c k, a, i, k⟩
theorem i0 (a : PySem.W.findIn K (.ref C) "__init__" = some (some (.ref f))) (i : PySem.W.isFn K (.ref f) = true) (l : K.lookup f = some ⟨oc, od, .func (PySem.W.fnOf "__init__" qual (defArgs st) (defBody st) (defScope st) .none kV doc pm an cdv ct), osl⟩)
    (c : PySem.W.codeIn K cdv qual = true) (k : PySem.W.keepIn K (.ref f) = true) (mk : PySem.W.makesIn K C = true) (kc : PySem.W.keepIn K (.ref C) = true) : I0 K C qual st := ⟨f, _, fun_mk l c k, mk, a, i, kc⟩
theorem q0 (a : PySem.W.findIn K (.ref C) m = some (some (.ref p))) (g : PySem.W.specialIn K (.ref p) "__get__" = some (some (.builtin "property.__get__"))) (t : PySem.W.takesIn K (.ref p) = some true) (r : PySem.W.recIn K p "property" = some (.ref f :: rest))
    (l : K.lookup f = some ⟨oc, od, .func (PySem.W.fnOf m qual (defArgs st) (defBody st) (defScope st) .none kV doc pm an cdv ct), osl⟩) (c : PySem.W.codeIn K cdv qual = true) (k : PySem.W.keepIn K (.ref f) = true) : Q0 K C m qual st :=
  ⟨p, f, _, fun_mk l c k, a, g, t, rest, r⟩
theorem na0 {y : Str} (a : PySem.W.findIn K (.ref C) y = some none) : NoAttr K C y := a
theorem glo0 (X : K.In h) (G : h.Ns mainGlobals mg) {z1 z2 z3 : Int} {t1 t2 t3 : Tok}
    (n_isinstance : PySem.W.nsIn K mainGlobals "isinstance" = some none)
    (n_int : PySem.W.nsIn K mainGlobals "int" = some none)
    (n_bool : PySem.W.nsIn K mainGlobals "bool" = some none)
    (n_str : PySem.W.nsIn K mainGlobals "str" = some none)
    (n_len : PySem.W.nsIn K mainGlobals "len" = some none)
    (n_list : PySem.W.nsIn K mainGlobals "list" = some none)
    (n_range : PySem.W.nsIn K mainGlobals "range" = some none)
    (n_enumerate : PySem.W.nsIn K mainGlobals "enumerate" = some none)
    (n_max : PySem.W.nsIn K mainGlobals "max" = some none)
    (n_min : PySem.W.nsIn K mainGlobals "min" = some none)
    (n_super : PySem.W.nsIn K mainGlobals "super" = some none)
    (a1 : PySem.W.nsIn K mainGlobals "MOST" = some (some (.int z1 t1))) (e1 : z1 = 10 ^ 30) (a2 : PySem.W.nsIn K mainGlobals "LARGE" = some (some (.int z2 t2))) (e2 : z2 = 10 ^ 40) (a3 : PySem.W.nsIn K mainGlobals "MOST_CELLS" = some (some (.int z3 t3))) (e3 : z3 = 2000) : Glo K mg := by
  subst e1 e2 e3
  exact ⟨PySem.W.mg_none_of X G n_isinstance, PySem.W.mg_none_of X G n_int, PySem.W.mg_none_of X G n_bool, PySem.W.mg_none_of X G n_str, PySem.W.mg_none_of X G n_len, PySem.W.mg_none_of X G n_list, PySem.W.mg_none_of X G n_range, PySem.W.mg_none_of X G n_enumerate, PySem.W.mg_none_of X G n_max, PySem.W.mg_none_of X G n_min, PySem.W.mg_none_of X G n_super, ⟨t1, PySem.W.mg_of X G a1⟩, ⟨t2, PySem.W.mg_of X G a2⟩, ⟨t3, PySem.W.mg_of X G a3⟩⟩
/-- a clause that names the error's own class -/
theorem exm_it {S : Addr} (h1 : PySem.W.subIn K (.ref S) (.type "BaseException") = some true) (h2 : PySem.W.isClsIn K S = true) (h3 : PySem.W.typeIn K (.ref S) = some (.type "type")) (h4 : PySem.W.subIn K (.ref S) (.ref S) = some true) :
    PySem.W.exmOne K (.ref S) (.ref S) = some true := by
  have h5 : (PySem.W.clsIn K S).isSome = true := h2
  unfold PySem.W.exmOne
  simp [h1, h3, h4, h5, PySem.W.kitCls]
/-- the class of the error -/
structure Err0 (K : PySem.W.Frag) (mg : Str → Option Value) (N : Addr) : Prop where
  oex : OexC K N
  at_ : mg "Stalled" = some (.ref N)
  xs : StX K N
  fn : ∃ f cda cc kV doc pm ct an, PySem.W.findIn K (.ref N) "__init__" = some (some (.ref f)) ∧ PySem.W.typeIn K (.ref f) = some (.type "function") ∧ SupT K N f cda cc (stFn kV doc pm an cda ct cc) "/claim/cut.py" ∧ PySem.W.codeIn K (.ref cda) "Stalled.__init__" = true
theorem err0 {N cda cc : Addr} {nm qn : Str} {Ns : Addr} {bs bm : List Value} {sn : List Str} {sub : List Value} {ab : Bool} {col : Option Bool} {dd ccd cld : Option Addr} {k0 k1 k2 k3 k5 : Option Value} {vs : Array Value} {ccs csl : Array (Option Value)} {ccl cl : Value} {tf : Tok}
    (X : K.In h) (G : h.Ns mainGlobals mg) (aN : PySem.W.nsIn K mainGlobals "Stalled" = some (some (.ref N)))
    (xL : K.lookup N = some (excClassObj nm qn N Ns bs bm true sn sub ab col dd k0 k1 k2 k3 k5 "ValueError.__new__")) (hbm : PySem.HandSPX.refsVE bm = true)
    (sa : PySem.W.findIn K (.ref N) "__setattr__" = some (some (.builtin "object.__setattr__"))) (eC : PySem.W.subIn K (.ref N) (.type "BaseException") = some true) (tC : PySem.W.typeIn K (.ref N) = some (.type "type")) (kC : PySem.W.keepIn K (.ref N) = true)
    (ga : PySem.W.findIn K (.ref N) "__getattribute__" = some (some (.builtin "BaseException.__getattribute__"))) (gg : PySem.W.findIn K (.ref N) "__getattr__" = some none) (hd : PySem.W.hasDictIn K N = true) (no : PySem.W.findIn K (.ref N) "allocation" = some none) (iC : PySem.W.isClsIn K N = true) (sC : PySem.W.subIn K (.ref N) (.ref N) = some true)
    (a : PySem.W.findIn K (.ref N) "__init__" = some (some (.ref f))) (ty : PySem.W.typeIn K (.ref f) = some (.type "function")) (l : K.lookup f = some ⟨oc, od, .func (stFn kV doc pm an cda ct cc), osl⟩) (cod : PySem.W.codeIn K (.ref cda) "Stalled.__init__" = true)
    (lc : K.lookup cda = some ⟨ccl, ccd, .fields vs, ccs⟩) (ev : vs[2]? = some (.str "/claim/cut.py" tf)) (lx : K.lookup cc = some ⟨cl, cld, .cell (some (.ref N)), csl⟩) (own : PySem.W.mroIn K N (.ref N) = some true) (stat : PySem.W.nsIn K PySem.cStatics "thirdparty.any" = some none)
    (sup : PySem.W.ks_superIn K N N "__init__" = some (some (.builtin "ValueError.__init__"))) (sV : PySem.W.subIn K (.ref N) (.type "ValueError") = some true) : Err0 K mg N := by
  have ox : OexC K N := ⟨⟨nm, qn, Ns, bs, _, sn, sub, ab, col, dd, k0, k1, k2, k3, k5, xL, hbm⟩, sa, eC, tC, kC⟩
  exact ⟨ox, PySem.W.mg_of X G aN, ⟨⟨ga, gg, eC, hd⟩, no, exm_it eC iC tC sC⟩, f, cda, cc, kV, doc, pm, ct, an, a, ty, ⟨ox, ⟨oc, od, osl, l⟩, ⟨ccl, ccd, vs, ccs, tf, lc, ev⟩, ⟨cl, cld, csl, lx⟩, own, stat, sup, sV⟩, cod⟩
theorem D0.df {ps : List Str} (d : D0 K mg x st) (b : ∀ (kV doc pm : Value) (an : Option Addr) (cdv ct : Value) (us : List Value), us.length = ps.length → bindArgs (PySem.W.fnOf x x (defArgs st) (defBody st) (defScope st) .none kV doc pm an cdv ct) ⟨us, []⟩ = pure (ps.zip us)) : Df K mg x x st ps := by
  obtain ⟨f, fd, F, e⟩ := d
  exact ⟨f, fd, F, e, F.binds b⟩
theorem M0.mf {ps : List Str} (d : M0 K C m qual st) (b : ∀ (kV doc pm : Value) (an : Option Addr) (cdv ct : Value) (us : List Value), us.length = ps.length → bindArgs (PySem.W.fnOf m qual (defArgs st) (defBody st) (defScope st) .none kV doc pm an cdv ct) ⟨us, []⟩ = pure (ps.zip us)) : Mf K C m qual st ps := by
  obtain ⟨f, fd, F, e⟩ := d
  exact ⟨f, fd, F, e, F.binds b⟩
theorem I0.kf {ps : List Str} (d : I0 K C qual st) (e0 : mg x = some (.ref C)) (b : ∀ (kV doc pm : Value) (an : Option Addr) (cdv ct : Value) (us : List Value), us.length = ps.length → bindArgs (PySem.W.fnOf "__init__" qual (defArgs st) (defBody st) (defScope st) .none kV doc pm an cdv ct) ⟨us, []⟩ = pure (ps.zip us)) : Kf K mg C x qual st ps := by
  obtain ⟨f, fd, F, e⟩ := d
  exact ⟨⟨f, fd, F, e, F.binds b⟩, e0⟩
theorem Q0.pf (d : Q0 K C m qual st) (b : ∀ (kV doc pm : Value) (an : Option Addr) (cdv ct : Value) (us : List Value), us.length = (["self"] : List Str).length → bindArgs (PySem.W.fnOf m qual (defArgs st) (defBody st) (defScope st) .none kV doc pm an cdv ct) ⟨us, []⟩ = pure ((["self"] : List Str).zip us)) : Pf K C m qual st := by
  obtain ⟨p, g, fd, F, e⟩ := d
  exact ⟨p, g, fd, F, e, F.binds b⟩
end
theorem all_of {P : Program} {w : World} {K : PySem.W.Frag} {h : Heap} {mg : Str → Option Value} {fa C S W N : Addr} (X : K.In h) (G : h.Ns mainGlobals mg) (hfa : mg "law" = some (.ref fa)) (hfile : ((P.main.file : Str) == ("/claim/cut.py" : Str)) = true) (htop : (P.main.scope.names.lookup ("super" : Str)).isSome = false)
    (T : Glo K mg)
    (aC : PySem.W.nsIn K mainGlobals "ChildrenHeap" = some (some (.ref C))) (aS : PySem.W.nsIn K mainGlobals "Setting" = some (some (.ref S))) (aW : PySem.W.nsIn K mainGlobals "Work" = some (some (.ref W)))
    (TC : ChT K C) (TS : SetT K S) (TW : WkT K W) (TE : Err0 K mg N)
    (dIsInt : D0 K mg "is_integer" sIsInt)
    (dChecked : D0 K mg "checked_number" sChecked)
    (dCheckTree : D0 K mg "check_tree" sCheckTree)
    (dChildren : D0 K mg "children_of" sChildren)
    (dPreorder : D0 K mg "preorder" sPreorder)
    (dFits : D0 K mg "fits_fields" sFits)
    (dNever : D0 K mg "children_never_stalls" sNever)
    (dShown : D0 K mg "shown" sShown)
    (dBox : D0 K mg "_law_box" sBox)
    (dDraw : D0 K mg "_law_draw" sDraw)
    (dWhole : D0 K mg "_law_whole" sWhole)
    (dDigits : D0 K mg "_law_digits" sDigits)
    (dWidth : D0 K mg "_law_width" sWidth)
    (dSays : D0 K mg "_law_says" sSays)
    (dGreat : D0 K mg "_law_great" sGreat)
    (dSmall : D0 K mg "_law_small" sSmall)
    (dNumber : D0 K mg "_law_number" sNumber)
    (dServed : D0 K mg "_law_served" sServed)
    (dAny : D0 K mg "_law_any_tree" sAnyTree)
    (dTree : D0 K mg "_law_tree" sTree)
    (dSurv : D0 K mg "_law_survives" sSurvives)
    (dStal : D0 K mg "_law_stalls" sStalls)
    (dLaw : D0 K mg "law" sLaw)
    (dWkOver : M0 K W "is_over" "Work.is_over" sWkOver)
    (dWkEnter : M0 K W "enter" "Work.enter" sWkEnter)
    (dChMake : M0 K C "make" "ChildrenHeap.make" sChMake)
    (dChDrop : M0 K C "drop" "ChildrenHeap.drop" sChDrop)
    (dChFreed : M0 K C "freed" "ChildrenHeap.freed" sChFreed)
    (dChNext : M0 K C "_enter_next" "ChildrenHeap._enter_next" sChNext)
    (dChFree : Q0 K C "free_count" "ChildrenHeap.free_count" sChFree)
    (dChLive : Q0 K C "live_count" "ChildrenHeap.live_count" sChLive)
    (dReach : Q0 K S "reach" "Setting.reach" sSetReach)
    (dWkInit : I0 K W "Work.__init__" sWkInit)
    (dChInit : I0 K C "ChildrenHeap.__init__" sChInit)
    (dSetInit : I0 K S "Setting.__init__" sSetInit)
    : ∃ fd : FuncData, (∀ (s : Shared) (v : Value), BindsTo s fd ⟨[v], []⟩ [("_law_script", v)]) ∧ ∀ base : Heap, K.In base → base.Ns mainGlobals mg → FnOk P w K mg base CX0 9 fa fd ["_law_script"] (spLaw K) := by
  have bIsInt := dIsInt.df (ps := ["value"]) fun _ _ _ _ _ _ us hl => match us, hl with | [_], _ => rfl
  have bChecked := dChecked.df (ps := ["value", "low", "high"]) fun _ _ _ _ _ _ us hl => match us, hl with | [_, _, _], _ => rfl
  have bCheckTree := dCheckTree.df (ps := ["tree"]) fun _ _ _ _ _ _ us hl => match us, hl with | [_], _ => rfl
  have bChildren := dChildren.df (ps := ["tree"]) fun _ _ _ _ _ _ us hl => match us, hl with | [_], _ => rfl
  have bPreorder := dPreorder.df (ps := ["tree"]) fun _ _ _ _ _ _ us hl => match us, hl with | [_], _ => rfl
  have bFits := dFits.df (ps := ["tree", "fields"]) fun _ _ _ _ _ _ us hl => match us, hl with | [_, _], _ => rfl
  have bNever := dNever.df (ps := ["setting"]) fun _ _ _ _ _ _ us hl => match us, hl with | [_], _ => rfl
  have bShown := dShown.df (ps := ["value"]) fun _ _ _ _ _ _ us hl => match us, hl with | [_], _ => rfl
  have bBox := dBox.df (ps := ["_law_script"]) fun _ _ _ _ _ _ us hl => match us, hl with | [_], _ => rfl
  have bDraw := dDraw.df (ps := ["_law_box_here", "_law_size"]) fun _ _ _ _ _ _ us hl => match us, hl with | [_, _], _ => rfl
  have bWhole := dWhole.df (ps := ["_law_value"]) fun _ _ _ _ _ _ us hl => match us, hl with | [_], _ => rfl
  have bDigits := dDigits.df (ps := ["_law_box_here", "_law_most"]) fun _ _ _ _ _ _ us hl => match us, hl with | [_, _], _ => rfl
  have bWidth := dWidth.df (ps := ["_law_box_here"]) fun _ _ _ _ _ _ us hl => match us, hl with | [_], _ => rfl
  have bSays := dSays.df (ps := ["_law_numbers", "_law_due"]) fun _ _ _ _ _ _ us hl => match us, hl with | [_, _], _ => rfl
  have bGreat := dGreat.df (ps := ["_law_box_here"]) fun _ _ _ _ _ _ us hl => match us, hl with | [_], _ => rfl
  have bSmall := dSmall.df (ps := ["_law_box_here"]) fun _ _ _ _ _ _ us hl => match us, hl with | [_], _ => rfl
  have bNumber := dNumber.df (ps := ["_law_heap"]) fun _ _ _ _ _ _ us hl => match us, hl with | [_], _ => rfl
  have bServed := dServed.df (ps := ["_law_heap", "_law_first", "_law_count"]) fun _ _ _ _ _ _ us hl => match us, hl with | [_, _, _], _ => rfl
  have bAny := dAny.df (ps := ["_law_box_here", "_law_size", "_law_width_here"]) fun _ _ _ _ _ _ us hl => match us, hl with | [_, _, _], _ => rfl
  have bTree := dTree.df (ps := ["_law_box_here", "_law_size", "_law_width_here"]) fun _ _ _ _ _ _ us hl => match us, hl with | [_, _, _], _ => rfl
  have bSurv := dSurv.df (ps := ["_law_box_here", "_law_numbers"]) fun _ _ _ _ _ _ us hl => match us, hl with | [_, _], _ => rfl
  have bStal := dStal.df (ps := ["_law_numbers"]) fun _ _ _ _ _ _ us hl => match us, hl with | [_], _ => rfl
  have bWkOver := dWkOver.mf (ps := ["self"]) fun _ _ _ _ _ _ us hl => match us, hl with | [_], _ => rfl
  have bWkEnter := dWkEnter.mf (ps := ["self"]) fun _ _ _ _ _ _ us hl => match us, hl with | [_], _ => rfl
  have bChMake := dChMake.mf (ps := ["self"]) fun _ _ _ _ _ _ us hl => match us, hl with | [_], _ => rfl
  have bChDrop := dChDrop.mf (ps := ["self", "tree"]) fun _ _ _ _ _ _ us hl => match us, hl with | [_, _], _ => rfl
  have bChFreed := dChFreed.mf (ps := ["self"]) fun _ _ _ _ _ _ us hl => match us, hl with | [_], _ => rfl
  have bChNext := dChNext.mf (ps := ["self"]) fun _ _ _ _ _ _ us hl => match us, hl with | [_], _ => rfl
  have bChFree := dChFree.pf fun _ _ _ _ _ _ us hl => match us, hl with | [_], _ => rfl
  have bChLive := dChLive.pf fun _ _ _ _ _ _ us hl => match us, hl with | [_], _ => rfl
  have bReach := dReach.pf fun _ _ _ _ _ _ us hl => match us, hl with | [_], _ => rfl
  have bWkInit := dWkInit.kf (ps := ["self", "number", "tree"]) (PySem.W.mg_of X G aW) fun _ _ _ _ _ _ us hl => match us, hl with | [_, _, _], _ => rfl
  have bChInit := dChInit.kf (ps := ["self", "setting"]) (PySem.W.mg_of X G aC) fun _ _ _ _ _ _ us hl => match us, hl with | [_, _], _ => rfl
  have bSetInit := dSetInit.kf (ps := ["self", "cells", "live", "fields", "cuts"]) (PySem.W.mg_of X G aS) fun _ _ _ _ _ _ us hl => match us, hl with | [_, _, _, _, _], _ => rfl
  obtain ⟨f, fd, F, e⟩ := dLaw
  cases hfa.symm.trans e
  obtain ⟨oc, od, kV, doc, pm, an, cdv, ct, osl, rfl, lk, hcd⟩ := F.ex
  refine ⟨PySem.W.fnOf "law" "law" (defArgs sLaw) (defBody sLaw) (defScope sLaw) .none kV doc pm an cdv ct, fun s v => .of_eq rfl, fun base _ _ => ?_⟩
  have cIsInt := bIsInt.cal fun f fd F => ok_isint (P := P) (w := w) (base := base) F T
  have cChecked := bChecked.cal fun f fd F => ok_checked F T cIsInt
  have cCheckTree := bCheckTree.cal fun f fd F => ok_checktree F T cIsInt
  have cChildren := bChildren.cal fun f fd F => ok_children F T cCheckTree
  have cPreorder := bPreorder.cal fun f fd F => ok_preorder F T cChildren
  have cFits := bFits.cal fun f fd F => ok_fits F T cChildren cChecked
  have cShown := bShown.cal fun f fd F => ok_shown (P := P) (w := w) (base := base) F T
  have cWkInit := bWkInit.cal fun f fd F => ok_wkinit F T TW cPreorder cChildren
  have cWkOver := bWkOver.cal fun f fd F => ok_wkover (P := P) (w := w) (mg := mg) (base := base) F T TW
  have cWkEnter := bWkEnter.cal fun f fd F => ok_wkenter (P := P) (w := w) (mg := mg) (base := base) F TW
  have cSetInit := bSetInit.cal fun f fd F => ok_setinit F T TS cChecked
  have cReach := bReach.cal fun f fd F => ok_reach (P := P) (w := w) (mg := mg) (base := base) F TS
  have cNever := bNever.cal fun f fd F => ok_never F TS cReach
  have cChInit := bChInit.cal fun f fd F => ok_chinit (P := P) (w := w) (mg := mg) (base := base) (c := ⟨C, S, W⟩) F T TC TS
  have cChFree := bChFree.cal fun f fd F => ok_chfree (P := P) (w := w) (mg := mg) (base := base) (c := ⟨C, S, W⟩) F TC
  have cChLive := bChLive.cal fun f fd F => ok_chlive (P := P) (w := w) (mg := mg) (base := base) (c := ⟨C, S, W⟩) F TC
  have cChFreed := bChFreed.cal fun f fd F => ok_chfreed (P := P) (w := w) (mg := mg) (base := base) (c := ⟨C, S, W⟩) F T TC
  have cChNext := bChNext.cal fun f fd F => ok_chnext (c := ⟨C, S, W⟩) F T TC TW cWkEnter cWkOver
  have TN : StT P w K mg base N := by
    obtain ⟨f, cda, cc, kV, doc, pm, ct, an, h1, h2, h3, h4⟩ := TE.fn
    exact ⟨TE.oex, TE.at_, f, stFn kV doc pm an cda ct cc, h1, h2, .all fun us hl => match us, hl with | [_, _], _ => rfl, stalled_init T hfile htop h3 h4 TE.xs.no cShown⟩
  have cChMake := bChMake.cal fun f fd F => ok_chmake (c := ⟨C, S, W⟩) F T TC TS TN cChNext
  have cChDrop := bChDrop.cal fun f fd F => ok_chdrop (c := ⟨C, S, W⟩) F T TC TS cCheckTree cFits cWkInit
  have cBox := bBox.cal fun f fd F => ok_box (P := P) (w := w) (base := base) F T
  have cDraw := bDraw.cal fun f fd F => ok_draw (P := P) (w := w) (base := base) F T
  have cWhole := bWhole.cal fun f fd F => ok_whole (P := P) (w := w) (base := base) F T
  have hWhole := bWhole.calH fun f fd F => ok_wholeH (P := P) (w := w) (base := base) F T
  have cDigits := bDigits.cal fun f fd F => ok_digits F T cDraw
  have cWidth := bWidth.cal fun f fd F => ok_width F cDraw
  have cSays := bSays.cal fun f fd F => ok_says F T cNever cSetInit
  have cGreat := bGreat.cal fun f fd F => ok_great F T cDraw cDigits cWidth cSays
  have cSmall := bSmall.cal fun f fd F => ok_small F T cDraw cWidth
  have cNumber := bNumber.cal fun f fd F => ok_number (c := ⟨C, S, W⟩) F T TC TN TE.xs cChMake cWhole hWhole
  have cServed := bServed.cal fun f fd F => ok_served F T cNumber
  have cAny := bAny.cal fun f fd F => ok_any F T cDraw
  have cTree := bTree.cal fun f fd F => ok_tree F T cDraw cAny
  have cSurv := bSurv.cal fun f fd F => ok_survives F T TC cDraw cWhole cTree cServed cChInit cSetInit cChDrop cChLive
  have cStal := bStal.cal fun f fd F => ok_stalls F T TC cNumber cServed cChInit cSetInit cChDrop cChLive cChFree cChFreed
  exact ok_law F cBox cSmall cSays cWidth cSurv cStal cGreat
theorem walk {l : PySem.W.OpenLaw} {q : Program} {loose : List Str} {XP : (Str → Option Value) → Heap → Prop} {YP : World → Heap → Prop} {d : DefRec} {K : Params → PySem.W.Frag} (hn : l.most = some 63) (hdf : d.params.defaults = [])
    (hY : ∀ (w : World) (h : Heap), YP w h → (K w.params).In h)
    (F : ∀ (w : World) (mg : Str → Option Value) (fa : Addr) (h : Heap), (K w.params).In h → h.Ns mainGlobals mg → mg d.name = some (.ref fa) →
      ∃ fd : FuncData, (∀ (s : Shared) (u : Value), BindsTo s fd ⟨[u], []⟩ [("_law_script", u)]) ∧ ∀ base : Heap, (K w.params).In base → base.Ns mainGlobals mg → FnOk l.prog w (K w.params) mg base CX0 9 fa fd ["_law_script"] (spLaw (K w.params))) :
    PySem.W.WalkO q loose XP YP l.row.toRowW d [] (fun f vs => PySem.call f vs) :=
  L2.walk_of (n := 63) (k := 9) (x := "_law_script") (CX := fun _ => CX0) (sp := fun w => spLaw (K w.params)) hn (by decide) hdf ⟨rfl, by decide, by decide⟩ hY F (fun _ _ a ns hl _ hS => ⟨a, ns, rfl, hS, hl, fun _ => rfl⟩) fun _ _ _ _ _ z => z
end SH
/-! ## End2 -/
open PySem PySem.W PyProof.Rows in
set_option maxRecDepth 100000 in
set_option maxHeartbeats 0 in
theorem PySem.Challenge.cw_spareheap_k52_whole_children_threshold_holds : PySem.Challenge.rw_spareheap_k52_whole_children_threshold.Holds := by
  w_on; o_law; k_head; (case hw => w_witness2)
  k_fill
  refine SH.walk (l := PySem.Challenge.rw_spareheap_k52_whole_children_threshold) rfl rfl (fun w h Y => PySem.W.kIn_of Y) ?F
  case F =>
    intro w mg fa h KX G hmg0
    have hmg : mg (PySem.Str.ofString "law") = some (.ref fa) := hmg0
    clear hmg0
    refine' SH.all_of KX G hmg ?hfile ?htop (SH.glo0 KX G ?nisinstance ?nint ?nbool ?nstr ?nlen ?nlist ?nrange ?nenumerate ?nmax ?nmin ?nsuper ?m1 ?m1e ?m2 ?m2e ?m3 ?m3e)
      ?aC
      ?aS
      ?aW
      ⟨⟨?clC0, ?clC1, ?clC2, ?clC3⟩, SH.na0 ?naC0, SH.na0 ?naC1, SH.na0 ?naC2, SH.na0 ?naC3, SH.na0 ?naC4, SH.na0 ?naC5, SH.na0 ?naC6⟩
      ⟨⟨?clS0, ?clS1, ?clS2, ?clS3⟩, SH.na0 ?naS0, SH.na0 ?naS1, SH.na0 ?naS2, SH.na0 ?naS3⟩
      ⟨⟨?clW0, ?clW1, ?clW2, ?clW3⟩, SH.na0 ?naW0, SH.na0 ?naW1, SH.na0 ?naW2, SH.na0 ?naW3, SH.na0 ?naW4⟩
      (SH.err0 KX G ?er_aN ?er_xL ?er_hbm ?er_sa ?er_eC ?er_tC ?er_kC ?er_ga ?er_gg ?er_hd ?er_no ?er_iC ?er_sC ?er_a ?er_ty ?er_l ?er_cod ?er_lc ?er_ev ?er_lx ?er_own ?er_stat ?er_sup ?er_sV)
      (SH.d0 KX G ?dIsInt0 ?dIsInt1 ?dIsInt2 ?dIsInt3)
      (SH.d0 KX G ?dChecked0 ?dChecked1 ?dChecked2 ?dChecked3)
      (SH.d0 KX G ?dCheckTree0 ?dCheckTree1 ?dCheckTree2 ?dCheckTree3)
      (SH.d0 KX G ?dChildren0 ?dChildren1 ?dChildren2 ?dChildren3)
      (SH.d0 KX G ?dPreorder0 ?dPreorder1 ?dPreorder2 ?dPreorder3)
      (SH.d0 KX G ?dFits0 ?dFits1 ?dFits2 ?dFits3)
      (SH.d0 KX G ?dNever0 ?dNever1 ?dNever2 ?dNever3)
      (SH.d0 KX G ?dShown0 ?dShown1 ?dShown2 ?dShown3)
      (SH.d0 KX G ?dBox0 ?dBox1 ?dBox2 ?dBox3)
      (SH.d0 KX G ?dDraw0 ?dDraw1 ?dDraw2 ?dDraw3)
      (SH.d0 KX G ?dWhole0 ?dWhole1 ?dWhole2 ?dWhole3)
      (SH.d0 KX G ?dDigits0 ?dDigits1 ?dDigits2 ?dDigits3)
      (SH.d0 KX G ?dWidth0 ?dWidth1 ?dWidth2 ?dWidth3)
      (SH.d0 KX G ?dSays0 ?dSays1 ?dSays2 ?dSays3)
      (SH.d0 KX G ?dGreat0 ?dGreat1 ?dGreat2 ?dGreat3)
      (SH.d0 KX G ?dSmall0 ?dSmall1 ?dSmall2 ?dSmall3)
      (SH.d0 KX G ?dNumber0 ?dNumber1 ?dNumber2 ?dNumber3)
      (SH.d0 KX G ?dServed0 ?dServed1 ?dServed2 ?dServed3)
      (SH.d0 KX G ?dAny0 ?dAny1 ?dAny2 ?dAny3)
      (SH.d0 KX G ?dTree0 ?dTree1 ?dTree2 ?dTree3)
      (SH.d0 KX G ?dSurv0 ?dSurv1 ?dSurv2 ?dSurv3)
      (SH.d0 KX G ?dStal0 ?dStal1 ?dStal2 ?dStal3)
      (SH.d0 KX G ?dLaw0 ?dLaw1 ?dLaw2 ?dLaw3)
      (SH.m0 ?eWkOver0 ?eWkOver1 ?eWkOver2 ?eWkOver3 ?eWkOver4)
      (SH.m0 ?eWkEnter0 ?eWkEnter1 ?eWkEnter2 ?eWkEnter3 ?eWkEnter4)
      (SH.m0 ?eChMake0 ?eChMake1 ?eChMake2 ?eChMake3 ?eChMake4)
      (SH.m0 ?eChDrop0 ?eChDrop1 ?eChDrop2 ?eChDrop3 ?eChDrop4)
      (SH.m0 ?eChFreed0 ?eChFreed1 ?eChFreed2 ?eChFreed3 ?eChFreed4)
      (SH.m0 ?eChNext0 ?eChNext1 ?eChNext2 ?eChNext3 ?eChNext4)
      (SH.q0 ?qChFree0 ?qChFree1 ?qChFree2 ?qChFree3 ?qChFree4 ?qChFree5 ?qChFree6)
      (SH.q0 ?qChLive0 ?qChLive1 ?qChLive2 ?qChLive3 ?qChLive4 ?qChLive5 ?qChLive6)
      (SH.q0 ?qReach0 ?qReach1 ?qReach2 ?qReach3 ?qReach4 ?qReach5 ?qReach6)
      (SH.i0 ?iWkInit0 ?iWkInit1 ?iWkInit2 ?iWkInit3 ?iWkInit4 ?iWkInit5 ?iWkInit6)
      (SH.i0 ?iChInit0 ?iChInit1 ?iChInit2 ?iChInit3 ?iChInit4 ?iChInit5 ?iChInit6)
      (SH.i0 ?iSetInit0 ?iSetInit1 ?iSetInit2 ?iSetInit3 ?iSetInit4 ?iSetInit5 ?iSetInit6)
    (case hfile => first | rfl | decide +kernel)
    (case htop => first | rfl | decide +kernel)
    (case nisinstance => k_is)
    (case nint => k_is)
    (case nbool => k_is)
    (case nstr => k_is)
    (case nlen => k_is)
    (case nlist => k_is)
    (case nrange => k_is)
    (case nenumerate => k_is)
    (case nmax => k_is)
    (case nmin => k_is)
    (case nsuper => k_is)
    (case m1 => k_is)
    (case m1e => first | rfl | decide +kernel)
    (case m2 => k_is)
    (case m2e => first | rfl | decide +kernel)
    (case m3 => k_is)
    (case m3e => first | rfl | decide +kernel)
    (case aC => k_is)
    (case aS => k_is)
    (case aW => k_is)
    (case clC0 => k_is)
    (case clC1 => k_is)
    (case clC2 => k_is)
    (case clC3 => k_is)
    (case naC0 => k_is)
    (case naC1 => k_is)
    (case naC2 => k_is)
    (case naC3 => k_is)
    (case naC4 => k_is)
    (case naC5 => k_is)
    (case naC6 => k_is)
    (case clS0 => k_is)
    (case clS1 => k_is)
    (case clS2 => k_is)
    (case clS3 => k_is)
    (case naS0 => k_is)
    (case naS1 => k_is)
    (case naS2 => k_is)
    (case naS3 => k_is)
    (case clW0 => k_is)
    (case clW1 => k_is)
    (case clW2 => k_is)
    (case clW3 => k_is)
    (case naW0 => k_is)
    (case naW1 => k_is)
    (case naW2 => k_is)
    (case naW3 => k_is)
    (case naW4 => k_is)
    (case er_aN => k_is)
    (case er_xL => k_is)
    (case er_hbm => first | rfl | decide +kernel)
    (case er_sa => k_is)
    (case er_eC => k_is)
    (case er_tC => k_is)
    (case er_kC => k_is)
    (case er_ga => k_is)
    (case er_gg => k_is)
    (case er_hd => k_is)
    (case er_no => k_is)
    (case er_iC => k_is)
    (case er_sC => first | rfl | k_is)
    (case er_a => k_is)
    (case er_ty => k_is)
    (case er_l => k_is)
    (case er_cod => k_is)
    (case er_lc => k_is)
    (case er_ev => first | rfl | decide +kernel)
    (case er_lx => k_is)
    (case er_own => k_is)
    (case er_stat => k_is)
    (case er_sup => ks_is)
    (case er_sV => k_is)
    (case dIsInt0 => k_is)
    (case dIsInt1 => k_is)
    (case dIsInt2 => k_is)
    (case dIsInt3 => k_is)
    (case dChecked0 => k_is)
    (case dChecked1 => k_is)
    (case dChecked2 => k_is)
    (case dChecked3 => k_is)
    (case dCheckTree0 => k_is)
    (case dCheckTree1 => k_is)
    (case dCheckTree2 => k_is)
    (case dCheckTree3 => k_is)
    (case dChildren0 => k_is)
    (case dChildren1 => k_is)
    (case dChildren2 => k_is)
    (case dChildren3 => k_is)
    (case dPreorder0 => k_is)
    (case dPreorder1 => k_is)
    (case dPreorder2 => k_is)
    (case dPreorder3 => k_is)
    (case dFits0 => k_is)
    (case dFits1 => k_is)
    (case dFits2 => k_is)
    (case dFits3 => k_is)
    (case dNever0 => k_is)
    (case dNever1 => k_is)
    (case dNever2 => k_is)
    (case dNever3 => k_is)
    (case dShown0 => k_is)
    (case dShown1 => k_is)
    (case dShown2 => k_is)
    (case dShown3 => k_is)
    (case dBox0 => k_is)
    (case dBox1 => k_is)
    (case dBox2 => k_is)
    (case dBox3 => k_is)
    (case dDraw0 => k_is)
    (case dDraw1 => k_is)
    (case dDraw2 => k_is)
    (case dDraw3 => k_is)
    (case dWhole0 => k_is)
    (case dWhole1 => k_is)
    (case dWhole2 => k_is)
    (case dWhole3 => k_is)
    (case dDigits0 => k_is)
    (case dDigits1 => k_is)
    (case dDigits2 => k_is)
    (case dDigits3 => k_is)
    (case dWidth0 => k_is)
    (case dWidth1 => k_is)
    (case dWidth2 => k_is)
    (case dWidth3 => k_is)
    (case dSays0 => k_is)
    (case dSays1 => k_is)
    (case dSays2 => k_is)
    (case dSays3 => k_is)
    (case dGreat0 => k_is)
    (case dGreat1 => k_is)
    (case dGreat2 => k_is)
    (case dGreat3 => k_is)
    (case dSmall0 => k_is)
    (case dSmall1 => k_is)
    (case dSmall2 => k_is)
    (case dSmall3 => k_is)
    (case dNumber0 => k_is)
    (case dNumber1 => k_is)
    (case dNumber2 => k_is)
    (case dNumber3 => k_is)
    (case dServed0 => k_is)
    (case dServed1 => k_is)
    (case dServed2 => k_is)
    (case dServed3 => k_is)
    (case dAny0 => k_is)
    (case dAny1 => k_is)
    (case dAny2 => k_is)
    (case dAny3 => k_is)
    (case dTree0 => k_is)
    (case dTree1 => k_is)
    (case dTree2 => k_is)
    (case dTree3 => k_is)
    (case dSurv0 => k_is)
    (case dSurv1 => k_is)
    (case dSurv2 => k_is)
    (case dSurv3 => k_is)
    (case dStal0 => k_is)
    (case dStal1 => k_is)
    (case dStal2 => k_is)
    (case dStal3 => k_is)
    (case dLaw0 => k_is)
    (case dLaw1 => k_is)
    (case dLaw2 => k_is)
    (case dLaw3 => k_is)
    (case eWkOver0 => k_is)
    (case eWkOver1 => k_is)
    (case eWkOver2 => k_is)
    (case eWkOver3 => k_is)
    (case eWkOver4 => k_is)
    (case eWkEnter0 => k_is)
    (case eWkEnter1 => k_is)
    (case eWkEnter2 => k_is)
    (case eWkEnter3 => k_is)
    (case eWkEnter4 => k_is)
    (case eChMake0 => k_is)
    (case eChMake1 => k_is)
    (case eChMake2 => k_is)
    (case eChMake3 => k_is)
    (case eChMake4 => k_is)
    (case eChDrop0 => k_is)
    (case eChDrop1 => k_is)
    (case eChDrop2 => k_is)
    (case eChDrop3 => k_is)
    (case eChDrop4 => k_is)
    (case eChFreed0 => k_is)
    (case eChFreed1 => k_is)
    (case eChFreed2 => k_is)
    (case eChFreed3 => k_is)
    (case eChFreed4 => k_is)
    (case eChNext0 => k_is)
    (case eChNext1 => k_is)
    (case eChNext2 => k_is)
    (case eChNext3 => k_is)
    (case eChNext4 => k_is)
    (case qChFree0 => k_is)
    (case qChFree1 => k_is)
    (case qChFree2 => k_is)
    (case qChFree3 => k_is)
    (case qChFree4 => k_is)
    (case qChFree5 => k_is)
    (case qChFree6 => k_is)
    (case qChLive0 => k_is)
    (case qChLive1 => k_is)
    (case qChLive2 => k_is)
    (case qChLive3 => k_is)
    (case qChLive4 => k_is)
    (case qChLive5 => k_is)
    (case qChLive6 => k_is)
    (case qReach0 => k_is)
    (case qReach1 => k_is)
    (case qReach2 => k_is)
    (case qReach3 => k_is)
    (case qReach4 => k_is)
    (case qReach5 => k_is)
    (case qReach6 => k_is)
    (case iWkInit0 => k_is)
    (case iWkInit1 => k_is)
    (case iWkInit2 => k_is)
    (case iWkInit3 => k_is)
    (case iWkInit4 => k_is)
    (case iWkInit5 => k_is)
    (case iWkInit6 => k_is)
    (case iChInit0 => k_is)
    (case iChInit1 => k_is)
    (case iChInit2 => k_is)
    (case iChInit3 => k_is)
    (case iChInit4 => k_is)
    (case iChInit5 => k_is)
    (case iChInit6 => k_is)
    (case iSetInit0 => k_is)
    (case iSetInit1 => k_is)
    (case iSetInit2 => k_is)
    (case iSetInit3 => k_is)
    (case iSetInit4 => k_is)
    (case iSetInit5 => k_is)
    (case iSetInit6 => k_is)
